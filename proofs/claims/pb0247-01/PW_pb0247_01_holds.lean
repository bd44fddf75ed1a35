import PyProof.Rows.All
import Wide.All
import OpenK.AllK
import Wide.FinOn
import Lean
import PySem.Challenge.RW_pb0247_01
set_option Elab.async false
set_option linter.all false
set_option compiler.extract_closed false
theorem PySem.W.Fast.tw16864618592142003386 : True := trivial
theorem PySem.W.Fast.tw14904681115217272601 : True := trivial
theorem PySem.W.Fast.tw11898673842065290130 : True := trivial
theorem PySem.W.Fast.tw15235614512728720 : True := trivial
theorem PySem.W.Fast.tw4077048163395320219 : True := trivial
theorem PySem.W.Fast.tw13913613514976480042 : True := trivial
theorem PySem.W.Fast.tw599730875272715187 : True := trivial
theorem PySem.W.Fast.tw6128106870883400570 : True := trivial
theorem PySem.W.Fast.tw16053306600634468012 : True := trivial
theorem PySem.W.Fast.tw8060666987683057360 : True := trivial
theorem PySem.W.Fast.tw16217903435359918192 : True := trivial
theorem PySem.W.Fast.tw561727478393794602 : True := trivial
theorem PySem.W.Fast.tw4683681711962371626 : True := trivial
theorem PySem.W.Fast.tw11872741314383048644 : True := trivial
theorem PySem.W.Fast.tw2187251505897268136 : True := trivial
theorem PySem.W.Fast.tw11024694936033576346 : True := trivial
theorem PySem.W.Fast.tw12188032599808994241 : True := trivial
theorem PySem.W.Fast.tw855453113358079251 : True := trivial
theorem PySem.W.Fast.tw6953138203311097117 : True := trivial
theorem PySem.W.Fast.tw6148498323302512570 : True := trivial
theorem PySem.W.Fast.tw11738243743197964597 : True := trivial
theorem PySem.W.Fast.tw8739830900816887780 : True := trivial
theorem PySem.W.Fast.tw4734895289157585001 : True := trivial
theorem PySem.W.Fast.tw3308634892276815127 : True := trivial
theorem PySem.W.Fast.tw4323258101793500111 : True := trivial
theorem PySem.W.Fast.tw8318101203651539667 : True := trivial
theorem PySem.W.Fast.tw14689541978594310382 : True := trivial
theorem PySem.W.Fast.tw2358075552688931204 : True := trivial
theorem PySem.W.Fast.tw10741264400317747893 : True := trivial
theorem PySem.W.Fast.tw2399617604181995578 : True := trivial
theorem PySem.W.Fast.tw11401859456886640639 : True := trivial
theorem PySem.W.Fast.tw2474200967059427378 : True := trivial
theorem PySem.W.Fast.tw10294118229990073760 : True := trivial
theorem PySem.W.Fast.tw18101783494082082527 : True := trivial
theorem PySem.W.Fast.tw866717566613908145 : True := trivial
theorem PySem.W.Fast.tw15240619367488684849 : True := trivial
theorem PySem.W.Fast.tw15166322114958858414 : True := trivial
theorem PySem.W.Fast.tw15621415185263527259 : True := trivial
theorem PySem.W.Fast.tw14219159868682941630 : True := trivial
theorem PySem.W.Fast.tw13034982811429478159 : True := trivial
theorem PySem.W.Fast.tw3919386906821981792 : True := trivial
theorem PySem.W.Fast.tw12887044766017154078 : True := trivial
theorem PySem.W.Fast.tw7217548393331319763 : True := trivial
theorem PySem.W.Fast.tw4971374062829452455 : True := trivial
theorem PySem.W.Fast.tw16636501806038632012 : True := trivial
theorem PySem.W.Fast.tw15254633091992210921 : True := trivial
theorem PySem.W.Fast.tw15214748959534726111 : True := trivial
theorem PySem.W.Fast.tw8047209995159408440 : True := trivial
theorem PySem.W.Fast.tw6557801498797044033 : True := trivial
theorem PySem.W.Fast.tw11564986514327137767 : True := trivial
theorem PySem.W.Fast.tw11962351593759143498 : True := trivial
theorem PySem.W.Fast.tw9592521066531166775 : True := trivial
theorem PySem.W.Fast.tw13587151598080963022 : True := trivial
theorem PySem.W.Fast.tw9461873434466728008 : True := trivial
theorem PySem.W.Fast.tw6056707288978253535 : True := trivial
theorem PySem.W.Fast.tw6522051377940421278 : True := trivial
theorem PySem.W.Fast.tw2827255003249426055 : True := trivial
theorem PySem.W.Fast.tw11692469974320434101 : True := trivial
theorem PySem.W.Fast.tw8374155422468719031 : True := trivial
theorem PySem.W.Fast.tw4562827626845409882 : True := trivial
theorem PySem.W.Fast.tw2135409205425526673 : True := trivial
theorem PySem.W.Fast.tw7933485763601977624 : True := trivial
theorem PySem.W.Fast.tw16902440903046159558 : True := trivial
theorem PySem.W.Fast.tw4075453323654395381 : True := trivial
theorem PySem.W.Fast.tw2295934692909999376 : True := trivial
theorem PySem.W.Fast.tw9689729476882780088 : True := trivial
theorem PySem.W.Fast.tw7476452910721959123 : True := trivial
theorem PySem.W.Fast.tw3985964047577975286 : True := trivial
theorem PySem.W.Fast.tw8297923619242306668 : True := trivial
theorem PySem.W.Fast.tw8002303944043701648 : True := trivial
theorem PySem.W.Fast.tw12954591660760965231 : True := trivial
theorem PySem.W.Fast.tw14261769069557060686 : True := trivial
theorem PySem.W.Fast.tw11384182702204212275 : True := trivial
theorem PySem.W.Fast.tw15042883488752021643 : True := trivial
theorem PySem.W.Fast.tw6128145076113358165 : True := trivial
theorem PySem.W.Fast.tw8565224436197482051 : True := trivial
theorem PySem.W.Fast.tw10510056951384868246 : True := trivial
theorem PySem.W.Fast.tw1713909409736274294 : True := trivial
theorem PySem.W.Fast.tw1950803216711332702 : True := trivial
theorem PySem.W.Fast.tw15577281813014381367 : True := trivial
theorem PySem.W.Fast.tw1532491051758110099 : True := trivial
theorem PySem.W.Fast.tw3300257896294614128 : True := trivial
theorem PySem.W.Fast.tw1207101557538958131 : True := trivial
theorem PySem.W.Fast.tw5832305185047221409 : True := trivial
theorem PySem.W.Fast.tw13444670453868202053 : True := trivial
theorem PySem.W.Fast.tw5890639436620234070 : True := trivial
theorem PySem.W.Fast.tw12330612334027959195 : True := trivial
theorem PySem.W.Fast.tw14592624751514493413 : True := trivial
theorem PySem.W.Fast.tw10341888390210383824 : True := trivial
theorem PySem.W.Fast.tw9708325140422149457 : True := trivial
theorem PySem.W.Fast.tw3215387988796971590 : True := trivial
theorem PySem.W.Fast.tw8219003486749837733 : True := trivial
theorem PySem.W.Fast.tw12917704675397863716 : True := trivial
theorem PySem.W.Fast.tw13421457143807847188 : True := trivial
theorem PySem.W.Fast.tw3235425350174046738 : True := trivial
theorem PySem.W.Fast.tw2107523057676978006 : True := trivial
theorem PySem.W.Fast.tw6162269159774324313 : True := trivial
theorem PySem.W.Fast.tw14424681132571578402 : True := trivial
theorem PySem.W.Fast.tw17170472223608059050 : True := trivial
theorem PySem.W.Fast.tw2741014181512449073 : True := trivial
theorem PySem.W.Fast.tw896878414759379649 : True := trivial
theorem PySem.W.Fast.tw12138319994727072339 : True := trivial
theorem PySem.W.Fast.tw14170518179582410385 : True := trivial
theorem PySem.W.Fast.tw16203965252921439515 : True := trivial
theorem PySem.W.Fast.tw5467331546851215429 : True := trivial
theorem PySem.W.Fast.tw14243238205550065757 : True := trivial
theorem PySem.W.Fast.tw2483420100392427323 : True := trivial
theorem PySem.W.Fast.tw384561282630992784 : True := trivial
theorem PySem.W.Fast.tw14935467056822913822 : True := trivial
theorem PySem.W.Fast.tw6822071536725586909 : True := trivial
theorem PySem.W.Fast.tw16409965706819354750 : True := trivial
theorem PySem.W.Fast.tw6690350156832105676 : True := trivial
theorem PySem.W.Fast.tw10016166984437732892 : True := trivial
theorem PySem.W.Fast.tw16723463757517087524 : True := trivial
theorem PySem.W.Fast.tw3481832742750146777 : True := trivial
theorem PySem.W.Fast.tw14782755387869428366 : True := trivial
theorem PySem.W.Fast.tw17435391645217708394 : True := trivial
theorem PySem.W.Fast.tw4635989785427082552 : True := trivial
theorem PySem.W.Fast.tw16955839230299176341 : True := trivial
theorem PySem.W.Fast.tw1922157984580058403 : True := trivial
theorem PySem.W.Fast.tw16279288168775177219 : True := trivial
theorem PySem.W.Fast.tw1915925776726481438 : True := trivial
theorem PySem.W.Fast.tw1979317910248211280 : True := trivial
theorem PySem.W.Fast.tw9784134513789038367 : True := trivial
theorem PySem.W.Fast.tw17187875760726034783 : True := trivial
theorem PySem.W.Fast.tw12297992134047619483 : True := trivial
theorem PySem.W.Fast.tw14746253646979254834 : True := trivial
theorem PySem.W.Fast.tw446995266069924076 : True := trivial
theorem PySem.W.Fast.tw8535803893964050539 : True := trivial
theorem PySem.W.Fast.tw14961746396406840608 : True := trivial
theorem PySem.W.Fast.tw16873086082458093902 : True := trivial
theorem PySem.W.Fast.tw2400638427578300857 : True := trivial
theorem PySem.W.Fast.tw6798380500665416597 : True := trivial
theorem PySem.W.Fast.tw13135312941875745310 : True := trivial
theorem PySem.W.Fast.tw13669536469129627823 : True := trivial
theorem PySem.W.Fast.tw2144661209622563809 : True := trivial
theorem PySem.W.Fast.tw1142673529048489019 : True := trivial
theorem PySem.W.Fast.tw1864683662541468164 : True := trivial
theorem PySem.W.Fast.tw11485923223005469204 : True := trivial
theorem PySem.W.Fast.tw2244103112122482387 : True := trivial
theorem PySem.W.Fast.tw1956260828630720203 : True := trivial
theorem PySem.W.Fast.tw11161164713144168021 : True := trivial
theorem PySem.W.Fast.tw9972681490609642005 : True := trivial
theorem PySem.W.Fast.tw2080317491765294665 : True := trivial
theorem PySem.W.Fast.tw3365755272349913518 : True := trivial
theorem PySem.W.Fast.tw1000662321505670351 : True := trivial
theorem PySem.W.Fast.tw7086961617601330827 : True := trivial
theorem PySem.W.Fast.tw2997814950011334938 : True := trivial
theorem PySem.W.Fast.tw4142209100229140859 : True := trivial
theorem PySem.W.Fast.tw14391293386007564604 : True := trivial
theorem PySem.W.Fast.tw861502493610598483 : True := trivial
theorem PySem.W.Fast.tw5000232492035539693 : True := trivial
theorem PySem.W.Fast.tw17062427158221528723 : True := trivial
theorem PySem.W.Fast.tw8222940686941784037 : True := trivial
theorem PySem.W.Fast.tw140236481695663071 : True := trivial
theorem PySem.W.Fast.tw9402243437249704421 : True := trivial
theorem PySem.W.Fast.tw13757698761724263525 : True := trivial
theorem PySem.W.Fast.tw4483904966330829159 : True := trivial
theorem PySem.W.Fast.tw7867829370405329436 : True := trivial
theorem PySem.W.Fast.tw16721508838639397229 : True := trivial
theorem PySem.W.Fast.tw256976265262469064 : True := trivial
theorem PySem.W.Fast.tw9536688357841153863 : True := trivial
theorem PySem.W.Fast.tw2314633323536394700 : True := trivial
theorem PySem.W.Fast.tw5459702643516471331 : True := trivial
theorem PySem.W.Fast.tw7164969610272591079 : True := trivial
theorem PySem.W.Fast.tw1717767836212652739 : True := trivial
theorem PySem.W.Fast.tw16140922888777852060 : True := trivial
theorem PySem.W.Fast.tw10294078964567370430 : True := trivial
theorem PySem.W.Fast.tw896239598344801917 : True := trivial
theorem PySem.W.Fast.tw10698057553749749337 : True := trivial
theorem PySem.W.Fast.tw18073898193381586223 : True := trivial
theorem PySem.W.Fast.tw1719895430356276633 : True := trivial
theorem PySem.W.Fast.tw16607193741793207195 : True := trivial
theorem PySem.W.Fast.tw7001957589650049515 : True := trivial
theorem PySem.W.Fast.tw2261719852989239553 : True := trivial
theorem PySem.W.Fast.tw14769054280063640981 : True := trivial
theorem PySem.W.Fast.tw3042748168174471775 : True := trivial
theorem PySem.W.Fast.tw5344687154915797982 : True := trivial
theorem PySem.W.Fast.tw140001813534094272 : True := trivial
theorem PySem.W.Fast.tw14575388751658381831 : True := trivial
theorem PySem.W.Fast.tw14226173905949225808 : True := trivial
theorem PySem.W.Fast.tw726351398001015727 : True := trivial
theorem PySem.W.Fast.tw5444512763150141072 : True := trivial
theorem PySem.W.Fast.tw15895094517606616290 : True := trivial
theorem PySem.W.Fast.tw12652081859355081885 : True := trivial
theorem PySem.W.Fast.tw9387514328989991554 : True := trivial
theorem PySem.W.Fast.tw13622603851894308203 : True := trivial
theorem PySem.W.Fast.tw16919654943277366748 : True := trivial
theorem PySem.W.Fast.tw6170744672141170255 : True := trivial
theorem PySem.W.Fast.tw5498123283257192965 : True := trivial
theorem PySem.W.Fast.tw16108870410212019532 : True := trivial
theorem PySem.W.Fast.tw15861351967447197489 : True := trivial
theorem PySem.W.Fast.tw2950685276103557050 : True := trivial
theorem PySem.W.Fast.tw8498532028676091811 : True := trivial
theorem PySem.W.Fast.tw10374632558016547081 : True := trivial
theorem PySem.W.Fast.tw17590705303994421779 : True := trivial
theorem PySem.W.Fast.tw17351735930882485243 : True := trivial
theorem PySem.W.Fast.tw8157277791214410489 : True := trivial
theorem PySem.W.Fast.tw1599053048872161195 : True := trivial
theorem PySem.W.Fast.tw4480162626587320490 : True := trivial
theorem PySem.W.Fast.tw12670982853097334264 : True := trivial
theorem PySem.W.Fast.tw11066385474520676512 : True := trivial
theorem PySem.W.Fast.tw5323657890516693427 : True := trivial
theorem PySem.W.Fast.tw4490611911172417597 : True := trivial
theorem PySem.W.Fast.tw6782663255696616371 : True := trivial
theorem PySem.W.Fast.tw6702445572142316249 : True := trivial
theorem PySem.W.Fast.tw17292613610259460706 : True := trivial
theorem PySem.W.Fast.tw14196522196718054806 : True := trivial
theorem PySem.W.Fast.tw1383625962624193546 : True := trivial
theorem PySem.W.Fast.tw1607123104830579860 : True := trivial
theorem PySem.W.Fast.tw4046790133079468173 : True := trivial
theorem PySem.W.Fast.tw4321966507151631593 : True := trivial
theorem PySem.W.Fast.tw6105849179199505303 : True := trivial
theorem PySem.W.Fast.tw14664691819916384248 : True := trivial
theorem PySem.W.Fast.tw1708089923452030704 : True := trivial
theorem PySem.W.Fast.tw12408111787983249662 : True := trivial
theorem PySem.W.Fast.tw14520296925931582552 : True := trivial
theorem PySem.W.Fast.tw8080008513338510535 : True := trivial
theorem PySem.W.Fast.tw4548300405975405348 : True := trivial
theorem PySem.W.Fast.tw15925456577456769635 : True := trivial
theorem PySem.W.Fast.tw16298917771340976007 : True := trivial
theorem PySem.W.Fast.tw5217270863462422736 : True := trivial
theorem PySem.W.Fast.tw15805137534098808535 : True := trivial
theorem PySem.W.Fast.tw3300454383303005205 : True := trivial
theorem PySem.W.Fast.tw11421057715548341654 : True := trivial
theorem PySem.W.Fast.tw7322748291113730364 : True := trivial
theorem PySem.W.Fast.tw6420159726195949164 : True := trivial
theorem PySem.W.Fast.tw7485256538410118956 : True := trivial
theorem PySem.W.Fast.tw6469784823511061222 : True := trivial
theorem PySem.W.Fast.tw5323960799030618294 : True := trivial
theorem PySem.W.Fast.tw18183970276198133131 : True := trivial
theorem PySem.W.Fast.tw14564479935002850509 : True := trivial
theorem PySem.W.Fast.tw4859391219904099992 : True := trivial
theorem PySem.W.Fast.tw14404928986312190071 : True := trivial
theorem PySem.W.Fast.tw3543459598558145280 : True := trivial
theorem PySem.W.Fast.tw13855379610559885079 : True := trivial
theorem PySem.W.Fast.tw12848530379965262573 : True := trivial
theorem PySem.W.Fast.tw17518593693041627797 : True := trivial
theorem PySem.W.Fast.tw17613222154834848340 : True := trivial
theorem PySem.W.Fast.tw2931988195819169919 : True := trivial
theorem PySem.W.Fast.tw3641951560692057861 : True := trivial
theorem PySem.W.Fast.tw5622701340561072331 : True := trivial
theorem PySem.W.Fast.tw5872530126848033075 : True := trivial
theorem PySem.W.Fast.tw8760152093665844161 : True := trivial
theorem PySem.W.Fast.tw17691633702590694504 : True := trivial
theorem PySem.W.Fast.tw28018229315631829 : True := trivial
theorem PySem.W.Fast.tw9796564346219866840 : True := trivial
theorem PySem.W.Fast.tw18157406047293677543 : True := trivial
theorem PySem.W.Fast.tw13956191218907399338 : True := trivial
theorem PySem.W.Fast.tw6542358382571353910 : True := trivial
theorem PySem.W.Fast.tw8485604247826754651 : True := trivial
theorem PySem.W.Fast.tw12740759652641322565 : True := trivial
theorem PySem.W.Fast.tw10910644110388302437 : True := trivial
theorem PySem.W.Fast.tw15685335758407661847 : True := trivial
theorem PySem.W.Fast.tw5101696844757716304 : True := trivial
theorem PySem.W.Fast.tw9947508896943372755 : True := trivial
theorem PySem.W.Fast.tw6607644564249050058 : True := trivial
theorem PySem.W.Fast.tw12099505692703838030 : True := trivial
theorem PySem.W.Fast.tw10842938092177581297 : True := trivial
theorem PySem.W.Fast.tw2789304352393801511 : True := trivial
theorem PySem.W.Fast.tw5725222548895626118 : True := trivial
theorem PySem.W.Fast.tw9331231397406362311 : True := trivial
theorem PySem.W.Fast.tw8432719020341155521 : True := trivial
theorem PySem.W.Fast.tw1725486776273817318 : True := trivial
theorem PySem.W.Fast.tw8480184845173159842 : True := trivial
theorem PySem.W.Fast.tw12601900475763903673 : True := trivial
theorem PySem.W.Fast.tw14993981098963755598 : True := trivial
theorem PySem.W.Fast.tw3721919958574915784 : True := trivial
theorem PySem.W.Fast.tw9848817304349107530 : True := trivial
theorem PySem.W.Fast.tw18328257000508772394 : True := trivial
theorem PySem.W.Fast.tw4884199854448574 : True := trivial
theorem PySem.W.Fast.tw15438627641174518403 : True := trivial
theorem PySem.W.Fast.tw9404705873571188630 : True := trivial
theorem PySem.W.Fast.tw14074196154385387334 : True := trivial
theorem PySem.W.Fast.tw7374399212775623666 : True := trivial
theorem PySem.W.Fast.tw9116068151291705539 : True := trivial
theorem PySem.W.Fast.tw1401067106901849026 : True := trivial
theorem PySem.W.Fast.tw14842496431369740429 : True := trivial
theorem PySem.W.Fast.tw6472337539984862722 : True := trivial
theorem PySem.W.Fast.tw6548459193220583526 : True := trivial
theorem PySem.W.Fast.tw615563214671542189 : True := trivial
theorem PySem.W.Fast.tw2228412568605170491 : True := trivial
theorem PySem.W.Fast.tw3049343062529576306 : True := trivial
theorem PySem.W.Fast.tw10297410513487048360 : True := trivial
theorem PySem.W.Fast.tw6248682570935725439 : True := trivial
theorem PySem.W.Fast.tw15401437161963490237 : True := trivial
theorem PySem.W.Fast.tw3475869608268796686 : True := trivial
theorem PySem.W.Fast.tw17483705464198625004 : True := trivial
theorem PySem.W.Fast.tw1205274952441263945 : True := trivial
theorem PySem.W.Fast.tw12727641955093265886 : True := trivial
theorem PySem.W.Fast.tw7029441310896991908 : True := trivial
theorem PySem.W.Fast.tw8865387616306378214 : True := trivial
theorem PySem.W.Fast.tw6508179443898474873 : True := trivial
theorem PySem.W.Fast.tw13485263441057248554 : True := trivial
theorem PySem.W.Fast.tw8899516883271353254 : True := trivial
theorem PySem.W.Fast.tw2570914705882880060 : True := trivial
theorem PySem.W.Fast.tw17963105932079019327 : True := trivial
theorem PySem.W.Fast.tw2353497105660221152 : True := trivial
theorem PySem.W.Fast.tw991626836265849350 : True := trivial
theorem PySem.W.Fast.tw3110587219445414310 : True := trivial
theorem PySem.W.Fast.tw9646623106273453227 : True := trivial
theorem PySem.W.Fast.tw9950792792127014553 : True := trivial
theorem PySem.W.Fast.tw10159399881129095643 : True := trivial
theorem PySem.W.Fast.tw17760279517084355780 : True := trivial
theorem PySem.W.Fast.tw15433366417846715934 : True := trivial
theorem PySem.W.Fast.tw1972164579936704799 : True := trivial
theorem PySem.W.Fast.tw14611616552423853409 : True := trivial
theorem PySem.W.Fast.tw18293242582946804979 : True := trivial
theorem PySem.W.Fast.tw3953844824629472508 : True := trivial
theorem PySem.W.Fast.tw9919008367099125623 : True := trivial
theorem PySem.W.Fast.tw2646887283097553488 : True := trivial
theorem PySem.W.Fast.tw11853640710764476214 : True := trivial
theorem PySem.W.Fast.tw14172470266813156586 : True := trivial
theorem PySem.W.Fast.tw13437419889732721216 : True := trivial
theorem PySem.W.Fast.tw9879335643197240621 : True := trivial
theorem PySem.W.Fast.tw15173544498738437827 : True := trivial
theorem PySem.W.Fast.tw16120054744476736488 : True := trivial
theorem PySem.W.Fast.tw6968137755033780318 : True := trivial
theorem PySem.W.Fast.tw12382822922155266910 : True := trivial
theorem PySem.W.Fast.tw1293241653719404408 : True := trivial
theorem PySem.W.Fast.tw17339309145561079191 : True := trivial
theorem PySem.W.Fast.tw4906484309439969231 : True := trivial
theorem PySem.W.Fast.tw547895379624588593 : True := trivial
theorem PySem.W.Fast.tw977512076041815475 : True := trivial
theorem PySem.W.Fast.tw3419001889969749887 : True := trivial
theorem PySem.W.Fast.tw443766864951011646 : True := trivial
theorem PySem.W.Fast.tw6030501089693204938 : True := trivial
theorem PySem.W.Fast.tw2084650752826471497 : True := trivial
theorem PySem.W.Fast.tw643336161829623379 : True := trivial
theorem PySem.W.Fast.tw4436474186459923750 : True := trivial
theorem PySem.W.Fast.tw4171853373547519906 : True := trivial
theorem PySem.W.Fast.tw4953865588907285216 : True := trivial
theorem PySem.W.Fast.tw3374319085511977134 : True := trivial
theorem PySem.W.Fast.tw5702276774652866934 : True := trivial
theorem PySem.W.Fast.tw2259672571474061568 : True := trivial
theorem PySem.W.Fast.tw10519837036962490867 : True := trivial
theorem PySem.W.Fast.tw3382625519597670723 : True := trivial
theorem PySem.W.Fast.tw8912161614967838395 : True := trivial
theorem PySem.W.Fast.tw3238445694619138142 : True := trivial
theorem PySem.W.Fast.tw17267597263503486738 : True := trivial
theorem PySem.W.Fast.tw7943549864190904611 : True := trivial
theorem PySem.W.Fast.tw7212858340449540239 : True := trivial
theorem PySem.W.Fast.tw4493901809537577575 : True := trivial
theorem PySem.W.Fast.tw938635154573522699 : True := trivial
theorem PySem.W.Fast.tw9495317472360511255 : True := trivial
theorem PySem.W.Fast.tw6575520176995025181 : True := trivial
theorem PySem.W.Fast.tw15539815450414544023 : True := trivial
theorem PySem.W.Fast.tw17013487888433625170 : True := trivial
theorem PySem.W.Fast.tw10624116801336726872 : True := trivial
theorem PySem.W.Fast.tw7774113678449685934 : True := trivial
theorem PySem.W.Fast.tw5362036446546632119 : True := trivial
theorem PySem.W.Fast.tw8285278889055680438 : True := trivial
theorem PySem.W.Fast.tw10879749546641988924 : True := trivial
theorem PySem.W.Fast.tw5537553045615171315 : True := trivial
theorem PySem.W.Fast.tw18418582437962087742 : True := trivial
theorem PySem.W.Fast.tw8422229294311615681 : True := trivial
theorem PySem.W.Fast.tw16615150188913437886 : True := trivial
theorem PySem.W.Fast.tw10551173667578312727 : True := trivial
theorem PySem.W.Fast.tw4096438862311573950 : True := trivial
theorem PySem.W.Fast.tw12960429369202013873 : True := trivial
theorem PySem.W.Fast.tw6229817132586351632 : True := trivial
theorem PySem.W.Fast.tw12903330217458380548 : True := trivial
theorem PySem.W.Fast.tw6216382948874008006 : True := trivial
theorem PySem.W.Fast.tw467448935156912217 : True := trivial
theorem PySem.W.Fast.tw15752536640612570366 : True := trivial
theorem PySem.W.Fast.tw2595585439558603231 : True := trivial
theorem PySem.W.Fast.tw10876078143196172821 : True := trivial
theorem PySem.W.Fast.tw2455152089536381482 : True := trivial
theorem PySem.W.Fast.tw17817366049700826239 : True := trivial
theorem PySem.W.Fast.tw12431713363859531893 : True := trivial
theorem PySem.W.Fast.tw1467881925912835984 : True := trivial
theorem PySem.W.Fast.tw5072417060200589145 : True := trivial
theorem PySem.W.Fast.tw13547939009206843870 : True := trivial
theorem PySem.W.Fast.tw14760874974797668852 : True := trivial
theorem PySem.W.Fast.tw7480016910919988345 : True := trivial
theorem PySem.W.Fast.tw5002640475654186023 : True := trivial
theorem PySem.W.Fast.tw1070438729232803039 : True := trivial
theorem PySem.W.Fast.tw15127105006835628225 : True := trivial
theorem PySem.W.Fast.tw11266997524610791606 : True := trivial
theorem PySem.W.Fast.tw3778530596728393105 : True := trivial
theorem PySem.W.Fast.tw2466311954974566718 : True := trivial
theorem PySem.W.Fast.tw12768989823518198380 : True := trivial
theorem PySem.W.Fast.tw6356304189028158447 : True := trivial
theorem PySem.W.Fast.tw1937721966566455358 : True := trivial
theorem PySem.W.Fast.tw15916013147842562308 : True := trivial
theorem PySem.W.Fast.tw8737599933303070863 : True := trivial
theorem PySem.W.Fast.tw16728255500844073214 : True := trivial
theorem PySem.W.Fast.tw9630203353718772412 : True := trivial
theorem PySem.W.Fast.tw9977182230042388008 : True := trivial
theorem PySem.W.Fast.tw13160504802963445071 : True := trivial
theorem PySem.W.Fast.tw514280064592716601 : True := trivial
theorem PySem.W.Fast.tw2694234056635809718 : True := trivial
theorem PySem.W.Fast.tw5438652380644606353 : True := trivial
theorem PySem.W.Fast.tw4015202173357781934 : True := trivial
theorem PySem.W.Fast.tw4309217394794523951 : True := trivial
theorem PySem.W.Fast.tw10233254191313037911 : True := trivial
theorem PySem.W.Fast.tw4039707410889071942 : True := trivial
theorem PySem.W.Fast.tw11373181179767321252 : True := trivial
theorem PySem.W.Fast.tw5449601097390414333 : True := trivial
theorem PySem.W.Fast.tw6278996535519779258 : True := trivial
theorem PySem.W.Fast.tw8431482922422412695 : True := trivial
theorem PySem.W.Fast.tw14727194681476072466 : True := trivial
theorem PySem.W.Fast.tw15779231459743154856 : True := trivial
theorem PySem.W.Fast.tw819570635367399668 : True := trivial
theorem PySem.W.Fast.tw14847308668706973960 : True := trivial
theorem PySem.W.Fast.tw15402603294489630176 : True := trivial
theorem PySem.W.Fast.tw10826640976665885199 : True := trivial
theorem PySem.W.Fast.tw17659185236578331656 : True := trivial
theorem PySem.W.Fast.tw772564365185477556 : True := trivial
theorem PySem.W.Fast.tw14537775516033599862 : True := trivial
theorem PySem.W.Fast.tw10295913840692754127 : True := trivial
theorem PySem.W.Fast.tw14827714588952709054 : True := trivial
theorem PySem.W.Fast.tw1158361714356455011 : True := trivial
theorem PySem.W.Fast.tw539538531456391632 : True := trivial
theorem PySem.W.Fast.tw11038752745809355942 : True := trivial
theorem PySem.W.Fast.tw4849480874435393781 : True := trivial
theorem PySem.W.Fast.tw1840220198017710270 : True := trivial
theorem PySem.W.Fast.tw14903569129155370506 : True := trivial
theorem PySem.W.Fast.tw11662115353561507501 : True := trivial
theorem PySem.W.Fast.tw8331849164307833061 : True := trivial
theorem PySem.W.Fast.tw13055953723892786844 : True := trivial
theorem PySem.W.Fast.tw11481637867367846703 : True := trivial
theorem PySem.W.Fast.tw18146532975450069615 : True := trivial
theorem PySem.W.Fast.tw9456574344343218679 : True := trivial
theorem PySem.W.Fast.tw7424060955962978353 : True := trivial
theorem PySem.W.Fast.tw15227483606004533461 : True := trivial
theorem PySem.W.Fast.tw2692750590507578028 : True := trivial
theorem PySem.W.Fast.tw8949853181751564097 : True := trivial
theorem PySem.W.Fast.tw209982475168477708 : True := trivial
theorem PySem.W.Fast.tw10792498714594961201 : True := trivial
theorem PySem.W.Fast.tw14963028359598502718 : True := trivial
theorem PySem.W.Fast.tw9615563845995560447 : True := trivial
theorem PySem.W.Fast.tw740290905518256060 : True := trivial
theorem PySem.W.Fast.tw14572810596863954285 : True := trivial
theorem PySem.W.Fast.tw4547051000311932777 : True := trivial
theorem PySem.W.Fast.tw11502921971960690029 : True := trivial
theorem PySem.W.Fast.tw13053770412826190925 : True := trivial
theorem PySem.W.Fast.tw11408881796089955267 : True := trivial
theorem PySem.W.Fast.tw16670775579421159206 : True := trivial
theorem PySem.W.Fast.tw12269216009862288129 : True := trivial
theorem PySem.W.Fast.tw14958820412457663293 : True := trivial
theorem PySem.W.Fast.tw12770481643036789091 : True := trivial
theorem PySem.W.Fast.tw6549852094080907030 : True := trivial
theorem PySem.W.Fast.tw3724990111286679279 : True := trivial
theorem PySem.W.Fast.tw17334828202450815106 : True := trivial
theorem PySem.W.Fast.tw11429584451438056573 : True := trivial
theorem PySem.W.Fast.tw9860861378791804195 : True := trivial
theorem PySem.W.Fast.tw10988312798546598065 : True := trivial
theorem PySem.W.Fast.tw9757595895972200118 : True := trivial
theorem PySem.W.Fast.tw8997383693586321770 : True := trivial
theorem PySem.W.Fast.tw12772213712371865176 : True := trivial
theorem PySem.W.Fast.tw3270257207059953099 : True := trivial
theorem PySem.W.Fast.tw8186657734068701312 : True := trivial
section
set_option maxRecDepth 100000
set_option maxHeartbeats 8000000
open PySem PySem.W PyProof.Rows
open_top hd for PySem.Challenge.rw_pb0247_01
end

set_option maxRecDepth 100000
set_option maxHeartbeats 8000000
namespace Pb
open PySem PySem.W PySem.Calls PyProof.Rows PySem.SeqAt PySem.Spec
local macro_rules | `(tactic| walk_at $s:str) => `(tactic| k_extra $s)
theorem words0 : True := by
  w_top off
  trivial

-- Base
section
/-- what a call leaves as it was, but for some places -/
noncomputable def Kp (mt : List Addr) (h h' : Heap) : Prop := ∀ b o, h.get? b = some o → b ∉ mt → h'.get? b = some o

theorem enter {prog : Program} {w : World} {A : Around} {E : Value → Shared → Prop} {s : Shared} {K : Frag} {h₀ : Heap} {p : Program} {loose : List Str} {mg mb : Str → Option Value} {Q : Value → Shared → Prop}
    {name qual : Str} {params : Arguments} {body : List Stmt} {scope : Scope} {dV kV doc pm cdv ct oc : Value} {an od : Option Addr} {osl : Array (Option Value)} {f : Addr} {args : List Value} {binds : List (Str × Value)}
    (X : K.In h₀) (T : TopRead p loose mg mb h₀) (st : h₀.StaysIn s.heap)
    (ho : K.lookup f = some ⟨oc, od, .func (fnOf name qual params body scope dV kV doc pm an cdv ct), osl⟩) (hcd : codeIn K cdv qual = true) (hroom : A.depth < recursionLimit)
    (hbind : BindsTo s (fnOf name qual params body scope dV kV doc pm an cdv ct) ⟨args, []⟩ binds) (hloc : ∀ y ∈ binds, scope.names.lookup y.1 = some .local)
    (h : ∀ L h₁, Fr s.heap L h₁ (fun y => binds.reverse.lookup y) → News s.heap L h₁ [] → K.In s.heap → TopRead p loose mg mb s.heap →
      wpAny (model prog w) (A.deeper (envOf qual scope L f cdv)) (execs body (envOf qual scope L f cdv))
        (fun fl s' => Q (match fl with | .ret v => v | _ => .none) s') (fun _ _ => False)
        { s with heap := h₁, toks := s.toks + binds.length })
    (hco : scope.isCoroutine = false) (hgen : scope.isGenerator = false) (hk : scope.kind = .function)
    (hcell : ∀ x ∈ scope.names, x.2 ≠ .cell) : wpAny (model prog w) A (call (.ref f) args) Q E s := by
  have Xs := X.keeps st
  have Ts := T.keeps st
  refine wpAny_call (codeAny_call_def (fd := fnOf name qual params body scope dV kV doc pm an cdv ct) (body := body) (binds := binds) hroom (Xs _ _ ho) rfl Ts.nolimit (codeRec_of Xs hcd) rfl hbind hcell hloc (fun h₁ hns hk₁ => ?_) hco hgen hk)
  exact wpAny_mono (h s.heap.objs.size h₁ ⟨hns, hk₁, Nat.le_refl _⟩ .nil Xs Ts) (fun _ _ x => x) (fun _ _ x => x.elim)
/-- the rest of a block, put away while its first statement is walked -/
theorem execs_hide {M : Model} {A : Around} {E : Value → Shared → Prop} {s : Shared} {st : Stmt} {rest : List Stmt} {env : Env} {Q : Flow → Shared → Prop}
    (h : ∀ (P : Shared → Prop) (tk : Nat), (∀ h g d tk o, (∀ tk, wpAny M A (execs rest env) Q E ⟨h, g, d, tk, o⟩) → P ⟨h, g, d, tk, o⟩) → wpAny M A (exec st env) (fun f s' => match f with | .next => P s' | f => Q f s') E { s with toks := tk }) : wpAny M A (execs (st :: rest) env) Q E s :=
  wpAny_execs_cons (h (fun s' => wpAny M A (execs rest env) Q E s') s.toks fun _ _ _ tk _ x => x tk)
theorem hp_use {M : Model} {A : Around} {E : Value → Shared → Prop} {P : Shared → Prop} {t : Sem Flow} {Q : Flow → Shared → Prop} {h : Heap} {g d tk o}
    (H : ∀ h g d tk o, (∀ tk, wpAny M A t Q E ⟨h, g, d, tk, o⟩) → P ⟨h, g, d, tk, o⟩) (k : ∀ tk, wpAny M A t Q E ⟨h, g, d, tk, o⟩) : P ⟨h, g, d, tk, o⟩ := H _ _ _ _ _ k
/-- the order of a ledger below an address, without an end of its own -/
noncomputable def AllLtT (d : Nat) : List (Addr × Obj) → Prop
  | [] => True
  | [p] => @LT.lt Nat _ p.1 d
  | p :: q :: r => @LT.lt Nat _ p.1 d ∧ AllLtT d (q :: r)
theorem allLtT_of {d : Addr} : ∀ {l : List (Addr × Obj)}, (∀ p ∈ l, p.1 < d) → AllLtT d l
  | [], _ => trivial
  | [p], h => h p (.head _)
  | p :: q :: r, h => ⟨h p (.head _), allLtT_of (l := q :: r) fun x hx => h x (.tail _ hx)⟩
/-- room: what is left of a bound -/
theorem dlt0 {d n R : Nat} (h : d + n < R) : d < R := Nat.lt_of_le_of_lt (Nat.le_add_right _ _) h
theorem dltk {d n R k : Nat} (h : d + n < R) (hk : k ≤ n) : d + k < R := Nat.lt_of_le_of_lt (Nat.add_le_add_left hk _) h
theorem dlt1 {d n R j k : Nat} (h : d + n < R) (hk : j + k ≤ n) : d + j + k < R := by omega
theorem dlt2 {d n R i j k : Nat} (h : d + n < R) (hk : i + j + k ≤ n) : d + i + j + k < R := by omega
/-- one ledger's order, by its own address -/
theorem lt_skip {A P g : Prop} (h : P → g) : A ∧ P → g := fun q => h q.2
theorem lt_use {x a b : Nat} {P : Prop} (q : x < b ∧ P) (k : x < b ∧ P → a < b) : a < b := k q
end

-- Enter
section
section
variable {prog : Program} {w : World} {A : Around} {E : Value → Shared → Prop} {s : Shared} {K : Frag} {h₀ g : Heap} {p : Program} {loose : List Str} {mg mb : Str → Option Value} {Q : Value → Shared → Prop}
    {name qual : Str} {params : Arguments} {body : List Stmt} {scope : Scope} {dV kV doc pm cdv ct oc : Value} {an od : Option Addr} {osl : Array (Option Value)} {f : Addr} {args : List Value} {binds : List (Str × Value)}

/-- what may change in the call: apart from the ground g -/
noncomputable def Apart (g h : Heap) (mt : List (Addr × Obj)) : Prop := g.StaysIn h ∧ g.objs.size ≤ h.objs.size ∧ ∀ p ∈ mt, h.get? p.1 = some p.2 ∧ g.get? p.1 = none
theorem Apart.whole (h : Heap) : Apart h h [] := ⟨fun _ _ e => e, Nat.le_refl _, fun _ hp => nomatch hp⟩

theorem enterC {mt : List (Addr × Obj)} (G : Apart g s.heap mt) (X : K.In g) (T : TopRead p loose mg mb g)
    (ho : K.lookup f = some ⟨oc, od, .func (fnOf name qual params body scope dV kV doc pm an cdv ct), osl⟩) (hcd : codeIn K cdv qual = true) (hroom : A.depth < recursionLimit)
    (hbind : BindsTo s (fnOf name qual params body scope dV kV doc pm an cdv ct) ⟨args, []⟩ binds) (hkind : (binds.all fun y => scope.names.lookup y.1 == some .local || scope.names.lookup y.1 == some .cell) = true)
    (hnd : ((cellsFrom 0 scope.names []).map (·.1)).Nodup)
    (h : ∀ L h₁ tk cells, Fr g L h₁ (bindL (envOfC qual scope L f cdv).kindOf binds fun _ => none) → News g L h₁ (cells ++ mt) →
      CellsAre (bindC (envOfC qual scope L f cdv).kindOf binds fun _ => none) (cellsFrom (L + 1) scope.names []) cells → (∀ p ∈ mt, p.1 < L) → s.heap.StaysIn h₁ → s.heap.objs.size ≤ L →
      wpAny (model prog w) (A.deeper (envOfC qual scope L f cdv)) (execs body (envOfC qual scope L f cdv))
        (fun fl s' => Q (match fl with | .ret v => v | _ => .none) s') (fun _ _ => False)
        { s with heap := h₁, toks := tk })
    (hco : scope.isCoroutine = false) (hgen : scope.isGenerator = false) (hk : scope.kind = .function) : wpAny (model prog w) A (call (.ref f) args) Q E s := by
  obtain ⟨gs, gz, gm⟩ := G
  have Xs := X.keeps gs
  have Ts := T.keeps gs
  refine wpAny_call (codeAny_call_function (fd := fnOf name qual params body scope dV kV doc pm an cdv ct) hroom (Xs _ _ ho) rfl hco hgen rfl (codeRec_of Xs hcd) (hbind _ _ _ _ ?_))
  refine wpAny_newFunctionEnv_cells hk (kindsX hkind _) fun env' he s' x => ?_
  subst he
  refine ⟨Ts.nolimit.keeps x.toInCall.keep, codeAny_func ?_⟩
  obtain ⟨h₁, tk, rfl, _⟩ := x.done
  have hk₁ := x.toInCall.keep
  obtain ⟨cells, NC, Y⟩ := Cl.news (h₀ := s.heap) (Nat.le_refl _) fun n c hm => ⟨x.cell n c (lookup_of_mem_nodup (cellsFrom_names scope.names 0 (s.heap.objs.size + 1) [] [] rfl ▸ hnd) hm), x.above n c hm⟩
  refine wpAny_mono (h s.heap.objs.size h₁ tk cells ⟨x.toInCall.ns, fun b o e => hk₁ b o (gs b o e), gz⟩ (fun p hp => ?_) Y (fun p hp => Heap.lt_size (gm p hp).1) hk₁ (Nat.le_refl _)) (fun _ _ x => x) (fun _ _ x => x.elim)
  rcases List.mem_append.mp hp with hp | hp
  · refine ⟨(NC p hp).1, (NC p hp).2.1, ?_⟩
    cases q : g.get? p.1 with
    | none => rfl
    | some o => have := gs _ _ q; rw [(NC p hp).2.2] at this; cases this
  · exact ⟨hk₁ _ _ (gm p hp).1, Nat.ne_of_lt (Heap.lt_size (gm p hp).1), (gm p hp).2⟩

/-- a plain def, apart from what it may change -/
theorem enterM {mt : List (Addr × Obj)} (G : Apart g s.heap mt) (X : K.In g) (T : TopRead p loose mg mb g)
    (ho : K.lookup f = some ⟨oc, od, .func (fnOf name qual params body scope dV kV doc pm an cdv ct), osl⟩) (hcd : codeIn K cdv qual = true) (hroom : A.depth < recursionLimit)
    (hbind : BindsTo s (fnOf name qual params body scope dV kV doc pm an cdv ct) ⟨args, []⟩ binds) (hloc : ∀ y ∈ binds, scope.names.lookup y.1 = some .local)
    (h : ∀ L h₁, Fr g L h₁ (fun y => binds.reverse.lookup y) → News g L h₁ mt → (∀ p ∈ mt, p.1 < L) →
      wpAny (model prog w) (A.deeper (envOf qual scope L f cdv)) (execs body (envOf qual scope L f cdv))
        (fun fl s' => Q (match fl with | .ret v => v | _ => .none) s') (fun _ _ => False)
        { s with heap := h₁, toks := s.toks + binds.length })
    (hco : scope.isCoroutine = false) (hgen : scope.isGenerator = false) (hk : scope.kind = .function)
    (hcell : ∀ x ∈ scope.names, x.2 ≠ .cell) : wpAny (model prog w) A (call (.ref f) args) Q E s := by
  obtain ⟨gs, gz, gm⟩ := G
  have Xs := X.keeps gs
  have Ts := T.keeps gs
  refine wpAny_call (codeAny_call_def (fd := fnOf name qual params body scope dV kV doc pm an cdv ct) (body := body) (binds := binds) hroom (Xs _ _ ho) rfl Ts.nolimit (codeRec_of Xs hcd) rfl hbind hcell hloc (fun h₁ hns hk₁ => ?_) hco hgen hk)
  exact wpAny_mono (h s.heap.objs.size h₁ ⟨hns, fun b o e => hk₁ b o (gs b o e), gz⟩ (fun p hp => ⟨hk₁ _ _ (gm p hp).1, Nat.ne_of_lt (Heap.lt_size (gm p hp).1), (gm p hp).2⟩) (fun p hp => Heap.lt_size (gm p hp).1)) (fun _ _ x => x) (fun _ _ x => x.elim)

end
end

-- ExcA
section
theorem fillXa : (PySem.Challenge.rw_pb0247_01.Holds ∧ ∀ P, hd.heap_39 P = []) → True := by k_fill; intro _; trivial
noncomputable abbrev excO (C t : Addr) (dd : Option Addr) : Obj := { cls := .ref C, dict := dd, data := .fields #[.ref t, .none, .none, .none, .bool false, .none] }
noncomputable abbrev bmX : List Value := [.ref 101, .type "Exception", .type "BaseException", .type "object"]
/-- a class of the faults -/
structure FaultCls (P : Params) (C : Addr) : Prop where
  init : findIn (hd.heap_39 P) (.ref C) "__init__" = some (some (.ref 91))
  sa : findIn (hd.heap_39 P) (.ref C) "__setattr__" = some (some (.builtin "object.__setattr__"))
  t1 : takerIn (hd.heap_39 P) C "what" = some none
  t2 : takerIn (hd.heap_39 P) C "at" = some none
  cls : ∃ nm q N bs sn sub ab col dd k0 k1 k2 k3 k5, (hd.heap_39 P).lookup C = some (excClassObj nm q C N bs bmX true sn sub ab col dd k0 k1 k2 k3 k5 "Exception.__new__")
theorem fault_run (P : Params) : FaultCls P 114 := ⟨by k_is, by k_is, by k_is, by k_is, ⟨_, _, _, _, _, _, _, _, _, _, _, _, _, _, by k_is⟩⟩
theorem fault_step (P : Params) : FaultCls P 138 := ⟨by k_is, by k_is, by k_is, by k_is, ⟨_, _, _, _, _, _, _, _, _, _, _, _, _, _, by k_is⟩⟩
section
variable {M : Model} {A : Around} {E : Value → Shared → Prop} {h : Heap} {g : Array GenState} {d : Drawn} {t : Nat} {os : OsState}
variable {nm q : Str} {C N : Addr} {bs : List Value} {hdct : Bool} {sn : List Str} {sub : List Value} {ab : Bool} {col : Option Bool} {dd : Option Addr} {k0 k1 k2 k3 k5 : Option Value}
theorem check_newV {rest : List Value} {Q : Unit → Shared → Prop} (hC : h.get? C = some (excClassObj nm q C N bs bmX hdct sn sub ab col dd k0 k1 k2 k3 k5 "Exception.__new__"))
    (hq : Q () ⟨h, g, d, t, os⟩) : wpAny M A (checkBuiltinCall "Exception.__new__" ⟨.ref C :: rest, []⟩) Q E ⟨h, g, d, t, os⟩ := by
  have Fn := PySem.F.excBase_Exception
  have hcont : (Value.ref C :: bmX).contains (.type "Exception") = true := by rw [List.contains_cons]; simp
  have hstar := Fn.noStar
  simp only [checkBuiltinCall, Fn.newKind, Fn.newSplit, Fn.newRow]
  repeat (first | refine wpAny_loadPart_at hC ?_ | (refine wpAny_isSubtype_exc hC ?_; rw [hcont]) | refine wpAny_staticBase_exc hC ?_ | refine wpAny_madeBy_exc hC ?_ | simp only [bne_self_eq_false, Bool.false_eq_true, if_false] | wp_step)
  exact hq
end
section
variable {prog : Program} {w : World} {A : Around} {E : Value → Shared → Prop} {R : Result → Shared → Prop} {h : Heap} {g : Array GenState} {d : Drawn} {t : Nat} {os : OsState}
variable {nm q : Str} {C N : Addr} {bs : List Value} {hdct : Bool} {sn : List Str} {sub : List Value} {ab : Bool} {col : Option Bool} {dd : Option Addr} {k0 k1 k2 k3 k5 : Option Value}
theorem exc_newV {rest : List Value} (hC : h.get? C = some (excClassObj nm q C N bs bmX hdct sn sub ab col dd k0 k1 k2 k3 k5 "Exception.__new__"))
    (hq : R (.ok (.ret (.ref (h.objs.size + 1)))) ⟨(h.push { cls := .type "tuple", data := .seq rest.toArray }).push (excO C h.objs.size none), g, d, t, os⟩) (hrest : rest.length ≤ sizeLine) :
    codeAny (model prog w) A (.builtin "Exception.__new__" ⟨.ref C :: rest, []⟩) R ⟨h, g, d, t, os⟩ := by
  have Fn := PySem.F.excBase_Exception
  have hends := Fn.ends
  have hcB : (Value.ref C :: bmX).contains (.type "Exception") = true := by rw [List.contains_cons]; simp
  have hcA : (Value.ref C :: bmX).contains (.type "AttributeError") = false := by rw [List.contains_cons]; rfl
  have hcN : (Value.ref C :: bmX).contains (.type "NameError") = false := by rw [List.contains_cons]; rfl
  refine codeAny_builtinAt Fn.entry ?_
  unfold Builtin.«BaseException.__new__»
  refine PySem.wpAt_bind ?_
  show PySem.wpAt _ _ _ (stack >>= _) _ _ _
  refine PySem.wpAt_bind (PySem.wpAt_stack fun p below => PySem.wpAt_of_wpAny ?_)
  wp_walk
  refine PySem.wpAt_of_wpAny ?_
  rw [Fn.owner]
  repeat (first | with_reducible refine wpAny_madeHere_exc Fn.canon hC ?_ | with_reducible refine wpAny_loadPart_at hC ?_ | (with_reducible refine wpAny_isSubtype_exc hC ?_; first | rw [hcB] | rw [hcA] | rw [hcN]) | wp_step)
  show R _ _
  rw [Heap.size_push]
  exact hq
theorem type_callV {rest : List Value} {fI : Addr} {oI : Obj} {Q : Fin → Shared → Prop}
    (hC : h.get? C = some (excClassObj nm q C N bs bmX hdct sn sub ab col dd k0 k1 k2 k3 k5 "Exception.__new__")) (hi : Looks (model prog w) h (typeLookup (.ref C) "__init__") (some (.ref fI)))
    (hfI : h.get? fI = some oI) (hfc : oI.cls = .type "function")
    (hq : wpAny (model prog w) A (call (.ref fI) (.ref (h.objs.size + 1) :: rest)) (fun r s' => r = .none ∧ Q (.done (.ret (.ref (h.objs.size + 1)))) s') E
      ⟨(h.push { cls := .type "tuple", data := .seq rest.toArray }).push (excO C h.objs.size none), g, d, t, os⟩) (hrest : rest.length ≤ sizeLine) :
    wpAny (model prog w) A (Builtin.«type.__call__» ⟨.ref C :: rest, []⟩) Q E ⟨h, g, d, t, os⟩ := by
  repeat (first | with_reducible refine wpAny_loadPart_at hC ?_ | with_reducible refine wpAny_madeBy_exc hC ?_ | wp_step)
  refine codeAny_call_builtin_code (Code.quiet_builtin _ PySem.F.excBase_Exception.quiet) (check_newV hC ?_)
  refine exc_newV hC ?_ hrest
  show wpAny _ _ _ _ _ _
  have k : ∀ b o, h.get? b = some o → ((h.push { cls := .type "tuple", data := .seq rest.toArray }).push (excO C h.objs.size none)).get? b = some o := fun b o e => Heap.get?_push_of_some _ (Heap.get?_push_of_some _ e)
  have hC₁ := k _ _ hC
  have hfI₁ := k _ _ hfI
  have hget : ((h.push { cls := .type "tuple", data := .seq rest.toArray }).push (excO C h.objs.size none)).get? (h.objs.size + 1) = some (excO C h.objs.size none) := by heap_get
  have hcC : (Value.ref C :: bmX).contains (.ref C) = true := by simp
  unfold isInstance
  repeat (first | with_reducible refine wpAny_loadPart_at hget ?_ | (with_reducible refine wpAny_isSubtype_exc hC₁ ?_; rw [hcC]) | wp_step)
  show wpAny _ _ (typeLookup (.ref C) _) _ _ _
  refine (hi.keeps k).at ?_
  refine wpAny_holding (wpAny_bind ?_)
  unfold bindSpecial
  refine wpAny_bind (wpAny_typeOf (T := "function") ⟨_, hfI₁, hfc⟩ ?_)
  rw [if_pos (by decide)]
  refine wpAny_pure (wpAny_bind (wpAny_mono hq (fun r s' hr => ?_) fun _ _ x => x))
  obtain ⟨rfl, hQ⟩ := hr
  wp_walk
  exact hQ
theorem callV {rest : List Value} {fI : Addr} {oI : Obj} {Q : Value → Shared → Prop}
    (hC : h.get? C = some (excClassObj nm q C N bs bmX hdct sn sub ab col dd k0 k1 k2 k3 k5 "Exception.__new__")) (hi : Looks (model prog w) h (typeLookup (.ref C) "__init__") (some (.ref fI)))
    (hfI : h.get? fI = some oI) (hfc : oI.cls = .type "function")
    (hq : wpAny (model prog w) (A.under (.builtin "type.__call__" ⟨.ref C :: rest, []⟩)) (call (.ref fI) (.ref (h.objs.size + 1) :: rest)) (fun r s' => r = .none ∧ Q (.ref (h.objs.size + 1)) s') E
      ⟨(h.push { cls := .type "tuple", data := .seq rest.toArray }).push (excO C h.objs.size none), g, d, t, os⟩) (hrest : rest.length ≤ sizeLine) :
    wpAny (model prog w) A (call (.ref C) rest) Q E ⟨h, g, d, t, os⟩ := by
  have f1 := tc_lookup
  have f2 := tc_bind (.ref C)
  have hT : (⟨h, g, d, t, os⟩ : Shared).TypeIs (.ref C) "type" := ⟨_, hC, rfl⟩
  refine wpAny_call (codeAny_of_tree ?_)
  show wpAny _ _ (callAny (.ref C) _) _ _ _
  repeat (any_goals (first | assumption | with_reducible refine wpAny_loadPart_at hC ?_ | wp_step))
  refine ⟨rfl, ?_⟩
  exact codeAny_call_builtin_at (Code.quiet_builtin _ (by decide +kernel)) entry_typeCall (wpAny_check_type_call_sub hC (type_callV hC hi hfI hfc hq hrest))
end
end

-- ExcB
open Builtin Builtin.ObjectAttr
theorem fillXb : (PySem.Challenge.rw_pb0247_01.Holds ∧ ∀ P, hd.heap_39 P = []) → True := by k_fill; intro _; trivial
section
variable {M : Model} {A : Around} {E : Value → Shared → Prop} {h : Heap} {g : Array GenState} {d : Drawn} {t : Nat} {os : OsState}
variable {nm q : Str} {C N : Addr} {bs : List Value} {hdct : Bool} {sn : List Str} {sub : List Value} {ab : Bool} {col : Option Bool} {dd : Option Addr} {k0 k1 k2 k3 k5 : Option Value}
theorem check_initV {e : Addr} {oe : Obj} {rest : List Value} {Q : Unit → Shared → Prop}
    (hC : h.get? C = some (excClassObj nm q C N bs bmX hdct sn sub ab col dd k0 k1 k2 k3 k5 "Exception.__new__")) (he : h.get? e = some oe) (hcls : oe.cls = .ref C) (hq : Q () ⟨h, g, d, t, os⟩) :
    wpAny M A (checkBuiltinCall "Exception.__init__" ⟨.ref e :: rest, []⟩) Q E ⟨h, g, d, t, os⟩ := by
  have F := PySem.F.excBase_Exception
  have hcB : (Value.ref C :: bmX).contains (.type "Exception") = true := by rw [List.contains_cons]; simp
  have hshort := F.noStar
  simp only [checkBuiltinCall, F.initKind, F.initSplit, F.initRow]
  repeat (first | (with_reducible refine wpAny_loadPart_at he ?_; rw [hcls]) | with_reducible refine wpAny_loadPart_at hC ?_ | (with_reducible refine wpAny_isSubtype_exc hC ?_; rw [hcB]) | wp_step)
  refine wpAny_onRaise ?_
  rw [show ∀ (a b : String) (n : Nat), Bind.check ⟨.positional, "*", "Exception", .self, [⟨"args", .varPos, false⟩]⟩ a b n (List.map (fun x => x.fst) ({ pos := Value.ref e :: rest } : Args).kw) = pure () from
    fun a b n => check_star_args _ _ _ _ _ _]
  exact wpAny_pure hq
end
section
variable {prog : Program} {w : World} {A : Around} {E : Value → Shared → Prop} {s : Shared} {g : Heap} {L e t0 : Addr} {C : Addr} {m : Str → Option Value} {news : List (Addr × Obj)}
theorem init_call {rest : List Value} {Q : Value → Shared → Prop} (F : Fr g L s.heap m) (N : News g L s.heap ((e, excO C t0 none) :: news)) (X : (hd.heap_39 w.params).In g) (hC : FaultCls w.params C) (hne : ∀ p ∈ news, p.1 ≠ e)
    (h : ∀ t1 h', Fr g L h' m → News g L h' ((e, excO C t1 none) :: (t1, { cls := .type "tuple", data := .seq rest.toArray }) :: news) → (∀ p ∈ news, p.1 < t1) → @LT.lt Nat instLTNat e t1 → @LE.le Nat instLENat s.heap.objs.size t1 → Q .none { s with heap := h' }) (hr : rest.length ≤ sizeLine) :
    wpAny (model prog w) A (call (.builtin "Exception.__init__") (.ref e :: rest)) Q E s := by
  have FB := PySem.F.excBase_Exception
  obtain ⟨nm, q, NN, bs, sn, sub, ab, col, dd, k0, k1, k2, k3, k5, hcl⟩ := hC.cls
  have hC' := F.keep _ _ (X _ _ hcl)
  have he := (N _ (.head _)).1
  obtain ⟨hp, gs, d, tk, os⟩ := s
  refine wpAny_call (codeAny_call_builtin FB.init.plain FB.initEntry (check_initV hC' he rfl ?_))
  have hx₁ := Heap.get?_push_of_some { cls := .type "tuple", data := .seq rest.toArray } he
  wp_walk
  have hes : e ≠ hp.objs.size := Nat.ne_of_lt (Heap.lt_size he)
  have k : ∀ b o, b ≠ e → hp.get? b = some o → ((hp.push { cls := .type "tuple", data := .seq rest.toArray }).update e (Obj.mapFields fun x => x.setIfInBounds 0 (Value.ref hp.objs.size))).get? b = some o := fun b o hb q =>
    (Heap.get?_update_other _ _ (Ne.symm hb)).trans (Heap.get?_push_of_some _ q)
  have L1 := F.ns.lt
  have fr := (N _ (.head _)).2
  refine h hp.objs.size _ ⟨F.ns.at' fun o q => k _ o (Ne.symm fr.1) q, fun b o q => k b o (fun z => ?_) (F.keep b o q), F.above⟩ ?_ (fun p hp' => Heap.lt_size (N p (.tail _ hp')).1) (Heap.lt_size he) (Nat.le_refl _)
  · rw [z, fr.2] at q; cases q
  · intro p hp'
    rcases List.mem_cons.mp hp' with rfl | hp'
    · exact ⟨Heap.get?_update_self _ hx₁ rfl, fr⟩
    · rcases List.mem_cons.mp hp' with rfl | hp'
      · refine ⟨(Heap.get?_update_other _ _ hes).trans (Heap.get?_push_at rfl rfl), Nat.ne_of_gt L1, none_at_size F⟩
      · exact ⟨k _ _ (hne p hp') (N p (.tail _ hp')).1, (N p (.tail _ hp')).2⟩
end
section
variable {prog : Program} {w : World} {A : Around} {E : Value → Shared → Prop} {h : Heap} {g : Array GenState} {d : Drawn} {t : Nat} {os : OsState} {C x : Addr} {mA : Str → Option Value} {name : Str} {v : Value}
theorem instAt_of {o : Obj} (hx : h.get? x = some o) (hc : o.cls = .ref C) (hnc : ∀ c, o.data ≠ .cls c) (hd : (o.dict = none) ∨ ∃ dx od, o.dict = some dx ∧ h.get? dx = some od) : ∃ od, InstAt h x o C od := by
  have hno : notCls o = true := by
    unfold notCls
    split
    · rename_i c q; exact absurd q (hnc c)
    · rfl
  rcases hd with e | ⟨dx, od, e, hq⟩
  · exact ⟨none, hx, hc, hno, by rw [e]; trivial⟩
  · exact ⟨some od, hx, hc, hno, by rw [e]; exact hq⟩
theorem set_attrV {Q : Unit → Shared → Prop} {ns : List Str} (X : (hd.heap_39 w.params).In h) (hC : FaultCls w.params C) (ht : takerIn (hd.heap_39 w.params) C name = some none) (I : h.Inst x C mA)
    (hq : ∀ h' tk', h'.Inst x C (fun y => if y = name then some v else mA y) →
      (∀ b o, b ≠ x → (∀ o₀ dx, h.get? x = some o₀ → o₀.dict = some dx → b ≠ dx) → h.get? b = some o → h'.get? b = some o) →
      (∀ o₀, h.get? x = some o₀ → ∃ o₁, h'.get? x = some o₁ ∧ o₁.cls = o₀.cls ∧ o₁.data = o₀.data ∧ o₁.slots = o₀.slots ∧ o₁.dict = some (o₀.dict.getD h.objs.size)) → Q () ⟨h', g, d, tk', os⟩) (hw : Within mA ns) (hsz : ns.length < sizeLine) :
    wpAny (model prog w) A (setAttr (.ref x) name v) Q E ⟨h, g, d, t, os⟩ := by
  obtain ⟨nm, q, NN, bs, sn, sub, ab, col, dd, k0, k1, k2, k3, k5, hcl⟩ := hC.cls
  have hCo := X _ _ hcl
  obtain ⟨o, hx, hc, hnc, hd⟩ := I
  obtain ⟨od, IA⟩ := instAt_of hx hc hnc (hd.imp (fun z => z.1) fun ⟨dx, e1, _, e3⟩ => by obtain ⟨o', es, ep, e4, _⟩ := e3; exact ⟨dx, o', e1, e4⟩)
  refine set_plain X IA hC.sa ?_
  have SF := PySem.F.store_object
  have sub' : Looks (model prog w) h (isInstance (.ref x) (.type "object")) true := IA.type.andThen (fun A Q E s k z => by
    obtain ⟨h2, g2, d2, t2, os2⟩ := s
    exact wpAny_isSubtype_exc (k _ _ hCo) (by rw [List.contains_cons]; exact z))
  refine codeAny_call_builtin SF.slot.plain SF.entry (@check_slot (model prog w) _ _ _ "object.__setattr__" "object" "__setattr__" (.ref x) [.str name t, v] [] _ SF.kind SF.split sub' (SF.args (.ref x) (.str name t) v) ?_)
  obtain ⟨attr, ha, hr⟩ := Option.bind_eq_some_iff.mp ht
  have L3 : Looks (model prog w) h (storeTaker? attr) none := by
    cases attr with
    | none => exact .now
    | some a =>
      obtain ⟨b, hb, e⟩ := Option.map_eq_some_iff.mp hr
      refine (looks_takesIn X hb).andThen ?_
      cases b
      · exact .now
      · cases e
  rw [osa_eq, refuse_eq]
  refine wpAny_bind (wpAny_bind (IA.type.at (wpAny_bind (wpAny_mroOf_exc hCo ?_))))
  rw [refuseLoop_ref, refuseLoop_ref, PySem.F.store_Exception.passes]
  refine wpAny_pure (wpAny_bind (IA.type.at (wpAny_bind ((looks_findIn X ha).at (wpAny_bind (L3.at ?_))))))
  dsimp only
  generalize attr.isSome = onT
  have hcd : Looks (model prog w) h (classData C) { name := nm, bases := bs, mro := .ref C :: bmX, ns := NN, qualname := q, hasDict := true, slotNames := sn, subclasses := sub, abstract := ab, collection := col, hasDel := false } := looks_clsIn X (by unfold clsIn; rw [hcl])
  obtain ⟨oc, odi, oda, osl⟩ := o
  dsimp only at hc hnc hd
  subst hc
  refine wpAny_bind (wpAny_pure (wpAny_bind (wpAny_bind (wpAny_loadPart hx (wpAny_bind (hcd.at ?_))))))
  have fin : ∀ (dx : Addr) (h₁ : Heap) (m₁ : Str → Option Value), h₁.Ns1 dx m₁ → Within m₁ ns → (∀ h' tk', h'.Ns1 dx (fun y => if y = name then some v else m₁ y) → Heap.SameBut dx h₁ h' → Q () ⟨h', g, d, tk', os⟩) →
      wpAny (model prog w) A.in1 (storeInDict dx (.str name t) name v) (fun fin s' => match fin with | .done f => (match (Except.ok f : Result) with | .ok (.ret _) => Q () s' | .ok _ => False | .error e => E e s') | .again c' => c'.quiet = true ∧ codeAny (model prog w) A c' (fun r s' => match r with | .ok (.ret _) => Q () s' | .ok _ => False | .error e => E e s') s') (fun e s' => E e s') ⟨h₁, g, d, t + 1, os⟩ := by
    intro dx h₁ m₁ hns hwi k
    unfold storeInDict newKeyGuard
    refine wpAny_bind (wpAny_pure (wpAny_bind (wpAny_nsSet1 hns fun h' hn' hs => ?_)))
    obtain ⟨oD, esD, epD, hoD, hdD, hcD⟩ := hn'.count (Within.cons name v hwi)
    refine wpAny_bind (wpAny_lookBehind hoD (by rw [hdD]; exact pastItsLine_dict (Nat.le_trans hcD (by rw [List.length_cons]; omega))) ?_)
    wp_walk
    exact k h' _ hn' hs
  rcases hd with ⟨rfl, hmA⟩ | ⟨dx, rfl, hne, hns⟩
  · simp only [Bool.not_true, Bool.false_or, typeHasDict, if_false, Bool.false_eq_true]
    have hx₁ : (h.push { cls := .type "dict", data := .dict #[] }).get? x = some { cls := .ref C, dict := none, data := oda, slots := osl } := Heap.get?_push_of_some _ hx
    have hxs : x ≠ h.objs.size := Nat.ne_of_lt (Heap.lt_size hx)
    have body : wpAny (model prog w) A.in1 (do
        let d ← alloc { cls := .type "dict", data := .dict #[] }
        update x fun o => { o with dict := some d }
        dictMade (.ref C) x d) (fun r s' => wpAny (model prog w) A.in1 (match r with | some d => storeInDict d (.str name t) name v | none => noDictFor (.ref x) (.ref C) name onT) (fun fin s' => match fin with | .done f => (match (Except.ok f : Result) with | .ok (.ret _) => Q () s' | .ok _ => False | .error e => E e s') | .again c' => c'.quiet = true ∧ codeAny (model prog w) A c' (fun r s' => match r with | .ok (.ret _) => Q () s' | .ok _ => False | .error e => E e s') s') (fun e s' => E e s') s') (fun e s' => E e s') ⟨h, g, d, t + 1, os⟩ := by
      refine wpAny_bind (wpAny_alloc' (wpAny_bind (wpAny_update' hx₁ (wpAny_pure ?_))))
      dsimp only
      have hgd : ((h.push { cls := .type "dict", data := .dict #[] }).update x fun o => { cls := o.cls, dict := some h.objs.size, data := o.data, slots := o.slots }).get? h.objs.size
          = some { cls := .type "dict", data := .dict #[] } :=
        (Heap.get?_update_ne _ _ _ _ hxs.symm).trans (Heap.get?_push_at rfl rfl)
      have hnd : ((h.push { cls := .type "dict", data := .dict #[] }).update x fun o => { cls := o.cls, dict := some h.objs.size, data := o.data, slots := o.slots }).Ns h.objs.size (fun _ => none) :=
        ⟨_, #[], _, hgd, rfl, fun e he => absurd he (by simp), fun _ => rfl⟩
      refine fin h.objs.size _ _ (Heap.Ns1.of_empty hnd) (fun y hy => absurd rfl hy) fun h' tk' hn' hs => ?_
      have hx' : h'.get? x = some { cls := .ref C, dict := some h.objs.size, data := oda, slots := osl } := by
        refine (hs.2 x hxs).trans (Heap.get?_update_self _ hx₁ ?_)
        have hfr := (Heap.get?_some_iff.mp hx).2
        cases oda <;> first | rfl | exact hfr
      refine hq h' _ ⟨_, hx', rfl, hnc, .inr ⟨h.objs.size, rfl, hxs.symm, ?_⟩⟩ (fun b ob hbx _ hb => ?_)
        (fun o₀ h₀ => by obtain rfl := Option.some.inj (hx.symm.trans h₀); exact ⟨_, hx', rfl, rfl, rfl, rfl⟩)
      · obtain ⟨o', es, ep, e1, e2, e3, eu, e4⟩ := hn'
        exact ⟨o', es, ep, e1, e2, e3, eu, fun y => by rw [e4 y]; by_cases hy : y = name <;> simp [hy, hmA]⟩
      · exact (hs.2 b (Nat.ne_of_lt (Heap.lt_size hb))).trans ((Heap.get?_update_ne _ _ _ _ hbx).trans (Heap.get?_push_of_some _ hb))
    cases oda with
    | cls c => exact absurd rfl (hnc c)
    | _ => exact body
  · simp only [Bool.not_true, Bool.false_eq_true, if_false]
    refine wpAny_pure (fin dx h mA hns hw fun h' tk' hn' hs => ?_)
    have hx' := (hs.2 x hne.symm).trans hx
    refine hq h' _ ⟨_, hx', rfl, hnc, .inr ⟨dx, rfl, hne, hn'⟩⟩ (fun b ob _ hbd hb => ?_)
      (fun o₀ h₀ => by obtain rfl := Option.some.inj (hx.symm.trans h₀); exact ⟨_, hx', rfl, rfl, rfl, rfl⟩)
    exact (hs.2 b (hbd _ dx hx rfl)).trans hb
end
section
variable {prog : Program} {w : World} {A : Around} {E : Value → Shared → Prop} {s : Shared} {g : Heap} {L e t1 C : Addr} {m mA : Str → Option Value} {news : List (Addr × Obj)} {name : Str} {v : Value}
/-- what is known of the dict of the exception -/
noncomputable def DictAt (h : Heap) (g : Heap) (L e C dx : Addr) (news : List (Addr × Obj)) (mA : Str → Option Value) (ns : List Str) : Prop :=
  h.Inst e C mA ∧ Within mA ns ∧ (∀ p ∈ news, p.1 ≠ dx) ∧ L ≠ dx ∧ g.get? dx = none
theorem set_exc1 {Q : Unit → Shared → Prop} (F : Fr g L s.heap m) (N : News g L s.heap ((e, excO C t1 none) :: news)) (X : (hd.heap_39 w.params).In g) (hC : FaultCls w.params C) (ht : takerIn (hd.heap_39 w.params) C name = some none) (hne : ∀ p ∈ news, p.1 ≠ e)
    (h : ∀ h' tk dx, Fr g L h' m → News g L h' ((e, excO C t1 (some dx)) :: news) → DictAt h' g L e C dx news (fun y => if y = name then some v else none) [name] → Q () { s with heap := h', toks := tk }) :
    wpAny (model prog w) A (setAttr (.ref e) name v) Q E s := by
  have he := (N _ (.head _)).1
  have fr := (N _ (.head _)).2
  obtain ⟨hp, gs, d, tk, os⟩ := s
  refine set_attrV (mA := fun _ => none) (ns := []) (X.keeps F.keep) hC ht ⟨_, he, rfl, (fun _ q => nomatch q), .inl ⟨rfl, fun _ => rfl⟩⟩ (fun h' tk' hI hk hx => ?_) Within.nil (by rw [sizeLine_eq]; simp)
  obtain ⟨o₁, h1, h2, h3, h4, h5⟩ := hx _ he
  have ho : o₁ = excO C t1 (some hp.objs.size) := by
    obtain ⟨a, b, c, dd⟩ := o₁
    dsimp only at h2 h3 h4 h5
    subst h2 h3 h4 h5; rfl
  subst ho
  have k : ∀ b o, b ≠ e → hp.get? b = some o → h'.get? b = some o := fun b o hb q => hk b o hb (fun o₀ dx e1 e2 => by rw [he] at e1; cases e1; cases e2) q
  refine h h' tk' hp.objs.size ⟨F.ns.at' fun o q => k _ o (Ne.symm fr.1) q, fun b o q => k b o (fun z => ?_) (F.keep b o q), F.above⟩ ?_ ⟨hI, Within.cons name v Within.nil, fun p hp' => Nat.ne_of_lt (Heap.lt_size (N p (.tail _ hp')).1), Nat.ne_of_lt F.ns.lt, none_at_size F⟩
  · rw [z, fr.2] at q; cases q
  · intro p hp'
    rcases List.mem_cons.mp hp' with rfl | hp'
    · exact ⟨h1, fr⟩
    · exact ⟨k _ _ (hne p hp') (N p (.tail _ hp')).1, (N p (.tail _ hp')).2⟩
theorem set_exc2 {Q : Unit → Shared → Prop} {dx : Addr} {ns : List Str} (F : Fr g L s.heap m) (N : News g L s.heap ((e, excO C t1 (some dx)) :: news)) (D : DictAt s.heap g L e C dx news mA ns) (X : (hd.heap_39 w.params).In g) (hC : FaultCls w.params C) (ht : takerIn (hd.heap_39 w.params) C name = some none) (hne : ∀ p ∈ news, p.1 ≠ e) (hsz : ns.length < 100)
    (h : ∀ h' tk, Fr g L h' m → News g L h' ((e, excO C t1 (some dx)) :: news) → Q () { s with heap := h', toks := tk }) :
    wpAny (model prog w) A (setAttr (.ref e) name v) Q E s := by
  have he := (N _ (.head _)).1
  have fr := (N _ (.head _)).2
  obtain ⟨hp, gs, d, tk, os⟩ := s
  obtain ⟨hI, hw, d1, d2, d3⟩ := D
  refine set_attrV (X.keeps F.keep) hC ht hI (fun h' tk' hI hk hx => ?_) hw (by rw [sizeLine_eq]; omega)
  obtain ⟨o₁, h1, h2, h3, h4, h5⟩ := hx _ he
  have ho : o₁ = excO C t1 (some dx) := by
    obtain ⟨a, b, c, dd⟩ := o₁
    dsimp only at h2 h3 h4 h5
    subst h2 h3 h4 h5; rfl
  subst ho
  have k : ∀ b o, b ≠ e → b ≠ dx → hp.get? b = some o → h'.get? b = some o := fun b o hb hb2 q => hk b o hb (fun o₀ dx' e1 e2 => by rw [he] at e1; cases e1; cases e2; exact hb2) q
  refine h h' tk' ⟨F.ns.at' fun o q => k _ o (Ne.symm fr.1) d2 q, fun b o q => k b o (fun z => ?_) (fun z => ?_) (F.keep b o q), F.above⟩ ?_
  · rw [z, fr.2] at q; cases q
  · rw [z, d3] at q; cases q
  · intro p hp'
    rcases List.mem_cons.mp hp' with rfl | hp'
    · exact ⟨h1, fr⟩
    · exact ⟨k _ _ (hne p hp') (d1 p hp') (N p (.tail _ hp')).1, (N p (.tail _ hp')).2⟩
end
theorem wordsExcB1 : True := by
  k_with_none
  w_top off
  k_with "pb_lt" => (first | (with_reducible assumption) | (refine' lt_use (by with_reducible assumption) ?_; (repeat (first | with_reducible exact And.left | with_reducible exact id | with_reducible refine' lt_skip ?_)); done))
  trivial
local macro_rules | `(tactic| k_ne) => `(tactic| (refine neN ?_; (try dsimp only); (first | (refine Nat.ne_of_lt ?_; walk_at "pb_lt") | (refine Nat.ne_of_gt ?_; walk_at "pb_lt") | omega)))
local macro_rules | `(tactic| k_lt $h:ident) => `(tactic| (replace $h := allLtT_of $h; dsimp only [AllLtT] at $h:ident))
theorem wordsExcB2 : True := by
  k_with "pb_steps" => (repeat' (first | (k_unfold; (try dsimp only)) | walk1 | (dsimp only; walk1) | fail "no step"))
  k_with "pb_enterM" => (refine' enterM (by with_reducible assumption) (by k_asm) (by k_asm) (by k_is) (by k_is) (by first | exact dlt0 (by with_reducible assumption) | exact dltk (by with_reducible assumption) (by decide) | exact dlt1 (by with_reducible assumption) (by decide) | omega | (dsimp only; omega)) (by first | exact BindsTo.of_eq rfl | exact binds_K (by k_in) rfl (by k_is) rfl rfl rfl) (by exact locs rfl) ?_ (by exact rfl) (by exact rfl) (by exact rfl) (by decide); k_whole; intro Lzz' hzz' Fzz' Nzz' l1zz; (try simp only [List.cons_append, List.nil_append, List.append_nil] at Nzz'); (try dsimp only); (try k_fold))
  k_with "getMethod type:Exception" => (k_here; refine' method_type (by k_asm) (by k_asm) (by kernel_rfl) (by decide +kernel) (by k_dflt k_is) (by k_handed) ?_)
  k_with "call builtin:Exception.__init__" => (k_here; (with_reducible rename Fr _ _ _ _ => kFzz); (with_reducible rename News _ _ _ _ => kNzz); k_dflt (refine' init_call kFzz kNzz (by k_asm) (by with_reducible assumption) (by k_all) ?_ (by (rw [sizeLine_eq]; simp)); k_whole); intro t1zz hzz' Fzz' Nzz' l1zz l2zz l3zz; (try k_lt l1zz); (try k_sweep))
  k_with "setAttr ref" => (k_here; (with_reducible rename Fr _ _ _ _ => kFzz); (with_reducible rename News _ _ _ _ => kNzz); first | (k_dflt (refine' set_exc1 kFzz kNzz (by k_asm) (by with_reducible assumption) (by (first | exact FaultCls.t1 (by with_reducible assumption) | exact FaultCls.t2 (by with_reducible assumption))) (by k_all) ?_; k_whole); intro hzz' tkzz' dxzz' Fzz' Nzz' Dzz') | (k_dflt (refine' set_exc2 kFzz kNzz (by with_reducible assumption) (by k_asm) (by with_reducible assumption) (by (first | exact FaultCls.t1 (by with_reducible assumption) | exact FaultCls.t2 (by with_reducible assumption))) (by k_all) (by simp) ?_; k_whole); intro hzz' tkzz' Fzz' Nzz'))
  trivial
theorem init_c {prog : Program} {w : World} {A : Around} {E : Value → Shared → Prop} {s : Shared} {g : Heap} {p : Program} {loose : List Str} {mg mb : Str → Option Value} {Q : Value → Shared → Prop}
    {C e t0 : Addr} {msg : Str} {tk : Tok} (X : (hd.heap_39 w.params).In g) (T : TopRead p loose mg mb g) (hC : FaultCls w.params C)
    (G : Apart g s.heap [(e, excO C t0 none), (t0, { cls := .type "tuple", data := .seq [Value.str msg tk].toArray })]) (hne : t0 ≠ e) (hh : A.handled = none) (hdp : A.depth + 10 < recursionLimit) (hu : A.units + 100 < cLine)
    (hQ : ∀ h' tk' t1 dx, g.StaysIn h' → h'.get? e = some (excO C t1 (some dx)) → g.get? t1 = none → h'.get? t1 = some { cls := .type "tuple", data := .seq [Value.str msg tk].toArray } → Q .none { s with heap := h', toks := tk' }) :
    wpAny (model prog w) A (call (.ref 91) [.ref e, .str msg tk]) Q E s := by
  obtain ⟨ah, dp, fr, gd, un⟩ := A
  dsimp only at hh hdp hu
  subst hh
  have Xs : (hd.heap_39 w.params).In s.heap := X.keeps G.1
  walk_at "pb_enterM"
  walk_at "pb_steps"
  rename Fr _ _ _ _ => F
  rename News _ _ _ _ => N
  exact hQ _ _ _ _ F.keep (N _ (.head _)).1 (N _ (.tail _ (.head _))).2.2 (N _ (.tail _ (.head _))).1
/-- an exception of the faults, made -/
structure MadeE (h h' : Heap) (e : Addr) (C : Addr) (vs : List Value) : Prop where
  keeps : ∀ b o, h.get? b = some o → h'.get? b = some o
  new : h.get? e = none
  there : ∃ t dx, h'.get? e = some (excO C t (some dx)) ∧ h.get? t = none ∧ h'.get? t = some { cls := .type "tuple", data := .seq vs.toArray }
theorem fault_c {prog : Program} {w : World} {A : Around} {E : Value → Shared → Prop} {s : Shared} {p : Program} {loose : List Str} {mg mb : Str → Option Value} {Q : Value → Shared → Prop}
    {C : Addr} {msg : Str} {tk : Tok} (X : (hd.heap_39 w.params).In s.heap) (T : TopRead p loose mg mb s.heap) (hC : FaultCls w.params C) (hh : A.handled = none) (hdp : A.depth + 20 < recursionLimit) (hu : A.units + 200 < cLine)
    (hQ : ∀ h' tk' e, MadeE s.heap h' e C [.str msg tk] → Q (.ref e) { s with heap := h', toks := tk' }) :
    wpAny (model prog w) A (call (.ref C) [.str msg tk]) Q E s := by
  obtain ⟨nm, q, NN, bs, sn, sub, ab, col, dd, k0, k1, k2, k3, k5, hcl⟩ := hC.cls
  obtain ⟨oI, hI, hIc⟩ : ∃ oI, (hd.heap_39 w.params).lookup 91 = some oI ∧ oI.cls = .type "function" := ⟨_, by k_is, rfl⟩
  obtain ⟨h, gs, d, t, os⟩ := s
  refine callV (X _ _ hcl) (looks_findIn X hC.init) (X _ _ hI) hIc ?_ (by rw [sizeLine_eq]; simp)
  have hsz : ((h.push { cls := .type "tuple", data := .seq [Value.str msg tk].toArray }).push (excO C h.objs.size none)).get? (h.objs.size + 1) = some (excO C h.objs.size none) := by heap_get
  have hsz0 : ((h.push { cls := .type "tuple", data := .seq [Value.str msg tk].toArray }).push (excO C h.objs.size none)).get? h.objs.size = some { cls := .type "tuple", data := .seq [Value.str msg tk].toArray } := by heap_get
  refine init_c (g := h) (e := h.objs.size + 1) (t0 := h.objs.size) X T hC ⟨fun b o e => Heap.get?_push_of_some _ (Heap.get?_push_of_some _ e), by simp only [Heap.size_push]; omega, fun p hp => ?_⟩ (Nat.ne_of_lt (Nat.lt_succ_self _)) ?_ ?_ ?_ ?_
  · rcases List.mem_cons.mp hp with rfl | hp
    · exact ⟨hsz, Heap.get?_none_of_le (by omega)⟩
    · rw [List.mem_singleton.mp hp]
      exact ⟨hsz0, Heap.get?_none_of_le (by omega)⟩
  · exact hh
  · show A.depth + 1 + 10 < _
    omega
  · show A.units + 1 + 100 < _
    omega
  · intro h' tk' t1 dx k1 k2 k3 k4
    exact ⟨rfl, hQ h' tk' _ ⟨k1, Heap.get?_none_of_le (Nat.le_succ _), t1, dx, k2, k3, k4⟩⟩

-- Data
section
open PySem.AutoSeq1 (wpAny_loadPart')
open PySem.MeetsSeq PySem.MeetsSeq2 PySem.MeetsSeq3 PySem.SeqRoads2
/-- plain data that the law builds -/
inductive D where
  | int (i : Int)
  | str (x : Str)
  | bytes (b : Array UInt8)
  | tup (ds : List D)

mutual
inductive DIn (h : Heap) : Value → D → Prop
  | int (i t) : DIn h (.int i t) (.int i)
  | str (x t) : DIn h (.str x t) (.str x)
  | bytes (b t) : DIn h (.bytes b t) (.bytes b)
  | tup {a vs ds} : IsTup h a (List.toArray vs) → DAll h vs ds → DIn h (.ref a) (.tup ds)
inductive DAll (h : Heap) : List Value → List D → Prop
  | nil : DAll h [] []
  | cons {v vs d ds} : DIn h v d → DAll h vs ds → DAll h (v :: vs) (d :: ds)
end
mutual
theorem DIn.keeps {h h' : Heap} (k : h.StaysIn h') : ∀ {v : Value} {d : D}, DIn h v d → DIn h' v d
  | _, _, .int i t => .int i t
  | _, _, .str x t => .str x t
  | _, _, .bytes b t => .bytes b t
  | _, _, .tup ht ha => .tup (ht.keeps k) (DAll.keeps k ha)
theorem DAll.keeps {h h' : Heap} (k : h.StaysIn h') : ∀ {vs : List Value} {ds : List D}, DAll h vs ds → DAll h' vs ds
  | _, _, .nil => .nil
  | _, _, .cons hd ha => .cons (DIn.keeps k hd) (DAll.keeps k ha)
end
theorem isTup_fun {h : Heap} {a : Addr} {xs ys : Array Value} (x : IsTup h a xs) (y : IsTup h a ys) : xs = ys := by
  obtain ⟨o, h1, _, n, h2⟩ := x
  obtain ⟨o', h3, _, n', h4⟩ := y
  rw [h1] at h3; cases h3
  rw [h2] at h4; cases h4; rfl
mutual
theorem DIn.fun {h : Heap} : ∀ {v : Value} {d e : D}, DIn h v d → DIn h v e → d = e
  | _, _, _, .int i t, q => by cases q; rfl
  | _, _, _, .str i t, q => by cases q; rfl
  | _, _, _, .bytes i t, q => by cases q; rfl
  | _, _, _, .tup ht ha, q => by
    cases q with
    | tup ht' ha' =>
      have e := isTup_fun ht ht'
      have e' := congrArg Array.toList e
      simp only at e'
      subst e'
      rw [DAll.fun ha ha']
theorem DAll.fun {h : Heap} : ∀ {vs : List Value} {ds es : List D}, DAll h vs ds → DAll h vs es → ds = es
  | _, _, _, .nil, q => by cases q; rfl
  | _, _, _, .cons hd ha, q => by
    cases q with
    | cons hd' ha' => rw [DIn.fun hd hd', DAll.fun ha ha']
end
theorem DAll.length {h : Heap} : ∀ {vs : List Value} {ds : List D}, DAll h vs ds → vs.length = ds.length
  | _, _, .nil => rfl
  | _, _, .cons _ r => by rw [List.length_cons, List.length_cons, DAll.length r]
theorem DAll.get {h : Heap} : ∀ {vs : List Value} {ds : List D}, DAll h vs ds → ∀ {k : Nat} {d : D}, ds[k]? = some d → ∃ v, vs[k]? = some v ∧ DIn h v d
  | _, _, .nil, k, d, e => by simp at e
  | _, _, .cons hd r, 0, d, e => by simp at e; subst e; exact ⟨_, rfl, hd⟩
  | _, _, .cons hd r, k + 1, d, e => by simp at e; obtain ⟨v, h1, h2⟩ := DAll.get r e; exact ⟨v, by simpa using h1, h2⟩
theorem DAll.append {h : Heap} : ∀ {vs : List Value} {ds : List D} {ws es}, DAll h vs ds → DAll h ws es → DAll h (vs ++ ws) (ds ++ es)
  | _, _, _, _, .nil, q => q
  | _, _, _, _, .cons hd r, q => .cons hd (DAll.append r q)
theorem DAll.one {h : Heap} {v : Value} {d : D} (x : DIn h v d) : DAll h [v] [d] := .cons x .nil

mutual
noncomputable def cmp : D → D → Option Bool
  | .int a, e => match e with
    | .int b => some (a == b)
    | .bytes _ => none
    | _ => some false
  | .str a, e => match e with
    | .str b => some (a == b)
    | .bytes _ => none
    | _ => some false
  | .bytes a, e => match e with
    | .bytes b => some (a.toList == b.toList)
    | _ => none
  | .tup a, e => match e with
    | .tup b => cmpL a b
    | .bytes _ => none
    | _ => some false
noncomputable def cmpL : List D → List D → Option Bool
  | [], [] => some true
  | [], _ :: _ => some false
  | _ :: _, [] => some false
  | a :: as, b :: bs => match cmp a b with
    | some true => cmpL as bs
    | r => r
end
mutual
theorem cmp_self : ∀ d : D, cmp d d = some true
  | .int a => by simp [cmp]
  | .str a => by simp [cmp]
  | .bytes a => by simp [cmp]
  | .tup a => by simp only [cmp]; exact cmpL_self a
theorem cmpL_self : ∀ d : List D, cmpL d d = some true
  | [] => rfl
  | d :: ds => by simp only [cmpL, cmp_self d]; exact cmpL_self ds
end
mutual
theorem cmp_eq : ∀ d e : D, cmp d e = some true → d = e
  | .int a, .int b, h => by simp [cmp] at h; rw [h]
  | .str a, .str b, h => by simp [cmp] at h; rw [h]
  | .bytes a, .bytes b, h => by simp [cmp] at h; rw [h]
  | .int _, .str _, h => by simp [cmp] at h
  | .str _, .int _, h => by simp [cmp] at h
  | .int _, .tup _, h => by simp [cmp] at h
  | .str _, .tup _, h => by simp [cmp] at h
  | .tup _, .int _, h => by simp [cmp] at h
  | .tup _, .str _, h => by simp [cmp] at h
  | .tup a, .tup b, h => by simp only [cmp] at h; rw [cmpL_eq a b h]
  | .int _, .bytes _, h => by simp [cmp] at h
  | .str _, .bytes _, h => by simp [cmp] at h
  | .tup _, .bytes _, h => by simp [cmp] at h
  | .bytes _, .int _, h => by simp [cmp] at h
  | .bytes _, .str _, h => by simp [cmp] at h
  | .bytes _, .tup _, h => by simp [cmp] at h
theorem cmpL_eq : ∀ d e : List D, cmpL d e = some true → d = e
  | [], [], _ => rfl
  | [], _ :: _, h => by simp [cmpL] at h
  | _ :: _, [], h => by simp [cmpL] at h
  | a :: as, b :: bs, h => by
    simp only [cmpL] at h
    split at h
    · rename_i q; rw [cmp_eq a b q, cmpL_eq as bs h]
    · rename_i q; exact absurd h (by intro z; exact q z)
end
mutual
noncomputable def D.depth : D → Nat
  | .tup ds => D.depths ds + 1
  | _ => 0
noncomputable def D.depths : List D → Nat
  | [] => 0
  | d :: ds => max d.depth (D.depths ds)
end

/-- the items of two tuples, as `==` goes through them -/
inductive Cmp (A : Around) (s : Shared) : List Value → List Value → Bool → Prop
  | nil : Cmp A s [] [] true
  | left {y ys} : Cmp A s [] (y :: ys) false
  | right {x xs} : Cmp A s (x :: xs) [] false
  | yes {x y xs ys b} : EqAt A s x y true → Cmp A s xs ys b → Cmp A s (x :: xs) (y :: ys) b
  | no {x y xs ys} : EqAt A s x y false → Cmp A s (x :: xs) (y :: ys) false

theorem tuple_eqS (l b : Addr) (items items2 : Array Value) (n n2 : Nat) (dd dd2 : Option Addr) (sl sl2 : Array (Option Value)) (r : Bool) :
    Meets (Builtin.«tuple.__eq__» ⟨[.ref l, .ref b], []⟩)
      (fun A R s => s.heap.get? l = some { cls := .type "tuple", dict := dd, data := .seq items n, slots := sl } ∧ s.heap.get? b = some { cls := .type "tuple", dict := dd2, data := .seq items2 n2, slots := sl2 } ∧
        Cmp A.in1 s items.toList items2.toList r ∧ R (.ok (.ret (.bool r))) s) :=
  .of_wp fun prog w A R s h => by
    obtain ⟨hp, g, d, tk, os⟩ := s; obtain ⟨hl, hb, he, h⟩ := h
    have f2 := AutoSeq1.sub_tuple_tuple
    wp_walk using wpAny_loadPart' hl, wpAny_loadPart' hb, wpAny_forIn_list _ (fun rest b s' => b.1 = none ∧ s' = ⟨hp, g, d, tk, os⟩ ∧ ∃ xs ys, rest = xs.zip ys ∧ Cmp A.in1 ⟨hp, g, d, tk, os⟩ xs ys r ∧ xs.length + items2.size = ys.length + items.size) _
    case turn =>
      rintro ⟨y, x⟩ rest b s' ⟨hb', rfl, xs, ys, hz, hC, hn⟩
      cases hC with
      | nil => cases hz
      | left => cases hz
      | right => cases hz
      | yes hE hC =>
        cases hz
        refine wpAny_bind (hE prog w _ _ ?_)
        wp_walk
        exact ⟨rfl, rfl, _, _, rfl, hC, by simp only [List.length_cons] at hn; omega⟩
      | no hE =>
        cases hz
        refine wpAny_bind (hE prog w _ _ ?_)
        wp_walk
        exact ⟨_, rfl, h⟩
    case fin =>
      rintro ⟨b1, b2⟩ s' ⟨hb', rfl, xs, ys, hz, hC, hn⟩
      simp only at hb'
      subst hb'
      have e : r = (items.size == items2.size) := by
        cases hC with
        | nil => simp at hn; simp [hn]
        | left => simp at hn; simp; omega
        | right => simp at hn; simp; omega
        | yes => cases hz
        | no => cases hz
      wp_walk
      exact ⟨_, rfl, by simpa [Builtin.Tuple.tupleCompareSizes, e] using h⟩
    case h =>
      exact ⟨rfl, rfl, _, _, rfl, he, by simp; omega⟩
section
variable {A : Around} {s : Shared}
theorem rcAt_tuplesS {l b : Addr} {items items2 : List Value} {r : Bool} (hl : s.heap.IsTuple l items.toArray) (hb : s.heap.IsTuple b items2.toArray) (hu : A.units < cLine)
    (he : Cmp A.in1 s items items2 r) : RcAt A s (.ref l) (.ref b) r := fun prog w E Q h => by
  obtain ⟨⟨cls, dd, data, sl⟩, ho, hc, n, hd⟩ := id hl
  obtain ⟨⟨cls2, dd2, data2, sl2⟩, ho2, hc2, n2, hd2⟩ := id hb
  simp only at hc hd hc2 hd2
  subst hc hd hc2 hd2
  exact richCompare_meets_room (op := .Eq) ⟨_, ho, rfl⟩ ⟨_, ho2, rfl⟩ F.slot_tuple_eq F.entry_tuple_eq (F.args_tuple_eq_2 _ _) (tuple_eqS l b items.toArray items2.toArray n n2 dd dd2 sl sl2 r)
    ⟨ho, ho2, by simpa using he, show Value.bool r ≠ Value.notImplemented ∧ Q (.bool r) s from ⟨(fun x => nomatch x), h⟩⟩ hu
theorem eqAt_bytes (a : Array UInt8) (t : Tok) (b : Array UInt8) (u : Tok) : EqAt A s (.bytes a t) (.bytes b u) (a.toList == b.toList) := fun prog w E Q h => by
  unfold eqBool
  refine wpAny_holding ?_
  refine wpAny_ite_split (fun hab => ?_) (fun _ => ?_)
  · have := eq_of_beq hab
    cases this
    refine wpAny_bind (wpAny_rule (wpAny_pure ?_))
    simpa using h
  · exact wpAny_bind (PySem.W.eq_bytes (wpAny_truthy_bool h))
theorem rcAt_bytes (a : Array UInt8) (t : Tok) (b : Array UInt8) (u : Tok) : RcAt A s (.bytes a t) (.bytes b u) (a.toList == b.toList) := fun prog w E Q h => PySem.W.eq_bytes h

mutual
theorem eqD {v v' : Value} : ∀ {d e : D} {b : Bool}, DIn s.heap v d → DIn s.heap v' e → cmp d e = some b → ∀ {A : Around}, A.units + d.depth < cLine → EqAt A s v v' b
  | .int i, e, b, hd, he, h, A, hu => by
    cases hd
    cases he <;> simp only [cmp, reduceCtorEq, Option.some.injEq] at h <;> subst h
    · exact EqAt.int_int _ _ _ _
    · exact EqAt.int_str _ _ _ _
    · rename_i hl _; exact .int_tuple _ _ hl (by simp only [D.depth] at hu; omega)
  | .str i, e, b, hd, he, h, A, hu => by
    cases hd
    cases he <;> simp only [cmp, reduceCtorEq, Option.some.injEq] at h <;> subst h
    · exact EqAt.str_int _ _ _ _
    · exact EqAt.str_str _ _ _ _
    · rename_i hl _; exact .str_tuple _ _ hl (by simp only [D.depth] at hu; omega)
  | .bytes i, e, b, hd, he, h, A, hu => by
    cases hd
    cases he <;> simp only [cmp, reduceCtorEq, Option.some.injEq] at h
    subst h
    exact eqAt_bytes _ _ _ _
  | .tup ds, e, b, hd, he, h, A, hu => by
    cases hd with
    | @tup a _ _ hl ha =>
      cases he with
      | int => simp only [cmp, Option.some.injEq] at h; subst h; exact .tuple_int _ _ hl (by omega)
      | str => simp only [cmp, Option.some.injEq] at h; subst h; exact .tuple_str _ _ hl (by omega)
      | bytes => simp only [cmp, reduceCtorEq] at h
      | @tup a' _ _ hl' ha' =>
        by_cases q : a = a'
        · subst q
          have e := DIn.fun (.tup hl ha) (.tup hl' ha')
          rw [e, cmp_self] at h
          cases h
          exact .same _
        · simp only [cmp] at h
          simp only [D.depth] at hu
          exact .of_refs q (rcAt_tuplesS hl hl' (by omega) (eqDs ha ha' h (by simp only [Around.in1_units]; omega)))
theorem eqDs : ∀ {vs ws : List Value} {ds es : List D} {b : Bool}, DAll s.heap vs ds → DAll s.heap ws es → cmpL ds es = some b → ∀ {A : Around}, A.units + D.depths ds < cLine → Cmp A s vs ws b
  | _, _, [], es, b, ha, hb, h, A, hu => by
    cases ha
    cases hb <;> simp only [cmpL, Option.some.injEq] at h <;> subst h
    · exact .nil
    · exact .left
  | _, _, d :: ds, es, b, ha, hb, h, A, hu => by
    cases ha with
    | cons hd ha =>
      cases hb with
      | nil => simp only [cmpL, Option.some.injEq] at h; subst h; exact .right
      | cons hd' hb =>
        simp only [D.depths] at hu
        simp only [cmpL] at h
        split at h
        · rename_i q
          exact .yes (eqD hd hd' q (by omega)) (eqDs ha hb h (by omega))
        · cases b with
          | true => rename_i q; exact absurd h q
          | false => exact .no (eqD hd hd' h (by omega))
end
theorem rcD {v v' : Value} {d e : D} {b : Bool} (hd : DIn s.heap v d) (he : DIn s.heap v' e) (h : cmp d e = some b) (hu : A.units + d.depth < cLine) : RcAt A s v v' b := by
  cases hd <;> cases he <;> simp only [cmp, Option.some.injEq, reduceCtorEq] at h <;> (try subst h)
  · exact RcAt.int_int _ _ _ _
  · exact RcAt.int_str _ _ _ _
  · rename_i hl _; exact .int_tuple _ _ hl (by simp only [D.depth] at hu; omega)
  · exact RcAt.str_int _ _ _ _
  · exact RcAt.str_str _ _ _ _
  · rename_i hl _; exact .str_tuple _ _ hl (by simp only [D.depth] at hu; omega)
  · exact rcAt_bytes _ _ _ _
  · rename_i hl _ _ _; exact .tuple_int _ _ hl (by omega)
  · rename_i hl _ _ _; exact .tuple_str _ _ hl (by omega)
  · rename_i hl ha _ _ _ hl' ha'
    simp only [D.depth] at hu
    exact rcAt_tuplesS hl hl' (by omega) (eqDs ha ha' h (by simp only [Around.in1_units]; omega))
end
section
variable {prog : Program} {w : World} {A : Around} {E : Value → Shared → Prop} {s : Shared} {v v' : Value} {d e : D} {Q : Value → Shared → Prop}
theorem eq_D {b : Bool} (hd : DIn s.heap v d) (he : DIn s.heap v' e) (h : cmp d e = some b) (hu : A.units + d.depth < cLine) (k : Q (.bool b) s) : wpAny (model prog w) A (compareOp .Eq v v') Q E s :=
  rcD hd he h hu prog w E Q k
end
end

-- CompJ
section
/-- every tuple of h stands in g -/
noncomputable def Tups (h g : Heap) : Prop := ∀ b xs, IsTup h b xs → IsTup g b xs
mutual
theorem DIn.tups {h h' : Heap} (k : Tups h h') : ∀ {v : Value} {d : D}, DIn h v d → DIn h' v d
  | _, _, .int i t => .int i t
  | _, _, .str x t => .str x t
  | _, _, .bytes b t => .bytes b t
  | _, _, .tup ht ha => .tup (k _ _ ht) (DAll.tups k ha)
theorem DAll.tups {h h' : Heap} (k : Tups h h') : ∀ {vs : List Value} {ds : List D}, DAll h vs ds → DAll h' vs ds
  | _, _, .nil => .nil
  | _, _, .cons hd ha => .cons (DIn.tups k hd) (DAll.tups k ha)
end
theorem tups_hide {h : Heap} {hid : List Addr} (hn : ∀ b ∈ hid, ∀ xs, ¬ IsTup h b xs) : Tups h (hideAll h hid) := fun b xs x => by
  obtain ⟨o, ho, r⟩ := id x
  exact ⟨o, hideAll_get _ ho fun q => hn b q xs x, r⟩

noncomputable def MtOk (g h : Heap) (mtA : List Addr) (mt : List (Addr × Obj)) : Prop :=
  (∀ p ∈ mt, h.get? p.1 = some p.2 ∧ p.1 ∈ mtA ∧ g.get? p.1 = none) ∧ ∀ b ∈ mtA, ∃ o, (b, o) ∈ mt ∧ o.cls ≠ .type "tuple"

/-- the end of an element: what may change is mtA alone; K: what is shown of the ground behind it -/
noncomputable def EltEnd (g : Heap) (mtA : List Addr) (gi : Heap) (K : Heap → List (Addr × Obj) → Value → Prop) (s₁ : Shared) (y : Value) (s₃ : Shared) : Prop :=
  ∃ h₃ tk₃ mt₃, s₃ = { s₁ with heap := h₃, toks := tk₃ } ∧ (∀ b o, b ∉ mtA → s₁.heap.get? b = some o → h₃.get? b = some o) ∧ MtOk g h₃ mtA mt₃ ∧
    ∀ gi', gi.StaysIn gi' → Tups h₃ gi' → K gi' mt₃ y

section
variable {prog : Program} {w : World} {A : Around} {R : Result → Shared → Prop} {s : Shared}
theorem compLoopJ {elt iter : PySem.Expr} {x : Str} {px : Pos} {scope : Scope} {pos : Pos} {I D : Addr} {fp wr : List Addr} {n : Nat} {P : Nat → Value → Prop} {St : Nat → Heap → Prop}
    {cenv : Env} {m : Str → Option Value} (W : Walks prog w A I fp wr n P St) {g : Heap} {mtA : List Addr} (ex : List Addr) (J : Nat → Heap → List (Addr × Obj) → List Value → Prop) {mt₀ : List (Addr × Obj)}
    (hx : cenv.kindOf x = some .local) (hp : (cenv.scope.kind == .class || (cenv.scope.kind == .module && cenv.locals != cenv.globals)) = false)
    (hDC : D ≠ cenv.locals) (hDf : D ∉ fp) (hCf : cenv.locals ∉ fp)
    (hst : St 0 s.heap) (hacc : s.heap.PlainList D #[]) (hn : s.heap.Ns cenv.locals m)
    (hI : ∀ i h, St i h → ∀ b ∈ wr, ∀ xs, ¬ IsTup h b xs)
    (hg : ∀ b o, g.get? b = some o → s.heap.get? b = some o) (hgz : g.objs.size ≤ cenv.locals) (hgw : ∀ b ∈ wr, g.get? b = none) (hgD : g.get? D = none)
    (hmC : cenv.locals ∉ mtA) (hmD : D ∉ mtA) (hmf : ∀ b ∈ fp, b ∉ mtA)
    (hex : ∀ b ∈ ex, b ∉ mtA ∧ b ∉ wr ∧ b ≠ cenv.locals ∧ b ≠ D ∧ ∃ o, s.heap.get? b = some o ∧ ∀ ys n, o.data ≠ .seq ys n)
    (hm₀ : MtOk g s.heap mtA mt₀) (hJ : J 0 (hideAll s.heap (cenv.locals :: D :: (wr ++ (mtA ++ ex)))) mt₀ [])
    (turn : ∀ i v gi h tk m mt ys, i < n → P i v → gi.StaysIn h → J i gi mt ys → Fr g cenv.locals h m → m x = some v → News g cenv.locals h mt → MtOk g h mtA mt →
      wpAny (model prog w) A (eval elt cenv) (EltEnd g mtA gi (fun gi' mt' y => J (i + 1) gi' mt' (ys ++ [y])) { s with heap := h, toks := tk }) (fun _ _ => False) { s with heap := h, toks := tk })
    (hR : ∀ h' tk m' ys mt gi, h'.Ns cenv.locals m' → h'.PlainList D (List.toArray ys) → ys.length = n → gi.StaysIn h' → gi.get? cenv.locals = none → (∀ b ∈ ex, gi.get? b = none) → J n gi mt ys → MtOk g h' mtA mt →
      (∀ b o, b ≠ cenv.locals → b ∉ wr → b ≠ D → b ∉ mtA → s.heap.get? b = some o → h'.get? b = some o) → R (.ok .next) { s with heap := h', toks := tk })
    (hsz : n ≤ sizeLine) :
    codeAny (model prog w) A (.compLoop (.ListComp elt [⟨.Name x px, iter, [], 0⟩] scope pos) 0 (.ref I) (.ref D) cenv) R s := by
  have hCw : cenv.locals ∉ wr := fun h => hCf (W.sub _ h)
  have hDw : D ∉ wr := fun h => hDf (W.sub _ h)
  have hmw : ∀ b ∈ wr, b ∉ mtA := fun b hb => hmf b (W.sub _ hb)
  refine codeAny_compLoop_tests
    (fun k s' => ∃ h' tk m' ys mt i, s' = { s with heap := h', toks := tk } ∧ St i h' ∧ h'.PlainList D (List.toArray ys) ∧ h'.Ns cenv.locals m' ∧ i ≤ n ∧ ys.length = i ∧ k = n + 1 - i ∧
      J i (hideAll h' (cenv.locals :: D :: (wr ++ (mtA ++ ex)))) mt ys ∧ MtOk g h' mtA mt ∧
      (∀ b o, b ≠ cenv.locals → b ∉ wr → b ≠ D → b ∉ mtA → s.heap.get? b = some o → h'.get? b = some o)) ?_ (n + 1)
    ⟨s.heap, s.toks, m, [], mt₀, 0, rfl, hst, hacc, hn, Nat.zero_le _, rfl, rfl, hJ, hm₀, fun _ _ _ _ _ _ e => e⟩
  rintro k s' ⟨H, tk, m', ys, mt, i, rfl, hst', hacc', hn', hi, hlen, rfl, hJ', hM, hk⟩
  by_cases hlt : i < n
  · refine W.item i _ _ _ hlt hst' fun v h₁ tk₁ hPv hst₁ hk₁ => ?_
    refine wpAny_assign_Name (wpAny_storeName_local hx (hn'.at' fun o e => hk₁ _ o hCw e) (fun h₂ hn₂ hs₂ => ?_) hp)
    have up₂ : ∀ b o, b ≠ cenv.locals → b ∉ wr → H.get? b = some o → h₂.get? b = some o := fun b o hbC hbf e => hs₂.extBut b o hbC (hk₁ b o hbf e)
    have hst₂ : St (i + 1) h₂ := W.frame _ _ _ hst₁ fun b hb o e => hs₂.extBut b o (fun h => hCf (h ▸ hb)) e
    refine wpAny_pure ?_
    show wpAny _ A (eval elt cenv) _ _ _
    have hgi : (hideAll H (cenv.locals :: D :: (wr ++ (mtA ++ ex)))).StaysIn h₂ := fun b o e => by
      have e' := of_hideAll _ e
      refine up₂ b o (fun q => ?_) (fun q => ?_) e'
      · rw [q, hideAll_none _ (.head _)] at e; cases e
      · rw [hideAll_none _ (.tail _ (.tail _ (List.mem_append_left _ q)))] at e; cases e
    have gne : ∀ b o, g.get? b = some o → b ≠ cenv.locals ∧ b ∉ wr ∧ b ≠ D ∧ b ∉ mtA := fun b o e => by
      refine ⟨Nat.ne_of_lt (Nat.lt_of_lt_of_le (Heap.lt_size e) hgz), fun q => ?_, fun q => ?_, fun q => ?_⟩
      · rw [hgw b q] at e; cases e
      · rw [q, hgD] at e; cases e
      · obtain ⟨o', ho', _⟩ := hm₀.2 b q
        have := (hm₀.1 _ ho').2.2
        simp only at this
        rw [this] at e; cases e
    have hF : Fr g cenv.locals h₂ (fun y => if y = x then some v else m' y) := ⟨hn₂, fun b o e => by
      obtain ⟨h1, h2, h3, h4⟩ := gne b o e
      exact up₂ b o h1 h2 (hk b o h1 h2 h3 h4 (hg b o e)), hgz⟩
    have hM₂ : MtOk g h₂ mtA mt := ⟨fun p hp => by
      obtain ⟨h1, h2, h3⟩ := hM.1 p hp
      exact ⟨up₂ _ _ (fun q => hmC (q ▸ h2)) (fun q => hmw _ q h2) h1, h2, h3⟩, hM.2⟩
    have hN : News g cenv.locals h₂ mt := fun p hp => by
      obtain ⟨h1, h2, h3⟩ := hM₂.1 p hp
      exact ⟨h1, fun q => hmC (q ▸ h2), h3⟩
    refine wpAny_mono (turn i v _ h₂ (tk₁ + 1) _ mt ys hlt hPv hgi hJ' hF (by simp) hN hM₂) (fun y s₄ h₄ => ?_) fun _ _ f => f.elim
    obtain ⟨h₃, tk₃, mt₃, rfl, hk₃, hM₃, hK⟩ := h₄
    have hst₃ : St (i + 1) h₃ := W.frame _ _ _ hst₂ fun b hb o e => by
      exact hk₃ b o (hmf b hb) e
    have hacc₃ : h₃.PlainList D (List.toArray ys) := by
      obtain ⟨nn, ho⟩ := hacc'
      exact ⟨nn, hk₃ _ _ hmD (up₂ _ _ hDC hDw ho)⟩
    have hn₃ := hn₂.at' (h' := h₃) fun o e => hk₃ _ o hmC e
    refine PySem.wpAny_list_append_plain (hsz := by simp; omega) hacc₃ fun h₅ hl₅ hs₅ => ?_
    refine ⟨n + 1 - (i + 1), by omega, h₅, tk₃, _, ys ++ [y], mt₃, i + 1, rfl, ?_, by simpa using hl₅, hn₃.sameBut hs₅ (Ne.symm hDC), hlt, by simp [hlen], rfl, ?_, ?_, ?_⟩
    · exact W.frame _ _ _ hst₃ fun b hb o e => hs₅.extBut b o (fun h => hDf (h ▸ hb)) e
    · refine hK _ (fun b o e => ?_) ?_
      · have e' := of_hideAll _ e
        have nb : b ∉ (cenv.locals :: D :: (wr ++ (mtA ++ ex))) := fun q => by rw [hideAll_none _ q] at e; cases e
        refine hideAll_get _ ?_ nb
        refine hs₅.extBut b o (fun q => nb (by rw [q]; exact .tail _ (.head _))) (hk₃ b o (fun q => nb (.tail _ (.tail _ (List.mem_append_right _ (List.mem_append_left _ q))))) (hgi b o e))
      · intro b xs hb
        have nb : b ∉ (cenv.locals :: D :: (wr ++ (mtA ++ ex))) := fun q => by
          rcases List.mem_cons.mp q with q | q
          · obtain ⟨o, ho, _, nn, hd⟩ := hb
            obtain ⟨o', es, ep, ho', hd', _⟩ := hn₃
            rw [q, ho'] at ho; cases ho
            rw [hd'] at hd; cases hd
          · rcases List.mem_cons.mp q with q | q
            · obtain ⟨o, ho, hc, _⟩ := hb
              obtain ⟨nn, ho'⟩ := hacc₃
              rw [q, ho'] at ho; cases ho
              simp at hc
            · rcases List.mem_append.mp q with q | q
              · exact hI _ _ hst₃ b q xs hb
              · rcases List.mem_append.mp q with q | q
                · obtain ⟨o', hm', hc'⟩ := hM₃.2 b q
                  obtain ⟨o, ho, hc, _⟩ := hb
                  have := (hM₃.1 _ hm').1
                  simp only at this
                  rw [this] at ho; cases ho
                  exact hc' hc
                · obtain ⟨e1, e2, e3, e4, o', ho', hc'⟩ := hex b q
                  obtain ⟨o, ho, hc, n, hd⟩ := hb
                  rw [hk₃ b o' e1 (up₂ b o' e3 e2 (hk b o' e3 e2 e4 e1 ho'))] at ho; cases ho
                  exact hc' _ _ hd
        obtain ⟨o, ho, r⟩ := hb
        exact ⟨o, hideAll_get _ (hs₅.extBut b o (fun q => nb (by rw [q]; exact .tail _ (.head _))) ho) nb, r⟩
    · refine ⟨fun p hp => ?_, hM₃.2⟩
      obtain ⟨h1, h2, h3⟩ := hM₃.1 p hp
      exact ⟨hs₅.extBut _ _ (fun q => hmD (q ▸ h2)) h1, h2, h3⟩
    · intro b o hbC hbw hbD hbm e
      exact hs₅.extBut b o hbD (hk₃ b o hbm (up₂ b o hbC hbw (hk b o hbC hbw hbD hbm e)))
  · have hin : i = n := by omega
    subst hin
    refine W.done _ _ _ hst' fun h₁ tk₁ hk₁ => ?_
    refine hR h₁ tk₁ m' ys mt (hideAll H (cenv.locals :: D :: (wr ++ (mtA ++ ex)))) (hn'.at' fun o e => hk₁ _ o hCw e) ?_ hlen (fun b o e => ?_) (hideAll_none _ (.head _)) (fun b hb => hideAll_none _ (.tail _ (.tail _ (List.mem_append_right _ (List.mem_append_right _ hb))))) hJ' ?_ fun b o hbC hbw hbD hbm e => hk₁ b o hbw (hk b o hbC hbw hbD hbm e)
    · obtain ⟨nn, ho⟩ := hacc'
      exact ⟨nn, hk₁ _ _ hDw ho⟩
    · have e' := of_hideAll _ e
      refine hk₁ b o (fun q => ?_) e'
      rw [hideAll_none _ (.tail _ (.tail _ (List.mem_append_left _ q)))] at e; cases e
    · refine ⟨fun p hp => ?_, hM.2⟩
      obtain ⟨h1, h2, h3⟩ := hM.1 p hp
      exact ⟨hk₁ _ _ (fun q => hmw _ q h2) h1, h2, h3⟩
end

section
variable {prog : Program} {w : World} {A : Around} {E : Value → Shared → Prop} {env : Env}

/-- what a comprehension asks at its iterator -/
noncomputable def CompAt (prog : Program) (w : World) (A : Around) (env : Env) (scope : Scope) (cl : List (Str × Addr)) (x : Str) (elt : PySem.Expr) (ex : List Addr) (Q : Value → Shared → Prop) (it : Value) (s₂ : Shared) : Prop :=
  ∃ (I : Addr) (fp wr : List Addr) (n : Nat) (P : Nat → Value → Prop) (St : Nat → Heap → Prop) (g : Heap) (mtA : List Addr) (mt₀ : List (Addr × Obj)) (J : Nat → Heap → List (Addr × Obj) → List Value → Prop),
    it = .ref I ∧ Walks prog w A I fp wr n P St ∧ n ≤ sizeLine ∧ St 0 s₂.heap ∧ (∀ b ∈ fp, b < s₂.heap.objs.size) ∧ (∀ i h, St i h → ∀ b ∈ wr, ∀ xs, ¬ IsTup h b xs) ∧
    g.StaysIn s₂.heap ∧ g.objs.size ≤ s₂.heap.objs.size ∧ (∀ b ∈ wr, g.get? b = none) ∧ (∀ b ∈ fp, b ∉ mtA) ∧ (∀ b ∈ ex, b ∉ mtA ∧ b ∉ wr ∧ ∃ o, s₂.heap.get? b = some o ∧ ∀ ys n, o.data ≠ .seq ys n) ∧ MtOk g s₂.heap mtA mt₀ ∧ (∀ gi, J 0 gi mt₀ []) ∧
    (∀ C i v gi h tk m mt ys, s₂.heap.objs.size ≤ C → i < n → P i v → gi.StaysIn h → J i gi mt ys → Fr g C h m → m x = some v → News g C h mt → MtOk g h mtA mt →
      wpAny (model prog w) A (eval elt (compEnvC scope cl C env)) (EltEnd g mtA gi (fun gi' mt' y => J (i + 1) gi' mt' (ys ++ [y])) { s₂ with heap := h, toks := tk }) (fun _ _ => False) { s₂ with heap := h, toks := tk }) ∧
    ∀ D h' tk ys mt gi, s₂.heap.get? D = none → h'.PlainList D (List.toArray ys) → ys.length = n → gi.StaysIn h' → J n gi mt ys → MtOk g h' mtA mt →
      (∀ b o, b ∉ wr → b ∉ mtA → b ∉ ex → s₂.heap.get? b = some o → h'.get? b = some o) → Q (.ref D) { s₂ with heap := h', toks := tk }

theorem compBlockJ {elt iter : PySem.Expr} {x : Str} {px : Pos} {scope : Scope} {cl : List (Str × Addr)} {pos : Pos} {it : Value} {s₂ : Shared} {RR : Value → Addr → Result → Shared → Prop} {ex : List Addr} {QD : Value → Shared → Prop}
    (hcell : ∀ y ∈ scope.names, y.2 ≠ .cell) (hkind : scope.kind = .function) (hx : scope.names.lookup x = some .local)
    (h : CompAt prog w A env scope cl x elt ex QD it s₂)
    (hRR : ∀ D C h' tk m', s₂.heap.get? C = none → s₂.heap.get? D = none → D ≠ C → h'.Ns C m' → (∃ ys, h'.PlainList D ys) → (∀ b ∈ ex, b ≠ C ∧ b ≠ D ∧ ∀ o, s₂.heap.get? b = some o → h'.get? b = some o) →
      (∀ h'', (∀ b o, b ≠ C → b ∉ ex → h'.get? b = some o → h''.get? b = some o) → ∀ tk, QD (.ref D) { s₂ with heap := h'', toks := tk }) → RR (.ref D) C (.ok .next) { s₂ with heap := h', toks := tk }) :
    wpAny (model prog w) A (newList []) (fun acc s₃ => wpAny (model prog w) A (newFunctionEnv scope env.globals cl [] env.qual none .none (some env)) (fun cenv s₄ =>
      codeAny (model prog w) A (.compStart (.ListComp elt [⟨.Name x px, iter, [], 0⟩] scope pos) 0 it acc { cenv with scope := relabel scope env }) (RR acc cenv.locals) s₄) E s₃) E s₂ := by
  obtain ⟨I, fp, wr, n, P, St, g, mtA, mt₀, J, rfl, W, hsz, hst, hfp, hI, hg, hgz, hgw, hmf, hex, hM, hJ, turn, done⟩ := h
  refine wpAny_newObj_type (wpAny_newFunctionEnv hcell (by intro y hy; simp at hy) (fun h₁ hns₁ hsb₁ => ?_) hkind)
  dsimp only at hns₁ hsb₁ ⊢
  generalize hH2 : s₂.heap.push { cls := .type "list", dict := none, data := .seq ([] : List Value).toArray } = H2 at hns₁ hsb₁ ⊢
  have hC : H2.objs.size = s₂.heap.objs.size + 1 := by rw [← hH2, Heap.size_push]
  have hDC : s₂.heap.objs.size ≠ H2.objs.size := by rw [hC]; exact Nat.ne_of_lt (Nat.lt_succ_self _)
  have hCle : s₂.heap.objs.size ≤ H2.objs.size := by rw [hC]; exact Nat.le_succ _
  have below : ∀ b, b < s₂.heap.objs.size → b ≠ H2.objs.size ∧ b ≠ s₂.heap.objs.size := fun b hb => ⟨by rw [hC]; exact Nat.ne_of_lt (Nat.lt_succ_of_lt hb), Nat.ne_of_lt hb⟩
  have hDf : s₂.heap.objs.size ∉ fp := fun hm => Nat.lt_irrefl _ (hfp _ hm)
  have hCf : H2.objs.size ∉ fp := fun hm => by have := hfp _ hm; rw [hC] at this; exact Nat.lt_irrefl _ (Nat.lt_of_succ_lt this)
  have old : ∀ b o, s₂.heap.get? b = some o → h₁.get? b = some o := fun b o e => hsb₁.extBut b o (below b (Heap.lt_size e)).1 (Heap.get?_push_of_some _ (hH2 ▸ Heap.get?_push_of_some _ e))
  have hacc : h₁.PlainList s₂.heap.objs.size #[] := ⟨_, hsb₁.extBut _ _ hDC (Heap.get?_push_of_some _ (hH2 ▸ Heap.get?_push_size _ rfl))⟩
  have hst₁ : St 0 h₁ := W.frame _ _ _ hst fun b _ o e => old b o e
  have fresh : ∀ a, s₂.heap.objs.size ≤ a → s₂.heap.get? a = none := fun a ha => by
    cases e : s₂.heap.get? a with
    | none => rfl
    | some o' => exact absurd (Heap.lt_size e) (Nat.not_lt.mpr ha)
  have mlt : ∀ b ∈ mtA, b < s₂.heap.objs.size := fun b hb => by
    obtain ⟨o, ho, _⟩ := hM.2 b hb
    exact Heap.lt_size (hM.1 _ ho).1
  have loop : ∀ s₃ : Shared, s₃ = { s₂ with heap := h₁, toks := s₂.toks + ([] : List (Str × Value)).length } →
      codeAny (model prog w) A (.compLoop (.ListComp elt [⟨.Name x px, iter, [], 0⟩] scope pos) 0 (.ref I) (.ref s₂.heap.objs.size) (compEnvC scope cl H2.objs.size env))
        (RR (.ref s₂.heap.objs.size) H2.objs.size) s₃ := by
    rintro s₃ rfl
    refine compLoopJ (cenv := compEnvC scope cl H2.objs.size env) W (g := g) (mtA := mtA) ex J (lookup_relabel_local hx) (by simp [compEnvC, relabel, hkind]) hDC hDf hCf hst₁ hacc hns₁ hI
      (fun b o e => old b o (hg b o e)) (Nat.le_trans hgz hCle) hgw ?_ (fun hm => (below _ (mlt _ hm)).1 rfl) (fun hm => (below _ (mlt _ hm)).2 rfl) hmf ?_ ?_ (hJ _) ?_ ?_ hsz
    · cases q : g.get? s₂.heap.objs.size with
      | none => rfl
      | some o => exact absurd (Heap.lt_size (hg _ _ q)) (Nat.lt_irrefl _)
    · intro b hb
      obtain ⟨e1, e2, o, ho, hc⟩ := hex b hb
      exact ⟨e1, e2, (below b (Heap.lt_size ho)).1, (below b (Heap.lt_size ho)).2, o, old _ _ ho, hc⟩
    · exact ⟨fun p hp => ⟨old _ _ (hM.1 p hp).1, (hM.1 p hp).2⟩, hM.2⟩
    · intro i v gi h tk m mt ys hi hP hgi hJ F hm N M
      exact turn _ i v gi h tk m mt ys hCle hi hP hgi hJ F hm N M
    · intro h' tk m' ys mt gi hn ha hlen hgi hgC hgx hJ M hk
      have hgC' : gi.get? H2.objs.size = none := hgC
      have exlt : ∀ b ∈ ex, b < s₂.heap.objs.size := fun b hb => by
        obtain ⟨_, _, o, ho, _⟩ := hex b hb
        exact Heap.lt_size ho
      refine hRR _ _ h' tk m' (fresh _ hCle) (fresh _ (Nat.le_refl _)) hDC hn ⟨_, ha⟩ (fun b hb => ⟨(below b (exlt b hb)).1, (below b (exlt b hb)).2, fun o e => ?_⟩) fun h'' hs tk' => ?_
      · exact hk _ _ (below _ (Heap.lt_size e)).1 (hex b hb).2.1 (below _ (Heap.lt_size e)).2 (hex b hb).1 (old _ _ e)
      · refine done _ h'' tk' ys mt gi (fresh _ (Nat.le_refl _)) ?_ hlen (fun b o e => ?_) hJ ?_ fun b o hbw hbm hbx e => ?_
        · obtain ⟨nn, ho⟩ := ha
          exact ⟨nn, hs _ _ hDC (fun q => (below _ (exlt _ q)).2 rfl) ho⟩
        · exact hs b o (fun q => by rw [q, hgC'] at e; cases e) (fun q => by rw [hgx b q] at e; cases e) (hgi b o e)
        · exact ⟨fun p hp => ⟨hs _ _ (below _ (mlt _ (M.1 p hp).2.1)).1 (fun q => (hex _ q).1 (M.1 p hp).2.1) (M.1 p hp).1, (M.1 p hp).2⟩, M.2⟩
        · exact hs b o (below b (Heap.lt_size e)).1 hbx (hk b o (below b (Heap.lt_size e)).1 hbw (below b (Heap.lt_size e)).2 hbm (old b o e))
  exact codeAny_compStart_list (loop _ rfl) (W.self 0 _ _ _ hst₁ (loop _ rfl))

theorem eval_ListCompJ {s : Shared} {elt iter : PySem.Expr} {x : Str} {px : Pos} {scope : Scope} {cl : List (Str × Addr)} {pos : Pos} {Q : Value → Shared → Prop}
    (hclos : closureFor scope env = pure cl) (hcell : ∀ y ∈ scope.names, y.2 ≠ .cell) (hkind : scope.kind = .function)
    (hnames : ∀ y ∈ scope.names, y.2 = .local → scope.names.lookup y.1 = some .local) (hx : scope.names.lookup x = some .local)
    (h : wpAny (model prog w) A (eval iter env) (fun xv s₁ => wpAny (model prog w) A (pyIter xv) (fun it s₂ => CompAt prog w A env scope cl x elt [] Q it s₂) E s₁) E s)
    (hs : ∀ x, foldedSetIterable iter env x = pure x) :
    wpAny (model prog w) A (eval (.ListComp elt [⟨.Name x px, iter, [], 0⟩] scope pos) env) Q E s := by
  rw [eval_ListComp]
  refine wpAny_comprehension_free (use := none) rfl hs hclos hkind hnames (wpAny_mono h (fun xv s₁ h₁ => wpAny_mono h₁ (fun it s₂ h₂ => ?_) fun _ _ e => e) fun _ _ e => e)
  refine compBlockJ (RR := fun acc C => compPost (model prog w) A E none Q acc C) hcell hkind hx h₂ ?_
  intro D C h' tk m' hC hD hDC hn hl hx' hq
  exact ⟨m', hn, fun h'' hs'' => hq h'' (fun b o hb _ e => hs''.extBut b o hb e) tk⟩

theorem assign_ListCompJ {s : Shared} {elt iter : PySem.Expr} {x y : Str} {px py : Pos} {scope : Scope} {cl : List (Str × Addr)} {pos spos : Pos} {Q : Flow → Shared → Prop}
    (hsw : swapsWith (.ListComp elt [⟨.Name x px, iter, [], 0⟩] scope pos) (some (.Name y py)) spos.line env = pure true)
    (hclos : closureFor scope env = pure cl) (hcell : ∀ z ∈ scope.names, z.2 ≠ .cell) (hkind : scope.kind = .function)
    (hnames : ∀ z ∈ scope.names, z.2 = .local → scope.names.lookup z.1 = some .local) (hx : scope.names.lookup x = some .local)
    (hy : env.kindOf y = some .local) (hp : (env.scope.kind == .class || (env.scope.kind == .module && env.locals != env.globals)) = false)
    (h : wpAny (model prog w) A (eval iter env) (fun xv s₁ => wpAny (model prog w) A (pyIter xv) (fun it s₂ => ∃ m, s₂.heap.Ns env.locals m ∧
      CompAt prog w A env scope cl x elt [env.locals] (fun d s' => s'.heap.Ns env.locals (fun z => if z = y then some d else m z) → Q .next s') it s₂) E s₁) E s)
    (hs : ∀ x, foldedSetIterable iter env x = pure x) :
    wpAny (model prog w) A (exec (.Assign [.Name y py] (.ListComp elt [⟨.Name x px, iter, [], 0⟩] scope pos) spos) env) Q E s := by
  rw [exec_Assign_Name_used _ _ _ _ hsw]
  refine wpAny_bind (wpAny_standAt (wpAny_bind ?_))
  show wpAny _ A (do let _ ← comprehension (.ListComp elt [⟨.Name x px, iter, [], 0⟩] scope pos) scope env _ (newList []) false (eval iter env) (some (assign (.Name y py) env))) _ _ s
  refine wpAny_bind (wpAny_mono (wpAny_comprehension_free (use := some (assign (.Name y py) env)) (Q := fun _ s' => Q .next s') rfl hs hclos hkind hnames
    (wpAny_mono h (fun xv s₁ h₁ => wpAny_mono h₁ (fun it s₂ h₂ => ?_) fun _ _ e => e) fun _ _ e => e)) (fun _ s' hq => wpAny_pure (wpAny_pure hq)) fun _ _ e => e)
  obtain ⟨m, hn, h₂⟩ := h₂
  refine compBlockJ (RR := fun acc C => compPost (model prog w) A E (some (assign (.Name y py) env)) (fun _ s' => Q .next s') acc C) hcell hkind hx h₂ ?_
  intro D C h' tk m' hC hD hDC hnC hl hx' hq
  obtain ⟨hLC, hLD, hLk⟩ := hx' env.locals (List.mem_singleton.mpr rfl)
  show wpAny _ A (assign (.Name y py) env (.ref D)) _ _ _
  refine wpAny_assign_Name (wpAny_storeName_local hy (hn.at' hLk) (fun h₂ hn₂ hs₂ => ?_) hp)
  refine ⟨m', hnC.sameBut hs₂ (Ne.symm hLC), fun h₃ hs₃ => ?_⟩
  refine hq h₃ (fun b o hb hbx e => hs₃.extBut b o hb (hs₂.extBut b o (fun q => hbx (List.mem_singleton.mpr q)) e)) _ ?_
  exact hn₂.sameBut hs₃ hLC
end
end

-- Ops
section
inductive Op where
  | jump (n : Nat)
  | test (c : Bool) (n : Nat)
  | key (k : Str) (n : Nat)
  | choose (a b : Nat)
  | stop (w : Str)
  | leave
  | deed (d : D)
  | push
  | put (n : Nat)
  | calc (n : Nat)

noncomputable abbrev sD (x : String) : D := .str (Str.ofString x)
noncomputable def condD : Bool → D
  | false => .tup [sD "sign", sD "ZERO", .tup [sD "number", .tup [.int 0, .int 0]]]
  | true => .tup [sD "class", sD "NUMERIC", .tup [sD "text", .bytes #[65]]]

/-- the kind, the second item, the rest -/
noncomputable def Op.kind : Op → String
  | .jump _ => "jump" | .test _ _ => "test" | .key _ _ => "key" | .choose _ _ => "choose" | .stop _ => "stop" | .leave => "leave"
  | .deed _ => "do" | .push => "push" | .put _ => "put" | .calc _ => "calc"
noncomputable def Op.arg : Op → D
  | .jump n => .int n | .test c _ => condD c | .key k _ => .str k | .choose a b => .tup [.int a, .int b] | .stop w => .str w | .leave => .int 0
  | .deed d => d | .push => .tup [sD "number", .tup [.int 1, .int 0]] | .put _ => .tup [sD "row", .int 1] | .calc _ => sD "+"
noncomputable def Op.rest : Op → List D
  | .test _ n => [.int n] | .key _ n => [.int n] | .push => [.int (-1)] | .put n => [.int n] | .calc n => [.int n]
  | _ => []
noncomputable def Op.d (o : Op) : D := .tup (sD o.kind :: o.arg :: o.rest)
noncomputable def Op.last : Op → Nat
  | .jump n => n | .test _ n => n | .key _ n => n | _ => 0

noncomputable def Op.labs : Op → List Nat
  | .jump n => [n] | .test _ n => [n] | .key _ n => [n] | .choose a b => [a, b] | .put n => [n] | .calc n => [n]
  | _ => []

/-- the like of a test or key -/
noncomputable def like : Op → Op → Bool
  | .test c _, .test c' _ => c == c'
  | .key k _, .key k' _ => k == k'
  | _, _ => false
noncomputable def isJump : Op → Bool
  | .jump _ => true
  | _ => false
noncomputable def isAsk : Op → Bool
  | .test _ _ => true
  | .key _ _ => true
  | _ => false

theorem cond_cmp (c c' : Bool) : cmp (condD c) (condD c') = some (c == c') := by
  cases c <;> cases c' <;> first | exact cmp_self _ | (simp [condD, cmp, cmpL]; decide)
theorem kind_jump (o : Op) : (Str.ofString o.kind == Str.ofString "jump") = isJump o := by cases o <;> (simp only [Op.kind, isJump]; decide)
theorem kind_like {o q : Op} (hq : isAsk q = true) (h : (Str.ofString o.kind == Str.ofString q.kind) = true) : cmp o.arg q.arg = some (like o q) := by
  cases q <;> simp only [isAsk, Bool.false_eq_true] at hq <;> cases o <;> simp only [Op.kind] at h <;> first | exact absurd h (by decide) | (simp only [Op.arg, like]; first | exact cond_cmp _ _ | rfl)
theorem kind_unlike {o q : Op} (h : (Str.ofString o.kind == Str.ofString q.kind) = false) : like o q = false := by
  cases q <;> cases o <;> first | rfl | (simp only [Op.kind] at h; exact absurd h (by decide))
theorem cond_depth (c : Bool) : (condD c).depth ≤ 5 := by cases c <;> decide
theorem kind_depth {o q : Op} (hq : isAsk q = true) (h : (Str.ofString o.kind == Str.ofString q.kind) = true) : o.arg.depth ≤ 5 := by
  cases q <;> simp only [isAsk, Bool.false_eq_true] at hq <;> cases o <;> simp only [Op.kind] at h <;> first | exact absurd h (by decide) | exact cond_depth _ | exact Nat.zero_le _
noncomputable def likeO : Option Op → Op → Bool
  | none, _ => false
  | some q, o => like o q
noncomputable def passes (a : Option Op) (ops : List Op) (n : Nat) : Bool := match ops[n]? with
  | none => false
  | some o => isJump o || likeO a o

noncomputable def lastAt (ops : List Op) (l : Nat) : Nat := match ops[l]? with
  | some o => o.last
  | none => 0
/-- fuel turns along the way -/
noncomputable def chase (q : Option Op) (ops : List Op) : Nat → Nat → Option Nat
  | 0, _ => none
  | k + 1, l => if passes q ops l then chase q ops k (lastAt ops l) else some l
noncomputable def ask (o : Op) : Option Op := if isAsk o then some o else none
noncomputable def wayOn (ops : List Op) (o : Op) (l : Nat) : Nat := match chase (ask o) ops (ops.length + 1) l with
  | some e => e
  | none => match chase none ops (ops.length + 1) l with
    | some e => e
    | none => l

/-- a list of ops in the heap -/
noncomputable def OpsAt (h : Heap) (a : Addr) (ops : List Op) : Prop := ∃ vs, h.IsList a (List.toArray vs) ∧ DAll h vs (ops.map Op.d)
noncomputable def Asked (h : Heap) (v : Value) : Option Op → Prop
  | none => v = .none
  | some q => isAsk q = true ∧ DIn h v q.d
theorem Asked.keeps {h h' : Heap} (k : h.StaysIn h') {v : Value} : ∀ {q : Option Op}, Asked h v q → Asked h' v q
  | none, x => x
  | some _, x => ⟨x.1, x.2.keeps k⟩
theorem OpsAt.keeps {h h' : Heap} (k : h.StaysIn h') {a : Addr} {ops : List Op} (x : OpsAt h a ops) : OpsAt h' a ops := let ⟨vs, h1, h2⟩ := x; ⟨vs, let ⟨o, ho, r⟩ := h1; ⟨o, k _ _ ho, r⟩, h2.keeps k⟩
theorem OpsAt.get {h : Heap} {vs : List Value} {ops : List Op} (x : DAll h vs (ops.map Op.d)) {n : Nat} {o : Op} (e : ops[n]? = some o) : ∃ t tk v1 r, vs[n]? = some (.ref t) ∧ IsTup h t (Value.str (Str.ofString o.kind) tk :: v1 :: r).toArray ∧ DIn h v1 o.arg ∧ DAll h r o.rest := by
  obtain ⟨v, h1, h2⟩ := x.get (k := n) (d := o.d) (by rw [List.getElem?_map, e]; rfl)
  cases h2 with
  | tup ht ha =>
    cases ha with
    | cons hk ha =>
      cases hk
      cases ha with
      | cons h1' ha => exact ⟨_, _, _, _, h1, ht, h1', ha⟩
theorem DIn.op {h : Heap} {v : Value} {o : Op} (x : DIn h v o.d) : ∃ t tk v1 r, v = .ref t ∧ IsTup h t (Value.str (Str.ofString o.kind) tk :: v1 :: r).toArray ∧ DIn h v1 o.arg ∧ DAll h r o.rest := by
  cases x with
  | tup ht ha =>
    cases ha with
    | cons hk ha =>
      cases hk
      cases ha with
      | cons h1' ha => exact ⟨_, _, _, _, rfl, ht, h1', ha⟩
end

-- Steps
section
theorem item_list {prog : Program} {w : World} {A : Around} {E : Value → Shared → Prop} {s : Shared} {g : Heap} {L : Addr} {m : Str → Option Value} {value slice : PySem.Expr} {l : Addr} {vs : List Value} {k : Int} {u : Tok} {v : Value} {Q : Value → Shared → Prop}
    (F : Fr g L s.heap m) (hl : g.IsList l vs.toArray) (h0 : 0 ≤ k) (hhi : k < 2 ^ 63) (hx : vs[k.toNat]? = some v) (h : Q v s)
    (hs : subscripted slice false (.ref l) (.int k u) = operate [.ref l, .int k u] (getItem (.ref l) (.int k u)) := by with_unfolding_all rfl) :
    wpAny (model prog w) A (subscriptTail value slice (.ref l) (.int k u)) Q E s :=
  have hl' : s.heap.IsList l vs.toArray := hl.at fun o e => F.keep l o e
  tail_any hl'.typeIs slot_list_getitem.lookup (wpAny_getItem_list hl' h0 hhi (by simpa using hx) h) hs
theorem item_tup {prog : Program} {w : World} {A : Around} {E : Value → Shared → Prop} {s : Shared} {g : Heap} {L : Addr} {m : Str → Option Value} {value slice : PySem.Expr} {l : Addr} {vs : List Value} {k : Int} {u : Tok} {v : Value} {j : Nat} {Q : Value → Shared → Prop}
    (F : Fr g L s.heap m) (hl : IsTup g l vs.toArray) (hlo : -(2 ^ 63) ≤ k) (hhi : k < 2 ^ 63) (hj : seqIndex? k vs.length = some j) (hx : vs[j]? = some v) (h : Q v s)
    (hs : subscripted slice false (.ref l) (.int k u) = operate [.ref l, .int k u] (getItem (.ref l) (.int k u)) := by with_unfolding_all rfl) :
    wpAny (model prog w) A (subscriptTail value slice (.ref l) (.int k u)) Q E s :=
  item_tupleT (hl.keeps F.keep) hlo hhi hj hx h hs

theorem seq_0 (n : Nat) : seqIndex? 0 (n + 1) = some 0 := by
  have h : (decide ((0 : Int) ≤ 0) && decide ((0 : Int) < ((n + 1 : Nat) : Int))) = true := by simp
  simp only [seqIndex?, Int.lt_irrefl, if_false, h, if_true]; rfl
theorem seq_1 (n : Nat) : seqIndex? 1 (n + 1 + 1) = some 1 := by
  have h : (decide ((0 : Int) ≤ 1) && decide ((1 : Int) < ((n + 1 + 1 : Nat) : Int))) = true := by simp; omega
  simp only [seqIndex?, show ¬ ((1 : Int) < 0) from by decide, if_false, h, if_true]; rfl
theorem passes_op {q : Option Op} {ops : List Op} {f : Nat} (h : passes q ops f = true) : ∃ o, ops[f]? = some o ∧ (isJump o = true ∨ isAsk o = true) := by
  unfold passes at h
  split at h
  · cases h
  · rename_i o e
    refine ⟨o, e, ?_⟩
    rcases Bool.or_eq_true_iff.mp h with h | h
    · exact .inl h
    · cases q with
      | none => cases h
      | some q => cases q <;> cases o <;> simp_all [likeO, like, isAsk]
/-- an op that leads on, in the heap -/
noncomputable def OpT (g : Heap) (t : Addr) (o : Op) : Prop := ∃ tk v1 r, IsTup g t (Value.str (Str.ofString o.kind) tk :: v1 :: r).toArray ∧ DIn g v1 o.arg ∧ DAll g r o.rest
theorem item_op {prog : Program} {w : World} {A : Around} {E : Value → Shared → Prop} {s : Shared} {g : Heap} {L : Addr} {m : Str → Option Value} {value slice : PySem.Expr} {a : Addr} {ops : List Op} {f : Nat} {k : Int} {u : Tok} {q : Option Op} {Q : Value → Shared → Prop}
    (F : Fr g L s.heap m) (hO : OpsAt g a ops) (e : k = (f : Int)) (hp : passes q ops f = true) (hf : f < 1000)
    (hs : subscripted slice false (.ref a) (.int k u) = operate [.ref a, .int k u] (getItem (.ref a) (.int k u)))
    (h : ∀ t o, ops[f]? = some o → (isJump o = true ∨ isAsk o = true) → OpT g t o → Q (.ref t) s) :
    wpAny (model prog w) A (subscriptTail value slice (.ref a) (.int k u)) Q E s := by
  subst e
  obtain ⟨vs, hl, hd⟩ := hO
  obtain ⟨o, ho, hk⟩ := passes_op hp
  obtain ⟨t, tk, v1, r, hx, ht, h1, hr⟩ := OpsAt.get hd ho
  exact item_list F hl (by omega) (by omega) (by simpa using hx) (h t o ho hk ⟨tk, v1, r, ht, h1, hr⟩) hs
theorem item_last {prog : Program} {w : World} {A : Around} {E : Value → Shared → Prop} {s : Shared} {g : Heap} {L : Addr} {m : Str → Option Value} {value slice : PySem.Expr} {t : Addr} {o : Op} {k : Int} {u : Tok} {Q : Value → Shared → Prop}
    (F : Fr g L s.heap m) (ht : OpT g t o) (hk : isJump o = true ∨ isAsk o = true) (e : k = -1)
    (hs : subscripted slice false (.ref t) (.int k u) = operate [.ref t, .int k u] (getItem (.ref t) (.int k u)))
    (h : ∀ tk, Q (.int o.last tk) s) :
    wpAny (model prog w) A (subscriptTail value slice (.ref t) (.int k u)) Q E s := by
  subst e
  obtain ⟨tk, v1, r, ht, h1, hr⟩ := ht
  cases o <;> simp only [isJump, isAsk, Bool.false_eq_true, or_false, false_or, or_self] at hk
  · cases h1
    cases hr
    exact item_tup F ht (by decide) (by decide) (j := 1) rfl rfl (h _) hs
  all_goals
    cases hr with
    | cons h2 hr =>
      cases h2
      cases hr
      exact item_tup F ht (by decide) (by decide) (j := 2) rfl rfl (h _) hs
theorem lastAt_of {ops : List Op} {f : Nat} {o : Op} (e : ops[f]? = some o) : lastAt ops f = o.last := by simp [lastAt, e]
theorem len_l {prog : Program} {w : World} {A : Around} {E : Value → Shared → Prop} {s : Shared} {g : Heap} {L : Addr} {m : Str → Option Value} {l : Addr} {vs : List Value} {Q : Value → Shared → Prop}
    (F : Fr g L s.heap m) (hl : g.IsList l vs.toArray) (hn : vs.length < 1000) (h : Q (.int vs.length (s.toks + 1)) { s with toks := s.toks + 1 + 1 }) :
    wpAny (model prog w) A (call (.builtin "len") [.ref l]) Q E s :=
  have hl' : s.heap.IsList l vs.toArray := hl.at fun o e => F.keep l o e
  len_list hl' (by simp; omega) (by simpa using h)
end

-- Loops
section
open PySem PySem.W PySem.Calls PyProof.Rows PySem.SeqAt PyProof.V PySem.Spec
section
variable {prog : Program} {w : World} {A : Around} {E : Value → Shared → Prop} {s : Shared} {env : Env} {h₀ : Heap} {x : Str} {body : List Stmt} {Q : Flow → Shared → Prop}

/-- the end of a turn, by what holds of the names -/
noncomputable def TurnJ (h₀ : Heap) (L : Addr) (need : List (Addr × Obj)) (J : (Str → Option Value) → Prop) (s₁ : Shared) (Q : Flow → Shared → Prop) (f : Flow) (s₂ : Shared) : Prop :=
  match f with
  | .ret v => Q (.ret v) s₂
  | .brk => Q .next s₂
  | _ => ∃ h' tk m' news', s₂ = { s₁ with heap := h', toks := tk } ∧ Fr h₀ L h' m' ∧ News h₀ L h' news' ∧ (∀ p ∈ need, p ∈ news') ∧ J m'

theorem iter_rangeJ {r : Addr} {a₀ b₀ : Int} {t₀ u₀ v₀ : Tok} {n : Nat} {m₀ : Str → Option Value} {news : List (Addr × Obj)} (J : Nat → (Str → Option Value) → Prop)
    (hh : A.handled = none) (hr : IsRange s.heap r a₀ b₀ 1 t₀ u₀ v₀) (hsmall : Builtin.Range.small a₀ b₀ 1 = true) (hn : Builtin.Range.rangeSize a₀ b₀ 1 = (n : Int)) (F : Fr h₀ env.locals s.heap m₀) (N : News h₀ env.locals s.heap news)
    (h0 : J 0 m₀)
    (turn : ∀ i k t m₁ I o h tk, i < n → J i m₁ → Fr h₀ env.locals h (fun y => if y = x then some (.int k t) else m₁ y) → News h₀ env.locals h ((I, o) :: news) →
      wpAny (model prog w) A (execs body env) (TurnJ h₀ env.locals ((I, o) :: news) (J (i + 1)) { s with heap := h, toks := tk } Q) E { s with heap := h, toks := tk })
    (done : ∀ m₁ h tk, J n m₁ → Fr h₀ env.locals h m₁ → News h₀ env.locals h news → Q .next { s with heap := h, toks := tk }) :
    wpAny (model prog w) A (pyIter (.ref r)) (fun it s₂ => LoopAtV prog w A h₀ env x body Q E it s₂) E s := by
  refine wpAny_pyIter_range hr hsmall ?_
  have W : Walks prog w A s.heap.objs.size [s.heap.objs.size] [s.heap.objs.size] n (fun i v => i < n ∧ ∃ t, v = .int (a₀ + i * 1) t)
      (fun i h => IsRangeIter h s.heap.objs.size (a₀ + (i : Nat) * 1) ((n : Int) - (i : Nat)) 1) := (Walks.range hh _ a₀ 1 n).bound
  have hne : env.locals ≠ s.heap.objs.size := Nat.ne_of_lt F.ns.lt
  have hIs := next_is_new (h₀ := h₀) (L := env.locals) F
  refine ⟨_, _, _, n, _, _, m₀, news, fun i m₁ news₁ => news₁ = news ∧ J i m₁, rfl, W, by simpa using hne, ?_, ?_, ?_, F.push _, (fun p hp => ⟨Heap.get?_push_of_some _ (N p hp).1, (N p hp).2⟩), ⟨rfl, h0⟩, ?_, ?_⟩
  · intro b hb
    rw [List.mem_singleton.mp hb]
    exact hIs
  · intro p hp hI
    exact absurd (Heap.lt_size (N p hp).1) ((List.mem_singleton.mp hI) ▸ Nat.lt_irrefl _)
  · show IsRangeIter _ _ _ _ _
    rw [hn]
    simpa using Heap.get?_push_size _ rfl
  · rintro i v m₁ news₁ s₁ own ⟨h, tk, rfl⟩ hi ⟨_, t, rfl⟩ ⟨rfl, hJ⟩ hoff hown hat hall hst F₁ N₁
    have hst' : IsRangeIter h s.heap.objs.size (a₀ + ((i + 1 : Nat) : Int) * 1) ((n : Int) - ((i + 1 : Nat) : Int)) 1 := hst
    obtain ⟨o, ho⟩ : ∃ o, h.get? s.heap.objs.size = some o := ⟨_, hst'⟩
    have hio : (s.heap.objs.size, o) ∈ own := hall _ (List.mem_singleton.mpr rfl) hIs o ho
    have hone : ∀ p ∈ own, p = (s.heap.objs.size, o) := own_one (h₀ := h₀) hown (fun b hb => .inl (List.mem_singleton.mp hb)) ho N₁
    refine wpAny_mono (turn i _ t m₁ _ o h tk hi hJ F₁ (news_one hio N₁)) (fun f s₂ p => ?_) fun _ _ e => e
    have fin : (∃ h' tk' m' news', s₂ = { s with heap := h', toks := tk' } ∧ Fr h₀ env.locals h' m' ∧ News h₀ env.locals h' news' ∧ (∀ p ∈ (s.heap.objs.size, o) :: news₁, p ∈ news') ∧ J (i + 1) m') →
        LoopStepU h₀ env.locals [s.heap.objs.size] own (fun m₁ news₁' => news₁' = news₁ ∧ J (i + 1) m₁) { s with heap := h, toks := tk } .next s₂ := by
      rintro ⟨h', tk', m', news', rfl, F', N', hn', hJ'⟩
      exact ⟨rfl, h', tk', m', news₁, rfl, F', fun p hp => N' p (need_one hone hn' p hp), hoff, rfl, hJ'⟩
    cases f with
    | ret v => exact .ret p
    | brk => exact .brk p
    | next => exact .next (fin p)
    | cont => exact .cont (fin p)
  · rintro h' tk m' news' F' N' _ ⟨rfl, hJ⟩
    exact done m' h' tk hJ F' N'
end

section
variable {prog : Program} {w : World} {A : Around} {E : Value → Shared → Prop} {s : Shared} {env : Env} {h₀ : Heap} {body : List Stmt} {Q : Flow → Shared → Prop}
noncomputable abbrev foundS : Str := Str.ofString "found"
noncomputable abbrev turnS : Str := Str.ofString "turn"
noncomputable def JW (q : Option Op) (ops : List Op) (m₀ : Str → Option Value) (n : Nat) (i : Nat) (m₁ : Str → Option Value) : Prop :=
  ∃ (f tk : Nat) (u : Option Value), m₁ = (fun y => if y = foundS then some (.int f tk) else if y = turnS then u else m₀ y) ∧ f < 1000 ∧ chase q ops (ops.length + 1) n = chase q ops (ops.length + 1 - i) f

theorem way_iter {r a : Addr} {b₀ : Int} {t₀ u₀ v₀ : Tok} {n : Nat} {tk₀ : Tok} {m₀ : Str → Option Value} {news : List (Addr × Obj)} {q : Option Op} {ops : List Op} {av : Value}
    (hh : A.handled = none) (hr : IsRange s.heap r 0 b₀ 1 t₀ u₀ v₀) (hb : b₀ = (ops.length : Int) + 1) (hn : ops.length < 900) (hn' : n < 1000)
    (F : Fr h₀ env.locals s.heap m₀) (N : News h₀ env.locals s.heap news)
    (_ho : m₀ (Str.ofString "ops") = some (.ref a)) (_hO : OpsAt h₀ a ops)
    (_hav : m₀ (Str.ofString "asked") = some av) (_hA : Asked h₀ av q) (hf : m₀ foundS = some (.int (n : Nat) tk₀))
    (turn : ∀ i (f : Nat) tk' k t u I o h tk, i < ops.length + 1 → f < 1000 → chase q ops (ops.length + 1) n = chase q ops (ops.length + 1 - i) f →
      Fr h₀ env.locals h (fun y => if y = turnS then some (.int k t) else if y = foundS then some (.int (f : Nat) tk') else if y = turnS then u else m₀ y) → News h₀ env.locals h ((I, o) :: news) →
      wpAny (model prog w) A (execs body env) (TurnJ h₀ env.locals ((I, o) :: news) (JW q ops m₀ n (i + 1)) { s with heap := h, toks := tk } Q) E { s with heap := h, toks := tk })
    (done : ∀ (f : Nat) tk' u h tk, chase q ops (ops.length + 1) n = none → Fr h₀ env.locals h (fun y => if y = foundS then some (.int (f : Nat) tk') else if y = turnS then u else m₀ y) → News h₀ env.locals h news → Q .next { s with heap := h, toks := tk }) :
    wpAny (model prog w) A (pyIter (.ref r)) (fun it s₂ => LoopAtV prog w A h₀ env turnS body Q E it s₂) E s := by
  refine iter_rangeJ (n := ops.length + 1) (JW q ops m₀ n) hh hr ?_ ?_ F N ⟨n, tk₀, m₀ turnS, ?_, hn', rfl⟩ ?_ ?_
  · subst hb; exact small_one (by decide) (by decide) (by omega) (by omega)
  · subst hb
    simp only [Builtin.Range.rangeSize]
    rw [if_pos (by decide), if_pos (by omega)]
    simp
  · funext y
    by_cases h1 : y = foundS
    · rw [if_pos h1, h1, hf]
    · rw [if_neg h1]
      by_cases h2 : y = turnS
      · rw [if_pos h2, h2]
      · rw [if_neg h2]
  · rintro i k t m₁ I o h tk hi ⟨f, tk', u, rfl, hf', hc⟩ F₁ N₁
    exact turn i f tk' k t u I o h tk hi hf' hc F₁ N₁
  · rintro m₁ h tk ⟨f, tk', u, rfl, hf', hc⟩ F₁ N₁
    rw [Nat.sub_self] at hc
    exact done f tk' u h tk hc F₁ N₁
theorem truthy_known {M : Model} {A : Around} {E : Value → Shared → Prop} {s : Shared} {Q : Bool → Shared → Prop} {c b : Bool} (h : c = b) (k : Q b s) : wpAny M A (truthy (.bool c)) Q E s := by subst h; exact wpAny_truthy_bool k
theorem ask_kind (o : Op) : (([Str.ofString "test", Str.ofString "key"] : List Str).any fun x => x == Str.ofString o.kind) = isAsk o := by cases o <;> (simp only [Op.kind, isAsk]; decide)
theorem turnJ_mk {h₀ : Heap} {L : Addr} {need news' : List (Addr × Obj)} {J : (Str → Option Value) → Prop} {s₁ : Shared} {Q : Flow → Shared → Prop} {h' : Heap} {tk : Nat} {m' : Str → Option Value}
    (F : Fr h₀ L h' m') (N : News h₀ L h' news') (hn : ∀ p ∈ need, p ∈ news') (hJ : J m') : TurnJ h₀ L need J s₁ Q .next { s₁ with heap := h', toks := tk } := ⟨h', tk, m', news', rfl, F, N, hn, hJ⟩
theorem jw_next {q : Option Op} {ops : List Op} {m₀ m : Str → Option Value} {n i f tk : Nat} {o : Op} {u : Option Value} (hi : i < ops.length + 1) (hc : chase q ops (ops.length + 1) n = chase q ops (ops.length + 1 - i) f)
    (hp : passes q ops f = true) (ho : ops[f]? = some o) (hb : ∀ q ∈ ops, q.last < 1000) (hm : m = (fun y => if y = foundS then some (.int (o.last : Nat) tk) else if y = turnS then u else m₀ y)) : JW q ops m₀ n (i + 1) m := by
  refine ⟨o.last, tk, u, hm, hb o (List.mem_of_getElem? ho), ?_⟩
  rw [hc, show ops.length + 1 - i = (ops.length + 1 - (i + 1)) + 1 from by omega, chase, if_pos hp, lastAt_of ho]
theorem jw_norm {m₀ : Str → Option Value} {a k b : Value} {u : Option Value} : (fun y => if y = foundS then some a else if y = turnS then some k else if y = foundS then some b else if y = turnS then u else m₀ y) = fun y => if y = foundS then some a else if y = turnS then some k else m₀ y := by
  funext y
  by_cases h1 : y = foundS
  · simp [h1]
  · by_cases h2 : y = turnS
    · simp [h1, h2]
    · simp [h1, h2]
theorem way_a {ops : List Op} {o : Op} {n f : Nat} {q : Option Op} (hq : ask o = q) (h : chase q ops (ops.length + 1) n = some f) : wayOn ops o n = f := by simp [wayOn, hq, h]
theorem way_b {ops : List Op} {o : Op} {n f : Nat} {q : Option Op} (hq : ask o = q) (h : chase q ops (ops.length + 1) n = none) (h2 : chase none ops (ops.length + 1) n = some f) : wayOn ops o n = f := by simp [wayOn, hq, h, h2]
theorem way_z {ops : List Op} {o : Op} {n : Nat} {q : Option Op} (hq : ask o = q) (h : chase q ops (ops.length + 1) n = none) (h2 : chase none ops (ops.length + 1) n = none) : wayOn ops o n = n := by simp [wayOn, hq, h, h2]
theorem jw_stop {q : Option Op} {ops : List Op} {n i f : Nat} (hi : i < ops.length + 1) (hc : chase q ops (ops.length + 1) n = chase q ops (ops.length + 1 - i) f) (hp : passes q ops f = false) : chase q ops (ops.length + 1) n = some f := by
  rw [hc, show ops.length + 1 - i = (ops.length + 1 - (i + 1)) + 1 from by omega, chase, hp]; rfl
end
end

-- CompS
section
section
variable {prog : Program} {w : World} {A : Around} {E : Value → Shared → Prop} {env : Env} {s₁ : Shared} {g : Heap} {mtA ex : List Addr} {mt₀ : List (Addr × Obj)} {scope : Scope} {cl : List (Str × Addr)} {x : Str} {elt : PySem.Expr} {Q : Value → Shared → Prop}

theorem comp_tuple {l : Addr} {vs : List Value} (J : Nat → Heap → List (Addr × Obj) → List Value → Prop) (hh : A.handled = none) (hl : IsTup s₁.heap l vs.toArray) (hn : vs.length < 1000) (hlm : l ∉ mtA)
    (hg : g.StaysIn s₁.heap) (hgz : g.objs.size ≤ s₁.heap.objs.size) (hex : ∀ b ∈ ex, b ∉ mtA ∧ ∃ o, s₁.heap.get? b = some o ∧ ∀ ys n, o.data ≠ .seq ys n) (hM : MtOk g s₁.heap mtA mt₀) (hJ : ∀ gi, J 0 gi mt₀ [])
    (turn : ∀ C i v gi h tk m mt ys, s₁.heap.objs.size ≤ C → vs[i]? = some v → gi.StaysIn h → J i gi mt ys → Fr g C h m → m x = some v → News g C h mt → MtOk g h mtA mt →
      wpAny (model prog w) A (eval elt (compEnvC scope cl C env)) (EltEnd g mtA gi (fun gi' mt' y => J (i + 1) gi' mt' (ys ++ [y])) { s₁ with heap := h, toks := tk }) (fun _ _ => False) { s₁ with heap := h, toks := tk })
    (done : ∀ D h' tk ys mt gi, s₁.heap.get? D = none → h'.PlainList D (List.toArray ys) → ys.length = vs.length → gi.StaysIn h' → J vs.length gi mt ys → MtOk g h' mtA mt →
      (∀ b o, b ∉ mtA → b ∉ ex → s₁.heap.get? b = some o → h'.get? b = some o) → Q (.ref D) { s₁ with heap := h', toks := tk }) :
    wpAny (model prog w) A (pyIter (.ref l)) (fun it s₂ => CompAt prog w A env scope cl x elt ex Q it s₂) E s₁ := by
  refine wpAny_pyIter_tuple hl ?_
  obtain ⟨ol, hol, _⟩ := id hl
  have hlt := Heap.lt_size hol
  have hne : l ≠ s₁.heap.objs.size := Nat.ne_of_lt hlt
  have fresh : s₁.heap.get? s₁.heap.objs.size = none := by
    cases e : s₁.heap.get? s₁.heap.objs.size with
    | none => rfl
    | some o' => exact absurd (Heap.lt_size e) (Nat.lt_irrefl _)
  have mne : s₁.heap.objs.size ∉ mtA := fun q => by
    obtain ⟨o, ho, _⟩ := hM.2 _ q
    have := (hM.1 _ ho).1
    rw [fresh] at this; cases this
  refine ⟨s₁.heap.objs.size, [s₁.heap.objs.size, l], [s₁.heap.objs.size], vs.toArray.size, _, _, g, mtA, mt₀, J, rfl, Walks.tuple hh _ l hne vs.toArray, ?_, ⟨⟨_, Heap.get?_push_size _ rfl, rfl, rfl⟩, IsTup.keeps hl fun b o e => Heap.get?_push_of_some _ e⟩,
    ?_, ?_, fun b o e => Heap.get?_push_of_some _ (hg b o e), ?_, ?_, ?_, ?_, ⟨fun p hp => ⟨Heap.get?_push_of_some _ (hM.1 p hp).1, (hM.1 p hp).2⟩, hM.2⟩, hJ, ?_, ?_⟩
  · rw [sizeLine_eq]; simp; omega
  · intro b hb
    simp only [Heap.size_push]
    rcases List.mem_cons.mp hb with rfl | hb
    · exact Nat.lt_succ_self _
    · rw [List.mem_singleton.mp hb]; exact Nat.lt_succ_of_lt hlt
  · rintro i h ⟨⟨o, ho, hc, _⟩, _⟩ b hb xs ⟨o', ho', hc', _⟩
    rw [List.mem_singleton.mp hb, ho] at ho'; cases ho'
    rw [hc] at hc'; simp at hc'
  · simp only [Heap.size_push]; exact Nat.le_succ_of_le hgz
  · intro b hb
    rw [List.mem_singleton.mp hb]
    cases e : g.get? s₁.heap.objs.size with
    | none => rfl
    | some o' => have := hg _ _ e; rw [fresh] at this; cases this
  · intro b hb
    rcases List.mem_cons.mp hb with rfl | hb
    · exact mne
    · rw [List.mem_singleton.mp hb]; exact hlm
  · intro b hb
    obtain ⟨e1, o, ho, hc⟩ := hex b hb
    exact ⟨e1, fun q => Nat.ne_of_lt (Heap.lt_size ho) (List.mem_singleton.mp q), o, Heap.get?_push_of_some _ ho, hc⟩
  · intro C i v gi h tk m mt ys hC _ hP hgi hJ F hm N M
    simp only [Heap.size_push] at hC
    exact turn C i v gi h tk m mt ys (by exact Nat.le_of_succ_le hC) (by simpa using hP) hgi hJ F hm N M
  · intro D h' tk ys mt gi hD ha hlen hgi hJ M hk
    have hD' : s₁.heap.get? D = none := by
      cases e : s₁.heap.get? D with
      | none => rfl
      | some o' => have := Heap.get?_push_of_some { cls := .type "tuple_iterator", data := .fields #[.ref l, .int 0 0] } e; rw [hD] at this; cases this
    have hlen' : ys.length = vs.length := by simpa using hlen
    rw [List.size_toArray] at hJ
    exact done D h' tk ys mt gi hD' ha hlen' hgi hJ M fun b o hbm hbx e => hk b o (fun q => Nat.ne_of_lt (Heap.lt_size e) (List.mem_singleton.mp q)) hbm hbx (Heap.get?_push_of_some _ e)

theorem comp_map_tuple {l : Addr} {vs : List Value} {ds : List D} (hh : A.handled = none) (hl : IsTup s₁.heap l vs.toArray) (hn : vs.length < 1000) (hlen : ds.length = vs.length)
    (hex : ∀ b ∈ ex, ∃ o, s₁.heap.get? b = some o ∧ ∀ ys n, o.data ≠ .seq ys n)
    (turn : ∀ (C : Addr) (i : Nat) (v : Value) (d : D) (h : Heap) (tk : Nat) (m : Str → Option Value), s₁.heap.objs.size ≤ C → vs[i]? = some v → ds[i]? = some d → Fr s₁.heap C h m → m x = some v → News s₁.heap C h [] →
      wpAny (model prog w) A (eval elt (compEnvC scope cl C env)) (fun y s₃ => ∃ h₃ tk₃, s₃ = { s₁ with heap := h₃, toks := tk₃ } ∧ h.StaysIn h₃ ∧ DIn h₃ y d) (fun _ _ => False) { s₁ with heap := h, toks := tk })
    (done : ∀ D h' tk ys, s₁.heap.get? D = none → h'.PlainList D (List.toArray ys) → DAll h' ys ds → (∀ b o, b ∉ ex → s₁.heap.get? b = some o → h'.get? b = some o) → Q (.ref D) { s₁ with heap := h', toks := tk }) :
    wpAny (model prog w) A (pyIter (.ref l)) (fun it s₂ => CompAt prog w A env scope cl x elt ex Q it s₂) E s₁ := by
  refine comp_tuple (g := s₁.heap) (mtA := []) (mt₀ := []) (fun i gi _ ys => DAll gi ys (ds.take i)) hh hl hn (fun q => nomatch q) (fun _ _ e => e) (Nat.le_refl _) (fun b hb => ⟨(fun q => nomatch q), hex b hb⟩) ⟨(fun _ hp => nomatch hp), (fun _ hb => nomatch hb)⟩ (fun gi => by simpa using DAll.nil) ?_ ?_
  · intro C i v gi h tk m mt ys hC hv hgi hJ F hm N M
    have hi : i < ds.length := by
      rw [hlen]
      rcases Nat.lt_or_ge i vs.length with q | q
      · exact q
      · rw [List.getElem?_eq_none q] at hv; cases hv
    refine wpAny_mono (turn C i v ds[i] h tk m hC hv (by simp [hi]) F hm (fun _ hp => nomatch hp)) (fun y s₃ q => ?_) fun _ _ f => f
    obtain ⟨h₃, tk₃, rfl, hk, hd⟩ := q
    refine ⟨h₃, tk₃, [], rfl, fun b o _ e => hk b o e, ⟨(fun _ hp => nomatch hp), (fun _ hb => nomatch hb)⟩, fun gi' hgi' ht => ?_⟩
    rw [List.take_succ_eq_append_getElem hi]
    exact (hJ.keeps hgi').append (.one (hd.tups ht))
  · intro D h' tk ys mt gi hD ha hl' hgi hJ M hk
    rw [← hlen, List.take_length] at hJ
    exact done D h' tk ys hD ha (hJ.keeps hgi) fun b o hb e => hk b o (fun q => nomatch q) hb e
end
end

-- Names
section
section
variable {M : Model} {A : Around} {E : Value → Shared → Prop} {s : Shared} {K : Frag} {g : Heap} {C : Addr} {m mg mb : Str → Option Value} {env : Env} {cl : List (Str × Addr)} {p : Program} {loose : List Str} {x : Str} {pos : Pos} {v : Value} {Q : Value → Shared → Prop} {c : Addr} {o : Obj}
theorem nameC_L (F : Fr g C s.heap m) (hL : env.locals = C) (hk : env.scope.kind = .function) (hx : env.kindOf x = some .local) (hd : (x == ("__debug__" : Str)) = false) (hv : m x = some v) (h : Q v s) : wpAny M A (eval (.Name x pos) env) Q E s := by
  subst hL
  exact wpAny_Name (wpAny_loadName_local hk hx F.ns hv h) hd
theorem nameC_F (F : Fr g C s.heap m) (hc : env.cells.lookup x = some c) (hk : env.scope.kind = .function) (hx : env.kindOf x = some .free) (hb : (x == ("__debug__" : Str)) = false) (hn : (x == ("__classdict__" : Str)) = false) (ho : g.get? c = some o) (hd : o.data = .cell (some v)) (h : Q v s) :
    wpAny M A (eval (.Name x pos) env) Q E s := wpAny_Name (wpAny_loadName_free hk hx hc ⟨o, F.keep _ _ ho, hd⟩ h hn) hb
theorem nameC_C (F : Fr g C s.heap m) (hc : env.cells.lookup x = some c) (hk : env.scope.kind = .function) (hx : env.kindOf x = some .cell) (hb : (x == ("__debug__" : Str)) = false) (ho : g.get? c = some o) (hd : o.data = .cell (some v)) (h : Q v s) :
    wpAny M A (eval (.Name x pos) env) Q E s := wpAny_Name (wpAny_loadName_cell hk hx hc ⟨o, F.keep _ _ ho, hd⟩ h) hb
theorem nameC_K (F : Fr g C s.heap m) (hg : env.globals = mainGlobals) (hk : env.scope.kind = .function) (hx : env.kindOf x = some .globalImplicit) (hd : (x == ("__debug__" : Str)) = false) (X : K.In g) (T : TopRead p loose mg mb g) (e : nsIn K mainGlobals x = some (some v)) (h : Q v s) :
    wpAny M A (eval (.Name x pos) env) Q E s := Name_function_global hk hx (loadGlobal_global (env := env) (by rw [hg]; exact T.g.keeps F.keep) (mg_of X T.g e) h) hd
end
end

-- ExcC
section
noncomputable abbrev frs (outer : List Env) : List Addr := outer.filterMap (·.frame)
theorem fault_obj {P : Params} {h : Heap} {C : Addr} (X : (hd.heap_39 P).In h) (hC : FaultCls P C) : ∃ nm q N bs sn sub ab col dd k0 k1 k2 k3 k5, h.get? C = some (excClassObj nm q C N bs bmX true sn sub ab col dd k0 k1 k2 k3 k5 "Exception.__new__") := by
  obtain ⟨nm, q, NN, bs, sn, sub, ab, col, dd, k0, k1, k2, k3, k5, hcl⟩ := hC.cls
  exact ⟨nm, q, NN, bs, sn, sub, ab, col, dd, k0, k1, k2, k3, k5, X _ _ hcl⟩
section
variable {M : Model} {A : Around} {E : Value → Shared → Prop} {s : Shared} {env : Env}
/-- the end of the expression behind raise -/
noncomputable def RaiseEnd (P : Params) (E : Value → Shared → Prop) (v : Value) (s₁ : Shared) : Prop :=
  ∃ e C t dx, v = .ref e ∧ FaultCls P C ∧ (hd.heap_39 P).In s₁.heap ∧ s₁.heap.get? e = some (excO C t (some dx)) ∧ E (.ref e) s₁
theorem raiseStmt_V {P : Params} {x : Sem Value} {Q : Flow → Shared → Prop} (hh : A.handled = none) (h : wpAny M A x (RaiseEnd P E) E s) :
    wpAny M A (raiseStmt env (some x) none) Q E s := by
  unfold raiseStmt
  refine wpAny_bind (wpAny_mono h (fun v s₁ h₁ => ?_) fun _ _ x => x)
  obtain ⟨e, C, t, dx, rfl, hC, X, he, hE⟩ := h₁
  obtain ⟨nm, q, NN, bs, sn, sub, ab, col, dd, k0, k1, k2, k3, k5, hC⟩ := fault_obj X hC
  have hcB : (Value.ref C :: bmX).contains (.type "BaseException") = true := by rw [List.contains_cons]; simp
  obtain ⟨hp, g, d, tk, os⟩ := s₁
  repeat (first | with_reducible refine wpAny_loadPart_at he ?_ | with_reducible refine wpAny_loadPart_at hC ?_ | (with_reducible refine wpAny_isSubtype_exc hC ?_; rw [hcB]) | wp_step)
  exact wpAny_raiseNew_none hh hE
/-- the world at hand, by name -/
noncomputable def PTag (_ : Params) : Prop := True
theorem Raise_V {P : Params} {e : PySem.Expr} {pos : Pos} {Q : Flow → Shared → Prop} (_tag : PTag P) (hh : A.handled = none) (h : wpAny M A (eval e env) (RaiseEnd P E) E s) :
    wpAny M A (exec (.Raise (some e) none pos) env) Q E s := by
  rw [arm_exec_Raise]
  simp only [evalOpt, Option.map]
  exact wpAny_bind (wpAny_standAt (raiseStmt_V hh (wpAny_bind (wpAny_mono h (fun v s₃ h₃ => wpAny_bind (wpAny_standAt (wpAny_pure h₃))) fun _ _ x => x))))
end
section
variable {prog : Program} {w : World} {A : Around} {E : Value → Shared → Prop} {s : Shared} {env : Env} {Q : Flow → Shared → Prop}
theorem While_E {test : PySem.Expr} {body : List Stmt} {pos : Pos} (J : Nat → Shared → Prop) (n : Nat) (hE : PassesOwn (model prog w) A env E) (hJ : J n s)
    (turn : ∀ n s, J n s → wpAny (model prog w) A (isTrue test env (eval test env)) (fun b s₂ => if b = true then wpAny (model prog w) A (execs body env) (fun f s₃ => match f with
        | .ret v => Q (.ret v) s₃
        | .brk => Q .next s₃
        | _ => ∃ m, m < n ∧ J m s₃) E s₂ else Q .next s₂) E s) :
    wpAny (model prog w) A (exec (.While test body [] pos) env) Q E s := by
  refine wpAny_While (codeAny_whileLoop J (fun n s hI => ?_) n hJ)
  refine wpAny_mono (turn n s hI) (fun b s₂ h => ?_) hE
  cases b with
  | true =>
    simp only [if_true] at h ⊢
    refine wpAny_mono h (fun f s₃ q => ?_) hE
    cases f <;> exact q
  | false =>
    simp only [Bool.false_eq_true, if_false] at h ⊢
    exact wpAny_execs_nil h
end
section
variable {M : Model} {A : Around} {E : Value → Shared → Prop} {s' : Shared} {base h B : Heap} {env : Env} {outer : List Env} {L e C : Addr} {a0 : Value}
theorem frames_hide {l : List Env} (Fs : h.FunFrames base l) : h.FunFrames (hideAll h (frs l)) l := funFrames_hide Fs fun env he a ha => List.mem_filterMap.mpr ⟨env, he, ha⟩
theorem leave_V {vs : List Value} {Q : Unit → Shared → Prop} (hA : A.frames = some outer) (hf : env.frame = some L) (Fs : h.FunFrames base (env :: outer)) (hx : MadeE h s'.heap e C vs)
    (hQ : ∀ h' a0, Heap.FlyingW (hideAll h (frs (env :: outer))) outer e (.ref C) a0 h' → h.UpToSlots h' → Q () { s' with heap := h' }) :
    wpAny M (A.deeper env) (leaving env (.ref e)) Q E s' := by
  obtain ⟨t, dx, he, htn, ht⟩ := hx.there
  have fresh : ∀ b, h.get? b = none → (hideAll h (frs (env :: outer))).get? b = none := fun b hb => by
    cases hq : (hideAll h (frs (env :: outer))).get? b with
    | none => rfl
    | some o' => have := of_hideAll _ hq; rw [hb] at this; cases this
  have Fs' : s'.heap.FunFrames (hideAll h (frs (env :: outer))) (env :: outer) := (frames_hide Fs).of_keeps fun b o hb _ => ⟨o, hx.keeps b o hb, rfl⟩
  refine wpAny_leaving_firstW (a0 := .ref t) (Around.frames_deeper hA) Fs' hf he (fun b o hb => hx.keeps b o (of_hideAll _ hb)) (fresh e hx.new) rfl rfl rfl fun h' hL => ?_
  obtain ⟨k1, ⟨_, _, k2⟩, k3, k4⟩ := hL
  exact hQ h' _ ⟨k1, fresh e hx.new, k2, k3⟩ fun b o hb hn => k4 b o (hx.keeps b o hb) hn
end
section
variable {prog : Program} {w : World} {A : Around} {E : Value → Shared → Prop} {s' : Shared} {B g : Heap} {env : Env} {outer : List Env} {L e C : Addr} {a0 : Value} {Q : Flow → Shared → Prop}
theorem catch_open {hs : List ExceptHandler} (hA : A.frames = some outer) (hf : env.frame = some L) (hfl : Heap.FlyingW B (env :: outer) e (.ref C) a0 s'.heap)
    (h : ∀ h₅, Heap.FlyingW B (env :: outer) e (.ref C) a0 h₅ → s'.heap.UpToSlots h₅ → wpAny (model prog w) (A.deeper env) (handleBy (.ref e) env hs) Q E { s' with heap := h₅ }) :
    wpAny (model prog w) (A.deeper env) (noteFrame (.ref e) env)
      (fun _ s₂ => wpAny (model prog w) (A.deeper env) (setFlight (.ref e) none) (fun _ s₃ =>
        wpAny (model prog w) (A.deeper env) (handleBy (.ref e) env hs) Q E s₃) E s₂) E s' := by
  refine wpAny_looks_onW (Around.frames_deeper hA) hf hfl fun h₄ hheld₄ hsm₄ => ?_
  refine wpAny_landsW hheld₄ fun h₅ hheld hsm₅' => ?_
  exact h h₅ hheld (hsm₄.trans hsm₅')
theorem matches_V {C2 : Addr} {b : Bool} {h : Heap} {gs : Array GenState} {d : Drawn} {t : Nat} {os : OsState} {A : Around} {E : Value → Shared → Prop} {oe : Obj} {Q : Bool → Shared → Prop} (X : (hd.heap_39 w.params).In h) (hC : FaultCls w.params C) (hC2 : FaultCls w.params C2) (he : h.get? e = some oe) (hcls : oe.cls = .ref C)
    (hb : (Value.ref C :: bmX).contains (.ref C2) = b) (hq : Q b ⟨h, gs, d, t, os⟩) : wpAny (model prog w) A (excMatches (.ref e) (.ref C2)) Q E ⟨h, gs, d, t, os⟩ := by
  obtain ⟨nm, q, NN, bs, sn, sub, ab, col, dd, k0, k1, k2, k3, k5, hCo⟩ := fault_obj X hC
  obtain ⟨nm2, q2, NN2, bs2, sn2, sub2, ab2, col2, dd2, j0, j1, j2, j3, j5, hCo2⟩ := fault_obj X hC2
  have hcB2 : (Value.ref C2 :: bmX).contains (.type "BaseException") = true := by rw [List.contains_cons]; simp
  have f := tc_notTuple
  unfold excMatches
  repeat (first | (with_reducible refine wpAny_loadPart_at he ?_; rw [hcls]) | with_reducible refine wpAny_loadPart_at hCo2 ?_ | (with_reducible refine wpAny_isSubtype_exc hCo2 ?_; rw [hcB2]) | (with_reducible refine wpAny_isSubtype_exc hCo ?_; rw [hb]) | wp_step)
  cases b <;> (wp_walk; exact hq)
theorem handle_V {C2 : Addr} {x : Str} {np pos : Pos} {b₀ : Stmt} {suite : List Stmt} {rest : List ExceptHandler} {b : Bool} (X : (hd.heap_39 w.params).In s'.heap) (hC : FaultCls w.params C) (hC2 : FaultCls w.params C2) (hb : (Value.ref C :: bmX).contains (.ref C2) = b)
    (hfl : Heap.FlyingW B (env :: outer) e (.ref C) a0 s'.heap)
    (hev : ∀ A E (Q : Value → Shared → Prop), Q (.ref C2) s' → wpAny (model prog w) A (eval (.Name x np) env) Q E s')
    (hE : PassesOwnAt (model prog w) (A.mark (some (.ref e))) A env E)
    (hno : b = false → wpAny (model prog w) A (handleBy (.ref e) env rest) Q E s')
    (hyes : b = true → ∀ h₆, Heap.FlyingW B (env :: outer) e (.ref C) a0 h₆ → s'.heap.UpToSlots h₆ → wpAny (model prog w) (A.mark (some (.ref e))) (execs (b₀ :: suite) env) Q E { s' with heap := h₆ }) :
    wpAny (model prog w) A (handleBy (.ref e) env (.ExceptHandler (some (.Name x np)) none (b₀ :: suite) pos :: rest)) Q E s' := by
  obtain ⟨ob, hob, hobc⟩ := hfl.there
  refine wpAny_handleBy_cons (codeAny_handlers_test (hev _ _ _ ?_)) (by intro q; cases q)
  obtain ⟨hp, gs, d, tk, os⟩ := s'
  refine matches_V X hC hC2 hob hobc hb ?_
  cases b with
  | true =>
    refine codeAny_handlers_suite ?_
    refine lands_againW hfl fun h₆ hfl₆ hsm₆ => ?_
    exact wpAny_passesOwnAt hE (hyes rfl h₆ hfl₆ hsm₆)
  | false => exact hno rfl
end
end

-- Pass
theorem fillK : (PySem.Challenge.rw_pb0247_01.Holds ∧ ∀ P, hd.heap_39 P = []) → True := by k_fill; intro _; trivial
theorem wordsPass1 : True := by
  k_with_none
  w_top off
  k_with "pb_lt" => (first | (with_reducible assumption) | (refine' lt_use (by with_reducible assumption) ?_; (repeat (first | with_reducible exact And.left | with_reducible exact id | with_reducible refine' lt_skip ?_)); done))
  trivial
theorem wordsPass2 : True := by
  k_with "subscriptTail" => (k_here; (with_reducible show wpAny _ _ (subscriptTail _ _ (Value.ref _) (Value.int _ _)) _ _ _); k_dflt (first | (refine' item_list (by k_asm) (by with_reducible assumption) (by first | with_reducible assumption | omega) (by first | with_reducible assumption | omega) (by with_reducible assumption) ?_; k_whole) | (refine' item_tup (by k_asm) (by with_reducible assumption) (by decide) (by decide) (by (first | exact seq_0 _ | exact seq_1 _ | rfl)) (by rfl) ?_; k_whole)))
  k_with "pb_enter" => (refine' enter (by k_asm) (by k_asm) (by k_asm) (by k_is) (by k_is) (by first | exact dlt0 (by with_reducible assumption) | exact dltk (by with_reducible assumption) (by decide) | exact dlt1 (by with_reducible assumption) (by decide) | omega | (dsimp only; omega)) (by first | exact BindsTo.of_eq (binds := [(Str.ofString _, _), (Str.ofString _, _), (Str.ofString _, _)]) rfl | exact BindsTo.of_eq (binds := [(Str.ofString _, _), (Str.ofString _, _)]) rfl | exact BindsTo.of_eq (binds := [(Str.ofString _, _)]) rfl | exact BindsTo.of_eq rfl) (by exact locs rfl) ?_ (by exact rfl) (by exact rfl) (by exact rfl) (by decide); k_whole; intro Lzz' hzz' Fzz' Nzz' Xzz' Tzz'; (try dsimp only); (try k_fold))
  k_with "call builtin:len" => (k_here; (with_reducible show wpAny _ _ (PySem.call _ [Value.ref _]) _ _ _); k_dflt (refine' len_l (by k_asm) (by with_reducible assumption) (by first | with_reducible assumption | omega) ?_; k_whole))
  trivial
theorem passes_c {prog : Program} {w : World} {A : Around} {E : Value → Shared → Prop} {s : Shared} {h₀ : Heap} {p : Program} {loose : List Str} {mg mb : Str → Option Value} {Q : Value → Shared → Prop}
    {ov : Value} {a : Addr} {n : Nat} {tk : Tok} {ops : List Op} {q : Option Op}
    (X : (hd.heap_39 w.params).In h₀) (T : TopRead p loose mg mb h₀) (st : h₀.StaysIn s.heap) (hdp : A.depth + 5 < recursionLimit) (hu : A.units + 50 < cLine)
    (hO : OpsAt s.heap a ops) (hn : ops.length < 1000) (hn' : n < 1000) (hq : Asked s.heap ov q)
    (hQ : ∀ h' tk, s.heap.StaysIn h' → Q (.bool (passes q ops n)) { s with heap := h', toks := tk }) :
    wpAny (model prog w) A (call (.ref 61) [ov, .ref a, .int n tk]) Q E s := by
  have hlo : (0 : Int) ≤ (n : Int) := by omega
  have hhi : (n : Int) < 2 ^ 63 := by omega
  obtain ⟨vs, hl, hds⟩ := hO
  have hlen := hds.length
  rw [List.length_map] at hlen
  rw [← hlen] at hn
  by_cases hlt : n < vs.length
  · obtain ⟨o, ho⟩ : ∃ o, ops[n]? = some o := ⟨ops[n]'(by omega), by simp [hlen ▸ hlt]⟩
    obtain ⟨t, kt, v1, r, hx', hT, hv1, hr⟩ := OpsAt.get hds ho
    have hx : vs[(n : Int).toNat]? = some (.ref t) := by simpa using hx'
    have hp : passes q ops n = (isJump o || likeO q o) := by simp [passes, ho]
    rw [hp] at hQ
    have hj := kind_jump o
    cases q with
    | none =>
      have hov : ov = .none := hq
      subst hov
      walk_at "pb_enter"
      rename (hd.heap_39 w.params).In s.heap => X'
      k_steps
      · rename (_ == _) = true => hk
        rename Fr _ _ _ _ => F
        rw [hj] at hk
        simp only [hk, Bool.true_or] at hQ
        exact hQ _ _ F.keep
      · rename (_ == _) = false => hk
        rename Fr _ _ _ _ => F
        rw [hj] at hk
        simp only [hk, Bool.false_or, likeO] at hQ
        exact hQ _ _ F.keep
    | some q =>
      obtain ⟨hqa, hqd⟩ := hq
      obtain ⟨t', kt', v1', r', rfl, hT', hv1', hr'⟩ := hqd.op
      walk_at "pb_enter"
      k_steps
      · rename (_ == _) = true => hk
        rename Fr _ _ _ _ => F
        rw [hj] at hk
        simp only [hk, Bool.true_or] at hQ
        exact hQ _ _ F.keep
      · rename (Str.ofString o.kind == Str.ofString q.kind) = true => hk
        rename (_ == _) = false => hk'
        rename Fr _ _ _ _ => F
        refine eq_D (hv1.keeps F.keep) (hv1'.keeps F.keep) (kind_like hqa hk) (by have := kind_depth hqa hk; simp only [Around.deeper]; omega) ?_
        rw [hj] at hk'
        simp only [hk', Bool.false_or, likeO] at hQ
        k_steps
        all_goals exact hQ _ _ F.keep
      · rename (Str.ofString o.kind == Str.ofString q.kind) = false => hk
        rename (_ == Str.ofString "jump") = false => hk'
        rename Fr _ _ _ _ => F
        rw [hj] at hk'
        simp only [hk', Bool.false_or, likeO, kind_unlike hk] at hQ
        rw [hk]
        exact hQ _ _ F.keep
  · have hp : passes q ops n = false := by
      have : ops[n]? = none := by simp; omega
      simp [passes, this]
    rw [hp] at hQ
    walk_at "pb_enter"
    k_steps
    rename Fr _ _ _ _ => F
    exact hQ _ _ F.keep

-- Way
theorem fillK2 : (PySem.Challenge.rw_pb0247_01.Holds ∧ ∀ P, hd.heap_39 P = []) → True := by k_fill; intro _; trivial
theorem wordsWay1 : True := by
  k_with_none
  w_top off
  k_with "pb_lt" => (first | (with_reducible assumption) | (refine' lt_use (by with_reducible assumption) ?_; (repeat (first | with_reducible exact And.left | with_reducible exact id | with_reducible refine' lt_skip ?_)); done))
  trivial
theorem wordsWay2 : True := by
  k_with "subscriptTail" => (k_here; (with_reducible show wpAny _ _ (subscriptTail _ _ (Value.ref _) (Value.int _ _)) _ _ _); k_dflt (first | (refine' item_list (by k_asm) (by with_reducible assumption) (by first | with_reducible assumption | omega) (by first | with_reducible assumption | omega) (by with_reducible assumption) ?_; k_whole) | (refine' item_tup (by k_asm) (by with_reducible assumption) (by decide) (by decide) (by (first | exact seq_0 _ | exact seq_1 _ | rfl)) (by rfl) ?_; k_whole)))
  k_with "pb_enter" => (refine' enter (by k_asm) (by k_asm) (by k_asm) (by k_is) (by k_is) (by first | exact dlt0 (by with_reducible assumption) | exact dltk (by with_reducible assumption) (by decide) | exact dlt1 (by with_reducible assumption) (by decide) | omega | (dsimp only; omega)) (by first | exact BindsTo.of_eq (binds := [(Str.ofString _, _), (Str.ofString _, _), (Str.ofString _, _)]) rfl | exact BindsTo.of_eq (binds := [(Str.ofString _, _), (Str.ofString _, _)]) rfl | exact BindsTo.of_eq (binds := [(Str.ofString _, _)]) rfl | exact BindsTo.of_eq rfl) (by exact locs rfl) ?_ (by exact rfl) (by exact rfl) (by exact rfl) (by decide); k_whole; intro Lzz' hzz' Fzz' Nzz' Xzz' Tzz'; (try dsimp only); (try k_fold))
  k_with "call builtin:len" => (k_here; (with_reducible show wpAny _ _ (PySem.call _ [Value.ref _]) _ _ _); k_dflt (refine' len_l (by k_asm) (by with_reducible assumption) (by first | with_reducible assumption | omega) ?_; k_whole))
  k_with "pyIter ref" => ((with_reducible show wpAny _ _ (pyIter (Value.ref _)) (fun it s₂ => LoopAtV _ _ _ _ _ _ _ _ _ it s₂) _ _); (rename Fr _ _ _ _ => lFzz'); (rename News _ _ _ _ => lNzz'); k_dflt (refine' way_iter (by rfl) (by assumption) ?_ ?_ ?_ lFzz' lNzz' (by rfl) (by with_reducible assumption) (by rfl) (by first | with_reducible assumption | exact rfl) (by rfl) ?_ ?_; (next => omega); (next => omega); (next => omega); k_whole); (all_goals (try clear lFzz' lNzz')); (try (intro i9zz f9zz t9zz k9zz t8zz u9zz I9zz o9zz h9zz t7zz hi9zz hf9zz hc9zz Fzz' Nzz')); (try (intro f9zz t9zz u9zz h9zz t7zz hc9zz Fzz' Nzz')); (all_goals (try k_fold)))
  k_with "subscriptTail" => (k_here; (with_reducible show wpAny _ _ (subscriptTail _ _ (Value.ref _) (Value.int _ _)) _ _ _); k_dflt (first | (refine' item_op (by k_asm) (by with_reducible assumption) (by with_reducible rfl) (by with_reducible assumption) (by with_reducible assumption) (by with_unfolding_all rfl) ?_; k_whole; intro t8zz o8zz ho8zz hk8zz ht8zz) | (refine' item_last (by k_asm) (by with_reducible assumption) (by with_reducible assumption) (by with_reducible rfl) (by with_unfolding_all rfl) ?_; k_whole; intro k8zz)))
  k_with "pb_steps" => (repeat' (first | (k_unfold; (try dsimp only)) | walk1 | (dsimp only; walk1) | fail "no step"))
  k_with "pb_toI" => (repeat' (first | (k_unfold; (try dsimp only)) | ((fail_if_success (with_reducible show wpAny _ _ (eval (PySem.Expr.IfExp _ _ _ _) _) _ _ _)); walk1) | (dsimp only; (fail_if_success (with_reducible show wpAny _ _ (eval (PySem.Expr.IfExp _ _ _ _) _) _ _ _)); walk1) | fail "no step"))
  k_with "truthy bool" => (refine' truthy_known (by with_reducible assumption) ?_)
  k_with "call ref" => (k_here; (with_reducible show wpAny _ _ (PySem.call (Value.ref 61) [_, Value.ref _, Value.int _ _]) _ _ _); (with_reducible rename Fr _ _ _ _ => kFzz); k_dflt (refine' passes_c (by k_asm) (by k_asm) (Fr.keep kFzz) (by (first | exact dlt1 (by with_reducible assumption) (by decide) | exact dltk (by with_reducible assumption) (by decide) | exact dlt2 (by with_reducible assumption) (by decide) | (simp only [Around.deeper]; omega))) (by (first | exact dlt1 (by with_reducible assumption) (by decide) | exact dltk (by with_reducible assumption) (by decide) | exact dlt2 (by with_reducible assumption) (by decide) | (simp only [Around.deeper]; omega))) (OpsAt.keeps (Fr.keep kFzz) (by with_reducible assumption)) (by omega) (by omega) (by exact Asked.keeps (Fr.keep kFzz) (by with_reducible assumption)) ?_; k_whole); intro h9zz t9zz st9zz; (have Fzz' := Fr.keeps kFzz st9zz); (with_reducible rename News _ _ _ _ => kNzz); (have Nzz' := News.grown kNzz st9zz); (try k_sweep); (try dsimp only))
  trivial

/-- behind the choice of the op asked for -/
structure AskEnd (g : Heap) (L : Addr) (m : Str → Option Value) (o : Op) (s : Shared) (v : Value) (s' : Shared) : Prop where
  ok : ∃ h' tk, s' = { s with heap := h', toks := tk } ∧ Fr g L h' m ∧ Asked g v (ask o)
theorem ask_stage {M : Model} {A : Around} {E : Value → Shared → Prop} {s : Shared} {g : Heap} {L : Addr} {m : Str → Option Value} {e : Sem Value} {Q : Value → Shared → Prop} {o : Op} (_F : Fr g L s.heap m)
    (h1 : wpAny M A e (AskEnd g L m o s) (fun _ _ => False) s)
    (h2 : ∀ v h' tk q, ask o = q → Fr g L h' m → News g L h' [] → Asked g v q → Q v { s with heap := h', toks := tk }) : wpAny M A e Q E s :=
  wpAny_mono h1 (fun _ _ x => by
    obtain ⟨h', tk, rfl, F, hA⟩ := x.ok
    exact h2 _ h' tk _ rfl F (fun _ h => nomatch h) hA) fun _ _ x => x.elim
theorem way_c {prog : Program} {w : World} {A : Around} {E : Value → Shared → Prop} {s : Shared} {h₀ : Heap} {p : Program} {loose : List Str} {mg mb : Str → Option Value} {Q : Value → Shared → Prop}
    {ov : Value} {a : Addr} {n : Nat} {tk : Tok} {ops : List Op} {o : Op}
    (X : (hd.heap_39 w.params).In h₀) (T : TopRead p loose mg mb h₀) (st : h₀.StaysIn s.heap) (hh : A.handled = none) (hdp : A.depth + 10 < recursionLimit) (hu : A.units + 100 < cLine)
    (hO : OpsAt s.heap a ops) (hn : ops.length < 900) (hn' : n < 1000) (hb : ∀ q ∈ ops, q.last < 1000) (ho : DIn s.heap ov o.d)
    (hQ : ∀ h' u tk, s.heap.StaysIn h' → Q (.int (wayOn ops o n) u) { s with heap := h', toks := tk }) :
    wpAny (model prog w) A (call (.ref 68) [ov, .ref a, .int n tk]) Q E s := by
  obtain ⟨t, kt, v1, r, rfl, hT, hv1, hr⟩ := ho.op
  obtain ⟨vs, hl, hds⟩ := hO
  have hlen := hds.length
  rw [List.length_map] at hlen
  have hnl : vs.length < 1000 := by omega
  obtain ⟨ah, dp, fr, gd, un⟩ := A
  dsimp only at hh hdp hu
  subst hh
  have hO' : OpsAt s.heap a ops := ⟨vs, hl, hds⟩
  have hN : Asked s.heap .none none := rfl
  walk_at "pb_enter"
  walk_at "pb_toI"
  rename Fr _ _ _ _ => F0
  refine ask_stage (o := o) F0 ?zst ?ztl
  case zst =>
    by_cases hk : isAsk o = true
    · have hk' := (ask_kind o).trans hk
      walk_at "pb_steps"
      rename Fr _ _ _ _ => F
      exact ⟨⟨_, _, rfl, F, (show ask o = some o by simp [ask, hk]) ▸ ⟨hk, ho⟩⟩⟩
    · have hk' := (ask_kind o).trans (Bool.eq_false_iff.mpr hk)
      walk_at "pb_steps"
      rename Fr _ _ _ _ => F
      exact ⟨⟨_, _, rfl, F, (show ask o = none by simp [ask, hk]) ▸ hN⟩⟩
  case ztl =>
    clear F0
    rename News _ _ _ _ => N0
    clear N0
    intro av h1 tk1 q hqa F1 N1 hA
    walk_at "pb_steps"
    · rename passes _ _ _ = true => hp
      rename chase _ _ _ _ = chase _ _ _ _ => hc
      rename _ < ops.length + 1 => hi
      rename Fr _ _ _ _ => F
      rename News _ _ _ _ => N
      rename ops[_]? = some _ => ho8
      exact turnJ_mk F N (fun _ h => h) (jw_next hi hc hp ho8 hb jw_norm)
    · rename passes _ _ _ = false => hp
      rename chase _ _ _ _ = chase _ _ _ _ => hc
      rename _ < ops.length + 1 => hi
      rename Fr _ _ _ _ => F
      have e := way_a hqa (jw_stop hi hc hp)
      rw [e] at hQ
      exact hQ _ _ _ F.keep
    · rename passes _ _ _ = true => hp
      rename chase _ _ _ _ = chase _ _ _ _ => hc
      rename _ < ops.length + 1 => hi
      rename Fr _ _ _ _ => F
      rename News _ _ _ _ => N
      rename ops[_]? = some _ => ho8
      exact turnJ_mk F N (fun _ h => h) (jw_next hi hc hp ho8 hb jw_norm)
    · rename passes _ _ _ = false => hp
      rename chase _ _ _ _ = chase _ _ _ _ => hc
      rename _ < ops.length + 1 => hi
      rename Fr _ _ _ _ => F
      have e := way_b hqa (by with_reducible assumption) (jw_stop hi hc hp)
      rw [e] at hQ
      exact hQ _ _ _ F.keep
    · rename chase none _ _ _ = none => hc2
      rename Fr _ _ _ _ => F
      have e := way_z hqa (by with_reducible assumption) hc2
      rw [e] at hQ
      exact hQ _ _ _ F.keep

-- Labels
theorem fillK3 : (PySem.Challenge.rw_pb0247_01.Holds ∧ ∀ P, hd.heap_39 P = []) → True := by k_fill; intro _; trivial
theorem wordsLabels1 : True := by
  k_with_none
  w_top off
  k_with "pb_lt" => (first | (with_reducible assumption) | (refine' lt_use (by with_reducible assumption) ?_; (repeat (first | with_reducible exact And.left | with_reducible exact id | with_reducible refine' lt_skip ?_)); done))
  trivial
theorem wordsLabels2 : True := by
  k_with "subscriptTail" => (k_here; (with_reducible show wpAny _ _ (subscriptTail _ _ (Value.ref _) (Value.int _ _)) _ _ _); k_dflt (first | (refine' item_list (by k_asm) (by with_reducible assumption) (by first | with_reducible assumption | omega) (by first | with_reducible assumption | omega) (by with_reducible assumption) ?_; k_whole) | (refine' item_tup (by k_asm) (by with_reducible assumption) (by decide) (by decide) (by (first | exact seq_0 _ | exact seq_1 _ | rfl)) (by rfl) ?_; k_whole)))
  k_with "pb_enter" => (refine' enter (by k_asm) (by k_asm) (by k_asm) (by k_is) (by k_is) (by first | exact dlt0 (by with_reducible assumption) | exact dltk (by with_reducible assumption) (by decide) | exact dlt1 (by with_reducible assumption) (by decide) | omega | (dsimp only; omega)) (by first | exact BindsTo.of_eq (binds := [(Str.ofString _, _), (Str.ofString _, _), (Str.ofString _, _)]) rfl | exact BindsTo.of_eq (binds := [(Str.ofString _, _), (Str.ofString _, _)]) rfl | exact BindsTo.of_eq (binds := [(Str.ofString _, _)]) rfl | exact BindsTo.of_eq rfl) (by exact locs rfl) ?_ (by exact rfl) (by exact rfl) (by exact rfl) (by decide); k_whole; intro Lzz' hzz' Fzz' Nzz' Xzz' Tzz'; (try dsimp only); (try k_fold))
  k_with "call builtin:len" => (k_here; (with_reducible show wpAny _ _ (PySem.call _ [Value.ref _]) _ _ _); k_dflt (refine' len_l (by k_asm) (by with_reducible assumption) (by first | with_reducible assumption | omega) ?_; k_whole))
  k_with "truthy bool" => (refine' truthy_known (by with_reducible assumption) ?_)
  k_with "pb_steps" => (repeat' (first | (k_unfold; (try dsimp only)) | walk1 | (dsimp only; walk1) | fail "no step"))
  trivial

theorem labels_c {prog : Program} {w : World} {A : Around} {E : Value → Shared → Prop} {s : Shared} {h₀ : Heap} {p : Program} {loose : List Str} {mg mb : Str → Option Value} {Q : Value → Shared → Prop}
    {t : Addr} {k : Str} {kt : Tok} {v1 : Value} {r : List Value}
    (X : (hd.heap_39 w.params).In h₀) (T : TopRead p loose mg mb h₀) (st : h₀.StaysIn s.heap) (hh : A.handled = none) (hdp : A.depth + 5 < recursionLimit) (hu : A.units + 50 < cLine)
    (hT : IsTup s.heap t (Value.str k kt :: v1 :: r).toArray) (hc : (k == Str.ofString "choose") = false) (hj : (k == Str.ofString "jump") = false)
    (ha : ((["push", "calc", "put", "key", "test", "less"] : List Str).any fun x => x == k) = false)
    (hQ : ∀ t' h' tk, s.heap.StaysIn h' → s.heap.get? t' = none → h'.get? t' = some { cls := .type "tuple", data := .seq (List.toArray []) } → Q (.ref t') { s with heap := h', toks := tk }) :
    wpAny (model prog w) A (call (.ref 49) [.ref t]) Q E s := by
  obtain ⟨ah, dp, fr, gd, un⟩ := A
  dsimp only at hh hdp hu
  subst hh
  walk_at "pb_enter"
  walk_at "pb_steps"
  rename Fr _ _ _ _ => F
  rename News _ _ _ _ => N
  exact hQ _ _ _ F.keep (N _ (List.Mem.head _)).2.2 (N.get (List.Mem.head _))
theorem labels_d {prog : Program} {w : World} {A : Around} {E : Value → Shared → Prop} {s : Shared} {h₀ : Heap} {p : Program} {loose : List Str} {mg mb : Str → Option Value} {Q : Value → Shared → Prop}
    {t : Addr} {k : Str} {kt : Tok} {v1 : Value} {i : Int} {u : Tok}
    (X : (hd.heap_39 w.params).In h₀) (T : TopRead p loose mg mb h₀) (st : h₀.StaysIn s.heap) (hh : A.handled = none) (hdp : A.depth + 5 < recursionLimit) (hu : A.units + 50 < cLine)
    (hT : IsTup s.heap t [Value.str k kt, v1, Value.int i u].toArray) (hc : (k == Str.ofString "choose") = false) (hj : (k == Str.ofString "jump") = false)
    (ha : ((["push", "calc", "put", "key", "test", "less"] : List Str).any fun x => x == k) = true)
    (hQ : ∀ t' h' tk, s.heap.StaysIn h' → s.heap.get? t' = none → h'.get? t' = some { cls := .type "tuple", data := .seq (List.toArray (if i = -1 then [] else [Value.int i u])) } → Q (.ref t') { s with heap := h', toks := tk }) :
    wpAny (model prog w) A (call (.ref 49) [.ref t]) Q E s := by
  obtain ⟨ah, dp, fr, gd, un⟩ := A
  dsimp only at hh hdp hu
  subst hh
  walk_at "pb_enter"
  walk_at "pb_steps"
  · rename Fr _ _ _ _ => F
    rename News _ _ _ _ => N
    rename i ≠ -1 => hi
    rw [if_neg hi] at hQ
    exact hQ _ _ _ F.keep (N _ (List.Mem.head _)).2.2 (N.get (List.Mem.head _))
  · rename Fr _ _ _ _ => F
    rename News _ _ _ _ => N
    rename i = -1 => hi
    rw [if_pos hi] at hQ
    exact hQ _ _ _ F.keep (N _ (List.Mem.head _)).2.2 (N.get (List.Mem.head _))

-- Relab
theorem fillK4 : (PySem.Challenge.rw_pb0247_01.Holds ∧ ∀ P, hd.heap_39 P = []) → True := by k_fill; intro _; trivial

/-- a def's object -/
noncomputable def FnHere (h : Heap) (c : Addr) : Prop := ∃ a d fd sl, h.get? c = some ⟨a, d, .func fd, sl⟩
theorem FnHere.keeps {h h' : Heap} {c : Addr} (k : h.StaysIn h') (x : FnHere h c) : FnHere h' c := let ⟨a, d, fd, sl, e⟩ := x; ⟨a, d, fd, sl, k _ _ e⟩
theorem keeps_fn {M : Model} {c : Addr} (h : Heap) (x : FnHere h c) : ∃ k, (k = Keeper.frame ∨ k = Keeper.machine ∨ k = Keeper.boundFrame) ∧ Looks M h (keeperOf (.ref c)) k := by
  obtain ⟨a, d, fd, sl, e⟩ := x
  exact ⟨.frame, .inl rfl, (Looks.ld (part := none) e).andThen .now⟩
theorem callWith_fn {M : Model} {A : Around} {E : Value → Shared → Prop} {s : Shared} {env : Env} {pos : Pos} {first : List Value} {Q : Value → Shared → Prop} {g : Heap} {c : Addr} {e : PySem.Expr} {rest : List PySem.Expr}
    (_x : FnHere g c) (h : wpAny M A (spliced (backTo pos (starEach (e :: rest) env))) (fun vs s₁ => FnHere s₁.heap c ∧ wpAny M A (call (.ref c) (first ++ vs)) Q E s₁) E s)
    (he : starEach (e :: rest) env = (false, eval e env) :: starEach rest env) (hplain : (backTo pos (starEach rest env)).any (·.1) = false) :
    wpAny M A (callWith pos (.ref c) first (backTo pos (starEach (e :: rest) env)) []) Q E s := by
  rw [he] at h ⊢
  exact callWith_of (by show ((false || (backTo pos (starEach rest env)).any (·.1)) || false) = false; rw [hplain]; rfl) keeps_fn (evalArgs_plain h)

/-- what a call of the closure gives, at any state that holds it -/
noncomputable def ChangeAt (prog : Program) (w : World) (h : Heap) (c : Addr) (f : Nat → Nat) : Prop := FnHere h c ∧
  ∀ (A : Around) (s : Shared) (E : Value → Shared → Prop) (Q : Value → Shared → Prop) (n : Nat) (tk : Tok), h.StaysIn s.heap → A.handled = none → A.depth + 20 < recursionLimit → A.units + 200 < cLine → n < 1000 →
    (∀ h' u tk', s.heap.StaysIn h' → Q (.int (f n : Nat) u) { s with heap := h', toks := tk' }) → wpAny (model prog w) A (call (.ref c) [.int (n : Nat) tk]) Q E s
theorem ChangeAt.keeps {prog : Program} {w : World} {h h' : Heap} {c : Addr} {f : Nat → Nat} (k : h.StaysIn h') (C : ChangeAt prog w h c f) : ChangeAt prog w h' c f :=
  ⟨C.1.keeps k, fun A s E Q n tk hs => C.2 A s E Q n tk fun b o e => hs b o (k b o e)⟩
theorem change_use {prog : Program} {w : World} {A : Around} {E : Value → Shared → Prop} {s : Shared} {g : Heap} {L : Addr} {m : Str → Option Value} {c : Addr} {f : Nat → Nat} {i : Int} {n : Nat} {tk : Tok} {Q : Value → Shared → Prop}
    (C : ChangeAt prog w g c f) (F : Fr g L s.heap m) (hh : A.handled = none) (hd : A.depth + 20 < recursionLimit) (hu : A.units + 200 < cLine) (e : i = (n : Nat)) (hn : n < 1000)
    (h : ∀ h' u tk', s.heap.StaysIn h' → Q (.int (f n : Nat) u) { s with heap := h', toks := tk' }) : wpAny (model prog w) A (call (.ref c) [.int i tk]) Q E s := by
  subst e
  exact C.2 A s E Q n tk F.keep hh hd hu hn h

noncomputable def relab (f : Nat → Nat) : Op → Op
  | .jump n => .jump (f n) | .test c n => .test c (f n) | .key k n => .key k (f n) | .choose a b => .choose (f a) (f b)
  | .put n => .put (f n) | .calc n => .calc (f n) | o => o
theorem wordsRelab1 : True := by
  k_with_none
  w_top off
  k_with "pb_lt" => (first | (with_reducible assumption) | (refine' lt_use (by with_reducible assumption) ?_; (repeat (first | with_reducible exact And.left | with_reducible exact id | with_reducible refine' lt_skip ?_)); done))
  trivial
theorem wordsRelab2 : True := by
  k_with "subscriptTail" => (k_here; (with_reducible show wpAny _ _ (subscriptTail _ _ (Value.ref _) (Value.int _ _)) _ _ _); k_dflt (first | (refine' item_list (by k_asm) (by with_reducible assumption) (by first | with_reducible assumption | omega) (by first | with_reducible assumption | omega) (by with_reducible assumption) ?_; k_whole) | (refine' item_tup (by k_asm) (by with_reducible assumption) (by decide) (by decide) (by (first | exact seq_0 _ | exact seq_1 _ | rfl)) (by rfl) ?_; k_whole)))
  k_with "pb_enter" => (refine' enter (by k_asm) (by k_asm) (by k_asm) (by k_is) (by k_is) (by first | exact dlt0 (by with_reducible assumption) | exact dltk (by with_reducible assumption) (by decide) | exact dlt1 (by with_reducible assumption) (by decide) | omega | (dsimp only; omega)) (by first | exact BindsTo.of_eq (binds := [(Str.ofString _, _), (Str.ofString _, _), (Str.ofString _, _)]) rfl | exact BindsTo.of_eq (binds := [(Str.ofString _, _), (Str.ofString _, _)]) rfl | exact BindsTo.of_eq (binds := [(Str.ofString _, _)]) rfl | exact BindsTo.of_eq rfl) (by exact locs rfl) ?_ (by exact rfl) (by exact rfl) (by exact rfl) (by decide); k_whole; intro Lzz' hzz' Fzz' Nzz' Xzz' Tzz'; (try dsimp only); (try k_fold))
  k_with "call builtin:len" => (k_here; (with_reducible show wpAny _ _ (PySem.call _ [Value.ref _]) _ _ _); k_dflt (refine' len_l (by k_asm) (by with_reducible assumption) (by first | with_reducible assumption | omega) ?_; k_whole))
  k_with "truthy bool" => (refine' truthy_known (by with_reducible assumption) ?_)
  k_with "pb_steps" => (repeat' (first | (k_unfold; (try dsimp only)) | walk1 | (dsimp only; walk1) | fail "no step"))
  k_with "pb_enterC" => (refine' enterC (mt := []) (Apart.whole _) (by k_asm) (by k_asm) (by k_is) (by k_is) (by first | exact dlt0 (by with_reducible assumption) | exact dltk (by with_reducible assumption) (by decide) | exact dlt1 (by with_reducible assumption) (by decide) | omega | (dsimp only; omega)) (by first | exact BindsTo.of_eq (binds := [(Str.ofString _, _), (Str.ofString _, _), (Str.ofString _, _)]) rfl | exact BindsTo.of_eq (binds := [(Str.ofString _, _), (Str.ofString _, _)]) rfl | exact BindsTo.of_eq (binds := [(Str.ofString _, _)]) rfl | exact BindsTo.of_eq rfl) (by exact rfl) (by decide +kernel) ?_ (by exact rfl) (by exact rfl) (by exact rfl); k_whole; intro Lzz' hzz' tkzz' cellszz' Fzz' Nzz' Yzz' l1zz stzz' zzz'; clear l1zz stzz' zzz'; k_cells Yzz'; (try simp only [List.cons_append, List.nil_append, List.append_nil] at Nzz'); (try dsimp only); (try k_fold))
  k_with "callWith ref" => (k_here; refine' callWith_fn (by with_reducible assumption) ?_ (by rfl) (by rfl); k_whole)
  k_with "eval ListComp" => (k_here; k_dflt (refine' eval_ListCompJ (by exact rfl) (by decide) (by rfl) (by decide) (by rfl) ?_ (by (intro _; rfl)); k_whole))
  k_with "eval Name" => (k_here; k_inBlock; (with_reducible rename Fr _ _ _ _ => kFzz); k_dflt (first | (refine' nameC_L kFzz (by rfl) (by rfl) (by rfl) (by decide) (by with_reducible assumption) ?_; k_whole) | (refine' nameC_C kFzz (by rfl) (by rfl) (by rfl) (by decide) (by with_reducible assumption) (by with_reducible assumption) ?_; k_whole) | (refine' nameC_F kFzz (by rfl) (by rfl) (by rfl) (by decide) (by decide) (by with_reducible assumption) (by with_reducible assumption) ?_; k_whole) | (refine' nameC_K kFzz (by rfl) (by rfl) (by rfl) (by decide) (by k_asm) (by k_asm) (by k_is) ?_; k_whole)))
  k_with "And" => ((with_reducible show FnHere _ _ ∧ _); (with_reducible rename Fr _ _ _ _ => kFzz); k_dflt (refine ⟨FnHere.keeps (Fr.keep kFzz) (by with_reducible assumption), ?_⟩); try dsimp only [List.nil_append, List.cons_append])
  k_with "call ref" => (k_here; (with_reducible show wpAny _ _ (PySem.call (Value.ref _) [Value.int _ _]) _ _ _); (with_reducible rename Fr _ _ _ _ => kFzz); k_dflt (refine' change_use (by with_reducible assumption) kFzz (by rfl) (by (first | exact dlt1 (by with_reducible assumption) (by decide) | exact dltk (by with_reducible assumption) (by decide) | exact dlt2 (by with_reducible assumption) (by decide) | (simp only [Around.deeper]; omega))) (by (first | exact dlt1 (by with_reducible assumption) (by decide) | exact dltk (by with_reducible assumption) (by decide) | exact dlt2 (by with_reducible assumption) (by decide) | (simp only [Around.deeper]; omega))) (by with_reducible rfl) (by first | with_reducible assumption | omega) ?_; k_whole); intro h9zz u9zz t9zz st9zz; (have Fzz' := Fr.keeps kFzz st9zz); (with_reducible rename News _ _ _ _ => kNzz); (have Nzz' := News.grown kNzz st9zz); (try k_sweep); (try dsimp only))
  k_with "pb_upto" => (repeat' (first | (k_unfold; (try dsimp only)) | ((fail_if_success (with_reducible show wpAny _ _ (PySem.call (Value.type _) _) _ _ _)); walk1) | (dsimp only; (fail_if_success (with_reducible show wpAny _ _ (PySem.call (Value.type _) _) _ _ _)); walk1) | fail "no step"))
  trivial

theorem relab_jump {prog : Program} {w : World} {A : Around} {E : Value → Shared → Prop} {s : Shared} {h₀ : Heap} {p : Program} {loose : List Str} {mg mb : Str → Option Value} {Q : Value → Shared → Prop}
    {t c : Addr} {kt u : Tok} {n : Nat} {f : Nat → Nat}
    (X : (hd.heap_39 w.params).In h₀) (T : TopRead p loose mg mb h₀) (st : h₀.StaysIn s.heap) (hh : A.handled = none) (hdp : A.depth + 30 < recursionLimit) (hu : A.units + 300 < cLine)
    (hT : IsTup s.heap t [Value.str (Str.ofString "jump") kt, Value.int (n : Nat) u].toArray) (hn : n < 1000) (C : ChangeAt prog w s.heap c f)
    (hQ : ∀ r h' tk, s.heap.StaysIn h' → DIn h' r (Op.jump (f n)).d → Q r { s with heap := h', toks := tk }) :
    wpAny (model prog w) A (call (.ref 54) [.ref t, .ref c]) Q E s := by
  obtain ⟨ah, dp, fr, gd, un⟩ := A
  dsimp only at hh hdp hu
  subst hh
  have hC := C.1
  replace X := X.keeps st
  replace T := T.keeps st
  walk_at "pb_enterC"
  rename _ = Data.cell _ => d1
  replace d1 : _ = Data.cell (some (Value.ref c)) := d1
  walk_at "pb_steps"
  rename Fr _ _ _ _ => F
  rename News _ _ _ _ => N
  refine hQ _ _ _ F.keep (.tup ⟨_, N.get (List.Mem.head _), rfl, _, rfl⟩ (.cons (.str _ _) (.cons (.int _ _) .nil)))
theorem relab_choose {prog : Program} {w : World} {A : Around} {E : Value → Shared → Prop} {s : Shared} {h₀ : Heap} {p : Program} {loose : List Str} {mg mb : Str → Option Value} {Q : Value → Shared → Prop}
    {t c t' : Addr} {kt u u' : Tok} {n n' : Nat} {f : Nat → Nat}
    (X : (hd.heap_39 w.params).In h₀) (T : TopRead p loose mg mb h₀) (st : h₀.StaysIn s.heap) (hh : A.handled = none) (hdp : A.depth + 30 < recursionLimit) (hu : A.units + 300 < cLine)
    (hT : IsTup s.heap t [Value.str (Str.ofString "choose") kt, Value.ref t'].toArray) (hT' : IsTup s.heap t' [Value.int (n : Nat) u, Value.int (n' : Nat) u'].toArray) (hn : n < 1000) (hn' : n' < 1000) (C : ChangeAt prog w s.heap c f)
    (hQ : ∀ r h' tk, s.heap.StaysIn h' → DIn h' r (Op.choose (f n) (f n')).d → Q r { s with heap := h', toks := tk }) :
    wpAny (model prog w) A (call (.ref 54) [.ref t, .ref c]) Q E s := by
  obtain ⟨ah, dp, fr, gd, un⟩ := A
  dsimp only at hh hdp hu
  subst hh
  have hC := C.1
  replace X := X.keeps st
  replace T := T.keeps st
  walk_at "pb_enterC"
  rename _ = Data.cell _ => d1
  replace d1 : _ = Data.cell (some (Value.ref c)) := d1
  walk_at "pb_steps"
  rename Fr _ _ _ _ => F
  rename News _ _ _ _ => N
  have hc1 := N.get (List.Mem.head _)
  have C1 := C.keeps F.keep
  have hC1 := C1.1
  have X1 := X.keeps F.keep
  have T1 := T.keeps F.keep
  refine comp_map_tuple (vs := [Value.int (n : Nat) u, Value.int (n' : Nat) u']) (ds := [.int (f n : Nat), .int (f n' : Nat)]) rfl (hT'.keeps F.keep) (by simp) rfl (fun _ h => nomatch h) ?_ ?_
  · intro C9 i v d h9 tk9 m9 hC9 hv hd9 F9 hm N9
    obtain ⟨k9, u9, rfl, hk9, rfl⟩ : ∃ (k : Nat) (u : Tok), v = .int (k : Nat) u ∧ k < 1000 ∧ d = .int (f k : Nat) := by
      rcases i with _ | _ | i
      · simp at hv hd9; exact ⟨n, u, hv.symm, hn, hd9.symm⟩
      · simp at hv hd9; exact ⟨n', u', hv.symm, hn', hd9.symm⟩
      · simp at hv
    walk_at "pb_steps"
    · rename Heap.StaysIn _ _ => st9
      exact st9
    · exact .int _ _
  · intro D9 h9 tk9 ys hD9 ha9 hd9 hk9
    have F' := F.keeps fun b o e => hk9 b o (fun q => nomatch q) e
    have N' := N.grown fun b o e => hk9 b o (fun q => nomatch q) e
    clear F N hk9
    obtain ⟨a1, a2, rfl⟩ : ∃ a1 a2, ys = [Value.int (f n : Nat) a1, Value.int (f n' : Nat) a2] := by
      cases hd9 with
      | cons h1 hd9 =>
        cases h1
        cases hd9 with
        | cons h1 hd9 =>
          cases h1
          cases hd9
          exact ⟨_, _, rfl⟩
    walk_at "pb_upto"
    refine tuple_ofL F' N' (vs := [Value.int (f n : Nat) a1, Value.int (f n' : Nat) a2]) ha9.isList ?_ (by rw [sizeLine_eq]; simp)
    intro D8 h8 F8 N8 hk8
    clear F' N'
    walk_at "pb_steps"
    rename Fr _ _ _ _ => F
    rename News _ _ _ _ => N
    exact hQ _ _ _ F.keep (.tup ⟨_, N.get (List.Mem.head _), rfl, _, rfl⟩ (.cons (.str _ _) (.cons (.tup ⟨_, N.get (List.Mem.tail _ (List.Mem.head _)), rfl, _, rfl⟩ (.cons (.int _ _) (.cons (.int _ _) .nil))) .nil)))

-- Slice2
section
section
variable {prog : Program} {w : World} {A : Around} {E : Value → Shared → Prop} {s : Shared}
theorem adjust_2 (n : Nat) (hn : 2 ≤ n) : Builtin.Slice.sliceAdjust none (some (2 : Int)) 1 (n : Int) = (0, 2) := by
  unfold Builtin.Slice.sliceAdjust
  have h1 : ¬ ((1 : Int) < 0) := by omega
  have h2 : ¬ ((2 : Int) < 0) := by omega
  simp only [h1, h2, if_false]
  congr 1
  omega
theorem sliceApplied_2 {sl : Addr} {n : Nat} {u : Tok} {Q : Int × Int × Nat → Shared → Prop} (hs : s.heap.IsSliceOf sl .none (.int 2 u) .none) (hn : 2 ≤ n) (h : Q (0, 1, 2) s) :
    wpAny (model prog w) A (Builtin.Slice.sliceApplied (.ref sl) (pure (n : Int))) Q E s := by
  obtain ⟨os, hos, hcs, hds⟩ := id hs
  unfold Builtin.Slice.sliceApplied Builtin.Slice.sliceFields
  refine wpAny_bind (wpAny_bind (wpAny_field hos hds (x := .none) rfl (wpAny_bind (wpAny_field hos hds (x := .int 2 u) rfl (wpAny_bind (wpAny_field hos hds (x := .none) rfl (wpAny_pure ?_)))))))
  refine wpAny_bind (slicePart_none ?_)
  show wpAny _ _ (if ((1 : Int) == 0) = true then _ else _) _ _ s
  rw [if_neg (by decide)]
  refine wpAny_bind (slicePart_none (wpAny_bind (slicePart_int (wpAny_bind (wpAny_pure ?_)))))
  show wpAny _ _ (match Builtin.Slice.sliceAdjust none (some (2 : Int)) 1 (n : Int) with | (lo, hi) => pure (lo, (1 : Int), Builtin.Slice.slicePlaces lo hi 1)) _ _ s
  rw [adjust_2 n hn]
  exact wpAny_pure h
theorem getItem_tup2 {t sl : Addr} {x0 x1 : Value} {r : List Value} {u : Tok} {Q : Value → Shared → Prop} (ht : IsTup s.heap t (List.toArray (x0 :: x1 :: r))) (hs : s.heap.IsSliceOf sl .none (.int 2 u) .none)
    (h1 : r = [] → Q (.ref t) s) (h2 : Q (.ref s.heap.objs.size) { s with heap := s.heap.push { cls := .type "tuple", data := .seq (List.toArray [x0, x1]) } }) :
    wpAny (model prog w) A (getItem (.ref t) (.ref sl)) Q E s := by
  obtain ⟨os, hos, hcs, hds⟩ := id hs
  have hTs : s.TypeIs (.ref sl) "slice" := ⟨os, hos, hcs⟩
  unfold getItem
  try with_reducible refine wpAny_holding ?_
  first | refine wpAny_bind (wpAny_pure ?_) | skip
  refine wpAny_bind (wpAny_sequenceKey ht.typeIs (by decide) ?_)
  refine wpAny_bind (wpAny_callSpecial?_slot (name := Str.ofString "__getitem__") ht.typeIs slot_tuple_getitem
    (wpAny_call_entry slot_tuple_getitem ht.typeIs entry_tuple_getitem ?_ (args_tuple_getitem _ _)))
  show wpAny _ _ (Builtin.Tuple.tupleItemsOf (.ref t) >>= _) _ _ s
  refine wpAny_bind (tupleItemsOf_ ht ?_)
  refine wpAny_bind (wpAny_typeOf hTs ?_)
  rw [if_pos (by decide)]
  refine wpAny_bind (sliceApplied_2 hs (n := (List.toArray (x0 :: x1 :: r)).size) (by simp) ?_)
  cases r with
  | nil =>
    show wpAny _ _ (if ((0 : Int) == 0 && (1 : Int) == 1 && 2 == (List.toArray [x0, x1]).size) = true then _ else _) _ _ s
    rw [if_pos (by simp)]
    have h1' := h1 rfl
    unfold Builtin.Tuple.tupleIsExact
    first
      | exact wpAny_bind (wpAny_bind (wpAny_typeOf ht.typeIs (wpAny_pure (wpAny_bind (wpAny_rule (wpAny_pure ⟨_, rfl, wpAny_pure h1'⟩))))))
      | exact wpAny_bind (wpAny_bind (wpAny_typeOf ht.typeIs (wpAny_pure (wpAny_bind (wpAny_rule (wpAny_bind (wpAny_pure (wpAny_pure ⟨_, rfl, wpAny_pure h1'⟩))))))))
  | cons x2 r =>
    show wpAny _ _ (if ((0 : Int) == 0 && (1 : Int) == 1 && 2 == (List.toArray (x0 :: x1 :: x2 :: r)).size) = true then _ else _) _ _ s
    rw [if_neg (by simp)]
    have e : ((List.range 2).filterMap fun (k : Nat) => (List.toArray (x0 :: x1 :: x2 :: r))[((0 : Int) + (k : Int) * 1).toNat]?).toArray = List.toArray [x0, x1] := by
      simp [List.range, List.range.loop, List.filterMap]
    rw [e]
    have hdrop : sizeOk (.seq (List.toArray [x0, x1])) := by
      show (List.toArray [x0, x1]).size ≤ sizeLine
      rw [sizeLine_eq]; simp
    first
      | exact wpAny_bind (m := Builtin.Tuple.tupleExact _) (wpAny_newObj_type (wpAny_pure ⟨_, rfl, wpAny_pure h2⟩) hdrop)
      | exact wpAny_bind (m := Builtin.Tuple.tupleExact _) (wpAny_newObj_type (wpAny_bind (wpAny_pure (wpAny_pure ⟨_, rfl, wpAny_pure h2⟩))) hdrop)
      | exact wpAny_bind (wpAny_bind (m := Builtin.Tuple.tupleExact _) (wpAny_newObj_type (wpAny_pure (wpAny_pure ⟨_, rfl, wpAny_pure h2⟩)) hdrop))
      | exact wpAny_bind (wpAny_bind (m := Builtin.Tuple.tupleExact _) (wpAny_newObj_type (wpAny_pure ⟨_, rfl, wpAny_pure h2⟩) hdrop))
end
end

-- Relab2
theorem fillK5 : (PySem.Challenge.rw_pb0247_01.Holds ∧ ∀ P, hd.heap_39 P = []) → True := by k_fill; intro _; trivial
theorem wordsRelab21 : True := by
  k_with_none
  w_top off
  k_with "pb_lt" => (first | (with_reducible assumption) | (refine' lt_use (by with_reducible assumption) ?_; (repeat (first | with_reducible exact And.left | with_reducible exact id | with_reducible refine' lt_skip ?_)); done))
  trivial
theorem wordsRelab22 : True := by
  k_with "subscriptTail" => (k_here; (with_reducible show wpAny _ _ (subscriptTail _ _ (Value.ref _) (Value.int _ _)) _ _ _); k_dflt (first | (refine' item_list (by k_asm) (by with_reducible assumption) (by first | with_reducible assumption | omega) (by first | with_reducible assumption | omega) (by with_reducible assumption) ?_; k_whole) | (refine' item_tup (by k_asm) (by with_reducible assumption) (by decide) (by decide) (by (first | exact seq_0 _ | exact seq_1 _ | rfl)) (by rfl) ?_; k_whole)))
  k_with "pb_enter" => (refine' enter (by k_asm) (by k_asm) (by k_asm) (by k_is) (by k_is) (by first | exact dlt0 (by with_reducible assumption) | exact dltk (by with_reducible assumption) (by decide) | exact dlt1 (by with_reducible assumption) (by decide) | omega | (dsimp only; omega)) (by first | exact BindsTo.of_eq (binds := [(Str.ofString _, _), (Str.ofString _, _), (Str.ofString _, _)]) rfl | exact BindsTo.of_eq (binds := [(Str.ofString _, _), (Str.ofString _, _)]) rfl | exact BindsTo.of_eq (binds := [(Str.ofString _, _)]) rfl | exact BindsTo.of_eq rfl) (by exact locs rfl) ?_ (by exact rfl) (by exact rfl) (by exact rfl) (by decide); k_whole; intro Lzz' hzz' Fzz' Nzz' Xzz' Tzz'; (try dsimp only); (try k_fold))
  k_with "call builtin:len" => (k_here; (with_reducible show wpAny _ _ (PySem.call _ [Value.ref _]) _ _ _); k_dflt (refine' len_l (by k_asm) (by with_reducible assumption) (by first | with_reducible assumption | omega) ?_; k_whole))
  k_with "truthy bool" => (refine' truthy_known (by with_reducible assumption) ?_)
  k_with "pb_steps" => (repeat' (first | (k_unfold; (try dsimp only)) | walk1 | (dsimp only; walk1) | fail "no step"))
  k_with "pb_enterC" => (refine' enterC (mt := []) (Apart.whole _) (by k_asm) (by k_asm) (by k_is) (by k_is) (by first | exact dlt0 (by with_reducible assumption) | exact dltk (by with_reducible assumption) (by decide) | exact dlt1 (by with_reducible assumption) (by decide) | omega | (dsimp only; omega)) (by first | exact BindsTo.of_eq (binds := [(Str.ofString _, _), (Str.ofString _, _), (Str.ofString _, _)]) rfl | exact BindsTo.of_eq (binds := [(Str.ofString _, _), (Str.ofString _, _)]) rfl | exact BindsTo.of_eq (binds := [(Str.ofString _, _)]) rfl | exact BindsTo.of_eq rfl) (by exact rfl) (by decide +kernel) ?_ (by exact rfl) (by exact rfl) (by exact rfl); k_whole; intro Lzz' hzz' tkzz' cellszz' Fzz' Nzz' Yzz' l1zz stzz' zzz'; clear l1zz stzz' zzz'; k_cells Yzz'; (try simp only [List.cons_append, List.nil_append, List.append_nil] at Nzz'); (try dsimp only); (try k_fold))
  k_with "callWith ref" => (k_here; refine' callWith_fn (by with_reducible assumption) ?_ (by rfl) (by rfl); k_whole)
  k_with "eval ListComp" => (k_here; k_dflt (refine' eval_ListCompJ (by exact rfl) (by decide) (by rfl) (by decide) (by rfl) ?_ (by (intro _; rfl)); k_whole))
  k_with "eval Name" => (k_here; k_inBlock; (with_reducible rename Fr _ _ _ _ => kFzz); k_dflt (first | (refine' nameC_L kFzz (by rfl) (by rfl) (by rfl) (by decide) (by with_reducible assumption) ?_; k_whole) | (refine' nameC_C kFzz (by rfl) (by rfl) (by rfl) (by decide) (by with_reducible assumption) (by with_reducible assumption) ?_; k_whole) | (refine' nameC_F kFzz (by rfl) (by rfl) (by rfl) (by decide) (by decide) (by with_reducible assumption) (by with_reducible assumption) ?_; k_whole) | (refine' nameC_K kFzz (by rfl) (by rfl) (by rfl) (by decide) (by k_asm) (by k_asm) (by k_is) ?_; k_whole)))
  k_with "And" => ((with_reducible show FnHere _ _ ∧ _); (with_reducible rename Fr _ _ _ _ => kFzz); k_dflt (refine ⟨FnHere.keeps (Fr.keep kFzz) (by with_reducible assumption), ?_⟩); try dsimp only [List.nil_append, List.cons_append])
  k_with "call ref" => (k_here; (with_reducible show wpAny _ _ (PySem.call (Value.ref _) [Value.int _ _]) _ _ _); (with_reducible rename Fr _ _ _ _ => kFzz); k_dflt (refine' change_use (by with_reducible assumption) kFzz (by rfl) (by (first | exact dlt1 (by with_reducible assumption) (by decide) | exact dltk (by with_reducible assumption) (by decide) | exact dlt2 (by with_reducible assumption) (by decide) | (simp only [Around.deeper]; omega))) (by (first | exact dlt1 (by with_reducible assumption) (by decide) | exact dltk (by with_reducible assumption) (by decide) | exact dlt2 (by with_reducible assumption) (by decide) | (simp only [Around.deeper]; omega))) (by with_reducible rfl) (by first | with_reducible assumption | omega) ?_; k_whole); intro h9zz u9zz t9zz st9zz; (have Fzz' := Fr.keeps kFzz st9zz); (with_reducible rename News _ _ _ _ => kNzz); (have Nzz' := News.grown kNzz st9zz); (try k_sweep); (try dsimp only))
  k_with "pb_upto" => (repeat' (first | (k_unfold; (try dsimp only)) | ((fail_if_success (with_reducible show wpAny _ _ (PySem.call (Value.type _) _) _ _ _)); walk1) | (dsimp only; (fail_if_success (with_reducible show wpAny _ _ (PySem.call (Value.type _) _) _ _ _)); walk1) | fail "no step"))
  trivial


theorem eq_nil {prog : Program} {w : World} {A : Around} {E : Value → Shared → Prop} {s : Shared} {g : Heap} {L : Addr} {news : List (Addr × Obj)} {a b : Addr} {vs : List Value} {n k : Nat} {Q : Value → Shared → Prop} (N : News g L s.heap news)
    (ha : (a, ({ cls := .type "tuple", data := .seq (List.toArray vs) n } : Obj)) ∈ news) (hb : (b, ({ cls := .type "tuple", data := .seq #[] k } : Obj)) ∈ news) (hu : A.units < cLine) (h : Q (.bool vs.isEmpty) s) :
    wpAny (model prog w) A (compareOp .Eq (.ref a) (.ref b)) Q E s := by
  refine rcAt_tuplesS (items := vs) (items2 := []) ⟨_, N.get ha, rfl, _, rfl⟩ ⟨_, N.get hb, rfl, _, rfl⟩ hu ?_ prog w E Q h
  cases vs with
  | nil => exact .nil
  | cons x xs => exact .right
theorem labels_news {g h h' : Heap} {L t : Addr} {o : Obj} {m : Str → Option Value} {news : List (Addr × Obj)} (F : Fr g L h m) (N : News g L h news) (k : h.StaysIn h') (hn : h.get? t = none) (ho : h'.get? t = some o) : News g L h' ((t, o) :: news) := by
  intro p hp
  rcases List.mem_cons.mp hp with rfl | hp
  · refine ⟨ho, fun q => ?_, ?_⟩
    · obtain ⟨o', _, _, h1, _⟩ := F.ns
      simp only at q
      rw [q, h1] at hn; cases hn
    · cases e : g.get? t with
      | none => rfl
      | some o' => rw [F.keep _ _ e] at hn; cases hn
  · exact ⟨k _ _ (N p hp).1, (N p hp).2⟩
theorem wordsRelab23 : True := by
  k_with "call ref" => (k_here; (with_reducible show wpAny _ _ (PySem.call (Value.ref 49) [Value.ref _]) _ _ _); (with_reducible rename Fr _ _ _ _ => kFzz); (with_reducible rename News _ _ _ _ => kNzz); k_dflt (first | (refine' labels_c (by k_asm) (by k_asm) (Fr.keep kFzz) (by rfl) (by (first | exact dlt1 (by with_reducible assumption) (by decide) | exact dltk (by with_reducible assumption) (by decide) | exact dlt2 (by with_reducible assumption) (by decide) | (simp only [Around.deeper]; omega))) (by (first | exact dlt1 (by with_reducible assumption) (by decide) | exact dltk (by with_reducible assumption) (by decide) | exact dlt2 (by with_reducible assumption) (by decide) | (simp only [Around.deeper]; omega))) (by exact IsTup.keeps (by with_reducible assumption) (Fr.keep kFzz)) (by with_reducible assumption) (by with_reducible assumption) (by with_reducible assumption) ?_; k_whole) | (refine' labels_d (by k_asm) (by k_asm) (Fr.keep kFzz) (by rfl) (by (first | exact dlt1 (by with_reducible assumption) (by decide) | exact dltk (by with_reducible assumption) (by decide) | exact dlt2 (by with_reducible assumption) (by decide) | (simp only [Around.deeper]; omega))) (by (first | exact dlt1 (by with_reducible assumption) (by decide) | exact dltk (by with_reducible assumption) (by decide) | exact dlt2 (by with_reducible assumption) (by decide) | (simp only [Around.deeper]; omega))) (by exact IsTup.keeps (by with_reducible assumption) (Fr.keep kFzz)) (by with_reducible assumption) (by with_reducible assumption) (by with_reducible assumption) ?_; k_whole)); intro t9zz h9zz k9zz st9zz fr9zz ob9zz; (try simp only [if_true, if_false, eq_self_iff_true, *] at ob9zz); (have Fzz' := Fr.keeps kFzz st9zz); (have Nzz' := labels_news kFzz kNzz st9zz fr9zz ob9zz); clear ob9zz fr9zz; (try k_sweep); (try dsimp only))
  k_with "compareOp Eq ref ref" => (k_here; k_dflt (refine' eq_nil (by k_asm) (by k_mem) (by k_mem) (by (first | exact dlt1 (by with_reducible assumption) (by decide) | exact dltk (by with_reducible assumption) (by decide) | exact dlt2 (by with_reducible assumption) (by decide) | (simp only [Around.deeper]; omega))) ?_; k_whole))
  trivial

theorem relab_none {prog : Program} {w : World} {A : Around} {E : Value → Shared → Prop} {s : Shared} {h₀ : Heap} {p : Program} {loose : List Str} {mg mb : Str → Option Value} {Q : Value → Shared → Prop}
    {t c : Addr} {k : Str} {kt : Tok} {v1 : Value} {r : List Value}
    (X : (hd.heap_39 w.params).In h₀) (T : TopRead p loose mg mb h₀) (st : h₀.StaysIn s.heap) (hh : A.handled = none) (hdp : A.depth + 30 < recursionLimit) (hu : A.units + 300 < cLine)
    (hT : IsTup s.heap t (Value.str k kt :: v1 :: r).toArray) (hc : (k == Str.ofString "choose") = false) (hj : (k == Str.ofString "jump") = false)
    (ha : ((["push", "calc", "put", "key", "test", "less"] : List Str).any fun x => x == k) = false)
    (hQ : ∀ h' tk, s.heap.StaysIn h' → Q (.ref t) { s with heap := h', toks := tk }) :
    wpAny (model prog w) A (call (.ref 54) [.ref t, .ref c]) Q E s := by
  obtain ⟨ah, dp, fr, gd, un⟩ := A
  dsimp only at hh hdp hu
  subst hh
  replace X := X.keeps st
  replace T := T.keeps st
  walk_at "pb_enterC"
  rename _ = Data.cell _ => d1
  replace d1 : _ = Data.cell (some (Value.ref c)) := d1
  walk_at "pb_steps"
  rename Fr _ _ _ _ => F
  exact hQ _ _ F.keep
theorem relab_some {prog : Program} {w : World} {A : Around} {E : Value → Shared → Prop} {s : Shared} {h₀ : Heap} {p : Program} {loose : List Str} {mg mb : Str → Option Value} {Q : Value → Shared → Prop}
    {t c : Addr} {k : Str} {kt : Tok} {v1 : Value} {n : Nat} {u : Tok} {f : Nat → Nat}
    (X : (hd.heap_39 w.params).In h₀) (T : TopRead p loose mg mb h₀) (st : h₀.StaysIn s.heap) (hh : A.handled = none) (hdp : A.depth + 30 < recursionLimit) (hu : A.units + 300 < cLine)
    (hT : IsTup s.heap t [Value.str k kt, v1, Value.int (n : Nat) u].toArray) (hc : (k == Str.ofString "choose") = false) (hj : (k == Str.ofString "jump") = false)
    (ha : ((["push", "calc", "put", "key", "test", "less"] : List Str).any fun x => x == k) = true) (hn : n < 1000) (C : ChangeAt prog w s.heap c f)
    (hQ : ∀ t' h' tk u, s.heap.StaysIn h' → IsTup h' t' [Value.str k kt, v1, Value.int (f n : Nat) u].toArray → Q (.ref t') { s with heap := h', toks := tk }) :
    wpAny (model prog w) A (call (.ref 54) [.ref t, .ref c]) Q E s := by
  obtain ⟨ah, dp, fr, gd, un⟩ := A
  dsimp only at hh hdp hu
  subst hh
  have hi : ((n : Nat) : Int) ≠ -1 := by omega
  have hC := C.1
  replace X := X.keeps st
  replace T := T.keeps st
  walk_at "pb_enterC"
  rename _ = Data.cell _ => d1
  replace d1 : _ = Data.cell (some (Value.ref c)) := d1
  walk_at "pb_steps"
  · rename List.isEmpty _ = true => h9
    simp at h9
  · rename Fr _ _ _ _ => F
    rename News _ _ _ _ => N
    exact hQ _ _ _ _ F.keep ⟨_, N.get (List.Mem.head _), rfl, _, rfl⟩
theorem relab_push {prog : Program} {w : World} {A : Around} {E : Value → Shared → Prop} {s : Shared} {h₀ : Heap} {p : Program} {loose : List Str} {mg mb : Str → Option Value} {Q : Value → Shared → Prop}
    {t c : Addr} {k : Str} {kt : Tok} {v1 : Value} {u : Tok}
    (X : (hd.heap_39 w.params).In h₀) (T : TopRead p loose mg mb h₀) (st : h₀.StaysIn s.heap) (hh : A.handled = none) (hdp : A.depth + 30 < recursionLimit) (hu : A.units + 300 < cLine)
    (hT : IsTup s.heap t [Value.str k kt, v1, Value.int (-1) u].toArray) (hc : (k == Str.ofString "choose") = false) (hj : (k == Str.ofString "jump") = false)
    (ha : ((["push", "calc", "put", "key", "test", "less"] : List Str).any fun x => x == k) = true)
    (hQ : ∀ h' tk, s.heap.StaysIn h' → Q (.ref t) { s with heap := h', toks := tk }) :
    wpAny (model prog w) A (call (.ref 54) [.ref t, .ref c]) Q E s := by
  obtain ⟨ah, dp, fr, gd, un⟩ := A
  dsimp only at hh hdp hu
  subst hh
  replace X := X.keeps st
  replace T := T.keeps st
  walk_at "pb_enterC"
  rename _ = Data.cell _ => d1
  replace d1 : _ = Data.cell (some (Value.ref c)) := d1
  walk_at "pb_steps"
  all_goals first | (rename List.isEmpty _ = false => h9; simp at h9; done) | (rename Fr _ _ _ _ => F; exact hQ _ _ F.keep)
/-- the contract of relabelled -/
theorem relab_c {prog : Program} {w : World} {A : Around} {E : Value → Shared → Prop} {s : Shared} {h₀ : Heap} {p : Program} {loose : List Str} {mg mb : Str → Option Value} {Q : Value → Shared → Prop}
    {ov : Value} {c : Addr} {f : Nat → Nat} {o : Op}
    (X : (hd.heap_39 w.params).In h₀) (T : TopRead p loose mg mb h₀) (st : h₀.StaysIn s.heap) (hh : A.handled = none) (hdp : A.depth + 30 < recursionLimit) (hu : A.units + 300 < cLine)
    (ho : DIn s.heap ov o.d) (hb : o.labs.all (· < 1000) = true) (C : ChangeAt prog w s.heap c f)
    (hQ : ∀ r h' tk, s.heap.StaysIn h' → DIn h' r (relab f o).d → Q r { s with heap := h', toks := tk }) :
    wpAny (model prog w) A (call (.ref 54) [ov, .ref c]) Q E s := by
  have hO := ho
  obtain ⟨t, kt, v1, r, rfl, hT, hv1, hr⟩ := ho.op
  cases o <;> simp only [Op.labs, List.all_cons, List.all_nil, Bool.and_true, Bool.and_eq_true, decide_eq_true_eq] at hb
  case jump n =>
    cases hv1; cases hr
    exact relab_jump X T st hh hdp hu hT hb C hQ
  case choose a b =>
    cases hv1 with
    | tup ht ha =>
      cases ha with
      | cons h1 ha =>
        cases h1
        cases ha with
        | cons h1 ha =>
          cases h1
          cases ha
          cases hr
          exact relab_choose X T st hh hdp hu hT ht hb.1 hb.2 C hQ
  case stop w' => exact relab_none X T st hh hdp hu hT (by simp only [Op.kind]; decide) (by simp only [Op.kind]; decide) (by simp only [Op.kind]; decide) fun h' tk k => hQ _ h' tk k (hO.keeps k)
  case leave => exact relab_none X T st hh hdp hu hT (by simp only [Op.kind]; decide) (by simp only [Op.kind]; decide) (by simp only [Op.kind]; decide) fun h' tk k => hQ _ h' tk k (hO.keeps k)
  case deed d => exact relab_none X T st hh hdp hu hT (by simp only [Op.kind]; decide) (by simp only [Op.kind]; decide) (by simp only [Op.kind]; decide) fun h' tk k => hQ _ h' tk k (hO.keeps k)
  case push =>
    cases hr with
    | cons h1 hr =>
      cases h1
      cases hr
      exact relab_push X T st hh hdp hu hT (by simp only [Op.kind]; decide) (by simp only [Op.kind]; decide) (by simp only [Op.kind]; decide) fun h' tk k => hQ _ h' tk k (hO.keeps k)
  all_goals
    cases hr with
    | cons h1 hr =>
      cases h1
      cases hr
      refine relab_some X T st hh hdp hu hT (by simp only [Op.kind]; decide) (by simp only [Op.kind]; decide) (by simp only [Op.kind]; decide) hb C fun t' h' tk u k ht' => hQ _ h' tk k ?_
      exact .tup ht' (.cons (.str _ _) (.cons (hv1.keeps k) (.cons (.int _ _) .nil)))

-- ForC
section
section
variable {prog : Program} {w : World} {A : Around} {E : Value → Shared → Prop} {s : Shared} {env : Env} {g : Heap}

/-- the end of a turn of a loop whose target is a cell -/
noncomputable def TurnC (g : Heap) (L I c : Addr) (o : Obj) (J : (Str → Option Value) → List (Addr × Obj) → Prop) (s₁ : Shared) (Q : Flow → Shared → Prop) (f : Flow) (s₂ : Shared) : Prop :=
  match f with
  | .ret v => Q (.ret v) s₂
  | .brk => Q .next s₂
  | _ => ∃ h' tk m' oc v' nx, s₂ = { s₁ with heap := h', toks := tk } ∧ Fr g L h' m' ∧ News g L h' ((I, o) :: (c, oc) :: nx) ∧ oc.data = .cell v' ∧ (∀ p ∈ nx, p.1 ≠ I ∧ p.1 ≠ c) ∧ J m' nx
theorem turnC_mk {g : Heap} {L I c : Addr} {o oc : Obj} {J : (Str → Option Value) → List (Addr × Obj) → Prop} {s₁ : Shared} {Q : Flow → Shared → Prop} {h' : Heap} {tk : Nat} {m' : Str → Option Value} {v' : Option Value} {nx : List (Addr × Obj)}
    (F : Fr g L h' m') (N : News g L h' ((I, o) :: (c, oc) :: nx)) (hc : oc.data = .cell v') (hn : ∀ p ∈ nx, p.1 ≠ I ∧ p.1 ≠ c) (hJ : J m' nx) : TurnC g L I c o J s₁ Q .next { s₁ with heap := h', toks := tk } := ⟨h', tk, m', oc, v', nx, rfl, F, N, hc, hn, hJ⟩

theorem iter_cell {x : Str} {px : Pos} {body : List Stmt} {Q : Flow → Shared → Prop} {l c : Addr} {vs : List Value} {m₀ : Str → Option Value} {nx₀ : List (Addr × Obj)} {oc₀ : Obj} {v₀ : Option Value} (J : Nat → (Str → Option Value) → List (Addr × Obj) → Prop)
    (hh : A.handled = none) (hl : g.IsList l vs.toArray) (hk : env.scope.kind = .function) (hx : env.kindOf x = some .cell) (hc : env.cells.lookup x = some c) (F : Fr g env.locals s.heap m₀) (N : News g env.locals s.heap ((c, oc₀) :: nx₀)) (hd : oc₀.data = .cell v₀)
    (hn : ∀ p ∈ nx₀, p.1 ≠ c) (hJ : J 0 m₀ nx₀)
    (turn : ∀ i v I o oc h tk m nx, vs[i]? = some v → J i m nx → Fr g env.locals h m → oc.data = .cell (some v) → News g env.locals h ((I, o) :: (c, oc) :: nx) → I ≠ c → (∀ p ∈ nx, p.1 ≠ I ∧ p.1 ≠ c) → o.cls ≠ .type "tuple" →
      wpAny (model prog w) A (execs body env) (TurnC g env.locals I c o (J (i + 1)) { s with heap := h, toks := tk } Q) (fun _ _ => False) { s with heap := h, toks := tk })
    (done : ∀ oc v h tk m nx, J vs.length m nx → Fr g env.locals h m → oc.data = .cell v → News g env.locals h ((c, oc) :: nx) → Q .next { s with heap := h, toks := tk }) :
    wpAny (model prog w) A (pyIter (.ref l)) (fun it s₂ => codeAny (model prog w) A (.forLoop (.Name x px) it body [] env) (fun r s' => match r with | .ok f => Q f s' | .error e => cameBackBy (model prog w) A env E e s') s₂) E s := by
  have hls : s.heap.IsList l vs.toArray := hl.at fun o e => F.keep l o e
  obtain ⟨ol, hol, _⟩ := id hl
  have hlt : l < g.objs.size := Heap.lt_size hol
  have hLl : env.locals ≠ l := fun q => absurd (Nat.lt_of_lt_of_le hlt F.above) (q ▸ Nat.lt_irrefl _)
  have hcl : c ≠ l := fun q => by have := (N _ (.head _)).2.2; simp only at this; rw [q, hol] at this; cases this
  have hIc : s.heap.objs.size ≠ c := fun q => absurd (Heap.lt_size (N _ (.head _)).1) (q ▸ Nat.lt_irrefl _)
  have hIL : s.heap.objs.size ≠ env.locals := fun q => absurd F.ns.lt (q ▸ Nat.lt_irrefl _)
  have hIl : s.heap.objs.size ≠ l := fun q => absurd (Nat.lt_of_lt_of_le hlt F.above) (fun h => absurd (Nat.lt_trans h F.ns.lt) (q ▸ Nat.lt_irrefl _))
  have hIg : g.get? s.heap.objs.size = none := next_is_new F
  have hcL : c ≠ env.locals := (N _ (.head _)).2.1
  refine wpAny_pyIter_list hls ?_
  refine codeAny_forLoop (fun k s' => ∃ h tk m nx oc v i, s' = { s with heap := h, toks := tk } ∧ h.IsListIter s.heap.objs.size l i ∧ Fr g env.locals h m ∧ News g env.locals h ((c, oc) :: nx) ∧ oc.data = .cell v ∧ (∀ p ∈ nx, p.1 ≠ s.heap.objs.size ∧ p.1 ≠ c) ∧ J i m nx ∧ i ≤ vs.length ∧ k = vs.length + 1 - i) ?_ (vs.length + 1)
    ⟨_, s.toks, m₀, nx₀, oc₀, v₀, 0, rfl, ⟨_, Heap.get?_push_size _ rfl, rfl, rfl⟩, F.push _, fun p hp => ⟨Heap.get?_push_of_some _ (N p hp).1, (N p hp).2⟩, hd, fun p hp => ⟨fun q => absurd (Heap.lt_size (N p (.tail _ hp)).1) (q ▸ Nat.lt_irrefl _), hn p hp⟩, hJ, Nat.zero_le _, rfl⟩
  rintro k s' ⟨h, tk, m, nx, oc, v, i, rfl, hit, F', N', hd', hn', hJ', hi, rfl⟩
  have hl' : h.IsList l vs.toArray := hl.at fun o e => F'.keep l o e
  by_cases hlt' : i < vs.length
  · refine wpAny_pyNext_list_item hit hl' (x := vs[i]) (by simp [hlt']) fun h₁ hit₁ hs₁ => ?_
    have F₁ : Fr g env.locals h₁ m := ⟨F'.ns.sameBut hs₁ (Ne.symm hIL), fun b o e => hs₁.extBut b o (fun q => by rw [q, hIg] at e; cases e) (F'.keep b o e), F'.above⟩
    have N₁ : News g env.locals h₁ ((c, oc) :: nx) := fun p hp => by
      have ne : p.1 ≠ s.heap.objs.size := by
        rcases List.mem_cons.mp hp with rfl | hp
        · exact Ne.symm hIc
        · exact (hn' p hp).1
      exact ⟨hs₁.extBut _ _ ne (N' p hp).1, (N' p hp).2⟩
    refine wpAny_assign_Name (wpAny_storeName_cell hk hx hc ⟨oc, (N₁ _ (.head _)).1, hd'⟩ fun h₂ hv₂ hs₂ => ?_)
    obtain ⟨oc₂, ho₂, hd₂⟩ := hv₂
    have F₂ : Fr g env.locals h₂ m := ⟨F₁.ns.sameBut hs₂ (Ne.symm hcL), fun b o e => hs₂.extBut b o (fun q => by have := (N₁ _ (.head _)).2.2; simp only at this; rw [q, this] at e; cases e) (F₁.keep b o e), F₁.above⟩
    have hit₂ : h₂.IsListIter s.heap.objs.size l (i + 1) := hit₁.at fun o e => hs₂.extBut _ o hIc e
    obtain ⟨oI, hoI, rI⟩ := id hit₂
    have N₂ : News g env.locals h₂ ((s.heap.objs.size, oI) :: (c, oc₂) :: nx) := fun p hp => by
      rcases List.mem_cons.mp hp with rfl | hp
      · exact ⟨hoI, hIL, hIg⟩
      · rcases List.mem_cons.mp hp with rfl | hp
        · exact ⟨ho₂, (N₁ _ (.head _)).2⟩
        · exact ⟨hs₂.extBut _ _ (hn' p hp).2 (N₁ p (.tail _ hp)).1, (N₁ p (.tail _ hp)).2⟩
    refine wpAny_mono (turn i vs[i] _ oI oc₂ h₂ _ m nx (by simp [hlt']) hJ' F₂ hd₂ N₂ hIc hn' (by rw [rI.1]; decide)) (fun f s₃ q => ?_) fun _ _ f => f.elim
    have fin : (∃ h' tk m' oc v' nx, s₃ = { s with heap := h', toks := tk } ∧ Fr g env.locals h' m' ∧ News g env.locals h' ((s.heap.objs.size, oI) :: (c, oc) :: nx) ∧ oc.data = .cell v' ∧ (∀ p ∈ nx, p.1 ≠ s.heap.objs.size ∧ p.1 ≠ c) ∧ J (i + 1) m' nx) →
        ∃ m, m < vs.length + 1 - i ∧ ∃ h tk m' nx oc v i, s₃ = { s with heap := h, toks := tk } ∧ h.IsListIter s.heap.objs.size l i ∧ Fr g env.locals h m' ∧ News g env.locals h ((c, oc) :: nx) ∧ oc.data = .cell v ∧ (∀ p ∈ nx, p.1 ≠ s.heap.objs.size ∧ p.1 ≠ c) ∧ J i m' nx ∧ i ≤ vs.length ∧ m = vs.length + 1 - i := by
      rintro ⟨h', tk', m', oc', v', nx', rfl, F₃, N₃, hd₃, hn₃, hJ₃⟩
      exact ⟨vs.length + 1 - (i + 1), by omega, h', tk', m', nx', oc', v', i + 1, rfl, ⟨oI, (N₃ _ (.head _)).1, rI⟩, F₃, fun p hp => N₃ p (.tail _ hp), hd₃, hn₃, hJ₃, hlt', rfl⟩
    cases f with
    | next => exact fin q
    | cont => exact fin q
    | brk => exact q
    | ret v => exact q
  · have hin : i = vs.length := by omega
    subst hin
    refine wpAny_pyNext_list_end hh hit hl' (by simp) fun h₁ he => wpAny_execs_nil ?_
    refine done oc v h₁ _ m nx hJ' ⟨F'.ns.extBut he (Ne.symm hIL), fun b o e => he b o (fun q => by rw [q, hIg] at e; cases e) (F'.keep b o e), F'.above⟩ hd' fun p hp => ?_
    have ne : p.1 ≠ s.heap.objs.size := by
      rcases List.mem_cons.mp hp with rfl | hp
      · exact Ne.symm hIc
      · exact (hn' p hp).1
    exact ⟨he _ _ ne (N' p hp).1, (N' p hp).2⟩

/-- the tuples of a datum that stand off the ground -/
theorem off_ground {g : Heap} {v : Value} {d : D} {h : Heap} (hg : g.StaysIn h) (x : DIn h v d) : ∃ tl : List (Addr × Obj), (∀ p ∈ tl, h.get? p.1 = some p.2 ∧ p.2.cls = .type "tuple" ∧ (∃ xs n, p.2.data = .seq xs n) ∧ g.get? p.1 = none) ∧
    (∀ h' : Heap, g.StaysIn h' → (∀ p ∈ tl, h'.get? p.1 = some p.2) → DIn h' v d) ∧ ∀ t xs, v = .ref t → IsTup h t xs → ∀ h' : Heap, g.StaysIn h' → (∀ p ∈ tl, h'.get? p.1 = some p.2) → IsTup h' t xs := by
  refine DIn.rec (h := h) (motive_1 := fun v d _ => ∃ tl : List (Addr × Obj), (∀ p ∈ tl, h.get? p.1 = some p.2 ∧ p.2.cls = .type "tuple" ∧ (∃ xs n, p.2.data = .seq xs n) ∧ g.get? p.1 = none) ∧
      (∀ h' : Heap, g.StaysIn h' → (∀ p ∈ tl, h'.get? p.1 = some p.2) → DIn h' v d) ∧ ∀ t xs, v = .ref t → IsTup h t xs → ∀ h' : Heap, g.StaysIn h' → (∀ p ∈ tl, h'.get? p.1 = some p.2) → IsTup h' t xs)
    (motive_2 := fun vs ds _ => ∃ tl : List (Addr × Obj), (∀ p ∈ tl, h.get? p.1 = some p.2 ∧ p.2.cls = .type "tuple" ∧ (∃ xs n, p.2.data = .seq xs n) ∧ g.get? p.1 = none) ∧ ∀ h' : Heap, g.StaysIn h' → (∀ p ∈ tl, h'.get? p.1 = some p.2) → DAll h' vs ds) ?_ ?_ ?_ ?_ ?_ ?_ x
  · exact fun i t => ⟨[], (fun _ hp => nomatch hp), (fun _ _ _ => .int i t), fun _ _ e => by cases e⟩
  · exact fun i t => ⟨[], (fun _ hp => nomatch hp), (fun _ _ _ => .str i t), fun _ _ e => by cases e⟩
  · exact fun i t => ⟨[], (fun _ hp => nomatch hp), (fun _ _ _ => .bytes i t), fun _ _ e => by cases e⟩
  · rintro a vs ds ⟨o, ho, hc, n, hd⟩ _ ⟨tl, h1, h2⟩
    cases e : g.get? a with
    | none =>
      refine ⟨(a, o) :: tl, fun p hp => ?_, fun h' hg' hp => .tup ⟨o, hp _ (.head _), hc, n, hd⟩ (h2 h' hg' fun p q => hp p (.tail _ q)), fun t xs et hx h' hg' hp => ?_⟩
      · rcases List.mem_cons.mp hp with rfl | hp
        · exact ⟨ho, hc, ⟨_, _, hd⟩, e⟩
        · exact h1 p hp
      · cases et
        obtain ⟨o', ho', r⟩ := hx
        rw [ho] at ho'; cases ho'
        exact ⟨o, hp _ (.head _), r⟩
    | some o' =>
      have := hg _ _ e
      rw [ho] at this; cases this
      refine ⟨tl, h1, fun h' hg' hp => .tup ⟨o, hg' _ _ e, hc, n, hd⟩ (h2 h' hg' hp), fun t xs et hx h' hg' hp => ?_⟩
      cases et
      obtain ⟨o', ho', r⟩ := hx
      rw [ho] at ho'; cases ho'
      exact ⟨o, hg' _ _ e, r⟩
  · exact ⟨[], (fun _ hp => nomatch hp), fun _ _ _ => .nil⟩
  · rintro v vs d ds _ _ ⟨tl, h1, h2, _⟩ ⟨tl', h1', h2'⟩
    exact ⟨tl ++ tl', fun p hp => (List.mem_append.mp hp).elim (h1 p) (h1' p), fun h' hg' hp => .cons (h2 h' hg' fun p q => hp p (List.mem_append_left _ q)) (h2' h' hg' fun p q => hp p (List.mem_append_right _ q))⟩
end
end

-- LedB
section
/-- what holds of every heap that bears the ground and the entries -/
noncomputable def LedS (g : Heap) (tl : List (Addr × Obj)) (P : Heap → Prop) : Prop := ∀ h : Heap, g.StaysIn h → (∀ p ∈ tl, h.get? p.1 = some p.2) → P h
theorem LedS.mono {g : Heap} {tl tl' : List (Addr × Obj)} {P : Heap → Prop} (x : LedS g tl P) (hs : ∀ p ∈ tl, p ∈ tl') : LedS g tl' P := fun h hg hp => x h hg fun p q => hp p (hs p q)
theorem LedS.at {g h : Heap} {L : Addr} {m : Str → Option Value} {tl news : List (Addr × Obj)} {P : Heap → Prop} (x : LedS g tl P) (F : Fr g L h m) (N : News g L h news) (hs : ∀ p ∈ tl, p ∈ news) : P h := x h F.keep fun p q => (N p (hs p q)).1
noncomputable abbrev lamQ : Str := Str.ofString "led.<locals>.<lambda>"
noncomputable def TabT (g : Heap) (ps : Array Value) (tl : List (Addr × Obj)) : Prop := ps = #[] ∨ ∃ c', ps = #[rawInt 46, rawInt 31, .ref c'] ∧ LedS g tl (fun h => h.CodeRec (.ref c') lamQ)
section
variable {M : Model} {A : Around} {E : Value → Shared → Prop} {s : Shared} {g : Heap} {L a : Addr} {m mg mb : Str → Option Value} {cn : Str} {cs : Scope} {cl : List (Str × Addr)}
  {p : Program} {loose : List Str} {mean : ExcName → Option Value} {params : Arguments} {body : PySem.Expr} {scope : Scope} {ps : Array Value} {pos : Pos} {clos : List (Str × Addr)}
noncomputable abbrev Lg (I : Addr) (o : Obj) (c : Addr) (oc : Obj) (D : Addr) (lst : Obj) (co : Addr) (oo : Obj) (ps : Array Value) (tl : List (Addr × Obj)) : List (Addr × Obj) := (I, o) :: (c, oc) :: (D, lst) :: (co, oo) :: (70, tabObj ps) :: tl

theorem lam_make {Q : Value → Shared → Prop} {I c D co : Addr} {o oc lst oo : Obj} {tl : List (Addr × Obj)} (F : Fr g L s.heap m) (N : News g L s.heap (Lg I o c oc D lst co oo ps tl)) (T : Top p loose mean mg mb g) (C : CodeHd g 74 70)
    (hI : I ≠ 70) (hc : c ≠ 70) (hD : D ≠ 70) (hco : co ≠ 70) (ho : OwnOff tl [I, c, D, co, 70]) (hps : TabT g ps tl) (hpl : pos.line = 46) (hpc : pos.col = 31)
    (hq : (envX cn cs L a (.ref 74) cl).qual ++ Str.ofString "<lambda>" = lamQ) (hdef : defaultsOf params (envX cn cs L a (.ref 74) cl) = ([], [])) (hcl : closureFor scope (envX cn cs L a (.ref 74) cl) = pure clos)
    (h : ∀ f c' ctv h' tk tl', Fr g L h' m → News g L h' ((f, kla_obj (Str.ofString "<lambda>") lamQ params body scope clos ((mg "__name__").getD .none) c' ctv) :: Lg I o c oc D lst co oo #[rawInt 46, rawInt 31, .ref c'] tl') →
      (∀ p ∈ tl, p ∈ tl') → OwnOff tl' [I, c, D, co, 70] → LedS g tl' (fun h => h.CodeRec (.ref c') lamQ) → OwnOff [(f, kla_obj (Str.ofString "<lambda>") lamQ params body scope clos ((mg "__name__").getD .none) c' ctv)] [I, c, D, co, 70] → Q (.ref f) { s with heap := h', toks := tk }) :
    wpAny M A (eval (.Lambda params body scope pos) (envX cn cs L a (.ref 74) cl)) Q E s := by
  refine kla_eval hdef ?_
  rw [hq]
  have mem : ∀ b ∈ [I, c, D, co, 70], ∃ q ∈ Lg I o c oc D lst co oo ps tl, q.1 = b := by
    intro b hb
    simp only [List.mem_cons, List.not_mem_nil, or_false] at hb
    rcases hb with rfl | rfl | rfl | rfl | rfl
    · exact ⟨_, .head _, rfl⟩
    · exact ⟨_, .tail _ (.head _), rfl⟩
    · exact ⟨_, .tail _ (.tail _ (.head _)), rfl⟩
    · exact ⟨_, .tail _ (.tail _ (.tail _ (.head _))), rfl⟩
    · exact ⟨_, .tail _ (.tail _ (.tail _ (.tail _ (.head _)))), rfl⟩
  rcases hps with rfl | ⟨c', rfl, hcr⟩
  · refine kla_nest F N T C rfl (.tail hI (.tail hc (.tail hD (.tail hco (.head (ho.ne (by simp))))))) trivial rfl hcl ?_
    intro f c' ocd vs t ctv h' tk F' N' d1 d2 l1 l2
    rw [hpl, hpc] at N'
    refine h f c' ctv h' tk ((c', ocd) :: tl) F' (fun q hq => N' q ?_) (fun q hq => .tail _ hq) ?_ ?_ ?_
    · simp only [List.mem_cons] at hq ⊢
      rcases hq with rfl | rfl | rfl | rfl | rfl | rfl | rfl | hq
      · exact .inl rfl
      · exact .inr (.inr (.inl rfl))
      · exact .inr (.inr (.inr (.inl rfl)))
      · exact .inr (.inr (.inr (.inr (.inl rfl))))
      · exact .inr (.inr (.inr (.inr (.inr (.inl rfl)))))
      · exact .inr (.inr (.inr (.inr (.inr (.inr (.inl rfl))))))
      · exact .inr (.inl rfl)
      · exact .inr (.inr (.inr (.inr (.inr (.inr (.inr hq))))))
    · intro q hq b hb
      rcases List.mem_cons.mp hq with rfl | hq
      · obtain ⟨q', hq', rfl⟩ := mem b hb
        exact Nat.ne_of_gt (l1 q' hq')
      · exact ho q hq b hb
    · intro h₂ _ hp
      exact ⟨c', ocd, vs, t, rfl, hp _ (.head _), d1, d2⟩
    · intro q hq b hb
      rw [List.mem_singleton.mp hq]
      obtain ⟨q', hq', rfl⟩ := mem b hb
      exact Nat.ne_of_gt (Nat.lt_trans (l1 q' hq') l2)
  · refine kla_hit (c' := c') F N T C rfl (.tail _ (.tail _ (.tail _ (.tail _ (.head _))))) ⟨⟩ ?_ hcl ?_
    · show (if ((46 : Int) == pos.line && (31 : Int) == pos.col) = true then some (Value.ref c') else _) = _
      rw [hpl, hpc]; rfl
    · intro f ctv h' tk F' N' l1
      refine h f c' ctv h' tk tl F' N' (fun _ h => h) ho hcr ?_
      intro q hq b hb
      rw [List.mem_singleton.mp hq]
      obtain ⟨q', hq', rfl⟩ := mem b hb
      exact Nat.ne_of_gt (l1 q' hq')

/-- a call of the lambda -/
theorem enterL {prog : Program} {w : World} {Q : Value → Shared → Prop} {name qual : Str} {c' f : Addr} {pm ctv : Value} {args : List Value} {binds : List (Str × Value)} (hnl : s.heap.NoLimit) (hcr : s.heap.CodeRec (.ref c') qual)
    (ho : s.heap.get? f = some (kla_obj name qual params body scope cl pm c' ctv)) (hroom : A.depth < recursionLimit)
    (hbind : bindArgs (kla_fn name qual params body scope cl pm (.ref c') ctv) ⟨args, []⟩ = pure binds) (hloc : ∀ y ∈ binds, scope.names.lookup y.1 = some .local)
    (h : ∀ L h₁, Fr s.heap L h₁ (fun y => binds.reverse.lookup y) → News s.heap L h₁ [] →
      wpAny (model prog w) (A.deeper (envX qual scope L f (.ref c') cl)) (eval body (envX qual scope L f (.ref c') cl)) Q (fun _ _ => False) { s with heap := h₁, toks := s.toks + binds.length })
    (hco : scope.isCoroutine = false) (hgen : scope.isGenerator = false) (hk : scope.kind = .function)
    (hcell : ∀ x ∈ scope.names, x.2 ≠ .cell) : wpAny (model prog w) A (call (.ref f) args) Q E s := by
  refine wpAny_call (kla_callFunE hroom ho rfl hco hgen rfl hcr ?_)
  rw [hbind]
  refine wpAny_pure (wpAny_newFunctionEnv hcell hloc (fun h₁ hns hsb => ⟨hnl.fresh _ hsb, ?_⟩) hk)
  show codeAny _ _ (.expr body (envX qual scope s.heap.objs.size f (.ref c') cl)) _ _
  have hk₁ : ∀ b o, s.heap.get? b = some o → h₁.get? b = some o := fun b o e => hsb.extBut b o (Nat.ne_of_lt (Heap.lt_size e)) (Heap.get?_push_of_some _ e)
  exact kla_codeExpr (wpAny_mono (h s.heap.objs.size h₁ ⟨hns, hk₁, Nat.le_refl _⟩ .nil) (fun _ _ x => x) fun _ _ x => x.elim)
end
noncomputable def ledOp (ops : List Op) (o : Op) : Op := match relab (wayOn ops o) o with
  | .jump n => match ops[n]? with
    | some (.stop w) => .stop w
    | _ => .jump n
  | t => t
noncomputable def ledF (ops : List Op) : List Op := ops.map (ledOp ops)

/-- the table of the code that led keeps for its lambda -/
noncomputable def TabL (h : Heap) (ps : Array Value) : Prop := h.get? 70 = some (tabObj ps) ∧ (ps = #[] ∨ ∃ c', ps = #[rawInt 46, rawInt 31, .ref c'] ∧ h.CodeRec (.ref c') lamQ)

theorem apart70 {h₀ h : Heap} {ps : Array Value} (st : h₀.StaysIn h) (h7 : h₀.get? 70 = none) (ht : h.get? 70 = some (tabObj ps)) : Apart (hideAll h [70]) h [(70, tabObj ps)] ∧ h₀.StaysIn (hideAll h [70]) :=
  ⟨⟨fun _ _ e => of_hideAll _ e, Nat.le_of_eq (hideAll_size _ _), fun p hp => by
    rw [List.mem_singleton.mp hp]
    exact ⟨ht, hideAll_none _ (.head _)⟩⟩, fun b o e => hideAll_get _ (st b o e) fun q => by rw [List.mem_singleton.mp q, h7] at e; cases e⟩

theorem news_swap {g h : Heap} {L : Addr} {x y : Addr × Obj} {r : List (Addr × Obj)} (N : News g L h (x :: y :: r)) : News g L h (y :: x :: r) := fun p hp => N p (by
  rcases List.mem_cons.mp hp with rfl | hp
  · exact .tail _ (.head _)
  · rcases List.mem_cons.mp hp with rfl | hp
    · exact .head _
    · exact .tail _ (.tail _ hp))
noncomputable abbrev thereS : Str := Str.ofString "there"
noncomputable def JLed (g : Heap) (c D co : Addr) (oo : Obj) (m₀ : Str → Option Value) (ops : List Op) (i : Nat) (m : Str → Option Value) (nx : List (Addr × Obj)) : Prop :=
  ∃ ys n u ps tl, nx = (D, listOf (List.toArray ys) n) :: (co, oo) :: (70, tabObj ps) :: tl ∧ m = (fun y => if y = thereS then u else m₀ y) ∧ TabT g ps tl ∧ OwnOff tl [c, D, co, 70] ∧ LedS g tl (fun h => DAll h ys (((ledF ops).take i).map Op.d))
section
variable {prog : Program} {w : World} {A : Around} {E : Value → Shared → Prop} {s : Shared} {env : Env} {g : Heap}
theorem iter_led {x : Str} {px : Pos} {body : List Stmt} {Q : Flow → Shared → Prop} {l c D co : Addr} {vs : List Value} {ops : List Op} {m₀ : Str → Option Value} {oc₀ oo : Obj} {v₀ : Option Value} {ps₀ : Array Value}
    (hh : A.handled = none) (hl : g.IsList l vs.toArray) (hds : DAll g vs (ops.map Op.d)) (hk : env.scope.kind = .function) (hx : env.kindOf x = some .cell) (hc : env.cells.lookup x = some c) (F : Fr g env.locals s.heap m₀) (N : News g env.locals s.heap ((c, oc₀) :: (D, listOf #[] 0) :: (co, oo) :: [(70, tabObj ps₀)])) (hd : oc₀.data = .cell v₀)
    (hDc : D ≠ c) (hcoc : co ≠ c) (h7c : 70 ≠ c) (hps : TabT g ps₀ [])
    (turn : ∀ i (o : Op) v I oI oc h tk ys n u ps tl, ops[i]? = some o → DIn g v o.d → TabT g ps tl → LedS g tl (fun h => DAll h ys (((ledF ops).take i).map Op.d)) → Fr g env.locals h (fun y => if y = thereS then u else m₀ y) → oc.data = .cell (some v) →
      News g env.locals h (Lg I oI c oc D (listOf (List.toArray ys) n) co oo ps tl) → I ≠ 70 → I ≠ c → D ≠ I → co ≠ I → OwnOff tl [I, c, D, co, 70] → ys.length < ops.length → oI.cls ≠ .type "tuple" →
      wpAny (model prog w) A (execs body env) (TurnC g env.locals I c oI (JLed g c D co oo m₀ ops (i + 1)) { s with heap := h, toks := tk } Q) (fun _ _ => False) { s with heap := h, toks := tk })
    (done : ∀ h tk ys n u ps tl, TabT g ps tl → LedS g tl (fun h => DAll h ys ((ledF ops).map Op.d)) → Fr g env.locals h (fun y => if y = thereS then u else m₀ y) → News g env.locals h ((D, listOf (List.toArray ys) n) :: (co, oo) :: (70, tabObj ps) :: tl) → Q .next { s with heap := h, toks := tk }) :
    wpAny (model prog w) A (pyIter (.ref l)) (fun it s₂ => codeAny (model prog w) A (.forLoop (.Name x px) it body [] env) (fun r s' => match r with | .ok f => Q f s' | .error e => cameBackBy (model prog w) A env E e s') s₂) E s := by
  have hlen := hds.length
  rw [List.length_map] at hlen
  refine iter_cell (JLed g c D co oo m₀ ops) hh hl hk hx hc F N hd ?_ ⟨[], 0, m₀ thereS, ps₀, [], rfl, ?_, hps, (fun _ hp => nomatch hp), fun h _ _ => by simpa using DAll.nil⟩ ?_ ?_
  · intro p hp
    simp only [List.mem_cons, List.not_mem_nil, or_false] at hp
    rcases hp with rfl | rfl | rfl
    · exact hDc
    · exact hcoc
    · exact h7c
  · funext y
    by_cases h1 : y = thereS
    · rw [if_pos h1, h1]
    · rw [if_neg h1]
  · rintro i v I o oc h tk m nx hv ⟨ys, n, u, ps, tl, rfl, rfl, hT, hO, hL⟩ F' hoc N' hIc hn hcls
    have hi : i < ops.length := by
      rw [← hlen]
      rcases Nat.lt_or_ge i vs.length with q | q
      · exact q
      · rw [List.getElem?_eq_none q] at hv; cases hv
    have ho : ops[i]? = some ops[i] := by simp [hi]
    obtain ⟨v', hv', hd'⟩ := hds.get (k := i) (d := ops[i].d) (by rw [List.getElem?_map, ho]; rfl)
    rw [hv] at hv'; cases hv'
    have hy := (hL.at F' N' fun p hp => .tail _ (.tail _ (.tail _ (.tail _ (.tail _ hp))))).length
    rw [List.length_map, List.length_take] at hy
    refine turn i ops[i] v I o oc h tk ys n u ps tl ho hd' hT hL F' hoc N' (Ne.symm (hn _ (.tail _ (.tail _ (.head _)))).1) hIc (hn _ (.head _)).1 (hn _ (.tail _ (.head _))).1 ?_ (by simp only [ledF, List.length_map] at hy; omega) hcls
    intro q hq b hb
    rcases List.mem_cons.mp hb with rfl | hb
    · exact (hn q (.tail _ (.tail _ (.tail _ hq)))).1
    · exact hO q hq b hb
  · rintro oc v h tk m nx ⟨ys, n, u, ps, tl, rfl, rfl, hT, hO, hL⟩ F' hoc N'
    rw [hlen, show ops.length = (ledF ops).length from by simp [ledF], List.take_length] at hL
    exact done h tk ys n u ps tl hT hL F' fun p hp => N' p (.tail _ hp)
end

/-- a new datum's tuples join the entries -/
theorem led_join {g h h2 : Heap} {L I c D co f : Addr} {m : Str → Option Value} {oI oc oo of : Obj} {ys : List Value} {n : Nat} {ps : Array Value} {tl : List (Addr × Obj)} {r : Value} {d : Pb.D} {cv : Option Value} {cw : Option Value}
    (F : Fr g L h m) (N : News g L h ((f, of) :: Lg I oI c oc D (listOf (List.toArray ys) n) co oo ps tl)) (st : h.StaysIn h2) (hr : DIn h2 r d) (hoff : OwnOff tl [I, c, D, co, 70]) (hI : oI.cls ≠ .type "tuple") (hc : oc.data = .cell cv) (ho : oo.data = .cell cw) :
    ∃ tl', (∀ p ∈ tl, p ∈ tl') ∧ Fr g L h2 m ∧ News g L h2 ((f, of) :: Lg I oI c oc D (listOf (List.toArray ys) n) co oo ps tl') ∧ OwnOff tl' [I, c, D, co, 70] ∧ LedS g tl' (fun h => DIn h r d) ∧ ∀ t xs, r = .ref t → IsTup h2 t xs → LedS g tl' (fun h => IsTup h t xs) := by
  have F2 := F.keeps st
  have N2 := N.grown st
  obtain ⟨tl2, h1, h2', h3⟩ := off_ground F2.keep hr
  have ne : ∀ p ∈ tl2, ∀ b o, h2.get? b = some o → (o.cls ≠ .type "tuple" ∨ ∃ v, o.data = .cell v) → p.1 ≠ b := by
    intro p hp b o hb hh e
    obtain ⟨q1, q2, ⟨xs, k, q3⟩, _⟩ := h1 p hp
    rw [e, hb] at q1; cases q1
    rcases hh with hh | ⟨v, hh⟩
    · exact hh q2
    · rw [hh] at q3; cases q3
  refine ⟨tl ++ tl2, fun p hp => List.mem_append_left _ hp, F2, fun p hp => ?_, ?_, fun h' hg' hp => h2' h' hg' fun p q => hp p (List.mem_append_right _ q), fun t xs e hx h' hg' hp => h3 t xs e hx h' hg' fun p q => hp p (List.mem_append_right _ q)⟩
  · simp only [List.mem_cons, List.mem_append] at hp
    rcases hp with hp | hp | hp | hp | hp | hp | hp | hp
    · exact N2 p (by rw [hp]; exact .head _)
    · exact N2 p (by rw [hp]; exact .tail _ (.head _))
    · exact N2 p (by rw [hp]; exact .tail _ (.tail _ (.head _)))
    · exact N2 p (by rw [hp]; exact .tail _ (.tail _ (.tail _ (.head _))))
    · exact N2 p (by rw [hp]; exact .tail _ (.tail _ (.tail _ (.tail _ (.head _)))))
    · exact N2 p (by rw [hp]; exact .tail _ (.tail _ (.tail _ (.tail _ (.tail _ (.head _))))))
    · exact N2 p (.tail _ (.tail _ (.tail _ (.tail _ (.tail _ (.tail _ hp))))))
    · obtain ⟨q1, q2, ⟨xs, k, q3⟩, q4⟩ := h1 p hp
      refine ⟨q1, fun e => ?_, q4⟩
      obtain ⟨oL, es, ep, eL, dL, _⟩ := F2.ns
      rw [e, eL] at q1; cases q1
      rw [dL] at q3; cases q3
  · intro p hp b hb
    rcases List.mem_append.mp hp with hp | hp
    · exact hoff p hp b hb
    · simp only [List.mem_cons, List.not_mem_nil, or_false] at hb
      rcases hb with rfl | rfl | rfl | rfl | rfl
      · exact ne p hp _ _ (N2.get (.tail _ (.head _))) (.inl hI)
      · exact ne p hp _ _ (N2.get (.tail _ (.tail _ (.head _)))) (.inr ⟨_, hc⟩)
      · exact ne p hp _ _ (N2.get (.tail _ (.tail _ (.tail _ (.head _))))) (.inl (by simp [PySem.W.listOf]))
      · exact ne p hp _ _ (N2.get (.tail _ (.tail _ (.tail _ (.tail _ (.head _)))))) (.inr ⟨_, ho⟩)
      · exact ne p hp _ _ (N2.get (.tail _ (.tail _ (.tail _ (.tail _ (.tail _ (.head _))))))) (.inl (by simp [tabObj]))

theorem item_tupS {prog : Program} {w : World} {A : Around} {E : Value → Shared → Prop} {s : Shared} {g : Heap} {L : Addr} {m : Str → Option Value} {news tl : List (Addr × Obj)} {value slice : PySem.Expr} {l : Addr} {vs : List Value} {k : Int} {u : Tok} {v : Value} {j : Nat} {Q : Value → Shared → Prop}
    (F : Fr g L s.heap m) (N : News g L s.heap news) (hl : LedS g tl (fun h => IsTup h l vs.toArray)) (hs' : ∀ p ∈ tl, p ∈ news) (hlo : -(2 ^ 63) ≤ k) (hhi : k < 2 ^ 63) (hj : seqIndex? k vs.length = some j) (hx : vs[j]? = some v)
    (hs : subscripted slice false (.ref l) (.int k u) = operate [.ref l, .int k u] (getItem (.ref l) (.int k u))) (h : Q v s) :
    wpAny (model prog w) A (subscriptTail value slice (.ref l) (.int k u)) Q E s :=
  item_tupleT (hl.at F N hs') hlo hhi hj hx h hs
theorem led_append {prog : Program} {w : World} {A : Around} {E : Value → Shared → Prop} {s : Shared} {g : Heap} {L I c D co f : Addr} {m : Str → Option Value} {oI oc oo of : Obj} {ys : List Value} {n : Nat} {ps : Array Value} {tl : List (Addr × Obj)} {x : Value} {Q : Value → Shared → Prop}
    (F : Fr g L s.heap m) (N : News g L s.heap ((f, of) :: Lg I oI c oc D (listOf (List.toArray ys) n) co oo ps tl)) (hf : OwnOff [(f, of)] [I, c, D, co, 70]) (h1 : D ≠ I) (h2 : D ≠ c) (h3 : co ≠ D) (h4 : D ≠ 70) (hoff : OwnOff tl [I, c, D, co, 70]) (hy : ys.length < 1000)
    (h : ∀ h', Fr g L h' m → News g L h' (Lg I oI c oc D (listOf (List.toArray (ys ++ [x])) (n + 1)) co oo ps tl) → Q .none { s with heap := h' }) : wpAny (model prog w) A (call (.builtin "list.append") [.ref D, x]) Q E s := by
  refine append_K (its := List.toArray ys) (n := n) F N (.tail (hf _ (.head _) _ (by simp)) (.tail (Ne.symm h1) (.tail (Ne.symm h2) (.head ?_)))) (fun h' F' N' => h h' F' ?_) (by rw [sizeLine_eq]; simp; omega)
  · intro p hp
    rcases List.mem_cons.mp hp with rfl | hp
    · exact h3
    · rcases List.mem_cons.mp hp with rfl | hp
      · exact Ne.symm h4
      · exact hoff p hp _ (by simp)
  · have e : (List.toArray ys).push x = List.toArray (ys ++ [x]) := by simp
    rw [e] at N'
    exact fun p hp => N' p (.tail _ hp)
theorem there_norm {u : Option Value} {v : Value} {m₀ : Str → Option Value} : (fun y => if y = Str.ofString "there" then some v else if y = thereS then u else m₀ y) = fun y => if y = thereS then some v else m₀ y := by
  funext y
  by_cases h1 : y = thereS
  · simp [h1]
  · simp [h1]
theorem there_norm2 {u : Option Value} {v v' : Value} {m₀ : Str → Option Value} : (fun y => if y = Str.ofString "there" then some v else if y = Str.ofString "there" then some v' else if y = thereS then u else m₀ y) = fun y => if y = thereS then some v else m₀ y := by
  funext y
  by_cases h1 : y = thereS
  · simp [h1]
  · simp [h1]
theorem led_next {g : Heap} {tl : List (Addr × Obj)} {ys : List Value} {ops : List Op} {i : Nat} {o o' : Op} {r : Value} (hL : LedS g tl (fun h => DAll h ys (((ledF ops).take i).map Op.d))) (ho : ops[i]? = some o) (e : ledOp ops o = o') (hr : LedS g tl (fun h => DIn h r o'.d)) :
    LedS g tl (fun h => DAll h (ys ++ [r]) (((ledF ops).take (i + 1)).map Op.d)) := fun h hg hp => by
  have ho' : (ledF ops)[i]? = some o' := by rw [ledF, List.getElem?_map, ho, ← e]; rfl
  rw [List.take_add_one, ho', List.map_append]
  exact (hL h hg hp).append (.one (hr h hg hp))
theorem turn_led {g : Heap} {L I c D co : Addr} {oI oc oo : Obj} {m₀ m' : Str → Option Value} {ops : List Op} {i n : Nat} {s₁ : Shared} {Q : Flow → Shared → Prop} {h' : Heap} {tk : Nat} {ys : List Value} {ps : Array Value} {tl : List (Addr × Obj)} {cv : Option Value} {v : Value}
    (F : Fr g L h' m') (N : News g L h' (Lg I oI c oc D (listOf (List.toArray ys) n) co oo ps tl)) (hc : oc.data = .cell cv) (h1 : D ≠ I) (h2 : D ≠ c) (h3 : co ≠ I) (h4 : co ≠ c) (h5 : I ≠ 70) (h6 : c ≠ 70) (hoff : OwnOff tl [I, c, D, co, 70])
    (hm : m' = fun y => if y = thereS then some v else m₀ y) (hT : TabT g ps tl) (hL : LedS g tl (fun h => DAll h ys (((ledF ops).take (i + 1)).map Op.d))) : TurnC g L I c oI (JLed g c D co oo m₀ ops (i + 1)) s₁ Q .next { s₁ with heap := h', toks := tk } := by
  refine turnC_mk F N hc (fun p hp => ?_) ⟨ys, n, some v, ps, tl, rfl, hm, hT, fun p hp b hb => hoff p hp b (.tail _ hb), hL⟩
  rcases List.mem_cons.mp hp with rfl | hp
  · exact ⟨h1, h2⟩
  · rcases List.mem_cons.mp hp with rfl | hp
    · exact ⟨h3, h4⟩
    · rcases List.mem_cons.mp hp with rfl | hp
      · exact ⟨Ne.symm h5, Ne.symm h6⟩
      · exact ⟨hoff p hp _ (by simp), hoff p hp _ (by simp)⟩
theorem ledOp_other {ops : List Op} {o : Op} (h : ¬ isJump (relab (wayOn ops o) o) = true) : ledOp ops o = relab (wayOn ops o) o := by
  unfold ledOp
  cases e : relab (wayOn ops o) o <;> first | rfl | (rw [e] at h; exact absurd rfl h)
theorem ledOp_far {ops : List Op} {o : Op} {n : Nat} (e : relab (wayOn ops o) o = .jump n) (h : ∀ w, ops[n]? ≠ some (.stop w)) : ledOp ops o = .jump n := by
  unfold ledOp
  rw [e]
  dsimp only
  split
  · rename_i w' q; exact absurd q (h w')
  · rfl
theorem ledOp_stop {ops : List Op} {o : Op} {n : Nat} {w : Str} (e : relab (wayOn ops o) o = .jump n) (h : ops[n]? = some (.stop w)) : ledOp ops o = .stop w := by
  unfold ledOp
  rw [e]
  dsimp only
  rw [h]
theorem kind_stop (o : Op) : (Str.ofString o.kind == Str.ofString "stop") = (match o with | .stop _ => true | _ => false) := by cases o <;> (simp only [Op.kind]; decide)
end

-- LendB
section
/-- as _law_end goes -/
noncomputable def lawEnd (q : Option Op) (ops : List Op) : Nat → List Nat → Nat → Option Nat
  | 0, _, _ => none
  | k + 1, met, l => if passes q ops l then (if l ∈ met then none else lawEnd q ops k (met ++ [l]) (lastAt ops l)) else some l
noncomputable def endR (q : Option Op) (ops : List Op) (n : Nat) : Int := match lawEnd q ops (ops.length + 1) [] n with
  | some e => (e : Nat)
  | none => -1
noncomputable def LikeAt (h : Heap) (v : Value) : Option Op → Prop
  | none => ∃ t, v = .ref t ∧ IsTup h t (List.toArray [])
  | some q => isAsk q = true ∧ ∃ t tk v1, v = .ref t ∧ IsTup h t (List.toArray [Value.str (Str.ofString q.kind) tk, v1]) ∧ DIn h v1 q.arg

inductive Nats : List Value → List Nat → Prop
  | nil : Nats [] []
  | cons {x : Nat} {t ys met} : Nats ys met → Nats (Value.int (x : Nat) t :: ys) (x :: met)
theorem Nats.ints {ys : List Value} {met : List Nat} (h : Nats ys met) : ∀ y ∈ ys, ∃ (x : Nat) (t : Tok), y = Value.int (x : Nat) t := by
  induction h with
  | nil => exact fun _ h => nomatch h
  | cons _ ih => exact fun y hy => (List.mem_cons.mp hy).elim (fun e => ⟨_, _, e⟩) (ih y)
theorem Nats.snoc {ys : List Value} {met : List Nat} {x : Nat} {t : Tok} (h : Nats ys met) : Nats (ys ++ [Value.int (x : Nat) t]) (met ++ [x]) := by
  induction h with
  | nil => exact .cons .nil
  | cons _ ih => exact .cons ih
theorem Nats.length {ys : List Value} {met : List Nat} (h : Nats ys met) : ys.length = met.length := by
  induction h with
  | nil => rfl
  | cons _ ih => simp [ih]
theorem pigeon (n : Nat) (l : List Nat) (hd : l.Nodup) (h : ∀ x ∈ l, x < n) : l.length ≤ n :=
  Nat.le_trans (hd.length_le_of_subset (l₂ := List.range n) fun x hx => List.mem_range.mpr (h x hx)) (Nat.le_of_eq List.length_range)

section
variable {prog : Program} {w : World} {A : Around} {E : Value → Shared → Prop} {s : Shared} {g : Heap} {L : Addr} {m : Str → Option Value} {news : List (Addr × Obj)} {Q : Value → Shared → Prop}
theorem slice2 {value slice : PySem.Expr} {t : Addr} {x0 x1 : Value} {r : List Value} {u : Tok} (F : Fr g L s.heap m) (N : News g L s.heap news) (ht : IsTup s.heap t (List.toArray (x0 :: x1 :: r)))
    (hs : subscripted slice false (.ref t) (.ref s.heap.objs.size) = operate [.ref s.heap.objs.size, .ref t] (getItem (.ref t) (.ref s.heap.objs.size)))
    (h : ∀ D h', Fr g L h' m → News g L h' news → s.heap.StaysIn h' → IsTup h' D (List.toArray [x0, x1]) → Q (.ref D) { s with heap := h' }) :
    wpAny (model prog w) A (subscriptTail value slice (.ref t) (.ref s.heap.objs.size)) Q E { s with heap := s.heap.push { cls := .type "slice", data := .fields #[.none, .int 2 u, .none] } } := by
  have k1 : s.heap.StaysIn (s.heap.push { cls := .type "slice", data := .fields #[.none, .int 2 u, .none] }) := fun _ _ e => Heap.get?_push_of_some _ e
  have ht' : IsTup (s.heap.push { cls := .type "slice", data := .fields #[.none, .int 2 u, .none] }) t (List.toArray (x0 :: x1 :: r)) := ht.keeps k1
  refine tail_any (s := { s with heap := s.heap.push { cls := .type "slice", data := .fields #[.none, .int 2 u, .none] } }) ht'.typeIs slot_tuple_getitem.lookup (getItem_tup2 ht' (Heap.IsSliceOf.new ..) (fun hr => ?_) ?_) hs
  · subst hr
    exact h t _ (F.keeps k1) (N.grown k1) k1 ht'
  · have k2 : (s.heap.push { cls := .type "slice", data := .fields #[.none, .int 2 u, .none] }).StaysIn ((s.heap.push { cls := .type "slice", data := .fields #[.none, .int 2 u, .none] }).push { cls := .type "tuple", data := .seq (List.toArray [x0, x1]) }) := fun _ _ e => Heap.get?_push_of_some _ e
    exact h _ _ ((F.keeps k1).keeps k2) ((N.grown k1).grown k2) (fun b o e => k2 b o (k1 b o e)) ⟨_, Heap.get?_push_size _ rfl, rfl, _, rfl⟩
theorem eq2 {a b : Addr} {k k' : Str} {t t' : Tok} {v v' : Value} {d d' : Pb.D} {r : Bool} (ha : IsTup s.heap a (List.toArray [Value.str k t, v])) (hb : IsTup s.heap b (List.toArray [Value.str k' t', v'])) (hd : DIn s.heap v d) (hd' : DIn s.heap v' d')
    (hc : cmpL [.str k, d] [.str k', d'] = some r) (hu : A.units + d.depth + 3 < cLine) (h : Q (.bool r) s) : wpAny (model prog w) A (compareOp .Eq (.ref a) (.ref b)) Q E s := by
  refine rcAt_tuplesS ha hb (by omega) (eqDs (.cons (.str _ _) (.cons hd .nil)) (.cons (.str _ _) (.cons hd' .nil)) hc ?_) prog w E Q h
  simp only [D.depths, D.depth, Around.in1_units]
  omega
theorem eq2_like {a b : Addr} {t t' : Tok} {v v' : Value} {o q : Op} (ha : IsTup s.heap a (List.toArray [Value.str (Str.ofString o.kind) t, v])) (hb : IsTup s.heap b (List.toArray [Value.str (Str.ofString q.kind) t', v'])) (hd : DIn s.heap v o.arg) (hd' : DIn s.heap v' q.arg)
    (hq : isAsk q = true) (hu : A.units + 20 < cLine) (h : Q (.bool (like o q)) s) : wpAny (model prog w) A (compareOp .Eq (.ref a) (.ref b)) Q E s := by
  cases hk : (Str.ofString o.kind == Str.ofString q.kind) with
  | true =>
    have hdp := kind_depth hq hk
    refine eq2 ha hb hd hd' ?_ (by omega) h
    simp only [cmpL, cmp, hk, kind_like hq hk]
    cases like o q <;> rfl
  | false =>
    rw [kind_unlike hk] at h
    exact rcAt_tuplesS ha hb (by omega) (.no (hk ▸ EqAt.str_str _ _ _ _)) prog w E Q h
theorem ne_nil {a b : Addr} {vs : List Value} (ha : IsTup s.heap a (List.toArray vs)) (hb : IsTup s.heap b (List.toArray [])) (hu : A.units < cLine) (h : Q (.bool !vs.isEmpty) s) : wpAny (model prog w) A (compareOp .NotEq (.ref a) (.ref b)) Q E s := by
  have := RcNeAt.tuples (A := A) (e := fun _ => true) ha hb hu (fun j _ h2 => absurd h2 (by simp)) prog w E Q
  refine this ?_
  cases vs <;> simpa using h
theorem ne_nilN {a b : Addr} {vs : List Value} {k : Nat} (F : Fr g L s.heap m) (N : News g L s.heap news) (ha : IsTup g a (List.toArray vs)) (hb : (b, ({ cls := .type "tuple", data := .seq #[] k } : Obj)) ∈ news) (hu : A.units < cLine) (h : Q (.bool !vs.isEmpty) s) : wpAny (model prog w) A (compareOp .NotEq (.ref a) (.ref b)) Q E s :=
  ne_nil (ha.keeps F.keep) ⟨_, N.get hb, rfl, _, rfl⟩ hu h
theorem in_nats {D : Addr} {ys : List Value} {met : List Nat} {l : Nat} {tk : Tok} (hl : s.heap.IsList D (List.toArray ys)) (hy : Nats ys met) (h : Q (.bool (decide (l ∈ met))) s) :
    wpAny (model prog w) A (compareOp .In (.int (l : Nat) tk) (.ref D)) Q E s := by
  refine in_listAt (fun y => match y with | .int i _ => i == (l : Int) | _ => false) hl (fun y hy' => ?_) ?_
  · obtain ⟨x, t, rfl⟩ := hy.ints y (by simpa using hy')
    exact EqAt.int_int _ _ _ _
  · have e : (List.toArray ys).any (fun y => match y with | .int i _ => i == (l : Int) | _ => false) = decide (l ∈ met) := by
      clear h hl
      rw [List.any_toArray]
      induction hy with
      | nil => rfl
      | cons hN ih =>
        rename_i x t ys met
        rw [List.any_cons, ih]
        by_cases q : l = x
        · subst q; simp
        · have : ¬ ((x : Int) = (l : Int)) := by omega
          simp [q, this]
    rw [e]; exact h
theorem in_natsN {D : Addr} {ys : List Value} {e : Nat} {met : List Nat} {l : Nat} {tk : Tok} (N : News g L s.heap news) (hl : (D, listOf (List.toArray ys) e) ∈ news) (hy : Nats ys met) (h : Q (.bool (decide (l ∈ met))) s) :
    wpAny (model prog w) A (compareOp .In (.int (l : Nat) tk) (.ref D)) Q E s := in_nats ⟨_, N.get hl, rfl, _, rfl⟩ hy h
end
section
variable {prog : Program} {w : World} {A : Around} {E : Value → Shared → Prop} {s : Shared} {env : Env} {Q : Flow → Shared → Prop}
theorem While_J {test : PySem.Expr} {body : List Stmt} {pos : Pos} (J : Nat → Shared → Prop) (n : Nat) (hJ : J n s)
    (turn : ∀ n s, J n s → wpAny (model prog w) A (isTrue test env (eval test env)) (fun b s₂ => if b = true then wpAny (model prog w) A (execs body env) (fun f s₃ => match f with
        | .ret v => Q (.ret v) s₃
        | .brk => Q .next s₃
        | _ => ∃ m, m < n ∧ J m s₃) (fun _ _ => False) s₂ else Q .next s₂) (fun _ _ => False) s) :
    wpAny (model prog w) A (exec (.While test body [] pos) env) Q E s := by
  refine wpAny_While (codeAny_whileLoop J (fun n s hI => ?_) n hJ)
  refine wpAny_mono (turn n s hI) (fun b s₂ h => ?_) fun _ _ f => f.elim
  cases b with
  | true =>
    simp only [if_true] at h ⊢
    refine wpAny_mono h (fun f s₃ q => ?_) fun _ _ f => f.elim
    cases f <;> exact q
  | false =>
    simp only [Bool.false_eq_true, if_false] at h ⊢
    exact wpAny_execs_nil h
end
noncomputable abbrev labelS : Str := Str.ofString "label"
/-- between the turns -/
noncomputable def JE (g : Heap) (L D : Addr) (m₀ : Str → Option Value) (q : Option Op) (ops : List Op) (n : Nat) (s : Shared) (k : Nat) (s' : Shared) : Prop :=
  ∃ h tk l lt ys met e, s' = { s with heap := h, toks := tk } ∧ Fr g L h (fun y => if y = labelS then some (Value.int (l : Nat) lt) else m₀ y) ∧ News g L h [(D, listOf (List.toArray ys) e)] ∧ Nats ys met ∧ l < 1000 ∧
    met.Nodup ∧ (∀ x ∈ met, x < ops.length) ∧ k = ops.length + 1 - met.length ∧ lawEnd q ops (ops.length + 1) [] n = lawEnd q ops k met l


section
variable {prog : Program} {w : World} {A : Around} {E : Value → Shared → Prop} {s : Shared} {env : Env} {Q : Flow → Shared → Prop} {g : Heap}
noncomputable def WEnd (k : Nat) (P : Nat → Shared → Prop) (s : Shared) : Prop := ∃ m, m < k ∧ P m s
theorem while_end {test : PySem.Expr} {body : List Stmt} {pos : Pos} {D a : Addr} {m₀ : Str → Option Value} {q : Option Op} {ops : List Op} {n : Nat} {tk₀ : Tok} {lv : Value}
    (F : Fr g env.locals s.heap m₀) (N : News g env.locals s.heap [(D, listOf #[] 0)]) (hf : m₀ labelS = some (.int (n : Nat) tk₀)) (_ho : m₀ (Str.ofString "ops") = some (.ref a)) (_hO : OpsAt g a ops) (_hlk : m₀ (Str.ofString "like") = some lv) (_hL : LikeAt g lv q) (hn' : n < 1000)
    (turn : ∀ h tk (l : Nat) lt ys met e k, Fr g env.locals h (fun y => if y = labelS then some (Value.int (l : Nat) lt) else m₀ y) → News g env.locals h [(D, listOf (List.toArray ys) e)] → Nats ys met → l < 1000 → met.Nodup → (∀ x ∈ met, x < ops.length) → met.length ≤ ops.length →
      k = ops.length + 1 - met.length → lawEnd q ops (ops.length + 1) [] n = lawEnd q ops k met l → ys.length < ops.length + 1 →
      wpAny (model prog w) A (isTrue test env (eval test env)) (fun b s₂ => if b = true then wpAny (model prog w) A (execs body env) (fun f s₃ => match f with
        | .ret v => Q (.ret v) s₃
        | .brk => Q .next s₃
        | _ => WEnd k (JE g env.locals D m₀ q ops n s) s₃) (fun _ _ => False) s₂ else Q .next s₂) (fun _ _ => False) { s with heap := h, toks := tk }) :
    wpAny (model prog w) A (exec (.While test body [] pos) env) Q E s := by
  refine While_J (JE g env.locals D m₀ q ops n s) (ops.length + 1) ⟨s.heap, s.toks, n, tk₀, [], [], 0, rfl, ?_, N, .nil, hn', List.nodup_nil, (fun _ h => nomatch h), rfl, rfl⟩ ?_
  · have e : (fun y => if y = labelS then some (Value.int (n : Nat) tk₀) else m₀ y) = m₀ := by
      funext y
      by_cases h1 : y = labelS
      · rw [if_pos h1, h1, hf]
      · rw [if_neg h1]
    rw [e]; exact F
  · rintro k s' ⟨h, tk, l, lt, ys, met, e, rfl, F', N', hy, hl, hnd, hlt, hk, he⟩
    have := pigeon _ _ hnd hlt
    have := hy.length
    exact turn h tk l lt ys met e k F' N' hy hl hnd hlt (by omega) hk he (by omega)
theorem je_next {q : Option Op} {ops : List Op} {n l lt k e : Nat} {L D : Addr} {m₀ m' : Str → Option Value} {ys : List Value} {met : List Nat} {s : Shared} {h' : Heap} {tk : Nat} {o : Op} {lt' : Tok}
    (hy : Nats ys met) (hnd : met.Nodup) (hlt : ∀ x ∈ met, x < ops.length) (hlen : met.length ≤ ops.length) (hk : k = ops.length + 1 - met.length) (he : lawEnd q ops (ops.length + 1) [] n = lawEnd q ops k met l)
    (hp : passes q ops l = true) (hm : l ∉ met) (ho : ops[l]? = some o) (hb : ∀ q ∈ ops, q.last < 1000) (F : Fr g L h' m') (N : News g L h' [(D, listOf (List.toArray (ys ++ [Value.int (l : Nat) lt])) e)])
    (hm' : m' = fun y => if y = labelS then some (Value.int (o.last : Nat) lt') else m₀ y) : WEnd k (JE g L D m₀ q ops n s) { s with heap := h', toks := tk } := by
  have hl : l < ops.length := by
    rcases Nat.lt_or_ge l ops.length with h | h
    · exact h
    · rw [List.getElem?_eq_none h] at ho; cases ho
  have hnd' : (met ++ [l]).Nodup := List.nodup_append.mpr ⟨hnd, by simp, fun a ha b hb e => hm (by rw [List.mem_singleton.mp hb] at e; exact e ▸ ha)⟩
  have hlt' : ∀ x ∈ met ++ [l], x < ops.length := fun x hx => (List.mem_append.mp hx).elim (hlt x) fun h => by rw [List.mem_singleton.mp h]; exact hl
  have hle := pigeon _ _ hnd' hlt'
  simp only [List.length_append, List.length_singleton] at hle
  subst hm'
  obtain rfl := hk.trans (Nat.succ_sub (Nat.le_of_succ_le hle))
  refine ⟨ops.length - met.length, Nat.lt_succ_self _, h', tk, o.last, lt', _, met ++ [l], e, rfl, F, N, hy.snoc, hb o (List.mem_of_getElem? ho), hnd', hlt', by rw [List.length_append, List.length_singleton, Nat.succ_sub_succ], ?_⟩
  rw [he, Nat.succ_eq_add_one, lawEnd, if_pos hp, if_neg hm, lastAt_of ho]
theorem label_norm {m₀ : Str → Option Value} {a b : Value} : (fun y => if y = Str.ofString "label" then some a else if y = labelS then some b else m₀ y) = fun y => if y = labelS then some a else m₀ y := by
  funext y
  by_cases h1 : y = labelS
  · simp [h1]
  · simp [h1]
end
end

-- Lend
theorem fillK7 : (PySem.Challenge.rw_pb0247_01.Holds ∧ ∀ P, hd.heap_39 P = []) → True := by k_fill; intro _; trivial
theorem wordsLend1 : True := by
  k_with_none
  w_top off
  k_with "pb_lt" => (first | (with_reducible assumption) | (refine' lt_use (by with_reducible assumption) ?_; (repeat (first | with_reducible exact And.left | with_reducible exact id | with_reducible refine' lt_skip ?_)); done))
  trivial
theorem wordsLend2 : True := by
  k_with "subscriptTail" => (k_here; (with_reducible show wpAny _ _ (subscriptTail _ _ (Value.ref _) (Value.int _ _)) _ _ _); k_dflt (first | (refine' item_list (by k_asm) (by with_reducible assumption) (by first | with_reducible assumption | omega) (by first | with_reducible assumption | omega) (by with_reducible assumption) ?_; k_whole) | (refine' item_tup (by k_asm) (by with_reducible assumption) (by decide) (by decide) (by (first | exact seq_0 _ | exact seq_1 _ | rfl)) (by rfl) ?_; k_whole)))
  k_with "pb_enter" => (refine' enter (by k_asm) (by k_asm) (by k_asm) (by k_is) (by k_is) (by first | exact dlt0 (by with_reducible assumption) | exact dltk (by with_reducible assumption) (by decide) | exact dlt1 (by with_reducible assumption) (by decide) | omega | (dsimp only; omega)) (by first | exact BindsTo.of_eq (binds := [(Str.ofString _, _), (Str.ofString _, _), (Str.ofString _, _)]) rfl | exact BindsTo.of_eq (binds := [(Str.ofString _, _), (Str.ofString _, _)]) rfl | exact BindsTo.of_eq (binds := [(Str.ofString _, _)]) rfl | exact BindsTo.of_eq rfl) (by exact locs rfl) ?_ (by exact rfl) (by exact rfl) (by exact rfl) (by decide); k_whole; intro Lzz' hzz' Fzz' Nzz' Xzz' Tzz'; (try dsimp only); (try k_fold))
  k_with "call builtin:len" => (k_here; (with_reducible show wpAny _ _ (PySem.call _ [Value.ref _]) _ _ _); k_dflt (refine' len_l (by k_asm) (by with_reducible assumption) (by first | with_reducible assumption | omega) ?_; k_whole))
  k_with "truthy bool" => (refine' truthy_known (by with_reducible assumption) ?_)
  k_with "pb_steps" => (repeat' (first | (k_unfold; (try dsimp only)) | walk1 | (dsimp only; walk1) | fail "no step"))
  k_with "pb_enterC" => (refine' enterC (mt := []) (Apart.whole _) (by k_asm) (by k_asm) (by k_is) (by k_is) (by first | exact dlt0 (by with_reducible assumption) | exact dltk (by with_reducible assumption) (by decide) | exact dlt1 (by with_reducible assumption) (by decide) | omega | (dsimp only; omega)) (by first | exact BindsTo.of_eq (binds := [(Str.ofString _, _), (Str.ofString _, _), (Str.ofString _, _)]) rfl | exact BindsTo.of_eq (binds := [(Str.ofString _, _), (Str.ofString _, _)]) rfl | exact BindsTo.of_eq (binds := [(Str.ofString _, _)]) rfl | exact BindsTo.of_eq rfl) (by exact rfl) (by decide +kernel) ?_ (by exact rfl) (by exact rfl) (by exact rfl); k_whole; intro Lzz' hzz' tkzz' cellszz' Fzz' Nzz' Yzz' l1zz stzz' zzz'; clear l1zz stzz' zzz'; k_cells Yzz'; (try simp only [List.cons_append, List.nil_append, List.append_nil] at Nzz'); (try dsimp only); (try k_fold))
  k_with "callWith ref" => (k_here; refine' callWith_fn (by with_reducible assumption) ?_ (by rfl) (by rfl); k_whole)
  k_with "eval ListComp" => (k_here; k_dflt (refine' eval_ListCompJ (by exact rfl) (by decide) (by rfl) (by decide) (by rfl) ?_ (by (intro _; rfl)); k_whole))
  k_with "eval Name" => (k_here; k_inBlock; (with_reducible rename Fr _ _ _ _ => kFzz); k_dflt (first | (refine' nameC_L kFzz (by rfl) (by rfl) (by rfl) (by decide) (by with_reducible assumption) ?_; k_whole) | (refine' nameC_C kFzz (by rfl) (by rfl) (by rfl) (by decide) (by with_reducible assumption) (by with_reducible assumption) ?_; k_whole) | (refine' nameC_F kFzz (by rfl) (by rfl) (by rfl) (by decide) (by decide) (by with_reducible assumption) (by with_reducible assumption) ?_; k_whole) | (refine' nameC_K kFzz (by rfl) (by rfl) (by rfl) (by decide) (by k_asm) (by k_asm) (by k_is) ?_; k_whole)))
  k_with "And" => ((with_reducible show FnHere _ _ ∧ _); (with_reducible rename Fr _ _ _ _ => kFzz); k_dflt (refine ⟨FnHere.keeps (Fr.keep kFzz) (by with_reducible assumption), ?_⟩); try dsimp only [List.nil_append, List.cons_append])
  k_with "call ref" => (k_here; (with_reducible show wpAny _ _ (PySem.call (Value.ref _) [Value.int _ _]) _ _ _); (with_reducible rename Fr _ _ _ _ => kFzz); k_dflt (refine' change_use (by with_reducible assumption) kFzz (by rfl) (by (first | exact dlt1 (by with_reducible assumption) (by decide) | exact dltk (by with_reducible assumption) (by decide) | exact dlt2 (by with_reducible assumption) (by decide) | (simp only [Around.deeper]; omega))) (by (first | exact dlt1 (by with_reducible assumption) (by decide) | exact dltk (by with_reducible assumption) (by decide) | exact dlt2 (by with_reducible assumption) (by decide) | (simp only [Around.deeper]; omega))) (by with_reducible rfl) (by first | with_reducible assumption | omega) ?_; k_whole); intro h9zz u9zz t9zz st9zz; (have Fzz' := Fr.keeps kFzz st9zz); (with_reducible rename News _ _ _ _ => kNzz); (have Nzz' := News.grown kNzz st9zz); (try k_sweep); (try dsimp only))
  k_with "pb_upto" => (repeat' (first | (k_unfold; (try dsimp only)) | ((fail_if_success (with_reducible show wpAny _ _ (PySem.call (Value.type _) _) _ _ _)); walk1) | (dsimp only; (fail_if_success (with_reducible show wpAny _ _ (PySem.call (Value.type _) _) _ _ _)); walk1) | fail "no step"))
  k_with "subscriptTail" => (k_here; (with_reducible show wpAny _ _ (subscriptTail _ _ (Value.ref _) (Value.int _ _)) _ _ _); k_dflt (first | (refine' item_op (by k_asm) (by with_reducible assumption) (by with_reducible rfl) (by with_reducible assumption) (by with_reducible assumption) (by with_unfolding_all rfl) ?_; k_whole; intro t8zz o8zz ho8zz hk8zz ht8zz) | (refine' item_last (by k_asm) (by with_reducible assumption) (by with_reducible assumption) (by with_reducible rfl) (by with_unfolding_all rfl) ?_; k_whole; intro k8zz)))
  k_with "exec While BoolOp cons nil" => (k_here; (with_reducible rename Fr _ _ _ _ => kFzz); (with_reducible rename News _ _ _ _ => kNzz); k_dflt (refine' while_end kFzz kNzz (by rfl) (by rfl) (by with_reducible assumption) (by rfl) (by with_reducible assumption) (by with_reducible assumption) ?_; k_whole); clear kFzz kNzz; intro h9 t9 l9 lt9 ys9 met9 e9 k9 Fzz' Nzz' hy9zz hl9 hnd9zz hlt9zz hle9zz hk9zz he9zz hys9)
  k_with "compareOp In int ref" => (k_here; (with_reducible rename News _ _ _ _ => kNzz); k_dflt (refine' in_natsN kNzz (by k_mem) (by with_reducible assumption) ?_; k_whole))
  k_with "compareOp NotEq ref ref" => (k_here; (with_reducible rename Fr _ _ _ _ => kFzz); (with_reducible rename News _ _ _ _ => kNzz); k_dflt (refine' ne_nilN kFzz kNzz (by with_reducible assumption) (by k_mem) (by (first | exact dlt1 (by with_reducible assumption) (by decide) | exact dltk (by with_reducible assumption) (by decide) | exact dlt2 (by with_reducible assumption) (by decide) | (simp only [Around.deeper]; omega))) ?_; k_whole))
  k_with "subscriptTail" => (k_here; (with_reducible show wpAny _ _ (subscriptTail _ (PySem.Expr.Slice none (some _) none _) (Value.ref _) (Value.ref _)) _ _ _); (with_reducible rename Fr _ _ _ _ => kFzz); k_dflt (refine' slice2 kFzz (by k_asm) (IsTup.keeps (by with_reducible assumption) (Fr.keep kFzz)) (by with_unfolding_all rfl) ?_; k_whole); intro D9zz h9zz Fzz' Nzz' st9zz ht9zz; (try k_sweep))
  k_with "call builtin:list.append" => (k_here; (with_reducible show wpAny _ _ (PySem.call (Value.builtin _) [Value.ref _, _]) _ _ _); k_dflt (refine' append_K (by k_asm) (by k_asm) (by k_upd) ?_ (by (rw [sizeLine_eq]; simp; omega)); k_whole); intro hzz' Fzz' Nzz'; (try k_sweep))
  trivial

theorem lawend_c {prog : Program} {w : World} {A : Around} {E : Value → Shared → Prop} {s : Shared} {h₀ : Heap} {p : Program} {loose : List Str} {mg mb : Str → Option Value} {Q : Value → Shared → Prop}
    {a : Addr} {lv : Value} {n : Nat} {tk : Tok} {ops : List Op} {q : Option Op}
    (X : (hd.heap_39 w.params).In h₀) (T : TopRead p loose mg mb h₀) (st : h₀.StaysIn s.heap) (hh : A.handled = none) (hdp : A.depth + 10 < recursionLimit) (hu : A.units + 100 < cLine)
    (hO : OpsAt s.heap a ops) (hn : ops.length < 900) (hn' : n < 1000) (hb : ∀ q ∈ ops, q.last < 1000) (hL : LikeAt s.heap lv q)
    (hQ : ∀ h' u tk, s.heap.StaysIn h' → Q (.int (endR q ops n) u) { s with heap := h', toks := tk }) :
    wpAny (model prog w) A (call (.ref 449) [.ref a, .int n tk, lv]) Q E s := by
  obtain ⟨vs, hl, hds⟩ := hO
  have hlen := hds.length
  rw [List.length_map] at hlen
  have hnl : vs.length < 1000 := by omega
  have hO : OpsAt s.heap a ops := ⟨vs, hl, hds⟩
  obtain ⟨ah, dp, fr, gd, un⟩ := A
  dsimp only at hh hdp hu
  subst hh
  walk_at "pb_enter"
  walk_at "pb_steps"
  · rename Fr _ _ _ _ => F
    rename News _ _ _ _ => N
    rename lawEnd _ _ _ _ _ = lawEnd _ _ _ _ _ => he
    rename _ = ops.length + 1 - _ => hk
    rename List.length _ ≤ ops.length => hle
    rename List.Nodup _ => hnd
    rename ∀ x ∈ _, x < ops.length => hlt
    rename Nats _ _ => hy
    rename_i hcond
    have hll : l9 < vs.length := Int.ofNat_lt.mp hcond
    obtain ⟨o, ho⟩ : ∃ o, ops[l9]? = some o := ⟨ops[l9]'(by omega), by simp [hlen ▸ hll]⟩
    obtain ⟨t, kt, v1, r, hx', hTt, hv1, hr⟩ := OpsAt.get hds ho
    have hx : vs[(l9 : Int).toNat]? = some (.ref t) := by simpa using hx'
    have h63 : (l9 : Int) < 2 ^ 63 := by omega
    have hl0 : (0 : Int) ≤ (l9 : Int) := by omega
    have hpa : passes q ops l9 = (isJump o || likeO q o) := by simp [passes, ho]
    have hOT : OpT s.heap t o := ⟨kt, v1, r, hTt, hv1, hr⟩
    by_cases hj : isJump o = true
    · have hk1 : (Str.ofString o.kind == Str.ofString "jump") = true := (kind_jump o).trans hj
      have hja : isJump o = true ∨ isAsk o = true := .inl hj
      have hp : passes q ops l9 = true := by rw [hpa, hj]; rfl
      replace hp : id (passes q ops l9 = true) := hp
      walk_at "pb_steps"
      · replace hp : passes q ops l9 = true := hp
        rename Fr _ _ _ _ => F9
        rename _ ∈ met9 => hm
        have hr9 : endR q ops n = -1 := by
          obtain ⟨k', rfl⟩ : ∃ k', k9 = k' + 1 := ⟨_, hk.trans (Nat.succ_sub hle)⟩
          unfold endR; rw [he, lawEnd, if_pos hp, if_pos hm]
        rw [hr9] at hQ
        exact hQ _ _ _ F9.keep
      · replace hp : passes q ops l9 = true := hp
        rename Fr _ _ _ _ => F9
        rename News _ _ _ _ => N9
        rename ¬ _ ∈ met9 => hm
        have e9 : (List.toArray ys9).push (Value.int (l9 : Nat) lt9) = List.toArray (ys9 ++ [Value.int (l9 : Nat) lt9]) := by simp
        rw [e9] at N9
        exact je_next hy hnd hlt hle hk he hp hm ho hb F9 (fun p hp => N9 p hp) label_norm
    · have hk1 : (Str.ofString o.kind == Str.ofString "jump") = false := (kind_jump o).trans (Bool.eq_false_iff.mpr hj)
      cases q with
      | none =>
        obtain ⟨t4, rfl, ht4⟩ := hL
        have hp : passes none ops l9 = false := by rw [hpa, Bool.eq_false_iff.mpr hj]; rfl
        walk_at "pb_steps"
        · rename Fr _ _ _ _ => F9
          have hr9 : endR none ops n = (l9 : Nat) := by
            obtain ⟨k', rfl⟩ : ∃ k', k9 = k' + 1 := ⟨_, hk.trans (Nat.succ_sub hle)⟩
            unfold endR; rw [he, lawEnd, hp]; rfl
          rw [hr9] at hQ
          exact hQ _ _ _ F9.keep
      | some q =>
        obtain ⟨hqa, t4, k4, v4, rfl, ht4, hv4⟩ := hL
        walk_at "pb_steps"
        · rename List.isEmpty _ = true => hx9
          simp at hx9
        · rename Fr _ _ _ _ => F9
          rename IsTup _ _ _ => ht9
          refine eq2_like ht9 (ht4.keeps F9.keep) (hv1.keeps F9.keep) (hv4.keeps F9.keep) hqa (by first | exact dlt1 (by with_reducible assumption) (by decide) | exact dltk (by with_reducible assumption) (by decide) | exact dlt2 (by with_reducible assumption) (by decide) | (simp only [Around.deeper]; omega)) ?_
          by_cases hlk : like o q = true
          · have hja : isJump o = true ∨ isAsk o = true := .inr (by cases q <;> cases o <;> simp_all [like, isAsk])
            have hp : passes (some q) ops l9 = true := by rw [hpa, likeO, hlk, Bool.or_true]
            replace hp : id (passes (some q) ops l9 = true) := hp
            walk_at "pb_steps"
            · replace hp : passes (some q) ops l9 = true := hp
              rename Fr _ _ _ _ => F9
              rename _ ∈ met9 => hm
              have hr9 : endR (some q) ops n = -1 := by
                obtain ⟨k', rfl⟩ : ∃ k', k9 = k' + 1 := ⟨_, hk.trans (Nat.succ_sub hle)⟩
                unfold endR; rw [he, lawEnd, if_pos hp, if_pos hm]
              rw [hr9] at hQ
              exact hQ _ _ _ F9.keep
            · replace hp : passes (some q) ops l9 = true := hp
              rename Fr _ _ _ _ => F9
              rename News _ _ _ _ => N9
              rename ¬ _ ∈ met9 => hm
              have e9 : (List.toArray ys9).push (Value.int (l9 : Nat) lt9) = List.toArray (ys9 ++ [Value.int (l9 : Nat) lt9]) := by simp
              rw [e9] at N9
              exact je_next hy hnd hlt hle hk he hp hm ho hb F9 (fun p hp => N9 p (.tail _ hp)) label_norm
          · have hlk2 := Bool.eq_false_iff.mpr hlk
            have hp : passes (some q) ops l9 = false := by rw [hpa, likeO, hlk2, Bool.eq_false_iff.mpr hj]; rfl
            walk_at "pb_steps"
            · rename Fr _ _ _ _ => F9
              have hr9 : endR (some q) ops n = (l9 : Nat) := by
                obtain ⟨k', rfl⟩ : ∃ k', k9 = k' + 1 := ⟨_, hk.trans (Nat.succ_sub hle)⟩
                unfold endR; rw [he, lawEnd, hp]; rfl
              rw [hr9] at hQ
              exact hQ _ _ _ F9.keep
  · rename Fr _ _ _ _ => F
    rename lawEnd _ _ _ _ _ = lawEnd _ _ _ _ _ => he
    rename _ = ops.length + 1 - _ => hk
    rename List.length _ ≤ ops.length => hle
    rename List.Nodup _ => hnd
    rename ∀ x ∈ _, x < ops.length => hlt
    rename Nats _ _ => hy
    rename News _ _ _ _ => N
    rename_i hcond
    have hr9 : endR q ops n = (l9 : Nat) := by
      obtain ⟨k', rfl⟩ : ∃ k', k9 = k' + 1 := ⟨_, hk.trans (Nat.succ_sub hle)⟩
      have hp : passes q ops l9 = false := by
        have : ops[l9]? = none := by simp; omega
        simp [passes, this]
      unfold endR; rw [he, lawEnd, hp]; rfl
    rw [hr9] at hQ
    exact hQ _ _ _ F.keep

-- Lway
theorem fillK8 : (PySem.Challenge.rw_pb0247_01.Holds ∧ ∀ P, hd.heap_39 P = []) → True := by k_fill; intro _; trivial
theorem wordsLway1 : True := by
  k_with_none
  w_top off
  k_with "pb_lt" => (first | (with_reducible assumption) | (refine' lt_use (by with_reducible assumption) ?_; (repeat (first | with_reducible exact And.left | with_reducible exact id | with_reducible refine' lt_skip ?_)); done))
  trivial
theorem wordsLway2 : True := by
  k_with "subscriptTail" => (k_here; (with_reducible show wpAny _ _ (subscriptTail _ _ (Value.ref _) (Value.int _ _)) _ _ _); k_dflt (first | (refine' item_list (by k_asm) (by with_reducible assumption) (by first | with_reducible assumption | omega) (by first | with_reducible assumption | omega) (by with_reducible assumption) ?_; k_whole) | (refine' item_tup (by k_asm) (by with_reducible assumption) (by decide) (by decide) (by (first | exact seq_0 _ | exact seq_1 _ | rfl)) (by rfl) ?_; k_whole)))
  k_with "pb_enter" => (refine' enter (by k_asm) (by k_asm) (by k_asm) (by k_is) (by k_is) (by first | exact dlt0 (by with_reducible assumption) | exact dltk (by with_reducible assumption) (by decide) | exact dlt1 (by with_reducible assumption) (by decide) | omega | (dsimp only; omega)) (by first | exact BindsTo.of_eq (binds := [(Str.ofString _, _), (Str.ofString _, _), (Str.ofString _, _)]) rfl | exact BindsTo.of_eq (binds := [(Str.ofString _, _), (Str.ofString _, _)]) rfl | exact BindsTo.of_eq (binds := [(Str.ofString _, _)]) rfl | exact BindsTo.of_eq rfl) (by exact locs rfl) ?_ (by exact rfl) (by exact rfl) (by exact rfl) (by decide); k_whole; intro Lzz' hzz' Fzz' Nzz' Xzz' Tzz'; (try dsimp only); (try k_fold))
  k_with "call builtin:len" => (k_here; (with_reducible show wpAny _ _ (PySem.call _ [Value.ref _]) _ _ _); k_dflt (refine' len_l (by k_asm) (by with_reducible assumption) (by first | with_reducible assumption | omega) ?_; k_whole))
  k_with "truthy bool" => (refine' truthy_known (by with_reducible assumption) ?_)
  k_with "pb_steps" => (repeat' (first | (k_unfold; (try dsimp only)) | walk1 | (dsimp only; walk1) | fail "no step"))
  k_with "pb_enterC" => (refine' enterC (mt := []) (Apart.whole _) (by k_asm) (by k_asm) (by k_is) (by k_is) (by first | exact dlt0 (by with_reducible assumption) | exact dltk (by with_reducible assumption) (by decide) | exact dlt1 (by with_reducible assumption) (by decide) | omega | (dsimp only; omega)) (by first | exact BindsTo.of_eq (binds := [(Str.ofString _, _), (Str.ofString _, _), (Str.ofString _, _)]) rfl | exact BindsTo.of_eq (binds := [(Str.ofString _, _), (Str.ofString _, _)]) rfl | exact BindsTo.of_eq (binds := [(Str.ofString _, _)]) rfl | exact BindsTo.of_eq rfl) (by exact rfl) (by decide +kernel) ?_ (by exact rfl) (by exact rfl) (by exact rfl); k_whole; intro Lzz' hzz' tkzz' cellszz' Fzz' Nzz' Yzz' l1zz stzz' zzz'; clear l1zz stzz' zzz'; k_cells Yzz'; (try simp only [List.cons_append, List.nil_append, List.append_nil] at Nzz'); (try dsimp only); (try k_fold))
  k_with "callWith ref" => (k_here; refine' callWith_fn (by with_reducible assumption) ?_ (by rfl) (by rfl); k_whole)
  k_with "eval ListComp" => (k_here; k_dflt (refine' eval_ListCompJ (by exact rfl) (by decide) (by rfl) (by decide) (by rfl) ?_ (by (intro _; rfl)); k_whole))
  k_with "eval Name" => (k_here; k_inBlock; (with_reducible rename Fr _ _ _ _ => kFzz); k_dflt (first | (refine' nameC_L kFzz (by rfl) (by rfl) (by rfl) (by decide) (by with_reducible assumption) ?_; k_whole) | (refine' nameC_C kFzz (by rfl) (by rfl) (by rfl) (by decide) (by with_reducible assumption) (by with_reducible assumption) ?_; k_whole) | (refine' nameC_F kFzz (by rfl) (by rfl) (by rfl) (by decide) (by decide) (by with_reducible assumption) (by with_reducible assumption) ?_; k_whole) | (refine' nameC_K kFzz (by rfl) (by rfl) (by rfl) (by decide) (by k_asm) (by k_asm) (by k_is) ?_; k_whole)))
  k_with "And" => ((with_reducible show FnHere _ _ ∧ _); (with_reducible rename Fr _ _ _ _ => kFzz); k_dflt (refine ⟨FnHere.keeps (Fr.keep kFzz) (by with_reducible assumption), ?_⟩); try dsimp only [List.nil_append, List.cons_append])
  k_with "call ref" => (k_here; (with_reducible show wpAny _ _ (PySem.call (Value.ref _) [Value.int _ _]) _ _ _); (with_reducible rename Fr _ _ _ _ => kFzz); k_dflt (refine' change_use (by with_reducible assumption) kFzz (by rfl) (by (first | exact dlt1 (by with_reducible assumption) (by decide) | exact dltk (by with_reducible assumption) (by decide) | exact dlt2 (by with_reducible assumption) (by decide) | (simp only [Around.deeper]; omega))) (by (first | exact dlt1 (by with_reducible assumption) (by decide) | exact dltk (by with_reducible assumption) (by decide) | exact dlt2 (by with_reducible assumption) (by decide) | (simp only [Around.deeper]; omega))) (by with_reducible rfl) (by first | with_reducible assumption | omega) ?_; k_whole); intro h9zz u9zz t9zz st9zz; (have Fzz' := Fr.keeps kFzz st9zz); (with_reducible rename News _ _ _ _ => kNzz); (have Nzz' := News.grown kNzz st9zz); (try k_sweep); (try dsimp only))
  k_with "pb_upto" => (repeat' (first | (k_unfold; (try dsimp only)) | ((fail_if_success (with_reducible show wpAny _ _ (PySem.call (Value.type _) _) _ _ _)); walk1) | (dsimp only; (fail_if_success (with_reducible show wpAny _ _ (PySem.call (Value.type _) _) _ _ _)); walk1) | fail "no step"))
  k_with "subscriptTail" => (k_here; (with_reducible show wpAny _ _ (subscriptTail _ _ (Value.ref _) (Value.int _ _)) _ _ _); k_dflt (first | (refine' item_op (by k_asm) (by with_reducible assumption) (by with_reducible rfl) (by with_reducible assumption) (by with_reducible assumption) (by with_unfolding_all rfl) ?_; k_whole; intro t8zz o8zz ho8zz hk8zz ht8zz) | (refine' item_last (by k_asm) (by with_reducible assumption) (by with_reducible assumption) (by with_reducible rfl) (by with_unfolding_all rfl) ?_; k_whole; intro k8zz)))
  trivial


theorem slice2N {prog : Program} {w : World} {A : Around} {E : Value → Shared → Prop} {s : Shared} {g : Heap} {L : Addr} {m : Str → Option Value} {news : List (Addr × Obj)} {Q : Value → Shared → Prop}
    {value slice : PySem.Expr} {t : Addr} {x0 x1 x2 : Value} {r : List Value} {u : Tok} (F : Fr g L s.heap m) (N : News g L s.heap news) (ht : IsTup s.heap t (List.toArray (x0 :: x1 :: x2 :: r)))
    (hs : subscripted slice false (.ref t) (.ref s.heap.objs.size) = operate [.ref s.heap.objs.size, .ref t] (getItem (.ref t) (.ref s.heap.objs.size)))
    (h : ∀ D h', Fr g L h' m → News g L h' ((D, { cls := .type "tuple", data := .seq (List.toArray [x0, x1]) }) :: news) → (∀ p ∈ news, p.1 < D) → Q (.ref D) { s with heap := h' }) :
    wpAny (model prog w) A (subscriptTail value slice (.ref t) (.ref s.heap.objs.size)) Q E { s with heap := s.heap.push { cls := .type "slice", data := .fields #[.none, .int 2 u, .none] } } := by
  have k1 : s.heap.StaysIn (s.heap.push { cls := .type "slice", data := .fields #[.none, .int 2 u, .none] }) := fun _ _ e => Heap.get?_push_of_some _ e
  have ht' : IsTup (s.heap.push { cls := .type "slice", data := .fields #[.none, .int 2 u, .none] }) t (List.toArray (x0 :: x1 :: x2 :: r)) := ht.keeps k1
  refine tail_any (s := { s with heap := s.heap.push { cls := .type "slice", data := .fields #[.none, .int 2 u, .none] } }) ht'.typeIs slot_tuple_getitem.lookup (getItem_tup2 ht' (Heap.IsSliceOf.new ..) (fun hr => nomatch hr) ?_) hs
  refine h _ _ ((F.push _).push _) (News.push (F.push _) (N.grown k1) _) fun p hp => ?_
  rw [Heap.size_push]
  exact Nat.lt_succ_of_lt (Heap.lt_size (N p hp).1)
noncomputable def lawWay (ops : List Op) (o : Op) (n : Nat) : Int :=
  if isAsk o = true ∧ 0 ≤ endR (some o) ops n then endR (some o) ops n else if 0 ≤ endR none ops n then endR none ops n else (n : Nat)
theorem wordsLway3 : True := by
  k_with "subscriptTail" => (k_here; (with_reducible show wpAny _ _ (subscriptTail _ (PySem.Expr.Slice none (some _) none _) (Value.ref _) (Value.ref _)) _ _ _); (with_reducible rename Fr _ _ _ _ => kFzz); k_dflt (refine' slice2N kFzz (by k_asm) (IsTup.keeps (by with_reducible assumption) (Fr.keep kFzz)) (by with_unfolding_all rfl) ?_; k_whole); intro D9zz h9zz Fzz' Nzz' l1zz; (try k_lt l1zz); (try k_sweep))
  trivial

theorem like_someN {g h : Heap} {L D : Addr} {m : Str → Option Value} {news : List (Addr × Obj)} {q : Op} {tk : Tok} {v1 : Value} {k : Nat} (F : Fr g L h m) (N : News g L h news) (hm : (D, ({ cls := .type "tuple", data := .seq (List.toArray [Value.str (Str.ofString q.kind) tk, v1]) k } : Obj)) ∈ news)
    (hq : isAsk q = true) (hv : DIn g v1 q.arg) : LikeAt h (.ref D) (some q) := ⟨hq, D, tk, v1, rfl, ⟨_, N.get hm, rfl, _, rfl⟩, hv.keeps F.keep⟩
theorem like_noneN {g h : Heap} {L D : Addr} {news : List (Addr × Obj)} {k : Nat} (N : News g L h news) (hm : (D, ({ cls := .type "tuple", data := .seq #[] k } : Obj)) ∈ news) : LikeAt h (.ref D) none := ⟨D, rfl, ⟨_, N.get hm, rfl, _, rfl⟩⟩
theorem wordsLway4 : True := by
  k_with "exec For Name BinOp cons nil" => (k_here; (rename Fr _ _ _ _ => lFzz'); (with_unfolding_all refine' For_turns lFzz' ?_; k_whole))
  k_with "call ref" => (k_here; (with_reducible show wpAny _ _ (PySem.call (Value.ref 449) [Value.ref _, Value.int _ _, Value.ref _]) _ _ _); (with_reducible rename Fr _ _ _ _ => kFzz); (with_reducible rename News _ _ _ _ => kNzz); k_dflt (refine' lawend_c (by k_asm) (by k_asm) (Fr.keep kFzz) (by rfl) (by (first | exact dlt1 (by with_reducible assumption) (by decide) | exact dltk (by with_reducible assumption) (by decide) | exact dlt2 (by with_reducible assumption) (by decide) | (simp only [Around.deeper]; omega))) (by (first | exact dlt1 (by with_reducible assumption) (by decide) | exact dltk (by with_reducible assumption) (by decide) | exact dlt2 (by with_reducible assumption) (by decide) | (simp only [Around.deeper]; omega))) (by exact OpsAt.keeps (Fr.keep kFzz) (by with_reducible assumption)) (by omega) (by with_reducible assumption) (by with_reducible assumption) (by first | exact like_someN kFzz kNzz (by k_mem) (by with_reducible assumption) (by with_reducible assumption) | exact like_noneN kNzz (by k_mem)) ?_; k_whole); intro h9zz u9zz t9zz st9zz; (have Fzz' := Fr.keeps kFzz st9zz); (have Nzz' := News.grown kNzz st9zz); (try k_sweep); (try dsimp only))
  trivial

theorem lawway_c {prog : Program} {w : World} {A : Around} {E : Value → Shared → Prop} {s : Shared} {h₀ : Heap} {p : Program} {loose : List Str} {mg mb : Str → Option Value} {Q : Value → Shared → Prop}
    {a : Addr} {ov : Value} {n : Nat} {tk : Tok} {ops : List Op} {o : Op}
    (X : (hd.heap_39 w.params).In h₀) (T : TopRead p loose mg mb h₀) (st : h₀.StaysIn s.heap) (hh : A.handled = none) (hdp : A.depth + 20 < recursionLimit) (hu : A.units + 200 < cLine)
    (hO : OpsAt s.heap a ops) (hn : ops.length < 900) (hn' : n < 1000) (hb : ∀ q ∈ ops, q.last < 1000) (ho : DIn s.heap ov o.d)
    (hQ : ∀ h' u tk, s.heap.StaysIn h' → Q (.int (lawWay ops o n) u) { s with heap := h', toks := tk }) :
    wpAny (model prog w) A (call (.ref 456) [.ref a, ov, .int n tk]) Q E s := by
  obtain ⟨t, kt, v1, r, rfl, hT, hv1, hr⟩ := ho.op
  obtain ⟨ah, dp, fr, gd, un⟩ := A
  dsimp only at hh hdp hu
  subst hh
  by_cases hk : isAsk o = true
  · have hk' := (ask_kind o).trans hk
    obtain ⟨n1, u1, rfl⟩ : ∃ (n1 : Nat) (u1 : Tok), r = [Value.int (n1 : Nat) u1] := by
      cases o <;> simp only [isAsk, Bool.false_eq_true] at hk <;> (cases hr with | cons h1 hr => cases h1; cases hr; exact ⟨_, _, rfl⟩)
    walk_at "pb_enter"
    walk_at "pb_steps"
    · rename Fr _ _ _ _ => F9
      have e : lawWay ops o n = endR (some o) ops n := by unfold lawWay; rw [if_pos ⟨hk, by omega⟩]
      rw [e] at hQ
      exact hQ _ _ _ F9.keep
    · rename Fr _ _ _ _ => F9
      have e : lawWay ops o n = endR none ops n := by unfold lawWay; rw [if_neg (by omega), if_pos (by omega)]
      rw [e] at hQ
      exact hQ _ _ _ F9.keep
    · rename Fr _ _ _ _ => F9
      have e : lawWay ops o n = (n : Nat) := by unfold lawWay; rw [if_neg (by omega), if_neg (by omega)]
      rw [e] at hQ
      exact hQ _ _ _ F9.keep
  · have hk' := (ask_kind o).trans (Bool.eq_false_iff.mpr hk)
    walk_at "pb_enter"
    walk_at "pb_steps"
    · rename Fr _ _ _ _ => F9
      have e : lawWay ops o n = endR none ops n := by unfold lawWay; rw [if_neg (fun h => hk h.1), if_pos (by omega)]
      rw [e] at hQ
      exact hQ _ _ _ F9.keep
    · rename Fr _ _ _ _ => F9
      have e : lawWay ops o n = (n : Nat) := by unfold lawWay; rw [if_neg (fun h => hk h.1), if_neg (by omega)]
      rw [e] at hQ
      exact hQ _ _ _ F9.keep

-- Plain1
section
theorem lawEnd_some {q : Option Op} {ops : List Op} : ∀ (k : Nat) (met : List Nat) (l e : Nat), lawEnd q ops k met l = some e → ∀ j, k ≤ j → chase q ops j l = some e := by
  intro k
  induction k with
  | zero => intro met l e h; cases h
  | succ k ih =>
    intro met l e h j hj
    obtain ⟨j, rfl⟩ : ∃ j', j = j' + 1 := ⟨j - 1, by omega⟩
    unfold lawEnd at h
    unfold chase
    by_cases hp : passes q ops l = true
    · rw [if_pos hp] at h ⊢
      by_cases hm : l ∈ met
      · rw [if_pos hm] at h; cases h
      · rw [if_neg hm] at h
        exact ih _ _ _ h j (by omega)
    · rw [if_neg hp] at h ⊢
      exact h
theorem no_descent {P : Nat → Prop} (h : ∀ j, P j → ∃ j', j' < j ∧ P j') : ∀ j, ¬ P j := by
  intro j
  induction j using Nat.strongRecOn with
  | ind j ih => intro hj; obtain ⟨j', hlt, hp⟩ := h j hj; exact ih j' hlt hp
theorem lawEnd_none {q : Option Op} {ops : List Op} : ∀ (k : Nat) (met : List Nat) (l : Nat), met.Nodup → (∀ x ∈ met, x < ops.length) → k + met.length = ops.length + 1 →
    (∀ x ∈ met, ∀ j e, chase q ops j x = some e → ∃ j', j' < j ∧ chase q ops j' l = some e) → lawEnd q ops k met l = none → ∀ j, chase q ops j l = none := by
  intro k
  induction k with
  | zero =>
    intro met l hd hlt hk _ _
    have := pigeon _ _ hd hlt
    omega
  | succ k ih =>
    intro met l hd hlt hk hI h j
    unfold lawEnd at h
    by_cases hp : passes q ops l = true
    · rw [if_pos hp] at h
      by_cases hm : l ∈ met
      · cases hc : chase q ops j l with
        | none => rfl
        | some e => exact absurd hc (no_descent (P := fun j => chase q ops j l = some e) (fun j hj => hI l hm j e hj) j)
      · rw [if_neg hm] at h
        have hl : l < ops.length := by
          obtain ⟨o, ho, _⟩ := passes_op hp
          rcases Nat.lt_or_ge l ops.length with q | q
          · exact q
          · rw [List.getElem?_eq_none q] at ho; cases ho
        have down : ∀ j e, chase q ops j l = some e → ∃ j', j = j' + 1 ∧ chase q ops j' (lastAt ops l) = some e := by
          intro j e hc
          cases j with
          | zero => cases hc
          | succ j =>
            unfold chase at hc
            rw [if_pos hp] at hc
            exact ⟨j, rfl, hc⟩
        have := ih (met ++ [l]) (lastAt ops l) (List.nodup_append.mpr ⟨hd, by simp, fun a ha b hb e => hm (by rw [List.mem_singleton.mp hb] at e; exact e ▸ ha)⟩)
          (fun x hx => (List.mem_append.mp hx).elim (hlt x) fun h => by rw [List.mem_singleton.mp h]; exact hl) (by simp; omega)
          (fun x hx j e hc => by
            rcases List.mem_append.mp hx with hx | hx
            · obtain ⟨j', hj', hc'⟩ := hI x hx j e hc
              obtain ⟨j2, rfl, hc2⟩ := down j' e hc'
              exact ⟨j2, by omega, hc2⟩
            · rw [List.mem_singleton.mp hx] at hc
              obtain ⟨j2, rfl, hc2⟩ := down j e hc
              exact ⟨j2, Nat.lt_succ_self _, hc2⟩) h
        cases j with
        | zero => rfl
        | succ j => unfold chase; rw [if_pos hp]; exact this j
    · rw [if_neg hp] at h; cases h
theorem lawEnd_eq (q : Option Op) (ops : List Op) (n : Nat) : lawEnd q ops (ops.length + 1) [] n = chase q ops (ops.length + 1) n := by
  cases h : lawEnd q ops (ops.length + 1) [] n with
  | some e => exact (lawEnd_some _ _ _ _ h _ (Nat.le_refl _)).symm
  | none => exact (lawEnd_none _ _ _ List.nodup_nil (fun _ h => nomatch h) rfl (fun _ h => nomatch h) h _).symm
theorem endR_eq (q : Option Op) (ops : List Op) (n : Nat) : endR q ops n = (match chase q ops (ops.length + 1) n with | some e => ((e : Nat) : Int) | none => -1) := by
  unfold endR
  rw [lawEnd_eq]
  all_goals (cases chase q ops (ops.length + 1) n <;> rfl)
theorem lawWay_eq (ops : List Op) (o : Op) (n : Nat) : lawWay ops o n = ((wayOn ops o n : Nat) : Int) := by
  unfold lawWay wayOn ask
  simp only [endR_eq]
  by_cases hk : isAsk o = true
  · simp only [hk, if_true, true_and]
    cases h1 : chase (some o) ops (ops.length + 1) n with
    | some e => simp
    | none =>
      simp only [show ¬ (0 : Int) ≤ -1 from by decide, if_false]
      cases h2 : chase none ops (ops.length + 1) n with
      | some e => simp
      | none => simp
  · simp only [hk, Bool.false_eq_true, if_false, false_and]
    cases h2 : chase none ops (ops.length + 1) n with
    | some e => simp
    | none => simp
end

-- Plain2
section
/-- a way that never ends -/
noncomputable def Never (q : Option Op) (ops : List Op) (l : Nat) : Prop := ∀ j, chase q ops j l = none
theorem never_of {q : Option Op} {ops : List Op} {l : Nat} (h : chase q ops (ops.length + 1) l = none) : Never q ops l := by
  rw [← lawEnd_eq] at h
  exact lawEnd_none _ _ _ List.nodup_nil (fun _ h => nomatch h) rfl (fun _ h => nomatch h) h
theorem chase_end {q : Option Op} {ops : List Op} : ∀ {j l e : Nat}, chase q ops j l = some e → passes q ops e = false := by
  intro j
  induction j with
  | zero => intro l e h; cases h
  | succ j ih =>
    intro l e h
    unfold chase at h
    split at h
    · exact ih h
    · rename_i hp
      cases h
      exact Bool.eq_false_iff.mpr hp
theorem chase_stop {q : Option Op} {ops : List Op} {e k : Nat} (h : passes q ops e = false) : chase q ops (k + 1) e = some e := by
  unfold chase; rw [h]; rfl
theorem Never.passes {q : Option Op} {ops : List Op} {l : Nat} (h : Never q ops l) : passes q ops l = true := by
  cases hp : Pb.passes q ops l with
  | true => rfl
  | false => have := h 1; rw [chase_stop hp] at this; cases this
theorem Never.last {q : Option Op} {ops : List Op} {l : Nat} (h : Never q ops l) : Never q ops (lastAt ops l) := by
  intro j
  have := h (j + 1)
  unfold chase at this
  rw [if_pos h.passes] at this
  exact this
theorem Never.down {q : Option Op} {ops : List Op} : ∀ {j l e : Nat}, chase none ops j l = some e → Never q ops l → Never q ops e := by
  intro j
  induction j with
  | zero => intro l e h; cases h
  | succ j ih =>
    intro l e h hn
    unfold chase at h
    split at h
    · exact ih h hn.last
    · cases h; exact hn
theorem passes_some {q : Option Op} {ops : List Op} {l : Nat} (h : passes q ops l = true) : ∃ o, ops[l]? = some o ∧ (isJump o = true ∨ likeO q o = true) := by
  unfold passes at h
  split at h
  · cases h
  · rename_i o e
    exact ⟨o, e, by simpa using h⟩
theorem like_same {o q : Op} (h : like o q = true) : (∃ c n n', o = .test c n ∧ q = .test c n') ∨ ∃ k n n', o = .key k n ∧ q = .key k n' := by
  unfold like at h
  split at h
  · exact .inl ⟨_, _, _, rfl, by rw [eq_of_beq h]⟩
  · exact .inr ⟨_, _, _, rfl, by rw [eq_of_beq h]⟩
  · cases h
/-- the kind and what is asked, without labels -/
noncomputable def same (o o' : Op) : Prop := isJump o = isJump o' ∧ isAsk o = isAsk o' ∧ ∀ q, like q o = like q o' ∧ like o q = like o' q
theorem relab_same (f : Nat → Nat) (o : Op) : same o (relab f o) := by
  refine ⟨?_, ?_, fun q => ⟨?_, ?_⟩⟩ <;> cases o <;> try rfl
  all_goals cases q <;> rfl
theorem passes_ask {o o' : Op} (h : same o o') (ops : List Op) (l : Nat) : passes (ask o) ops l = passes (ask o') ops l := by
  obtain ⟨_, h2, h3⟩ := h
  unfold passes ask
  rw [h2]
  split
  · rfl
  · split
    · simp only [likeO]; rw [(h3 _).1]
    · rfl
theorem chase_ask {o o' : Op} (h : same o o') (ops : List Op) : ∀ j l, chase (ask o) ops j l = chase (ask o') ops j l := by
  intro j
  induction j with
  | zero => intro l; rfl
  | succ j ih => intro l; unfold chase; rw [passes_ask h, ih]
theorem way_ask {o o' : Op} (h : same o o') (ops : List Op) (l : Nat) : wayOn ops o l = wayOn ops o' l := by
  unfold wayOn; rw [chase_ask h]
/-- how a way comes out -/
theorem way_cases (ops : List Op) (o : Op) (l : Nat) :
    (∃ j, chase (ask o) ops j l = some (wayOn ops o l)) ∨ (Never (ask o) ops l ∧ ∃ j, chase none ops j l = some (wayOn ops o l)) ∨ (Never (ask o) ops l ∧ Never none ops l ∧ wayOn ops o l = l) := by
  unfold wayOn
  cases h : chase (ask o) ops (ops.length + 1) l with
  | some e => exact .inl ⟨_, h⟩
  | none =>
    refine .inr ?_
    cases h2 : chase none ops (ops.length + 1) l with
    | some e => exact .inl ⟨never_of h, _, h2⟩
    | none => exact .inr ⟨never_of h, never_of h2, rfl⟩
theorem led_at (ops : List Op) (i : Nat) : (ledF ops)[i]? = (ops[i]?).map (ledOp ops) := by simp [ledF]
theorem led_len (ops : List Op) : (ledF ops).length = ops.length := by simp [ledF]
/-- an op that is no jump keeps kind and question -/
theorem led_same {ops : List Op} {o : Op} (h : isJump o = false) : same o (ledOp ops o) := by
  have e : ledOp ops o = relab (wayOn ops o) o := by
    refine ledOp_other ?_
    rw [← (relab_same (wayOn ops o) o).1, h]; simp
  rw [e]; exact relab_same _ _
theorem likeO_same {o o' : Op} (h : same o o') (q : Option Op) : likeO q o = likeO q o' := by
  cases q with
  | none => rfl
  | some q => exact (h.2.2 q).2
theorem passes_led {q : Option Op} {ops : List Op} {e : Nat} (h : passes q ops e = false) : passes q (ledF ops) e = false := by
  unfold passes at h ⊢
  rw [led_at]
  cases ho : ops[e]? with
  | none => rfl
  | some o =>
    rw [ho] at h
    simp only [Bool.or_eq_false_iff] at h
    have hs := led_same (ops := ops) h.1
    simp only [Option.map_some]
    rw [← hs.1, ← likeO_same hs q, h.1, h.2]; rfl
theorem ledOp_jump (ops : List Op) (n : Nat) : (∃ w, ops[wayOn ops (.jump n) n]? = some (.stop w) ∧ ledOp ops (.jump n) = .stop w) ∨ ((∀ w, ops[wayOn ops (.jump n) n]? ≠ some (.stop w)) ∧ ledOp ops (.jump n) = .jump (wayOn ops (.jump n) n)) := by
  have hw : relab (wayOn ops (.jump n)) (.jump n) = .jump (wayOn ops (.jump n) n) := rfl
  by_cases h : ∃ w, ops[wayOn ops (.jump n) n]? = some (.stop w)
  · obtain ⟨w, h⟩ := h
    exact .inl ⟨w, h, ledOp_stop hw h⟩
  · have h' : ∀ w, ops[wayOn ops (.jump n) n]? ≠ some (.stop w) := fun w e => h ⟨w, e⟩
    exact .inr ⟨h', ledOp_far hw h'⟩
theorem never_no_stop {q : Option Op} {ops : List Op} {l : Nat} (h : Never q ops l) (w : Str) : ops[l]? ≠ some (.stop w) := by
  intro e
  obtain ⟨o, ho, hk⟩ := passes_some h.passes
  rw [e] at ho; cases ho
  rcases hk with hk | hk
  · cases hk
  · cases q with
    | none => cases hk
    | some q => cases q <;> cases hk
theorem way_never {q : Option Op} {ops : List Op} {o : Op} {n : Nat} (hn : Never q ops n) (hq : Never (ask o) ops n) : Never q ops (wayOn ops o n) := by
  rcases way_cases ops o n with ⟨j, h⟩ | ⟨_, j, h⟩ | ⟨_, _, h⟩
  · rw [hq j] at h; cases h
  · exact hn.down h
  · rw [h]; exact hn
theorem way_jump {q : Option Op} {ops : List Op} {m n : Nat} (hn : Never q ops n) : Never q ops (wayOn ops (.jump m) n) := by
  rcases way_cases ops (.jump m) n with ⟨j, h⟩ | ⟨_, j, h⟩ | ⟨_, _, h⟩
  · exact hn.down h
  · exact hn.down h
  · rw [h]; exact hn
theorem never_step {q : Option Op} {ops : List Op} {l : Nat} (h : Never q ops l) : passes q (ledF ops) l = true ∧ Never q ops (lastAt (ledF ops) l) := by
  obtain ⟨o, ho, hk⟩ := passes_some h.passes
  have hl := h.last
  rw [lastAt_of ho] at hl
  have hat : (ledF ops)[l]? = some (ledOp ops o) := by rw [led_at, ho]; rfl
  cases hj : isJump o with
  | true =>
    obtain ⟨n, rfl⟩ : ∃ n, o = .jump n := by cases o <;> first | exact ⟨_, rfl⟩ | cases hj
    have hw : Never q ops (wayOn ops (.jump n) n) := way_jump hl
    rcases ledOp_jump ops n with ⟨w, e, _⟩ | ⟨_, e⟩
    · exact absurd e (never_no_stop hw w)
    · rw [e] at hat
      refine ⟨by unfold passes; rw [hat]; rfl, ?_⟩
      rw [lastAt_of hat]; exact hw
  | false =>
    rcases hk with hk | hk
    · rw [hj] at hk; cases hk
    · obtain ⟨q, rfl⟩ : ∃ q', q = some q' := by cases q with
        | none => cases hk
        | some q => exact ⟨q, rfl⟩
      have hs := led_same (ops := ops) hj
      have hask : isAsk o = true := by rcases like_same hk with ⟨c, n, n', rfl, rfl⟩ | ⟨c, n, n', rfl, rfl⟩ <;> rfl
      have hqo : ∀ j l, chase (ask o) ops j l = chase (some q) ops j l := by
        have hpq : ∀ l, passes (ask o) ops l = passes (some q) ops l := by
          intro l
          unfold passes ask
          rw [if_pos hask]
          split
          · rfl
          · rename_i o2 _
            simp only [likeO]
            rcases like_same hk with ⟨c, n, n', rfl, rfl⟩ | ⟨c, n, n', rfl, rfl⟩ <;> cases o2 <;> rfl
        intro j
        induction j with
        | zero => intro l; rfl
        | succ j ih => intro l; unfold chase; rw [hpq, ih]
      have e : ledOp ops o = relab (wayOn ops o) o := by
        refine ledOp_other ?_
        rw [← (relab_same (wayOn ops o) o).1, hj]; simp
      have hla : (ledOp ops o).last = wayOn ops o o.last := by
        rw [e]
        cases o <;> first | rfl | cases hask
      refine ⟨?_, ?_⟩
      · unfold passes; rw [hat]
        simp only [← hs.1, ← likeO_same hs, hk, Bool.or_true]
      · rw [lastAt_of hat, hla]
        exact way_never hl fun j => by rw [hqo]; exact hl j
theorem Never.led {q : Option Op} {ops : List Op} {l : Nat} (h : Never q ops l) : Never q (ledF ops) l := by
  intro j
  induction j generalizing l with
  | zero => rfl
  | succ j ih =>
    obtain ⟨h1, h2⟩ := never_step h
    unfold chase
    rw [if_pos h1]
    exact ih h2
theorem way_of_some {ops : List Op} {o : Op} {l e : Nat} (h : passes (ask o) ops l = false) (he : l = e) : wayOn ops o l = e := by
  subst he
  unfold wayOn
  rw [chase_stop h]
theorem way_again (ops : List Op) (o : Op) (l : Nat) : wayOn (ledF ops) o (wayOn ops o l) = wayOn ops o l := by
  rcases way_cases ops o l with ⟨j, h⟩ | ⟨hn, j, h⟩ | ⟨hn, hn2, h⟩
  · exact way_of_some (passes_led (chase_end h)) rfl
  · have h1 := (hn.down h).led
    have h2 := passes_led (chase_end h)
    generalize wayOn ops o l = e at *
    unfold wayOn
    rw [h1, chase_stop h2]
  · rw [h]
    have h1 := hn.led
    have h2 := hn2.led
    unfold wayOn
    rw [h1, h2]
theorem led_again (ops : List Op) (o : Op) : ledOp (ledF ops) (ledOp ops o) = ledOp ops o := by
  cases hj : isJump o with
  | true =>
    obtain ⟨n, rfl⟩ : ∃ n, o = .jump n := by cases o <;> first | exact ⟨_, rfl⟩ | cases hj
    rcases ledOp_jump ops n with ⟨w, _, e⟩ | ⟨hs, e⟩
    · rw [e]; rfl
    · rw [e]
      have hw : wayOn (ledF ops) (.jump (wayOn ops (.jump n) n)) (wayOn ops (.jump n) n) = wayOn ops (.jump n) n := by
        rw [way_ask (o' := .jump n) ⟨rfl, rfl, fun q => ⟨by cases q <;> rfl, rfl⟩⟩]
        exact way_again ops (.jump n) n
      have hr : relab (wayOn (ledF ops) (.jump (wayOn ops (.jump n) n))) (.jump (wayOn ops (.jump n) n)) = .jump (wayOn ops (.jump n) n) := by
        show Op.jump _ = _
        rw [hw]
      refine ledOp_far hr fun w q => ?_
      rw [led_at] at q
      rcases way_cases ops (.jump n) n with ⟨j, h⟩ | ⟨_, j, h⟩ | ⟨_, hn2, h⟩
      all_goals generalize wayOn ops (.jump n) n = ee at *
      · have hp := chase_end h
        cases ho : ops[ee]? with
        | none => rw [ho] at q; cases q
        | some o =>
          rw [ho] at q
          unfold passes at hp
          rw [ho] at hp
          simp only [Bool.or_eq_false_iff] at hp
          have hs' := led_same (ops := ops) hp.1
          have eo : ledOp ops o = relab (wayOn ops o) o := ledOp_other (by rw [← (relab_same (wayOn ops o) o).1, hp.1]; simp)
          simp only [Option.map_some, Option.some.injEq] at q
          rw [eo] at q
          cases o <;> simp [relab] at q
          subst q
          exact hs _ ho
      · have hp := chase_end h
        cases ho : ops[ee]? with
        | none => rw [ho] at q; cases q
        | some o =>
          rw [ho] at q
          unfold passes at hp
          rw [ho] at hp
          simp only [Bool.or_eq_false_iff] at hp
          have eo : ledOp ops o = relab (wayOn ops o) o := ledOp_other (by rw [← (relab_same (wayOn ops o) o).1, hp.1]; simp)
          simp only [Option.map_some, Option.some.injEq] at q
          rw [eo] at q
          cases o <;> simp [relab] at q
          subst q
          exact hs _ ho
      · subst h
        refine never_no_stop hn2.led w ?_
        rw [led_at]; exact q
  | false =>
    have e : ledOp ops o = relab (wayOn ops o) o := ledOp_other (by rw [← (relab_same (wayOn ops o) o).1, hj]; simp)
    have hs := relab_same (wayOn ops o) o
    rw [e]
    have e2 : ledOp (ledF ops) (relab (wayOn ops o) o) = relab (wayOn (ledF ops) (relab (wayOn ops o) o)) (relab (wayOn ops o) o) := by
      refine ledOp_other ?_
      rw [← (relab_same _ _).1, ← hs.1, hj]; simp
    rw [e2]
    have hw : ∀ l, wayOn (ledF ops) (relab (wayOn ops o) o) l = wayOn (ledF ops) o l := fun l => (way_ask hs _ _).symm
    generalize hf : wayOn (ledF ops) (relab (wayOn ops o) o) = f at *
    have hfw : ∀ l, f (wayOn ops o l) = wayOn ops o l := fun l => by rw [hw]; exact way_again ops o l
    cases o <;> simp only [relab, hfw]
/-- led again changes nothing -/
theorem ledF_again (ops : List Op) : ledF (ledF ops) = ledF ops := by
  have : ledF (ledF ops) = (ops.map (ledOp ops)).map (ledOp (ledF ops)) := rfl
  rw [this, List.map_map]
  exact List.map_congr_left fun o _ => led_again ops o
end

-- Plain3
section
inductive Cf where
  | go (p : Nat) (k : Str) (d : List D)
  | over (w : Str) (d : List D)
noncomputable def Cf.done : Cf → List D
  | .go _ _ d => d
  | .over _ d => d
section
variable (kf : Nat → Str) (tf : Bool → Nat → Bool)
noncomputable def step (ops : List Op) : Cf → Cf
  | .over w d => .over w d
  | .go p k d => match ops[p]? with
    | some (.jump n) => .go n k d
    | some (.test c n) => .go (if tf c d.length then p + 1 else n) k d
    | some (.key x n) => .go (if k == x then p + 1 else n) k d
    | some (.stop w) => .over w d
    | some (.deed a) => .go (p + 1) (kf d.length) (d ++ [a])
    | _ => .go p k d
noncomputable def runRes (ops : List Op) : Nat → Cf → Str × List D
  | _, .over w d => (w, d)
  | f, .go p k d => if ops.length ≤ p then (Str.ofString "fault", d) else match f with
    | 0 => (Str.ofString "steps", d)
    | f + 1 => runRes ops f (step kf tf ops (.go p k d))
noncomputable def itr (ops : List Op) : Nat → Cf → Cf
  | 0, c => c
  | m + 1, c => itr ops m (step kf tf ops c)
noncomputable def fin (ops : List Op) : Cf → Str × List D
  | .over w d => (w, d)
  | .go p _ d => if ops.length ≤ p then (Str.ofString "fault", d) else (Str.ofString "steps", d)
variable {kf : Nat → Str} {tf : Bool → Nat → Bool}
theorem itr_over {ops : List Op} : ∀ m w d, itr kf tf ops m (.over w d) = .over w d
  | 0, _, _ => rfl
  | m + 1, w, d => itr_over m w d
theorem itr_out {ops : List Op} {p : Nat} (h : ops.length ≤ p) (k : Str) (d : List D) : ∀ m, itr kf tf ops m (.go p k d) = .go p k d
  | 0 => rfl
  | m + 1 => by
    have : step kf tf ops (.go p k d) = .go p k d := by simp only [step, List.getElem?_eq_none h]
    rw [itr, this]; exact itr_out h k d m
theorem run_fin (ops : List Op) : ∀ f c, runRes kf tf ops f c = fin ops (itr kf tf ops f c) := by
  intro f
  induction f with
  | zero =>
    intro c
    cases c with
    | over w d => rfl
    | go p k d => unfold runRes itr fin; rfl
  | succ f ih =>
    intro c
    cases c with
    | over w d => unfold runRes; rw [itr_over]; rfl
    | go p k d =>
      unfold runRes
      by_cases h : ops.length ≤ p
      · rw [if_pos h, itr_out h]; simp only [fin, if_pos h]
      · rw [if_neg h]; exact ih _
theorem itr_add (ops : List Op) : ∀ a b c, itr kf tf ops (a + b) c = itr kf tf ops b (itr kf tf ops a c) := by
  intro a
  induction a with
  | zero => intro b c; rw [Nat.zero_add]; rfl
  | succ a ih => intro b c; rw [Nat.add_right_comm]; exact ih b _
theorem step_done (ops : List Op) (c : Cf) : ∃ x, (step kf tf ops c).done = c.done ++ x := by
  cases c with
  | over w d => exact ⟨[], by simp [step, Cf.done]⟩
  | go p k d =>
    simp only [step]
    split <;> first | exact ⟨_, rfl⟩ | exact ⟨[], by simp [Cf.done]; done⟩
theorem itr_done (ops : List Op) : ∀ m c, ∃ x, (itr kf tf ops m c).done = c.done ++ x := by
  intro m
  induction m with
  | zero => intro c; exact ⟨[], by simp [itr]⟩
  | succ m ih =>
    intro c
    obtain ⟨x, hx⟩ := ih (step kf tf ops c)
    obtain ⟨y, hy⟩ := step_done (kf := kf) (tf := tf) ops c
    exact ⟨y ++ x, by rw [itr, hx, hy, List.append_assoc]⟩
/-- the machine goes the way that chase tells -/
theorem chase_run {q : Option Op} {ops : List Op} {k : Str} {d : List D} (hq : ∀ o, likeO q o = true → ∀ p, ops[p]? = some o → step kf tf ops (.go p k d) = .go o.last k d) :
    ∀ {j l e : Nat}, chase q ops j l = some e → ∃ m, itr kf tf ops m (.go l k d) = .go e k d := by
  intro j
  induction j with
  | zero => intro l e h; cases h
  | succ j ih =>
    intro l e h
    unfold chase at h
    split at h
    · rename_i hp
      obtain ⟨m, hm⟩ := ih h
      refine ⟨m + 1, ?_⟩
      have hs : step kf tf ops (.go l k d) = .go (lastAt ops l) k d := by
        obtain ⟨o, ho, hk⟩ := passes_some hp
        rw [lastAt_of ho]
        rcases hk with hk | hk
        · cases o <;> first | (simp only [step, ho, Op.last]; done) | cases hk
        · exact hq o hk l ho
      rw [itr, hs, hm]
    · cases h; exact ⟨0, rfl⟩
theorem way_run {ops : List Op} {o : Op} {n : Nat} {k : Str} {d : List D} (hq : ∀ o', likeO (ask o) o' = true → ∀ p, ops[p]? = some o' → step kf tf ops (.go p k d) = .go o'.last k d) :
    ∃ m, itr kf tf ops m (.go n k d) = .go (wayOn ops o n) k d := by
  rcases way_cases ops o n with ⟨j, h⟩ | ⟨_, j, h⟩ | ⟨_, _, h⟩
  · exact chase_run hq h
  · exact chase_run (q := none) (fun _ h => nomatch h) h
  · rw [h]; exact ⟨0, rfl⟩
theorem step_led (ops : List Op) (c : Cf) : ∃ m, step kf tf (ledF ops) c = itr kf tf ops (m + 1) c := by
  cases c with
  | over w d => exact ⟨0, rfl⟩
  | go p k d =>
    cases ho : ops[p]? with
    | none => exact ⟨0, by simp only [itr, step, led_at, ho, Option.map_none]⟩
    | some o =>
      cases o with
      | jump n =>
        have hs : step kf tf ops (.go p k d) = .go n k d := by simp only [step, ho]
        obtain ⟨m, hm⟩ := way_run (kf := kf) (tf := tf) (ops := ops) (o := .jump n) (n := n) (k := k) (d := d) (fun _ h => nomatch h)
        rcases ledOp_jump ops n with ⟨w, e, hl⟩ | ⟨_, hl⟩
        · refine ⟨m + 1, ?_⟩
          rw [itr, hs, itr_add, hm]
          simp only [itr, step, led_at, ho, Option.map_some, hl, e]
        · refine ⟨m, ?_⟩
          rw [itr, hs, hm]
          simp only [step, led_at, ho, Option.map_some, hl]
      | test c n =>
        have hl : ledOp ops (.test c n) = .test c (wayOn ops (.test c n) n) := ledOp_other (by simp [relab, isJump])
        by_cases ht : tf c d.length = true
        · exact ⟨0, by simp only [itr, step, led_at, ho, Option.map_some, hl, ht, if_true]⟩
        · have hs : step kf tf ops (.go p k d) = .go n k d := by simp only [step, ho, ht]; rfl
          obtain ⟨m, hm⟩ := way_run (kf := kf) (tf := tf) (ops := ops) (o := .test c n) (n := n) (k := k) (d := d) (fun o' h p' ho' => by
            cases o' <;> first | cases h | skip
            rename_i c' n'
            have e : c = c' := by
              have h' : like (.test c' n') (.test c n) = true ∨ like (.test c n) (.test c' n') = true := by first | exact .inl h | exact .inr h
              rcases h' with h' | h' <;> simp [like] at h' <;> simp [h']
            subst e
            simp only [step, ho', ht, Op.last]; rfl)
          refine ⟨m, ?_⟩
          rw [itr, hs, hm]
          simp only [step, led_at, ho, Option.map_some, hl, ht]; rfl
      | key x n =>
        have hl : ledOp ops (.key x n) = .key x (wayOn ops (.key x n) n) := ledOp_other (by simp [relab, isJump])
        by_cases ht : (k == x) = true
        · exact ⟨0, by simp only [itr, step, led_at, ho, Option.map_some, hl, ht, if_true]⟩
        · have hs : step kf tf ops (.go p k d) = .go n k d := by simp only [step, ho, ht]; rfl
          obtain ⟨m, hm⟩ := way_run (kf := kf) (tf := tf) (ops := ops) (o := .key x n) (n := n) (k := k) (d := d) (fun o' h p' ho' => by
            cases o' <;> first | cases h | skip
            rename_i c' n'
            have e : x = c' := by
              have h' : like (.key c' n') (.key x n) = true ∨ like (.key x n) (.key c' n') = true := by first | exact .inl h | exact .inr h
              rcases h' with h' | h' <;> simp [like] at h' <;> simp [h']
            subst e
            simp only [step, ho', ht, Op.last]; rfl)
          refine ⟨m, ?_⟩
          rw [itr, hs, hm]
          simp only [step, led_at, ho, Option.map_some, hl, ht]; rfl
      | stop w => exact ⟨0, by simp only [itr, step, led_at, ho, Option.map_some]; rfl⟩
      | deed a => exact ⟨0, by simp only [itr, step, led_at, ho, Option.map_some]; rfl⟩
      | choose a b => exact ⟨0, by simp only [itr, step, led_at, ho, Option.map_some]; rfl⟩
      | leave => exact ⟨0, by simp only [itr, step, led_at, ho, Option.map_some]; rfl⟩
      | push => exact ⟨0, by simp only [itr, step, led_at, ho, Option.map_some]; rfl⟩
      | put n => exact ⟨0, by simp only [itr, step, led_at, ho, Option.map_some]; rfl⟩
      | «calc» n => exact ⟨0, by simp only [itr, step, led_at, ho, Option.map_some]; rfl⟩
theorem itr_led (ops : List Op) : ∀ f c, ∃ m, itr kf tf (ledF ops) f c = itr kf tf ops (f + m) c := by
  intro f
  induction f with
  | zero => intro c; exact ⟨0, rfl⟩
  | succ f ih =>
    intro c
    obtain ⟨m, hm⟩ := step_led (kf := kf) (tf := tf) ops c
    obtain ⟨m2, hm2⟩ := ih (step kf tf (ledF ops) c)
    refine ⟨m + m2, ?_⟩
    rw [itr, hm2, hm, ← itr_add]
    congr 1; omega
/-- both runs do alike -/
theorem runs_alike (ops : List Op) (f : Nat) (c : Cf) :
    (runRes kf tf (ledF ops) f c).2.take (runRes kf tf ops f c).2.length = (runRes kf tf ops f c).2 ∧
    ((runRes kf tf ops f c).1 ≠ Str.ofString "steps" → runRes kf tf (ledF ops) f c = runRes kf tf ops f c) := by
  have hf : ∀ c, fin (ledF ops) c = fin ops c := fun c => by cases c <;> simp only [fin, led_len]
  obtain ⟨m, hm⟩ := itr_led (kf := kf) (tf := tf) ops f c
  rw [run_fin, run_fin, hf, hm, itr_add]
  generalize itr kf tf ops f c = c1
  cases c1 with
  | over w d => rw [itr_over]; simp
  | go p k d =>
    by_cases h : ops.length ≤ p
    · rw [itr_out h]; simp
    · have e1 : fin ops (.go p k d) = (Str.ofString "steps", d) := by simp only [fin, if_neg h]
      obtain ⟨x, hx⟩ := itr_done (kf := kf) (tf := tf) ops m (.go p k d)
      have e2 : (fin ops (itr kf tf ops m (.go p k d))).2 = d ++ x := by
        have : ∀ c, (fin ops c).2 = c.done := fun c => by
          cases c with
          | over w d => rfl
          | go p k d => simp only [fin]; split <;> rfl
        rw [this, hx]; rfl
      rw [e1, e2]
      simp
end
end

-- RunB
theorem fillRb : (PySem.Challenge.rw_pb0247_01.Holds ∧ ∀ P, hd.heap_39 P = []) → True := by k_fill; intro _; trivial
noncomputable abbrev en (w : World) (x : String) (t : Tok) (v : Value) : DictEntry := { hash := PyData.keyHash w.params (Str.ofString x), key := .str (Str.ofString x) t, val := v }
set_option genInjectivity false in
set_option genSizeOfSpec false in
/-- what stays in a run of the machine -/
structure Cst where
  (tb mc md co cdt de dd dn st fm ot f1 f2 f3 f4 : Addr)
  (to : Obj)
  (a b c d e f g t1 t2 t3 t4 t5 t6 : Tok)
  bv : Value
noncomputable def Cst.Ord (C : Cst) : Prop := (@LT.lt Nat instLTNat C.dn C.dd ∧ @LT.lt Nat instLTNat C.dd C.de ∧ @LT.lt Nat instLTNat C.de C.cdt ∧ @LT.lt Nat instLTNat C.cdt C.co) ∧ @LT.lt Nat instLTNat C.co C.md ∧ @LT.lt Nat instLTNat C.md C.mc ∧ @LT.lt Nat instLTNat C.mc C.tb
noncomputable def Cst.led (C : Cst) (w : World) (p : Int) (pt : Tok) (key : Str) (kt : Tok) (word : Str) (wt : Tok) (ys : List Value) (n : Nat) : List (Addr × Obj) :=
  [(C.tb, C.to), (C.mc, instObj 285 C.md),
    (C.md, dictOf [en w "code" C.a (.ref C.co), en w "deeds" C.b (.ref C.de), en w "place" C.c (.int p pt), en w "stack" C.d (.ref C.st), en w "frames" C.e (.ref C.fm), en w "key" C.f (.str key kt), en w "word" C.g (.str word wt)] 7),
    (C.co, instObj 38 C.cdt), (C.cdt, dictOf [en w "ops" C.t1 (.ref C.ot), en w "begins" C.t2 C.bv] 2), (C.de, instObj 418 C.dd),
    (C.dd, dictOf [en w "do" C.t3 (.ref C.f1), en w "test" C.t4 (.ref C.f2), en w "number" C.t5 (.ref C.f3), en w "put" C.t6 (.ref C.f4)] 4), (C.dn, listOf ys.toArray n)]
theorem ord_md {C : Cst} (h : C.Ord) : @LT.lt Nat instLTNat C.co C.md ∧ @LT.lt Nat instLTNat C.cdt C.md ∧ @LT.lt Nat instLTNat C.de C.md ∧ @LT.lt Nat instLTNat C.dd C.md ∧ @LT.lt Nat instLTNat C.dn C.md :=
  have e1 := h.2.1
  have e2 := Nat.lt_trans h.1.2.2.2 e1
  have e3 := Nat.lt_trans h.1.2.2.1 e2
  have e4 := Nat.lt_trans h.1.2.1 e3
  ⟨e1, e2, e3, e4, Nat.lt_trans h.1.1 e4⟩
theorem ord_tb {C : Cst} (h : C.Ord) : @LT.lt Nat instLTNat C.md C.tb ∧ @LT.lt Nat instLTNat C.mc C.tb := ⟨Nat.lt_trans h.2.2.1 h.2.2.2, h.2.2.2⟩
theorem ord_mc {C : Cst} (h : C.Ord) : @LT.lt Nat instLTNat C.md C.mc ∧ True := ⟨h.2.2.1, trivial⟩
theorem ord_dn {C : Cst} (h : C.Ord) : @LT.lt Nat instLTNat C.dn C.dd ∧ @LT.lt Nat instLTNat C.dn C.de ∧ @LT.lt Nat instLTNat C.dn C.cdt ∧ @LT.lt Nat instLTNat C.dn C.co ∧ @LT.lt Nat instLTNat C.dn C.mc ∧ @LT.lt Nat instLTNat C.dn C.tb :=
  have e1 := Nat.lt_trans h.1.1 h.1.2.1
  have e2 := Nat.lt_trans e1 h.1.2.2.1
  have e3 := Nat.lt_trans e2 h.1.2.2.2
  have e4 := Nat.lt_trans (Nat.lt_trans e3 h.2.1) h.2.2.1
  ⟨h.1.1, e1, e2, e3, e4, Nat.lt_trans e4 h.2.2.2⟩
theorem ground_of {g : Heap} {L : Addr} {h : Heap} {m : Str → Option Value} {l : List (Addr × Obj)} (F : Fr g L h m) (N : News g L h l) :
    ∃ g₂, Apart g₂ h l ∧ g.StaysIn g₂ ∧ ∀ {L₂ h' m₂ l'}, Fr g₂ L₂ h' m₂ → News g₂ L₂ h' l' → l'.map (·.1) = l.map (·.1) → Fr g L h' m ∧ News g L h' l' := by
  have nm : ∀ b o, g.get? b = some o → b ∉ l.map (·.1) := fun b o e q => by
    obtain ⟨p, hp, rfl⟩ := List.mem_map.mp q
    rw [(N p hp).2.2] at e; cases e
  have nL : L ∉ l.map (·.1) := fun q => by
    obtain ⟨p, hp, e⟩ := List.mem_map.mp q
    exact (N p hp).2.1 e
  have st : g.StaysIn (hideAll h (l.map (·.1))) := fun b o e => hideAll_get _ (F.keep b o e) (nm b o e)
  obtain ⟨oL, es, ep, hL, hLd, hLk, hLf⟩ := id F.ns
  have hLg := hideAll_get (l.map (·.1)) hL nL
  refine ⟨hideAll h (l.map (·.1)), ⟨fun _ _ e => of_hideAll _ e, Nat.le_of_eq (hideAll_size _ _), fun p hp => ⟨(N p hp).1, hideAll_none _ (List.mem_map_of_mem hp)⟩⟩, st, ?_⟩
  intro L₂ h' m₂ l' F' N' e
  refine ⟨⟨⟨oL, es, ep, F'.keep L oL hLg, hLd, hLk, hLf⟩, fun b o q => F'.keep b o (st b o q), F.above⟩, fun p hp => ?_⟩
  have : p.1 ∈ l.map (·.1) := e ▸ List.mem_map_of_mem hp
  obtain ⟨q, hq, hqe⟩ := List.mem_map.mp this
  exact ⟨(N' p hp).1, hqe ▸ (N q hq).2.1, hqe ▸ (N q hq).2.2⟩
section
variable (prog : Program) (w : World) (g : Heap)
/-- what a call of do_one does -/
noncomputable def DoAt (f1 dn : Addr) (kf : Nat → Str) : Prop := FnHere g f1 ∧ ∀ (A : Around) (s : Shared) (E Q : Value → Shared → Prop) (v : Value) (ys : List Value) (n : Nat), g.StaysIn s.heap → s.heap.get? dn = some (listOf ys.toArray n) →
  A.handled = none → A.depth + 10 < recursionLimit → A.units + 100 < cLine → ys.length < 1000 →
  (∀ h' tk u n', (∀ b o, b ≠ dn → s.heap.get? b = some o → h'.get? b = some o) → h'.get? dn = some (listOf (ys ++ [v]).toArray n') → Q (.str (kf ys.length) u) { s with heap := h', toks := tk }) →
  wpAny (model prog w) A (call (.ref f1) [v]) Q E s
/-- what a call of is_so does -/
noncomputable def IsAt (f2 dn : Addr) (tf : Bool → Nat → Bool) : Prop := FnHere g f2 ∧ ∀ (A : Around) (s : Shared) (E Q : Value → Shared → Prop) (v : Value) (c : Bool) (ys : List Value) (n : Nat), g.StaysIn s.heap → s.heap.get? dn = some (listOf ys.toArray n) →
  A.handled = none → A.depth + 10 < recursionLimit → A.units + 100 < cLine → ys.length < 1000 → DIn s.heap v (condD c) →
  (∀ h' tk, s.heap.StaysIn h' → Q (.bool (tf c ys.length)) { s with heap := h', toks := tk }) →
  wpAny (model prog w) A (call (.ref f2) [v]) Q E s
end
section
variable {prog : Program} {w : World} {A : Around} {E : Value → Shared → Prop} {s : Shared} {g g₂ : Heap} {L : Addr} {m : Str → Option Value} {l : List (Addr × Obj)} {Q : Value → Shared → Prop}
theorem do_use {f1 dn : Addr} {kf : Nat → Str} {v : Value} {ys : List Value} {n : Nat} {f : Obj → List (Addr × Obj)} (D : DoAt prog w g f1 dn kf) (st : g.StaysIn g₂) (F : Fr g₂ L s.heap m) (N : News g₂ L s.heap l) (U : UpdF dn (listOf ys.toArray n) l f)
    (hh : A.handled = none) (hdp : A.depth + 10 < recursionLimit) (hu : A.units + 100 < cLine) (hl : ys.length < 1000)
    (hQ : ∀ h' tk u n', Fr g₂ L h' m → News g₂ L h' (f (listOf (ys ++ [v]).toArray n')) → Q (.str (kf ys.length) u) { s with heap := h', toks := tk }) :
    wpAny (model prog w) A (call (.ref f1) [v]) Q E s := by
  obtain ⟨own, rest, rfl, hgr, h1, h2⟩ := U.split
  have hm := N (dn, listOf ys.toArray n) (List.mem_append_right _ (.head _))
  refine D.2 A s E Q v ys n (fun b o e => F.keep b o (st b o e)) hm.1 hh hdp hu hl fun h' tk u n' k hd => ?_
  refine hQ h' tk u n' ⟨F.ns.at' fun o e => k L o (Ne.symm hm.2.1) e, fun b o e => k b o (fun q => by rw [q, hm.2.2] at e; cases e) (F.keep b o e), F.above⟩ fun p hp => ?_
  rw [hgr] at hp
  rcases List.mem_append.mp hp with hp | hp
  · have := N p (List.mem_append_left _ hp)
    exact ⟨k _ _ (h1 p hp) this.1, this.2⟩
  · rcases List.mem_cons.mp hp with rfl | hp
    · exact ⟨hd, hm.2⟩
    · have := N p (List.mem_append_right _ (.tail _ hp))
      exact ⟨k _ _ (h2 p hp) this.1, this.2⟩
theorem is_use {f2 dn : Addr} {tf : Bool → Nat → Bool} {v : Value} {c : Bool} {ys : List Value} {n : Nat} (D : IsAt prog w g f2 dn tf) (st : g.StaysIn g₂) (F : Fr g₂ L s.heap m) (N : News g₂ L s.heap l) (hm : (dn, listOf ys.toArray n) ∈ l)
    (hh : A.handled = none) (hdp : A.depth + 10 < recursionLimit) (hu : A.units + 100 < cLine) (hl : ys.length < 1000) (hv : DIn g₂ v (condD c))
    (hQ : ∀ h' tk, Fr g₂ L h' m → News g₂ L h' l → Q (.bool (tf c ys.length)) { s with heap := h', toks := tk }) :
    wpAny (model prog w) A (call (.ref f2) [v]) Q E s :=
  D.2 A s E Q v c ys n (fun b o e => F.keep b o (st b o e)) (N _ hm).1 hh hdp hu hl (hv.keeps F.keep) fun h' tk k => hQ h' tk (F.keeps k) (N.grown k)
end
theorem wordsRunB1 : True := by
  k_with_none
  w_top off
  k_with "pb_lt" => (first | (with_reducible assumption) | (refine' lt_use (by with_reducible assumption) ?_; (repeat (first | with_reducible exact And.left | with_reducible exact id | with_reducible refine' lt_skip ?_)); done))
  trivial
theorem wordsRunB2 : True := by
  k_with "pb_steps" => (repeat' (first | (k_unfold; (try dsimp only)) | walk1 | (dsimp only; walk1) | fail "no step"))
  k_with "pb_enterM" => (refine' enterM (by with_reducible assumption) (by k_asm) (by k_asm) (by k_is) (by k_is) (by first | exact dlt0 (by with_reducible assumption) | exact dltk (by with_reducible assumption) (by decide) | exact dlt1 (by with_reducible assumption) (by decide) | omega | (dsimp only; omega)) (by first | exact BindsTo.of_eq (binds := [(Str.ofString _, _), (Str.ofString _, _), (Str.ofString _, _)]) rfl | exact BindsTo.of_eq (binds := [(Str.ofString _, _), (Str.ofString _, _)]) rfl | exact BindsTo.of_eq (binds := [(Str.ofString _, _)]) rfl | exact BindsTo.of_eq rfl) (by exact locs rfl) ?_ (by exact rfl) (by exact rfl) (by exact rfl) (by decide); k_whole; intro Lzz' hzz' Fzz' Nzz' l1zz; (try simp only [List.cons_append, List.nil_append, List.append_nil] at Nzz'); (try dsimp only); (try k_fold))
  k_with "subscriptTail" => (k_here; (with_reducible show wpAny _ _ (subscriptTail _ _ (Value.ref _) (Value.int _ _)) _ _ _); k_dflt (refine' item_tup (by k_asm) (by with_reducible assumption) (by decide) (by decide) (by (first | exact seq_0 _ | exact seq_1 _ | rfl)) (by rfl) ?_; k_whole))
  trivial
theorem jump_c {prog : Program} {w : World} {A : Around} {E : Value → Shared → Prop} {s : Shared} {g : Heap} {L : Addr} {m : Str → Option Value} {p : Program} {loose : List Str} {mg mb : Str → Option Value} {Q : Value → Shared → Prop}
    {C : Cst} {pl : Int} {pt : Tok} {key : Str} {kt : Tok} {wd : Str} {wt : Tok} {ys : List Value} {n : Nat} {t : Addr} {k : Str} {kk u : Tok} {j : Int}
    (O : C.Ord) (F : Fr g L s.heap m) (N : News g L s.heap (C.led w pl pt key kt wd wt ys n)) (X : (hd.heap_39 w.params).In g) (T : TopRead p loose mg mb g) (hh : A.handled = none) (hdp : A.depth + 20 < recursionLimit) (hu : A.units + 200 < cLine)
    (hT : IsTup g t [Value.str k kk, Value.int j u].toArray)
    (hQ : ∀ h' tk, Fr g L h' m → News g L h' (C.led w j u key kt wd wt ys n) → Q .none { s with heap := h', toks := tk }) :
    wpAny (model prog w) A (call (.ref 345) [.ref C.mc, .ref t]) Q E s := by
  obtain ⟨tb, mc, md, co, cdt, de, dd, dn, st, fm, ot, f1, f2, f3, f4, to, a, b, c, d, e, f, gg, t1, t2, t3, t4, t5, t6, bv⟩ := C
  obtain ⟨g₂, G, st2, fin⟩ := ground_of F N
  replace X := X.keeps st2
  replace T := T.keeps st2
  replace hT := hT.keeps st2
  clear F N
  obtain ⟨ah, dp, fr, gd, un⟩ := A
  dsimp only at hh hdp hu
  subst hh
  have om := ord_md O
  have ot := ord_tb O
  have oc := ord_mc O
  dsimp only at om ot oc
  simp only [Cst.led] at G fin hQ
  walk_at "pb_enterM"
  walk_at "pb_steps"
  rename Fr _ _ _ _ => F
  rename News _ _ _ _ => N
  obtain ⟨F3, N3⟩ := fin F N rfl
  exact hQ _ _ F3 N3
theorem stop_c {prog : Program} {w : World} {A : Around} {E : Value → Shared → Prop} {s : Shared} {g : Heap} {L : Addr} {m : Str → Option Value} {p : Program} {loose : List Str} {mg mb : Str → Option Value} {Q : Value → Shared → Prop}
    {C : Cst} {pl : Int} {pt : Tok} {key : Str} {kt : Tok} {wd : Str} {wt : Tok} {ys : List Value} {n : Nat} {t : Addr} {k : Str} {kk u : Tok} {x : Str}
    (O : C.Ord) (F : Fr g L s.heap m) (N : News g L s.heap (C.led w pl pt key kt wd wt ys n)) (X : (hd.heap_39 w.params).In g) (T : TopRead p loose mg mb g) (hh : A.handled = none) (hdp : A.depth + 20 < recursionLimit) (hu : A.units + 200 < cLine)
    (hT : IsTup g t [Value.str k kk, Value.str x u].toArray)
    (hQ : ∀ h' tk, Fr g L h' m → News g L h' (C.led w pl pt key kt x u ys n) → Q .none { s with heap := h', toks := tk }) :
    wpAny (model prog w) A (call (.ref 387) [.ref C.mc, .ref t]) Q E s := by
  obtain ⟨tb, mc, md, co, cdt, de, dd, dn, st, fm, ot, f1, f2, f3, f4, to, a, b, c, d, e, f, gg, t1, t2, t3, t4, t5, t6, bv⟩ := C
  obtain ⟨g₂, G, st2, fin⟩ := ground_of F N
  replace X := X.keeps st2
  replace T := T.keeps st2
  replace hT := hT.keeps st2
  clear F N
  obtain ⟨ah, dp, fr, gd, un⟩ := A
  dsimp only at hh hdp hu
  subst hh
  have om := ord_md O
  have ot := ord_tb O
  have oc := ord_mc O
  dsimp only at om ot oc
  simp only [Cst.led] at G fin hQ
  walk_at "pb_enterM"
  walk_at "pb_steps"
  rename Fr _ _ _ _ => F
  rename News _ _ _ _ => N
  obtain ⟨F3, N3⟩ := fin F N rfl
  exact hQ _ _ F3 N3
theorem key_c {prog : Program} {w : World} {A : Around} {E : Value → Shared → Prop} {s : Shared} {g : Heap} {L : Addr} {m : Str → Option Value} {p : Program} {loose : List Str} {mg mb : Str → Option Value} {Q : Value → Shared → Prop}
    {C : Cst} {pl : Int} {pt : Tok} {key : Str} {kt : Tok} {wd : Str} {wt : Tok} {ys : List Value} {n : Nat} {t : Addr} {k : Str} {kk u : Tok} {x : Str} {j : Int} {u2 : Tok}
    (O : C.Ord) (F : Fr g L s.heap m) (N : News g L s.heap (C.led w pl pt key kt wd wt ys n)) (X : (hd.heap_39 w.params).In g) (T : TopRead p loose mg mb g) (hh : A.handled = none) (hdp : A.depth + 20 < recursionLimit) (hu : A.units + 200 < cLine)
    (hT : IsTup g t [Value.str k kk, Value.str x u, Value.int j u2].toArray)
    (hQ : ∀ h' tk pt', Fr g L h' m → News g L h' (C.led w (if (key == x) = true then pl else j) pt' key kt wd wt ys n) → Q .none { s with heap := h', toks := tk }) :
    wpAny (model prog w) A (call (.ref 331) [.ref C.mc, .ref t]) Q E s := by
  obtain ⟨tb, mc, md, co, cdt, de, dd, dn, st, fm, ot, f1, f2, f3, f4, to, a, b, c, d, e, f, gg, t1, t2, t3, t4, t5, t6, bv⟩ := C
  obtain ⟨g₂, G, st2, fin⟩ := ground_of F N
  replace X := X.keeps st2
  replace T := T.keeps st2
  replace hT := hT.keeps st2
  clear F N
  obtain ⟨ah, dp, fr, gd, un⟩ := A
  dsimp only at hh hdp hu
  subst hh
  have om := ord_md O
  have ot := ord_tb O
  have oc := ord_mc O
  dsimp only at om ot oc
  simp only [Cst.led] at G fin hQ
  cases hk : key == x with
  | true =>
    simp only [hk, if_true] at hQ
    walk_at "pb_enterM"
    walk_at "pb_steps"
    all_goals
      rename Fr _ _ _ _ => F
      rename News _ _ _ _ => N
      obtain ⟨F3, N3⟩ := fin F N rfl
      first | exact hQ _ _ _ F3 N3 | (clear fin hQ F N F3 N3 G; exfalso; simp_all; done)
  | false =>
    simp only [hk, Bool.false_eq_true, if_false] at hQ
    walk_at "pb_enterM"
    walk_at "pb_steps"
    all_goals
      rename Fr _ _ _ _ => F
      rename News _ _ _ _ => N
      obtain ⟨F3, N3⟩ := fin F N rfl
      first | exact hQ _ _ _ F3 N3 | (clear fin hQ F N F3 N3 G; exfalso; simp_all; done)
theorem wordsRunB3 : True := by
  k_with "callWith ref" => (k_here; refine' callWith_fn (by with_reducible assumption) ?_ (by rfl) (by rfl); k_whole)
  k_with "And" => ((with_reducible show FnHere _ _ ∧ _); (with_reducible rename Fr _ _ _ _ => kFzz); k_dflt (refine ⟨FnHere.keeps (Fr.keep kFzz) (by with_reducible assumption), ?_⟩); try dsimp only [List.nil_append, List.cons_append])
  k_with "call ref" => (k_here; (with_reducible show wpAny _ _ (PySem.call (Value.ref _) [_]) _ _ _); (with_reducible rename Fr _ _ _ _ => kFzz); (with_reducible rename News _ _ _ _ => kNzz); (with_reducible rename Heap.StaysIn _ _ => kSzz); first | (k_dflt (refine' do_use (by with_reducible assumption) kSzz kFzz kNzz (by k_updF) (by rfl) (by (first | exact dlt1 (by with_reducible assumption) (by decide) | exact dltk (by with_reducible assumption) (by decide) | exact dlt2 (by with_reducible assumption) (by decide) | (simp only [Around.deeper]; omega))) (by (first | exact dlt1 (by with_reducible assumption) (by decide) | exact dltk (by with_reducible assumption) (by decide) | exact dlt2 (by with_reducible assumption) (by decide) | (simp only [Around.deeper]; omega))) (by with_reducible assumption) ?_; k_whole); intro h9zz t9zz u9zz n9zz Fzz' Nzz'; (try dsimp only at Nzz')) | (k_dflt (refine' is_use (by with_reducible assumption) kSzz kFzz kNzz (by k_mem) (by rfl) (by (first | exact dlt1 (by with_reducible assumption) (by decide) | exact dltk (by with_reducible assumption) (by decide) | exact dlt2 (by with_reducible assumption) (by decide) | (simp only [Around.deeper]; omega))) (by (first | exact dlt1 (by with_reducible assumption) (by decide) | exact dltk (by with_reducible assumption) (by decide) | exact dlt2 (by with_reducible assumption) (by decide) | (simp only [Around.deeper]; omega))) (by with_reducible assumption) (by with_reducible assumption) ?_; k_whole); intro h9zz t9zz Fzz' Nzz'))
  trivial
theorem deed_c {prog : Program} {w : World} {A : Around} {E : Value → Shared → Prop} {s : Shared} {g : Heap} {L : Addr} {m : Str → Option Value} {p : Program} {loose : List Str} {mg mb : Str → Option Value} {Q : Value → Shared → Prop}
    {C : Cst} {pl : Int} {pt : Tok} {key : Str} {kt : Tok} {wd : Str} {wt : Tok} {ys : List Value} {n : Nat} {t : Addr} {k : Str} {kk : Tok} {v : Value} {kf : Nat → Str}
    (O : C.Ord) (F : Fr g L s.heap m) (N : News g L s.heap (C.led w pl pt key kt wd wt ys n)) (X : (hd.heap_39 w.params).In g) (T : TopRead p loose mg mb g) (hh : A.handled = none) (hdp : A.depth + 20 < recursionLimit) (hu : A.units + 200 < cLine)
    (hT : IsTup g t [Value.str k kk, v].toArray) (D : DoAt prog w g C.f1 C.dn kf) (hl : ys.length < 1000)
    (hQ : ∀ h' tk u n', Fr g L h' m → News g L h' (C.led w pl pt (kf ys.length) u wd wt (ys ++ [v]) n') → Q .none { s with heap := h', toks := tk }) :
    wpAny (model prog w) A (call (.ref 324) [.ref C.mc, .ref t]) Q E s := by
  obtain ⟨tb, mc, md, co, cdt, de, dd, dn, st, fm, ot, f1, f2, f3, f4, to, a, b, c, d, e, f, gg, t1, t2, t3, t4, t5, t6, bv⟩ := C
  obtain ⟨g₂, G, st2, fin⟩ := ground_of F N
  replace X := X.keeps st2
  replace T := T.keeps st2
  replace hT := hT.keeps st2
  have hf := D.1.keeps st2
  clear F N
  obtain ⟨ah, dp, fr, gd, un⟩ := A
  dsimp only at hh hdp hu
  subst hh
  have om := ord_md O
  have ot := ord_tb O
  have oc := ord_mc O
  obtain ⟨n1, n2, n3, n4, n5, n6⟩ := ord_dn O
  dsimp only at om ot oc n1 n2 n3 n4 n5 n6
  simp only [Cst.led] at G fin hQ
  walk_at "pb_enterM"
  walk_at "pb_steps"
  rename Fr _ _ _ _ => F
  rename News _ _ _ _ => N
  obtain ⟨F3, N3⟩ := fin F N rfl
  exact hQ _ _ _ _ F3 N3
theorem test_c {prog : Program} {w : World} {A : Around} {E : Value → Shared → Prop} {s : Shared} {g : Heap} {L : Addr} {m : Str → Option Value} {p : Program} {loose : List Str} {mg mb : Str → Option Value} {Q : Value → Shared → Prop}
    {C : Cst} {pl : Int} {pt : Tok} {key : Str} {kt : Tok} {wd : Str} {wt : Tok} {ys : List Value} {n : Nat} {t : Addr} {k : Str} {kk u : Tok} {v : Value} {cc : Bool} {j : Int} {tf : Bool → Nat → Bool}
    (O : C.Ord) (F : Fr g L s.heap m) (N : News g L s.heap (C.led w pl pt key kt wd wt ys n)) (X : (hd.heap_39 w.params).In g) (T : TopRead p loose mg mb g) (hh : A.handled = none) (hdp : A.depth + 20 < recursionLimit) (hu : A.units + 200 < cLine)
    (hT : IsTup g t [Value.str k kk, v, Value.int j u].toArray) (D : IsAt prog w g C.f2 C.dn tf) (hl : ys.length < 1000) (hv : DIn g v (condD cc))
    (hQ : ∀ h' tk pt', Fr g L h' m → News g L h' (C.led w (if tf cc ys.length = true then pl else j) pt' key kt wd wt ys n) → Q .none { s with heap := h', toks := tk }) :
    wpAny (model prog w) A (call (.ref 338) [.ref C.mc, .ref t]) Q E s := by
  obtain ⟨tb, mc, md, co, cdt, de, dd, dn, st, fm, ot, f1, f2, f3, f4, to, a, b, c, d, e, f, gg, t1, t2, t3, t4, t5, t6, bv⟩ := C
  obtain ⟨g₂, G, st2, fin⟩ := ground_of F N
  replace X := X.keeps st2
  replace T := T.keeps st2
  replace hT := hT.keeps st2
  have hf := D.1.keeps st2
  replace hv := hv.keeps st2
  clear F N
  obtain ⟨ah, dp, fr, gd, un⟩ := A
  dsimp only at hh hdp hu
  subst hh
  have om := ord_md O
  have ot := ord_tb O
  have oc := ord_mc O
  dsimp only at om ot oc
  simp only [Cst.led] at G fin hQ
  cases hk : tf cc ys.length with
  | true =>
    simp only [hk, if_true] at hQ
    walk_at "pb_enterM"
    walk_at "pb_steps"
    all_goals
      rename Fr _ _ _ _ => F
      rename News _ _ _ _ => N
      obtain ⟨F3, N3⟩ := fin F N rfl
      first | exact hQ _ _ _ F3 N3 | (clear fin hQ F N F3 N3 G; exfalso; simp_all; done)
  | false =>
    simp only [hk, Bool.false_eq_true, if_false] at hQ
    walk_at "pb_enterM"
    walk_at "pb_steps"
    all_goals
      rename Fr _ _ _ _ => F
      rename News _ _ _ _ => N
      obtain ⟨F3, N3⟩ := fin F N rfl
      first | exact hQ _ _ _ F3 N3 | (clear fin hQ F N F3 N3 G; exfalso; simp_all; done)

-- Draw
theorem fillKd : (PySem.Challenge.rw_pb0247_01.Holds ∧ ∀ P, hd.heap_39 P = []) → True := by k_fill; intro _; trivial
theorem wordsDraw1 : True := by
  k_with_none
  w_top off
  k_with "pb_lt" => (first | (with_reducible assumption) | (refine' lt_use (by with_reducible assumption) ?_; (repeat (first | with_reducible exact And.left | with_reducible exact id | with_reducible refine' lt_skip ?_)); done))
  trivial
theorem wordsDraw2 : True := by
  k_with "pb_steps" => (repeat' (first | (k_unfold; (try dsimp only)) | walk1 | (dsimp only; walk1) | fail "no step"))
  k_with "pb_enterM" => (refine' enterM (by with_reducible assumption) (by k_asm) (by k_asm) (by k_is) (by k_is) (by first | exact dlt0 (by with_reducible assumption) | exact dltk (by with_reducible assumption) (by decide) | exact dlt1 (by with_reducible assumption) (by decide) | omega | (dsimp only; omega)) (by first | exact BindsTo.of_eq (binds := [(Str.ofString _, _), (Str.ofString _, _), (Str.ofString _, _)]) rfl | exact BindsTo.of_eq (binds := [(Str.ofString _, _), (Str.ofString _, _)]) rfl | exact BindsTo.of_eq (binds := [(Str.ofString _, _)]) rfl | exact BindsTo.of_eq rfl) (by exact locs rfl) ?_ (by exact rfl) (by exact rfl) (by exact rfl) (by decide); k_whole; intro Lzz' hzz' Fzz' Nzz' l1zz; (try simp only [List.cons_append, List.nil_append, List.append_nil] at Nzz'); (try dsimp only); (try k_fold))
  trivial
/-- the tape [cells, spot] and its cells -/
noncomputable def tapeMt (tp cl : Addr) (vs : List Value) (i : Int) (u : Tok) (n1 n2 : Nat) : List (Addr × Obj) := [(tp, listOf [Value.ref cl, Value.int i u].toArray n1), (cl, listOf vs.toArray n2)]
noncomputable def TapeAt (h : Heap) (tp cl : Addr) (b : Nat) : Prop := ∃ vs ns i u n1 n2, h.get? tp = some (listOf [Value.ref cl, Value.int i u].toArray n1) ∧ h.get? cl = some (listOf vs.toArray n2) ∧ IntsAre vs ns ∧ 1 ≤ ns.length ∧ ns.length ≤ 60 ∧ 0 ≤ i ∧ i ≤ (b : Int) ∧ @LT.lt Nat instLTNat cl tp
theorem tape_apart {h₀ h : Heap} {tp cl : Addr} {vs : List Value} {i : Int} {u : Tok} {n1 n2 : Nat} (st : h₀.StaysIn h) (f1 : h₀.get? tp = none) (f2 : h₀.get? cl = none) (e1 : h.get? tp = some (listOf [Value.ref cl, Value.int i u].toArray n1)) (e2 : h.get? cl = some (listOf vs.toArray n2)) :
    Apart (hideAll h [tp, cl]) h [(tp, listOf [Value.ref cl, Value.int i u].toArray n1), (cl, listOf vs.toArray n2)] ∧ h₀.StaysIn (hideAll h [tp, cl]) := by
  refine ⟨⟨fun _ _ e => of_hideAll _ e, Nat.le_of_eq (hideAll_size _ _), fun p hp => ?_⟩, fun b o e => hideAll_get _ (st b o e) fun q => ?_⟩
  · rcases List.mem_cons.mp hp with rfl | hp
    · exact ⟨e1, hideAll_none _ (.head _)⟩
    · rw [List.mem_singleton.mp hp]
      exact ⟨e2, hideAll_none _ (.tail _ (.head _))⟩
  · rcases List.mem_cons.mp q with rfl | q
    · rw [f1] at e; cases e
    · rw [List.mem_singleton.mp q, f2] at e; cases e
theorem tape_end {h h' : Heap} {L : Addr} {tp cl : Addr} {vs : List Value} {ns : List Int} {i : Int} {u : Tok} {n1 n2 b : Nat} {m : Str → Option Value} (F : Fr (hideAll h [tp, cl]) L h' m) (N : News (hideAll h [tp, cl]) L h' [(tp, listOf [Value.ref cl, Value.int i u].toArray n1), (cl, listOf vs.toArray n2)])
    (hi : IntsAre vs ns) (h1 : 1 ≤ ns.length) (h2 : ns.length ≤ 60) (h3 : 0 ≤ i) (h4 : i ≤ (b : Int)) (hl : @LT.lt Nat instLTNat cl tp) :
    TapeAt h' tp cl b ∧ h.objs.size ≤ h'.objs.size ∧ ∀ c o, c ≠ tp → c ≠ cl → h.get? c = some o → h'.get? c = some o := by
  refine ⟨⟨vs, ns, i, u, n1, n2, (N _ (.head _)).1, (N _ (.tail _ (.head _))).1, hi, h1, h2, h3, h4, hl⟩, ?_, fun c o q1 q2 e => F.keep _ _ (hideAll_get _ e fun q => ?_)⟩
  · have h9 := F.above
    rw [hideAll_size] at h9
    exact Nat.le_trans h9 (Nat.le_of_lt F.ns.lt)
  · rcases List.mem_cons.mp q with rfl | q
    · exact q1 rfl
    · exact q2 (List.mem_singleton.mp q)
theorem draw_c {prog : Program} {w : World} {A : Around} {E : Value → Shared → Prop} {s : Shared} {h₀ : Heap} {p : Program} {loose : List Str} {mg mb : Str → Option Value} {Q : Value → Shared → Prop}
    {tp cl : Addr} {lim : Int} {tk : Tok} {b : Nat}
    (X : (hd.heap_39 w.params).In h₀) (T : TopRead p loose mg mb h₀) (st : h₀.StaysIn s.heap) (hh : A.handled = none) (hdp : A.depth + 10 < recursionLimit) (hu : A.units + 100 < cLine)
    (f1 : h₀.get? tp = none) (f2 : h₀.get? cl = none)
    (hT : TapeAt s.heap tp cl b) (hb : b < 1000) (hl : 1 ≤ lim) (hl' : lim < 1000)
    (hQ : ∀ r h' u tk, 0 ≤ r → r < lim → TapeAt h' tp cl (b + 1) → s.heap.objs.size ≤ h'.objs.size → (∀ c o, c ≠ tp → c ≠ cl → s.heap.get? c = some o → h'.get? c = some o) → Q (.int r u) { s with heap := h', toks := tk }) :
    wpAny (model prog w) A (call (.ref 429) [.ref tp, .int lim tk]) Q E s := by
  obtain ⟨vs, ns, i, u, n1, n2, e1, e2, hi, h1, h2, h3, h4, hne⟩ := hT
  obtain ⟨ah, dp, fr, gd, un⟩ := A
  dsimp only at hh hdp hu
  subst hh
  obtain ⟨G, hst⟩ := tape_apart st f1 f2 e1 e2
  replace X := X.keeps hst
  replace T := T.keeps hst
  have hend := @tape_end s.heap
  generalize hg : hideAll s.heap [tp, cl] = g at *
  have hr1 : ∀ x : Int, 0 ≤ Int.fmod x lim := fun x => Int.fmod_nonneg_of_pos x (by omega)
  have hr2 : ∀ x : Int, Int.fmod x lim < lim := fun x => Int.fmod_lt_of_pos x (by omega)
  walk_at "pb_enterM"
  walk_at "pb_steps"
  all_goals
    rename Fr _ _ _ _ => F
    rename News _ _ _ _ => N
    rename IntsAre _ _ => hi'
    subst hg
    obtain ⟨y1, y2, y3⟩ := hend (b := b + 1) F N hi' (by rw [List.length_set]; exact h1) (by rw [List.length_set]; exact h2) (by omega) (by omega) hne
    exact hQ _ _ _ _ (hr1 _) (hr2 _) y1 y2 y3

-- Lop
inductive TapeU (tp cl : Addr) (o1 o2 : Obj) : List (Addr × Obj) → (Obj → Obj → List (Addr × Obj)) → Prop
  | here : TapeU tp cl o1 o2 [(tp, o1), (cl, o2)] (fun a b => [(tp, a), (cl, b)])
  | there {p l f} : p.1 ≠ tp → p.1 ≠ cl → TapeU tp cl o1 o2 l f → TapeU tp cl o1 o2 (p :: l) (fun a b => p :: f a b)
theorem TapeU.mem1 {tp cl : Addr} {o1 o2 : Obj} : ∀ {l f}, TapeU tp cl o1 o2 l f → (tp, o1) ∈ l
  | _, _, .here => .head _
  | _, _, .there _ _ r => .tail _ r.mem1
theorem TapeU.mem2 {tp cl : Addr} {o1 o2 : Obj} : ∀ {l f}, TapeU tp cl o1 o2 l f → (cl, o2) ∈ l
  | _, _, .here => .tail _ (.head _)
  | _, _, .there _ _ r => .tail _ r.mem2
theorem TapeU.news {g h h' : Heap} {L tp cl : Addr} {o1 o2 a b : Obj} (hk : ∀ c o, c ≠ tp → c ≠ cl → h.get? c = some o → h'.get? c = some o) (ha : h'.get? tp = some a) (hb : h'.get? cl = some b) :
    ∀ {l f}, TapeU tp cl o1 o2 l f → News g L h l → News g L h' (f a b)
  | _, _, .here, N => fun p hp => by
    rcases List.mem_cons.mp hp with rfl | hp
    · exact ⟨ha, (N _ (.head _)).2⟩
    · rw [List.mem_singleton.mp hp]
      exact ⟨hb, (N (cl, o2) (.tail _ (.head _))).2⟩
  | _, _, .there h1 h2 r, N => fun p hp => by
    rcases List.mem_cons.mp hp with rfl | hp
    · exact ⟨hk _ _ h1 h2 (N _ (.head _)).1, (N _ (.head _)).2⟩
    · exact r.news hk ha hb (fun q hq => N q (.tail _ hq)) p hp
noncomputable def TapeOk (vs : List Value) (i : Int) (b : Nat) : Prop := ∃ ns, IntsAre vs ns ∧ 1 ≤ ns.length ∧ ns.length ≤ 60 ∧ 0 ≤ i ∧ i ≤ (b : Int)
theorem draw_use {prog : Program} {w : World} {A : Around} {E : Value → Shared → Prop} {s : Shared} {g h₀ : Heap} {p : Program} {loose : List Str} {mg mb : Str → Option Value} {Q : Value → Shared → Prop}
    {tp cl L : Addr} {lim : Int} {tk : Tok} {b : Nat} {m : Str → Option Value} {l : List (Addr × Obj)} {f : Obj → Obj → List (Addr × Obj)} {vs : List Value} {i : Int} {u : Tok} {n1 n2 : Nat}
    (X : (hd.heap_39 w.params).In h₀) (T : TopRead p loose mg mb h₀) (st : h₀.StaysIn g) (F : Fr g L s.heap m) (N : News g L s.heap l) (hc : @LT.lt Nat instLTNat cl tp) (U : TapeU tp cl (listOf [Value.ref cl, Value.int i u].toArray n1) (listOf vs.toArray n2) l f)
    (hh : A.handled = none) (hdp : A.depth + 10 < recursionLimit) (hu : A.units + 100 < cLine)
    (hT : TapeOk vs i b) (hb : b < 1000) (hl : 1 ≤ lim) (hl' : lim < 1000)
    (hQ : ∀ r h' u9 tk vs i u n1 n2, 0 ≤ r → r < lim → TapeOk vs i (b + 1) → Fr g L h' m → News g L h' (f (listOf [Value.ref cl, Value.int i u].toArray n1) (listOf vs.toArray n2)) → Q (.int r u9) { s with heap := h', toks := tk }) :
    wpAny (model prog w) A (call (.ref 429) [.ref tp, .int lim tk]) Q E s := by
  obtain ⟨ns, hi, h1, h2, h3, h4⟩ := hT
  have e1 := N _ U.mem1
  have e2 := N _ U.mem2
  have f1 : g.get? tp = none := e1.2.2
  have f2 : g.get? cl = none := e2.2.2
  have X' := X.keeps st
  have T' := T.keeps st
  refine draw_c (p := p) (loose := loose) (mg := mg) (mb := mb) (h₀ := hideAll s.heap [tp, cl]) ?_ ?_ (fun _ _ e => of_hideAll _ e) hh hdp hu (hideAll_none _ (.head _)) (hideAll_none _ (.tail _ (.head _))) ⟨vs, ns, i, u, n1, n2, e1.1, e2.1, hi, h1, h2, h3, h4, hc⟩ hb hl hl' ?_
  · exact X'.keeps fun b o e => hideAll_get _ (F.keep _ _ e) fun q => by
      rcases List.mem_cons.mp q with rfl | q
      · rw [f1] at e; cases e
      · rw [List.mem_singleton.mp q, f2] at e; cases e
  · exact T'.keeps fun b o e => hideAll_get _ (F.keep _ _ e) fun q => by
      rcases List.mem_cons.mp q with rfl | q
      · rw [f1] at e; cases e
      · rw [List.mem_singleton.mp q, f2] at e; cases e
  · rintro r h' u9 tk' hr1 hr2 ⟨vs', ns', i', u', n1', n2', g1, g2, hi', j1, j2, j3, j4, _⟩ hz hk
    refine hQ r h' u9 tk' vs' i' u' n1' n2' hr1 hr2 ⟨ns', hi', j1, j2, j3, j4⟩ ?_ (U.news hk g1 g2 N)
    refine ⟨F.ns.at' fun o e => hk L o (Ne.symm e1.2.1) (Ne.symm e2.2.1) e, fun b o e => hk b o (fun q => ?_) (fun q => ?_) (F.keep b o e), F.above⟩
    · rw [q, f1] at e; cases e
    · rw [q, f2] at e; cases e
theorem fillKo : (PySem.Challenge.rw_pb0247_01.Holds ∧ ∀ P, hd.heap_39 P = []) → True := by k_fill; intro _; trivial
theorem wordsLop1 : True := by
  k_with_none
  w_top off
  k_with "pb_lt" => (first | (with_reducible assumption) | (refine' lt_use (by with_reducible assumption) ?_; (repeat (first | with_reducible exact And.left | with_reducible exact id | with_reducible refine' lt_skip ?_)); done))
  trivial
theorem wordsLop2 : True := by
  k_with "pb_steps" => (repeat' (first | (k_unfold; (try dsimp only)) | walk1 | (dsimp only; walk1) | fail "no step"))
  k_with "pb_enterM" => (refine' enterM (by with_reducible assumption) (by k_asm) (by k_asm) (by k_is) (by k_is) (by first | exact dlt0 (by with_reducible assumption) | exact dltk (by with_reducible assumption) (by decide) | exact dlt1 (by with_reducible assumption) (by decide) | omega | (dsimp only; omega)) (by first | exact BindsTo.of_eq (binds := [(Str.ofString _, _), (Str.ofString _, _), (Str.ofString _, _)]) rfl | exact BindsTo.of_eq (binds := [(Str.ofString _, _), (Str.ofString _, _)]) rfl | exact BindsTo.of_eq (binds := [(Str.ofString _, _)]) rfl | exact BindsTo.of_eq rfl) (by exact locs rfl) ?_ (by exact rfl) (by exact rfl) (by exact rfl) (by decide); k_whole; intro Lzz' hzz' Fzz' Nzz' l1zz; (try simp only [List.cons_append, List.nil_append, List.append_nil] at Nzz'); (try dsimp only); (try k_fold))
  k_with "pb_tu" => (first | (with_reducible exact TapeU.here) | (refine' TapeU.there (by k_ne) (by k_ne) (by walk_at "pb_tu")))
  k_with "call ref" => (k_here; (with_reducible show wpAny _ _ (PySem.call (Value.ref 429) [Value.ref _, Value.int _ _]) _ _ _); (with_reducible rename Fr _ _ _ _ => kFzz); (with_reducible rename News _ _ _ _ => kNzz); k_dflt (refine' draw_use (by k_asm) (by k_asm) (fun _ _ e => e) kFzz kNzz (by with_reducible assumption) (by walk_at "pb_tu") (by rfl) (by (first | exact dlt1 (by with_reducible assumption) (by decide) | exact dltk (by with_reducible assumption) (by decide) | exact dlt2 (by with_reducible assumption) (by decide) | (simp only [Around.deeper]; omega))) (by (first | exact dlt1 (by with_reducible assumption) (by decide) | exact dltk (by with_reducible assumption) (by decide) | exact dlt2 (by with_reducible assumption) (by decide) | (simp only [Around.deeper]; omega))) (by with_reducible assumption) (by first | exact bup1 (by with_reducible assumption) | exact bup2 (by with_reducible assumption) | exact bup3 (by with_reducible assumption) | exact bup4 (by with_reducible assumption) | omega) (by first | decide | exact lim1 _ | omega) (by first | decide | exact lim2 (by with_reducible assumption) | omega) ?_; k_whole); intro r9zz h9zz u9zz t9zz vs9zz i9zz v9zz a9zz b9zz lo9zz hi9zz ok9zz Fzz' Nzz'; (try dsimp only at Nzz'); (try k_sweep); (try dsimp only))
  trivial
theorem op_end {h h' : Heap} {L : Addr} {tp cl : Addr} {vs : List Value} {i : Int} {u : Tok} {n1 n2 b b' : Nat} {m : Str → Option Value} {news : List (Addr × Obj)} {g : Heap} (hg : hideAll h [tp, cl] = g) (F : Fr g L h' m) (N : News g L h' news)
    (m1 : (tp, listOf [Value.ref cl, Value.int i u].toArray n1) ∈ news) (m2 : (cl, listOf vs.toArray n2) ∈ news) (ok : TapeOk vs i b) (hb : b ≤ b') (hl : @LT.lt Nat instLTNat cl tp) :
    TapeAt h' tp cl b' ∧ h.objs.size ≤ h'.objs.size ∧ ∀ c o, c ≠ tp → c ≠ cl → h.get? c = some o → h'.get? c = some o := by
  subst hg
  obtain ⟨ns, hi, h1, h2, h3, h4⟩ := ok
  refine ⟨⟨vs, ns, i, u, n1, n2, (N _ m1).1, (N _ m2).1, hi, h1, h2, h3, by omega, hl⟩, ?_, fun c o q1 q2 e => F.keep _ _ (hideAll_get _ e fun q => ?_)⟩
  · have h9 := F.above
    rw [hideAll_size] at h9
    exact Nat.le_trans h9 (Nat.le_of_lt F.ns.lt)
  · rcases List.mem_cons.mp q with rfl | q
    · exact q1 rfl
    · exact q2 (List.mem_singleton.mp q)
theorem tupN {g h : Heap} {L a : Addr} {news : List (Addr × Obj)} {vs : List Value} (N : News g L h news) (m : (a, { cls := .type "tuple", data := .seq vs.toArray }) ∈ news) : IsTup h a vs.toArray := ⟨_, N.get m, rfl, _, rfl⟩
theorem DIn.nat {h : Heap} {r : Int} {u : Tok} (lo : 0 ≤ r) : DIn h (.int r u) (.int (r.toNat : Int)) := by
  rw [Int.toNat_of_nonneg lo]; exact .int _ _
theorem bup1 {b : Nat} (h : b < 900) : b < 1000 := by omega
theorem bup2 {b : Nat} (h : b < 900) : b + 1 < 1000 := by omega
theorem bup3 {b : Nat} (h : b < 900) : b + 1 + 1 < 1000 := by omega
theorem bup4 {b : Nat} (h : b < 900) : b + 1 + 1 + 1 < 1000 := by omega
theorem lim1 (many : Nat) : (1 : Int) ≤ (many : Int) + 1 := by omega
theorem lim2 {many : Nat} (h : many < 900) : (many : Int) + 1 < 1000 := by omega
theorem le_2 (b : Nat) : b + 1 + 1 ≤ b + 4 := by omega
theorem le_3 (b : Nat) : b + 1 + 1 + 1 ≤ b + 4 := by omega
theorem two_of {r : Int} (h : 0 ≤ r) (h' : r < 2) : r = 0 ∨ r = 1 := by omega
theorem three_of {r : Int} (h : 0 ≤ r) (h' : r < 3) : r = 0 ∨ r = 1 ∨ r = 2 := by omega
theorem le_up {b i j : Nat} (h : i ≤ j) : b + i ≤ b + j := Nat.add_le_add_left h b
theorem lab1 {r : Int} {many : Nat} (h : r < (many : Int) + 1) : ([r.toNat].all fun x => decide (x ≤ many)) = true := by simp; omega
theorem lab2 {r q : Int} {many : Nat} (h : r < (many : Int) + 1) (h' : q < (many : Int) + 1) : ([r.toNat, q.toNat].all fun x => decide (x ≤ many)) = true := by simp; omega
noncomputable def condA : Bool → Addr
  | false => 432
  | true => 434
theorem cond_in {P : Params} {h : Heap} (X : (hd.heap_39 P).In h) : ∀ c, DIn h (.ref (condA c)) (condD c)
  | false => by
    have h0 := X 430 { cls := .type "tuple", data := .seq #[.int 0 770, .int 0 771] } (by k_is)
    have h1 := X 431 { cls := .type "tuple", data := .seq #[.str (Str.ofString "number") 769, .ref 430] } (by k_is)
    have h2 := X 432 { cls := .type "tuple", data := .seq #[.str (Str.ofString "sign") 767, .str (Str.ofString "ZERO") 768, .ref 431] } (by k_is)
    exact .tup ⟨_, h2, rfl, _, rfl⟩ (.cons (.str _ _) (.cons (.str _ _) (.cons (.tup ⟨_, h1, rfl, _, rfl⟩ (.cons (.str _ _) (.cons (.tup ⟨_, h0, rfl, _, rfl⟩ (.cons (.int _ _) (.cons (.int _ _) .nil))) .nil))) .nil)))
  | true => by
    have h1 := X 433 { cls := .type "tuple", data := .seq #[.str (Str.ofString "text") 774, .bytes #[65] 775] } (by k_is)
    have h2 := X 434 { cls := .type "tuple", data := .seq #[.str (Str.ofString "class") 772, .str (Str.ofString "NUMERIC") 773, .ref 433] } (by k_is)
    exact .tup ⟨_, h2, rfl, _, rfl⟩ (.cons (.str _ _) (.cons (.str _ _) (.cons (.tup ⟨_, h1, rfl, _, rfl⟩ (.cons (.str _ _) (.cons (.bytes _ _) .nil))) .nil)))
noncomputable def stopOk : Op → Bool
  | .stop w => w == Str.ofString "end"
  | .deed d => Nat.ble d.depth 20
  | _ => true
theorem op_c {prog : Program} {w : World} {A : Around} {E : Value → Shared → Prop} {s : Shared} {h₀ : Heap} {p : Program} {loose : List Str} {mg mb : Str → Option Value} {Q : Value → Shared → Prop}
    {tp cl : Addr} {many : Nat} {tk : Tok} {b : Nat}
    (X : (hd.heap_39 w.params).In h₀) (T : TopRead p loose mg mb h₀) (st : h₀.StaysIn s.heap) (hh : A.handled = none) (hdp : A.depth + 20 < recursionLimit) (hu : A.units + 200 < cLine)
    (f1 : h₀.get? tp = none) (f2 : h₀.get? cl = none)
    (hT : TapeAt s.heap tp cl b) (hb : b < 900) (hl : 2 ≤ many) (hl' : many < 900)
    (hQ : ∀ (o : Op) r h' tk, DIn h' r o.d → o.labs.all (· ≤ many) = true → stopOk o = true → TapeAt h' tp cl (b + 4) → s.heap.objs.size ≤ h'.objs.size → (∀ c o, c ≠ tp → c ≠ cl → s.heap.get? c = some o → h'.get? c = some o) → Q r { s with heap := h', toks := tk }) :
    wpAny (model prog w) A (call (.ref 442) [.ref tp, .int many tk]) Q E s := by
  obtain ⟨vs, ns, i, u, n1, n2, e1, e2, hi, h1, h2, h3, h4, hne⟩ := hT
  have hok : TapeOk vs i b := ⟨ns, hi, h1, h2, h3, h4⟩
  obtain ⟨ah, dp, fr, gd, un⟩ := A
  dsimp only at hh hdp hu
  subst hh
  obtain ⟨G, hst⟩ := tape_apart st f1 f2 e1 e2
  replace X := X.keeps hst
  replace T := T.keeps hst
  generalize hg : hideAll s.heap [tp, cl] = g at *
  walk_at "pb_enterM"
  rename ∀ p ∈ [_, _], _ => lz
  have ltp : @LT.lt Nat instLTNat tp _ := lz _ (.head _)
  have lcl : @LT.lt Nat instLTNat cl _ := lz _ (.tail _ (.head _))
  clear lz
  walk_at "pb_steps"
  all_goals
    rename Fr _ _ _ _ => F
    rename News _ _ _ _ => N
    rename TapeOk _ _ _ => ok
    obtain ⟨y1, y2, y3⟩ := op_end (b' := b + 4) hg F N (by k_mem) (by k_mem) ok (by first | exact Nat.le_refl _ | exact le_up (by decide) | exact le_2 _ | exact le_3 _ | omega) hne
  · exact hQ (.jump _) _ _ _ (.tup (tupN N (by k_mem)) (.cons (.str _ _) (.cons (.nat (by first | with_reducible assumption | omega)) .nil))) (by first | exact lab1 (by with_reducible assumption) | exact lab2 (by with_reducible assumption) (by with_reducible assumption) | (simp [Op.labs]; omega)) rfl y1 y2 y3
  · exact hQ (.test false _) _ _ _ (.tup (tupN N (by k_mem)) (.cons (.str _ _) (.cons (cond_in (X.keeps F.keep) false) (.cons (.nat (by first | with_reducible assumption | omega)) .nil)))) (by first | exact lab1 (by with_reducible assumption) | exact lab2 (by with_reducible assumption) (by with_reducible assumption) | (simp [Op.labs]; omega)) rfl y1 y2 y3
  · exact hQ (.test true _) _ _ _ (.tup (tupN N (by k_mem)) (.cons (.str _ _) (.cons (cond_in (X.keeps F.keep) true) (.cons (.nat (by first | with_reducible assumption | omega)) .nil)))) (by first | exact lab1 (by with_reducible assumption) | exact lab2 (by with_reducible assumption) (by with_reducible assumption) | (simp [Op.labs]; omega)) rfl y1 y2 y3
  · exact hQ (.key (Str.ofString "") _) _ _ _ (.tup (tupN N (by k_mem)) (.cons (.str _ _) (.cons (.str _ _) (.cons (.nat (by first | with_reducible assumption | omega)) .nil)))) (by first | exact lab1 (by with_reducible assumption) | exact lab2 (by with_reducible assumption) (by with_reducible assumption) | (simp [Op.labs]; omega)) rfl y1 y2 y3
  · exact hQ (.key (Str.ofString "end") _) _ _ _ (.tup (tupN N (by k_mem)) (.cons (.str _ _) (.cons (.str _ _) (.cons (.nat (by first | with_reducible assumption | omega)) .nil)))) (by first | exact lab1 (by with_reducible assumption) | exact lab2 (by with_reducible assumption) (by with_reducible assumption) | (simp [Op.labs]; omega)) rfl y1 y2 y3
  · exact hQ (.choose _ _) _ _ _ (.tup (tupN N (by k_mem)) (.cons (.str _ _) (.cons (.tup (tupN N (by k_mem)) (.cons (.nat (by first | with_reducible assumption | omega)) (.cons (.nat (by first | with_reducible assumption | omega)) .nil))) .nil))) (by first | exact lab1 (by with_reducible assumption) | exact lab2 (by with_reducible assumption) (by with_reducible assumption) | (simp [Op.labs]; omega)) rfl y1 y2 y3
  · exact hQ (.stop (Str.ofString "end")) _ _ _ (.tup (tupN N (by k_mem)) (.cons (.str _ _) (.cons (.str _ _) .nil))) rfl (by decide) y1 y2 y3
  · exact hQ .leave _ _ _ (.tup (tupN N (by k_mem)) (.cons (.str _ _) (.cons (.int _ _) .nil))) rfl (by decide) y1 y2 y3
  · exact hQ (.deed (.tup [sD "display", .int 1])) _ _ _ (.tup (tupN N (by k_mem)) (.cons (.str _ _) (.cons (.tup (tupN N (by k_mem)) (.cons (.str _ _) (.cons (.int _ _) .nil))) .nil))) rfl (by decide) y1 y2 y3
  · exact hQ .push _ _ _ (.tup (tupN N (by k_mem)) (.cons (.str _ _) (.cons (.tup (tupN N (by k_mem)) (.cons (.str _ _) (.cons (.tup (tupN N (by k_mem)) (.cons (.int _ _) (.cons (.int _ _) .nil))) .nil))) (.cons (.int _ _) .nil)))) rfl (by decide) y1 y2 y3
  · exact hQ (.put _) _ _ _ (.tup (tupN N (by k_mem)) (.cons (.str _ _) (.cons (.tup (tupN N (by k_mem)) (.cons (.str _ _) (.cons (.int _ _) .nil))) (.cons (.nat (by first | with_reducible assumption | omega)) .nil)))) (by first | exact lab1 (by with_reducible assumption) | exact lab2 (by with_reducible assumption) (by with_reducible assumption) | (simp [Op.labs]; omega)) rfl y1 y2 y3
  · exact hQ (.calc _) _ _ _ (.tup (tupN N (by k_mem)) (.cons (.str _ _) (.cons (.str _ _) (.cons (.nat (by first | with_reducible assumption | omega)) .nil)))) (by first | exact lab1 (by with_reducible assumption) | exact lab2 (by with_reducible assumption) (by with_reducible assumption) | (simp [Op.labs]; omega)) rfl y1 y2 y3

-- RunC
section
noncomputable abbrev stepsS : Str := Str.ofString "steps"
noncomputable abbrev opS : Str := Str.ofString "op"
noncomputable abbrev noS : Str := Str.ofString ""
/-- the machine's objects in a state -/
noncomputable def StAt (w : World) (C : Cst) (g : Heap) (L : Addr) (h : Heap) : Cf → Prop
  | .go p key d => p < 1000 ∧ ∃ pt kt wt ys n, News g L h (C.led w (p : Nat) pt key kt noS wt ys n) ∧ DAll g ys d
  | .over wd d => (wd == noS) = false ∧ ∃ pl pt key kt wt ys n, News g L h (C.led w pl pt key kt wd wt ys n) ∧ DAll g ys d
noncomputable def Cf.left : Cf → Nat → Nat
  | .over _ _, _ => 0
  | .go _ _ _, k => k + 1
/-- between the turns -/
noncomputable def JR (w : World) (C : Cst) (kf : Nat → Str) (tf : Bool → Nat → Bool) (g : Heap) (L : Addr) (m₀ : Str → Option Value) (ops : List Op) (s : Shared) (n : Nat) (s' : Shared) : Prop :=
  ∃ h tk k stt u cf, s' = { s with heap := h, toks := tk } ∧ n = Cf.left cf k ∧ k ≤ 40 ∧ Fr g L h (fun y => if y = opS then u else if y = stepsS then some (.int ((40 - k : Nat) : Int) stt) else m₀ y) ∧ StAt w C g L h cf ∧
    cf.done.length + k ≤ 40 ∧ runRes kf tf ops 40 (.go 0 noS []) = runRes kf tf ops k cf
noncomputable def REnd (k : Nat) (P : Nat → Shared → Prop) (s : Shared) : Prop := ∃ m, m < k ∧ P m s
section
variable {prog : Program} {w : World} {A : Around} {E : Value → Shared → Prop} {s : Shared} {env : Env} {Q : Flow → Shared → Prop} {g : Heap} {C : Cst} {kf : Nat → Str} {tf : Bool → Nat → Bool} {m₀ : Str → Option Value} {ops : List Op}
theorem while_run {test : PySem.Expr} {body : List Stmt} {pos : Pos} {pt kt wt : Tok} {n₀ : Nat} {st₀ : Tok} {L : Addr} (hE : PassesOwn (model prog w) A env E)
    (F : Fr g L s.heap m₀) (N : News g L s.heap (C.led w 0 pt noS kt noS wt [] n₀)) (hst : m₀ stepsS = some (.int 0 st₀))
    (go : ∀ h tk k stt u (p : Nat) pt key kt wt ys n d, k ≤ 40 → p < 1000 → Fr g L h (fun y => if y = opS then u else if y = stepsS then some (.int ((40 - k : Nat) : Int) stt) else m₀ y) → News g L h (C.led w (p : Nat) pt key kt noS wt ys n) → DAll g ys d → d.length + k ≤ 40 → ys.length < 1000 →
      runRes kf tf ops 40 (.go 0 noS []) = runRes kf tf ops k (.go p key d) →
      wpAny (model prog w) A (isTrue test env (eval test env)) (fun b s₂ => if b = true then wpAny (model prog w) A (execs body env) (fun f s₃ => match f with
        | .ret v => Q (.ret v) s₃
        | .brk => Q .next s₃
        | _ => REnd (k + 1) (JR w C kf tf g L m₀ ops s) s₃) E s₂ else Q .next s₂) E { s with heap := h, toks := tk })
    (over : ∀ h tk k stt u pl pt key kt wd wt ys n d, Fr g L h (fun y => if y = opS then u else if y = stepsS then some (.int ((40 - k : Nat) : Int) stt) else m₀ y) → News g L h (C.led w pl pt key kt wd wt ys n) → DAll g ys d → (wd == noS) = false →
      runRes kf tf ops 40 (.go 0 noS []) = (wd, d) →
      wpAny (model prog w) A (isTrue test env (eval test env)) (fun b s₂ => if b = true then wpAny (model prog w) A (execs body env) (fun f s₃ => match f with
        | .ret v => Q (.ret v) s₃
        | .brk => Q .next s₃
        | _ => REnd 0 (JR w C kf tf g L m₀ ops s) s₃) E s₂ else Q .next s₂) E { s with heap := h, toks := tk }) :
    wpAny (model prog w) A (exec (.While test body [] pos) env) Q E s := by
  refine While_E (JR w C kf tf g L m₀ ops s) 41 hE ⟨s.heap, s.toks, 40, st₀, m₀ opS, .go 0 noS [], rfl, rfl, Nat.le_refl _, ?_, ⟨by decide, pt, kt, wt, [], n₀, N, .nil⟩, by simp [Cf.done], rfl⟩ ?_
  · have e : (fun y => if y = opS then m₀ opS else if y = stepsS then some (Value.int ((40 - 40 : Nat) : Int) st₀) else m₀ y) = m₀ := by
      funext y
      by_cases h1 : y = opS
      · rw [if_pos h1, h1]
      · rw [if_neg h1]
        by_cases h2 : y = stepsS
        · rw [if_pos h2, h2, hst]; rfl
        · rw [if_neg h2]
    rw [e]; exact F
  · rintro n s' ⟨h, tk, k, stt, u, cf, rfl, rfl, hk, F', hS, hl, hr⟩
    cases cf with
    | go p key d =>
      obtain ⟨hp, pt, kt, wt, ys, n, N', hD⟩ := hS
      have hl' : d.length + k ≤ 40 := hl
      have := hD.length
      exact go h tk k stt u p pt key kt wt ys n d hk hp F' N' hD hl (by omega) hr
    | over wd d =>
      obtain ⟨hw, pl, pt, key, kt, wt, ys, n, N', hD⟩ := hS
      exact over h tk k stt u pl pt key kt wd wt ys n d F' N' hD hw (by rw [hr]; unfold runRes; rfl)
theorem jr_next {h : Heap} {tk k stt : Nat} {u : Option Value} {cf' : Cf} {m : Str → Option Value} {L : Addr} (hm : m = fun y => if y = opS then u else if y = stepsS then some (.int ((40 - k : Nat) : Int) stt) else m₀ y) (F : Fr g L h m) (hS : StAt w C g L h cf') (hk : k < 40)
    (hl : cf'.done.length + k ≤ 40) (hr : runRes kf tf ops 40 (.go 0 noS []) = runRes kf tf ops k cf') : REnd (k + 1 + 1) (JR w C kf tf g L m₀ ops s) { s with heap := h, toks := tk } := by
  subst hm
  refine ⟨Cf.left cf' k, ?_, h, tk, k, stt, u, cf', rfl, rfl, by omega, F, hS, hl, hr⟩
  cases cf' <;> simp only [Cf.left] <;> omega
end
theorem jr_end {w : World} {C : Cst} {kf : Nat → Str} {tf : Bool → Nat → Bool} {g : Heap} {m₀ : Str → Option Value} {ops : List Op} {s : Shared} {h : Heap} {tk k stt : Nat} {a : Value} {x : Int} {u u2 : Option Value} {cf' : Cf} {L : Addr} (F : Fr g L h (fun y => if y = opS then some a else if y = stepsS then some (.int x stt) else if y = opS then u else if y = stepsS then u2 else m₀ y)) (hx : x = ((40 - k : Nat) : Int)) (hS : StAt w C g L h cf') (hk : k < 40)
    (hl : cf'.done.length + k ≤ 40) (hr : runRes kf tf ops 40 (.go 0 noS []) = runRes kf tf ops k cf') : REnd (k + 1 + 1) (JR w C kf tf g L m₀ ops s) { s with heap := h, toks := tk } := by
  refine jr_next (u := some a) (stt := stt) ?_ F hS hk hl hr
  subst hx
  funext y
  by_cases h1 : y = opS
  · simp [h1]
  · by_cases h2 : y = stepsS
    · simp [h1, h2]
    · simp [h1, h2]
section
variable {prog : Program} {w : World} {A : Around} {E : Value → Shared → Prop} {s : Shared} {g : Heap} {L : Addr} {m : Str → Option Value} {news : List (Addr × Obj)} {Q : Value → Shared → Prop}
theorem item_tab {tb : Addr} {o : Obj} {kvs : List (Str × Value)} {k : Str} {u : Tok} {v : Value} {value slice : PySem.Expr} (N : News g L s.heap news) (hp : (tb, o) ∈ news) (hd : o.IsDictOf (strKind prog w) kvs) (hv : valueAt kvs k = some v) (h : Q v { s with toks := s.toks + 1 })
    (hs : subscripted slice false (.ref tb) (.str k u) = operate [.ref tb, .str k u] (getItem (.ref tb) (.str k u))) :
    wpAny (model prog w) A (subscriptTail value slice (.ref tb) (.str k u)) Q E s := by
  have hD : s.heap.DictOf (strKind prog w) tb kvs := Heap.dictOf_iff.mpr ⟨o, N.get hp, hd⟩
  exact tail_any hD.typeIs slot_dict_getitem.lookup (wpAny_getItem_of (strKind_is _ _ _ _) hD.mapOf hv h) hs
theorem len_t {l : Addr} {vs : List Value} (F : Fr g L s.heap m) (hl : IsTup g l vs.toArray) (hn : vs.length < 1000) (h : Q (.int vs.length (s.toks + 1)) { s with toks := s.toks + 1 + 1 }) :
    wpAny (model prog w) A (call (.builtin "len") [.ref l]) Q E s :=
  PyProof.Rows.len_tuple (hl.keeps F.keep) (by simp; omega) (by simpa using h)
theorem seq_nat {p n : Nat} (h : p < n) : seqIndex? (p : Int) n = some p := by
  have h1 : ¬ ((p : Int) < 0) := by omega
  have h2 : (decide ((0 : Int) ≤ p) && decide ((p : Int) < (n : Int))) = true := by simp; omega
  simp only [seqIndex?, if_neg h1, h2, if_true, Int.toNat_natCast]
end
noncomputable def tabKvs : List (Str × Value) := [(Str.ofString "push", .ref 310), (Str.ofString "calc", .ref 310), (Str.ofString "put", .ref 317), (Str.ofString "do", .ref 324), (Str.ofString "key", .ref 331), (Str.ofString "test", .ref 338), (Str.ofString "jump", .ref 345),
  (Str.ofString "choose", .ref 352), (Str.ofString "perform", .ref 359), (Str.ofString "leave", .ref 366), (Str.ofString "count", .ref 373), (Str.ofString "less", .ref 380), (Str.ofString "stop", .ref 387)]
/-- an op that the machine of the law runs -/
noncomputable def plainOp : Op → Bool
  | .jump _ => true | .test _ _ => true | .key _ _ => true | .stop _ => true | .deed _ => true | _ => false
end

-- RunD
theorem fillRd : (PySem.Challenge.rw_pb0247_01.Holds ∧ ∀ P, hd.heap_39 P = []) → True := by k_fill; intro _; trivial
/-- a plain def, apart from what it may change, with what it raises -/
theorem enterE {prog : Program} {w : World} {A : Around} {E : Value → Shared → Prop} {s : Shared} {K : Frag} {g : Heap} {p : Program} {loose : List Str} {mg mb : Str → Option Value} {Q : Value → Shared → Prop}
    {name qual : Str} {params : Arguments} {body : List Stmt} {scope : Scope} {dV kV doc pm cdv ct oc : Value} {an od : Option Addr} {osl : Array (Option Value)} {f : Addr} {args : List Value} {binds : List (Str × Value)}
    {mt : List (Addr × Obj)} (G : Apart g s.heap mt) (X : K.In g) (T : TopRead p loose mg mb g)
    (ho : K.lookup f = some ⟨oc, od, .func (fnOf name qual params body scope dV kV doc pm an cdv ct), osl⟩) (hcd : codeIn K cdv qual = true) (hroom : A.depth < recursionLimit)
    (hbind : BindsTo s (fnOf name qual params body scope dV kV doc pm an cdv ct) ⟨args, []⟩ binds) (hloc : ∀ y ∈ binds, scope.names.lookup y.1 = some .local)
    (h : ∀ L h₁, Fr g L h₁ (fun y => binds.reverse.lookup y) → News g L h₁ mt → (∀ p ∈ mt, p.1 < L) → s.heap.StaysIn h₁ → @LE.le Nat instLENat s.heap.objs.size L →
      wpAny (model prog w) (A.deeper (envOf qual scope L f cdv)) (execs body (envOf qual scope L f cdv))
        (fun fl s' => Q (match fl with | .ret v => v | _ => .none) s')
        (fun e s' => wpAny (model prog w) (A.deeper (envOf qual scope L f cdv)) (leaving (envOf qual scope L f cdv) e) (fun _ s'' => E e s'') (fun e' s'' => E e' s'') s')
        { s with heap := h₁, toks := s.toks + binds.length })
    (hco : scope.isCoroutine = false) (hgen : scope.isGenerator = false) (hk : scope.kind = .function)
    (hcell : ∀ x ∈ scope.names, x.2 ≠ .cell) : wpAny (model prog w) A (call (.ref f) args) Q E s := by
  obtain ⟨gs, gz, gm⟩ := G
  have Xs := X.keeps gs
  have Ts := T.keeps gs
  refine wpAny_call (codeAny_call_def (fd := fnOf name qual params body scope dV kV doc pm an cdv ct) (body := body) (binds := binds) hroom (Xs _ _ ho) rfl Ts.nolimit (codeRec_of Xs hcd) rfl hbind hcell hloc (fun h₁ hns hk₁ => ?_) hco hgen hk)
  exact h s.heap.objs.size h₁ ⟨hns, fun b o e => hk₁ b o (gs b o e), gz⟩ (fun p hp => ⟨hk₁ _ _ (gm p hp).1, Nat.ne_of_lt (Heap.lt_size (gm p hp).1), (gm p hp).2⟩) (fun p hp => Heap.lt_size (gm p hp).1) hk₁ (Nat.le_refl _)
theorem mk_led {w : World} {g : Heap} {L : Addr} {h : Heap} {news : List (Addr × Obj)} {tb mc md co cdt de dd dn st fm ot f1 f2 f3 f4 : Addr} {to : Obj} {a b c d e f gg t1 t2 t3 t4 t5 t6 : Tok} {bv : Value} {p : Int} {pt : Tok} {key : Str} {kt : Tok} {word : Str} {wt : Tok} {ys : List Value} {n : Nat}
    (N : News g L h news) (h1 : (tb, to) ∈ news) (h2 : (mc, instObj 285 md) ∈ news)
    (h3 : (md, dictOf [en w "code" a (.ref co), en w "deeds" b (.ref de), en w "place" c (.int p pt), en w "stack" d (.ref st), en w "frames" e (.ref fm), en w "key" f (.str key kt), en w "word" gg (.str word wt)] 7) ∈ news)
    (h4 : (co, instObj 38 cdt) ∈ news) (h5 : (cdt, dictOf [en w "ops" t1 (.ref ot), en w "begins" t2 bv] 2) ∈ news) (h6 : (de, instObj 418 dd) ∈ news)
    (h7 : (dd, dictOf [en w "do" t3 (.ref f1), en w "test" t4 (.ref f2), en w "number" t5 (.ref f3), en w "put" t6 (.ref f4)] 4) ∈ news) (h8 : (dn, listOf ys.toArray n) ∈ news) :
    News g L h (Cst.led ⟨tb, mc, md, co, cdt, de, dd, dn, st, fm, ot, f1, f2, f3, f4, to, a, b, c, d, e, f, gg, t1, t2, t3, t4, t5, t6, bv⟩ w p pt key kt word wt ys n) := by
  intro q hq
  simp only [Cst.led, List.mem_cons, List.not_mem_nil, or_false] at hq
  rcases hq with rfl | rfl | rfl | rfl | rfl | rfl | rfl | rfl
  · exact N _ h1
  · exact N _ h2
  · exact N _ h3
  · exact N _ h4
  · exact N _ h5
  · exact N _ h6
  · exact N _ h7
  · exact N _ h8
/-- what the machine's loop wants of its constants -/
structure CstOk (prog : Program) (w : World) (C : Cst) (co ot f1 f2 dn : Addr) : Prop where
  co : C.co = co
  ot : C.ot = ot
  f1 : C.f1 = f1
  f2 : C.f2 = f2
  dn : C.dn = dn
  to : C.to.IsDictOf (strKind prog w) tabKvs
  ord : C.Ord
/-- the names ahead of the loop -/
noncomputable def NM (C : Cst) (st t7 : Tok) : Str → Option Value := fun y => if y = stepsS then some (.int 0 st) else if y = Str.ofString "table" then some (.ref C.tb) else if y = Str.ofString "machine" then some (.ref C.mc) else
  if y = Str.ofString "limit" then some (.int 40 t7) else if y = Str.ofString "deeds" then some (.ref C.de) else if y = Str.ofString "code" then some (.ref C.co) else none
theorem nm_norm {a b c d e f : Value} : (fun y => if y = stepsS then some a else if y = Str.ofString "table" then some b else if y = Str.ofString "machine" then some c else List.lookup y [(Str.ofString "limit", d), (Str.ofString "deeds", e), (Str.ofString "code", f)]) =
    fun y => if y = stepsS then some a else if y = Str.ofString "table" then some b else if y = Str.ofString "machine" then some c else if y = Str.ofString "limit" then some d else if y = Str.ofString "deeds" then some e else if y = Str.ofString "code" then some f else none := by
  funext y
  have lk : List.lookup y [(Str.ofString "limit", d), (Str.ofString "deeds", e), (Str.ofString "code", f)] = if y = Str.ofString "limit" then some d else if y = Str.ofString "deeds" then some e else if y = Str.ofString "code" then some f else none := by
    simp only [List.lookup_cons, List.lookup_nil]
    by_cases h1 : y = Str.ofString "limit"
    · subst h1; rfl
    · have h1' : (y == Str.ofString "limit") = false := by simpa using h1
      simp only [h1', if_neg h1]
      by_cases h2 : y = Str.ofString "deeds"
      · subst h2; rfl
      · have h2' : (y == Str.ofString "deeds") = false := by simpa using h2
        simp only [h2', if_neg h2]
        by_cases h3 : y = Str.ofString "code"
        · subst h3; rfl
        · have h3' : (y == Str.ofString "code") = false := by simpa using h3
          simp only [h3', if_neg h3]
  rw [lk]
theorem with_cst {prog : Program} {w : World} {g : Heap} {L : Addr} {h : Heap} {news : List (Addr × Obj)} {tb mc md co cdt de dd dn st fm ot f1 f2 f3 f4 : Addr} {to : Obj} {a b c d e f gg t1 t2 t3 t4 t5 t6 t7 stt : Tok} {bv : Value} {p : Int} {pt : Tok} {key : Str} {kt : Tok} {word : Str} {wt : Tok} {ys : List Value} {n : Nat} {goal : Prop}
    (F : Fr g L h (fun y => if y = stepsS then some (.int 0 stt) else if y = Str.ofString "table" then some (.ref tb) else if y = Str.ofString "machine" then some (.ref mc) else List.lookup y [(Str.ofString "limit", .int 40 t7), (Str.ofString "deeds", .ref de), (Str.ofString "code", .ref co)]))
    (N : News g L h news) (h1 : (tb, to) ∈ news) (h2 : (mc, instObj 285 md) ∈ news)
    (h3 : (md, dictOf [en w "code" a (.ref co), en w "deeds" b (.ref de), en w "place" c (.int p pt), en w "stack" d (.ref st), en w "frames" e (.ref fm), en w "key" f (.str key kt), en w "word" gg (.str word wt)] 7) ∈ news)
    (h4 : (co, instObj 38 cdt) ∈ news) (h5 : (cdt, dictOf [en w "ops" t1 (.ref ot), en w "begins" t2 bv] 2) ∈ news) (h6 : (de, instObj 418 dd) ∈ news)
    (h7 : (dd, dictOf [en w "do" t3 (.ref f1), en w "test" t4 (.ref f2), en w "number" t5 (.ref f3), en w "put" t6 (.ref f4)] 4) ∈ news) (h8 : (dn, listOf ys.toArray n) ∈ news)
    (hd : to.IsDictOf (strKind prog w) tabKvs) (O : @LT.lt Nat instLTNat dn dd ∧ @LT.lt Nat instLTNat dd de ∧ @LT.lt Nat instLTNat de cdt ∧ @LT.lt Nat instLTNat cdt co)
    (O1 : @LT.lt Nat instLTNat co md) (O2 : @LT.lt Nat instLTNat md mc) (O3 : @LT.lt Nat instLTNat mc tb)
    (K : ∀ C : Cst, CstOk prog w C co ot f1 f2 dn → Fr g L h (NM C stt t7) → News g L h (C.led w p pt key kt word wt ys n) → goal) : goal :=
  K ⟨tb, mc, md, co, cdt, de, dd, dn, st, fm, ot, f1, f2, f3, f4, to, a, b, c, d, e, f, gg, t1, t2, t3, t4, t5, t6, bv⟩ ⟨rfl, rfl, rfl, rfl, rfl, hd, ⟨O, O1, O2, O3⟩⟩ (by rw [nm_norm] at F; exact F) (mk_led N h1 h2 h3 h4 h5 h6 h7 h8)
theorem raise_end {prog : Program} {w : World} {A : Around} {E E9 : Value → Shared → Prop} {s : Shared} {base g h : Heap} {outer : List Env} {env : Env} {L dn Cx : Addr} {m : Str → Option Value} {l : List (Addr × Obj)} {ys : List Value} {n : Nat} {p : Program} {loose : List Str} {mean : ExcName → Option Value} {mg mb : Str → Option Value} {msg : Str} {t9 : Tok} {tk : Nat}
    (B : Below A base outer g) (X : (hd.heap_39 w.params).In g) (T : Top p loose mean mg mb g) (F : Fr g L h m) (N : News g L h l) (hm : (dn, listOf ys.toArray n) ∈ l) (hf : env.frame = some L) (hk : env.scope.kind = .function) (hC : FaultCls w.params Cx)
    (hh : A.handled = none) (hdp : A.depth + 60 < recursionLimit) (hu : A.units + 600 < cLine)
    (hE : ∀ e B a0 h' tk, Heap.FlyingW B outer e (.ref Cx) a0 h' → (∀ b o, b ∉ frs outer → g.get? b = some o → B.get? b = some o) → B.get? dn = some (listOf ys.toArray n) → g.UpToSlots h' → E (.ref e) { s with heap := h', toks := tk }) :
    wpAny (model prog w) (A.deeper env) (call (.ref Cx) [.str msg t9]) (RaiseEnd w.params (fun e s' => wpAny (model prog w) (A.deeper env) (leaving env e) (fun _ s'' => E e s'') (fun e' s'' => E e' s'') s')) E9 { s with heap := h, toks := tk } := by
  have X1 := X.keeps F.keep
  refine fault_c X1 ((topRead_of T).keeps F.keep) hC hh ?_ ?_ ?_
  · (first | exact dlt1 (by with_reducible assumption) (by decide) | exact dltk (by with_reducible assumption) (by decide) | exact dlt2 (by with_reducible assumption) (by decide) | (simp only [Around.deeper]; omega))
  · (first | exact dlt1 (by with_reducible assumption) (by decide) | exact dltk (by with_reducible assumption) (by decide) | exact dlt2 (by with_reducible assumption) (by decide) | (simp only [Around.deeper]; omega))
  · intro h' tk' e hM
    obtain ⟨t, dx, he, _⟩ := hM.there
    refine ⟨e, Cx, t, dx, rfl, hC, X1.keeps hM.keeps, he, ?_⟩
    have Fs := (pushX B F hf hk).frames
    have nL : ∀ b o, g.get? b = some o → b ≠ L := fun b o e q => Nat.lt_irrefl _ (Nat.lt_of_lt_of_le (q ▸ Heap.lt_size e) F.above)
    refine leave_V (s' := { s with heap := h', toks := tk' }) (h := h) B.stack hf Fs hM fun h2 a0 hfl hup => ?_
    refine hE e _ a0 h2 tk' hfl (fun b o hb hg => hideAll_get _ (F.keep b o hg) fun q => ?_) (hideAll_get _ (N _ hm).1 fun q => ?_) ((Heap.UpToSlots.of_keeps F.keep).trans hup)
    · obtain ⟨env', he', hf'⟩ := List.mem_filterMap.mp q
      rcases List.mem_cons.mp he' with rfl | he'
      · rw [hf] at hf'
        exact nL b o hg (Option.some.inj hf').symm
      · exact hb (List.mem_filterMap.mpr ⟨env', he', hf'⟩)
    · obtain ⟨env', he', hf'⟩ := List.mem_filterMap.mp q
      rcases List.mem_cons.mp he' with rfl | he'
      · rw [hf] at hf'
        exact (N _ hm).2.1 (Option.some.inj hf').symm
      · obtain ⟨_, o, ho, _⟩ := B.frames.mem (List.mem_filterMap.mpr ⟨env', he', hf'⟩)
        rw [(N _ hm).2.2] at ho; cases ho
theorem wordsRunD1 : True := by
  k_with_none
  w_top off
  k_with "pb_lt" => (first | (with_reducible assumption) | (refine' lt_use (by with_reducible assumption) ?_; (repeat (first | with_reducible exact And.left | with_reducible exact id | with_reducible refine' lt_skip ?_)); done))
  trivial
theorem wordsRunD2 : True := by
  k_with "execs cons" => (k_here; k_dflt (refine' execs_hide ?_); intro P9zz tk8zz hP9zz; (try dsimp only))
  trivial
local macro_rules | `(tactic| walk_at "pb_hp") => `(tactic| (refine' hp_use ?hpA ?_; (case hpA => with_reducible assumption); intro tk9; (try dsimp only)))
theorem wordsRunD3 : True := by
  k_with "pb_steps" => (repeat' (first | (walk_at "pb_hp") | (k_unfold; (try dsimp only)) | walk1 | (dsimp only; walk1) | fail "no step"))
  trivial
local macro_rules | `(tactic| k_room) => `(tactic| ((try simp only [depth_under_make, depth_under_kw, depth_in1, depth_deeper, depth_caller]); omega))
theorem wordsRunD4 : True := by
  k_with "pb_enterE" => (refine' enterE (by with_reducible assumption) (by k_asm) (by exact topRead_of (by with_reducible assumption)) (by k_is) (by k_is) (by first | exact dlt0 (by with_reducible assumption) | exact dltk (by with_reducible assumption) (by decide) | exact dlt1 (by with_reducible assumption) (by decide) | omega | (dsimp only; omega)) (by first | exact BindsTo.of_eq (binds := [(Str.ofString _, _), (Str.ofString _, _), (Str.ofString _, _)]) rfl | exact BindsTo.of_eq (binds := [(Str.ofString _, _), (Str.ofString _, _)]) rfl | exact BindsTo.of_eq (binds := [(Str.ofString _, _)]) rfl | exact BindsTo.of_eq rfl) (by exact locs rfl) ?_ (by exact rfl) (by exact rfl) (by exact rfl) (by decide); k_whole; intro Lzz' hzz' Fzz' Nzz' l1zz stzz' zzz'; (try simp only [List.cons_append, List.nil_append, List.append_nil] at Nzz'); (try dsimp only); (try k_fold))
  k_with "pb_toK" => (repeat' (first | (walk_at "pb_hp") | (k_unfold; (try dsimp only)) | ((fail_if_success (with_reducible show wpAny _ _ (subscriptTail _ _ (Value.ref _) (Value.str _ _)) _ _ _)); walk1) | (dsimp only; (fail_if_success (with_reducible show wpAny _ _ (subscriptTail _ _ (Value.ref _) (Value.str _ _)) _ _ _)); walk1) | fail "no step"))
  k_with "pb_toW" => (repeat' (first | (walk_at "pb_hp") | (k_unfold; (try dsimp only)) | ((fail_if_success (with_reducible show wpAny _ _ (exec (Stmt.While _ _ _ _) _) _ _ _)); walk1) | (dsimp only; (fail_if_success (with_reducible show wpAny _ _ (exec (Stmt.While _ _ _ _) _) _ _ _)); walk1) | fail "no step"))
  k_with "subscriptTail" => (k_here; (with_reducible show wpAny _ _ (subscriptTail _ _ (Value.ref _) (Value.int _ _)) _ _ _); k_dflt (refine' item_tup (by k_asm) (by with_reducible assumption) (by first | decide | omega) (by first | decide | omega) (by (first | exact seq_0 _ | exact seq_1 _ | exact seq_nat (by with_reducible assumption) | rfl)) (by first | with_reducible assumption | rfl) ?_; k_whole))
  k_with "subscriptTail" => (k_here; (with_reducible show wpAny _ _ (subscriptTail _ _ (Value.ref _) (Value.str _ _)) _ _ _); (with_reducible rename News _ _ _ _ => kNzz); k_dflt (refine' item_tab kNzz (by k_mem) (by with_reducible assumption) (by rfl) ?_ (by with_unfolding_all rfl); k_whole))
  k_with "call builtin:len" => (k_here; (with_reducible show wpAny _ _ (PySem.call _ [Value.ref _]) _ _ _); (with_reducible rename Fr _ _ _ _ => kFzz); k_dflt (refine' len_t kFzz (by with_reducible assumption) (by with_reducible assumption) ?_; k_whole))
  k_with "truthy bool" => (refine' truthy_known (by with_reducible assumption) ?_)
  k_with "exec Raise some none" => (k_here; k_dflt (refine' Raise_V (by with_reducible assumption) (by rfl) ?_; k_whole))
  k_with "call ref" => (k_here; (with_reducible show wpAny _ _ (PySem.call (Value.ref 345) [Value.ref _, Value.ref _]) _ _ _); (with_reducible rename Fr _ _ _ _ => kFzz); (with_reducible rename News _ _ _ _ => kNzz); (with_reducible rename Cst.Ord _ => kOzz); k_dflt (refine' jump_c kOzz kFzz kNzz (by k_asm) (by exact topRead_of (by with_reducible assumption)) (by rfl) (by (first | exact dlt1 (by with_reducible assumption) (by decide) | exact dltk (by with_reducible assumption) (by decide) | exact dlt2 (by with_reducible assumption) (by decide) | (simp only [Around.deeper]; omega))) (by (first | exact dlt1 (by with_reducible assumption) (by decide) | exact dltk (by with_reducible assumption) (by decide) | exact dlt2 (by with_reducible assumption) (by decide) | (simp only [Around.deeper]; omega))) (by with_reducible assumption)  ?_;  k_whole); intro hzz' tkzz' Fzz' Nzz'; (try simp only [Cst.led] at Nzz'))
  k_with "call ref" => (k_here; (with_reducible show wpAny _ _ (PySem.call (Value.ref 387) [Value.ref _, Value.ref _]) _ _ _); (with_reducible rename Fr _ _ _ _ => kFzz); (with_reducible rename News _ _ _ _ => kNzz); (with_reducible rename Cst.Ord _ => kOzz); k_dflt (refine' stop_c kOzz kFzz kNzz (by k_asm) (by exact topRead_of (by with_reducible assumption)) (by rfl) (by (first | exact dlt1 (by with_reducible assumption) (by decide) | exact dltk (by with_reducible assumption) (by decide) | exact dlt2 (by with_reducible assumption) (by decide) | (simp only [Around.deeper]; omega))) (by (first | exact dlt1 (by with_reducible assumption) (by decide) | exact dltk (by with_reducible assumption) (by decide) | exact dlt2 (by with_reducible assumption) (by decide) | (simp only [Around.deeper]; omega))) (by with_reducible assumption)  ?_;  k_whole); intro hzz' tkzz' Fzz' Nzz'; (try simp only [Cst.led] at Nzz'))
  k_with "call ref" => (k_here; (with_reducible show wpAny _ _ (PySem.call (Value.ref 331) [Value.ref _, Value.ref _]) _ _ _); (with_reducible rename Fr _ _ _ _ => kFzz); (with_reducible rename News _ _ _ _ => kNzz); (with_reducible rename Cst.Ord _ => kOzz); k_dflt (refine' key_c kOzz kFzz kNzz (by k_asm) (by exact topRead_of (by with_reducible assumption)) (by rfl) (by (first | exact dlt1 (by with_reducible assumption) (by decide) | exact dltk (by with_reducible assumption) (by decide) | exact dlt2 (by with_reducible assumption) (by decide) | (simp only [Around.deeper]; omega))) (by (first | exact dlt1 (by with_reducible assumption) (by decide) | exact dltk (by with_reducible assumption) (by decide) | exact dlt2 (by with_reducible assumption) (by decide) | (simp only [Around.deeper]; omega))) (by with_reducible assumption)  ?_;  k_whole); intro hzz' tkzz' ptzz' Fzz' Nzz'; (try simp only [Cst.led] at Nzz'))
  k_with "call ref" => (k_here; (with_reducible show wpAny _ _ (PySem.call (Value.ref 324) [Value.ref _, Value.ref _]) _ _ _); (with_reducible rename Fr _ _ _ _ => kFzz); (with_reducible rename News _ _ _ _ => kNzz); (with_reducible rename Cst.Ord _ => kOzz); k_dflt (refine' deed_c kOzz kFzz kNzz (by k_asm) (by exact topRead_of (by with_reducible assumption)) (by rfl) (by (first | exact dlt1 (by with_reducible assumption) (by decide) | exact dltk (by with_reducible assumption) (by decide) | exact dlt2 (by with_reducible assumption) (by decide) | (simp only [Around.deeper]; omega))) (by (first | exact dlt1 (by with_reducible assumption) (by decide) | exact dltk (by with_reducible assumption) (by decide) | exact dlt2 (by with_reducible assumption) (by decide) | (simp only [Around.deeper]; omega))) (by with_reducible assumption) (by with_reducible assumption) (by with_reducible assumption) ?_; k_whole); intro hzz' tkzz' uzz' nzz' Fzz' Nzz'; (try simp only [Cst.led] at Nzz'))
  k_with "call ref" => (k_here; (with_reducible show wpAny _ _ (PySem.call (Value.ref 338) [Value.ref _, Value.ref _]) _ _ _); (with_reducible rename Fr _ _ _ _ => kFzz); (with_reducible rename News _ _ _ _ => kNzz); (with_reducible rename Cst.Ord _ => kOzz); k_dflt (refine' test_c kOzz kFzz kNzz (by k_asm) (by exact topRead_of (by with_reducible assumption)) (by rfl) (by (first | exact dlt1 (by with_reducible assumption) (by decide) | exact dltk (by with_reducible assumption) (by decide) | exact dlt2 (by with_reducible assumption) (by decide) | (simp only [Around.deeper]; omega))) (by (first | exact dlt1 (by with_reducible assumption) (by decide) | exact dltk (by with_reducible assumption) (by decide) | exact dlt2 (by with_reducible assumption) (by decide) | (simp only [Around.deeper]; omega))) (by with_reducible assumption) (by with_reducible assumption) (by with_reducible assumption) (by with_reducible assumption) ?_; k_whole); intro hzz' tkzz' ptzz' Fzz' Nzz'; (try simp only [Cst.led] at Nzz'))
  trivial
theorem run_c {prog : Program} {w : World} {A : Around} {E : Value → Shared → Prop} {s : Shared} {base g : Heap} {outer : List Env} {p : Program} {loose : List Str} {mean : ExcName → Option Value} {mg mb : Str → Option Value} {Q : Value → Shared → Prop}
    {co cdt de dd dn ot f1 f2 f3 f4 : Addr} {t1 t2 t3 t4 t5 t6 t7 : Tok} {bv : Value} {vs : List Value} {ops : List Op} {kf : Nat → Str} {tf : Bool → Nat → Bool}
    (B : Below A base outer g) (X : (hd.heap_39 w.params).In g) (T : Top p loose mean mg mb g)
    (G : Apart g s.heap [(co, instObj 38 cdt), (cdt, dictOf [en w "ops" t1 (.ref ot), en w "begins" t2 bv] 2), (de, instObj 418 dd), (dd, dictOf [en w "do" t3 (.ref f1), en w "test" t4 (.ref f2), en w "number" t5 (.ref f3), en w "put" t6 (.ref f4)] 4), (dn, listOf #[] 0)])
    (O : @LT.lt Nat instLTNat dn dd ∧ @LT.lt Nat instLTNat dd de ∧ @LT.lt Nat instLTNat de cdt ∧ @LT.lt Nat instLTNat cdt co)
    (hh : A.handled = none) (hdp : A.depth + 60 < recursionLimit) (hu : A.units + 600 < cLine)
    (hot : IsTup g ot vs.toArray) (hds : DAll g vs (ops.map Op.d)) (hn : ops.length < 900) (hlast : ∀ o ∈ ops, o.last < 1000) (hpl : ∀ o ∈ ops, plainOp o = true) (hst : ∀ o ∈ ops, stopOk o = true)
    (D1 : DoAt prog w g f1 dn kf) (D2 : IsAt prog w g f2 dn tf)
    (hQ : ∀ h' tk u ys n wd d, runRes kf tf ops 40 (.go 0 noS []) = (wd, d) → DAll g ys d → g.StaysIn h' → h'.get? dn = some (listOf ys.toArray n) → Q (.str wd u) { s with heap := h', toks := tk })
    (hE : ∀ e Cx B a0 h' tk ys n wd d, FaultCls w.params Cx → ((Cx = 114 ∧ wd = Str.ofString "fault") ∨ (Cx = 138 ∧ wd = Str.ofString "steps")) → runRes kf tf ops 40 (.go 0 noS []) = (wd, d) → DAll g ys d →
      Heap.FlyingW B outer e (.ref Cx) a0 h' → (∀ b o, b ∉ frs outer → g.get? b = some o → B.get? b = some o) → B.get? dn = some (listOf ys.toArray n) → g.UpToSlots h' → E (.ref e) { s with heap := h', toks := tk }) :
    wpAny (model prog w) A (call (.ref 401) [.ref co, .ref de, .int 40 t7]) Q E s := by
  obtain ⟨ah, dp, fr, gd, un⟩ := A
  dsimp only at hh hdp hu
  subst hh
  obtain rfl : fr = some outer := B.stack
  have hlen := hds.length
  rw [List.length_map] at hlen
  have hvn : vs.length < 1000 := by omega
  have tag : PTag w.params := trivial
  walk_at "pb_enterE"
  rename ∀ p ∈ [_, _, _, _, _], _ => l9
  rename s.heap.StaysIn _ => st9
  rename @LE.le Nat instLENat _ _ => z9
  k_lt l9
  walk_at "pb_toW"
  rename Obj.IsDictOf _ _ _ => hd'
  rename Fr _ _ _ _ => F
  rename News _ _ _ _ => N
  rename _ ∧ _ => l7
  refine with_cst (t7 := t7) (co := co) (ot := ot) (f1 := f1) (f2 := f2) (dn := dn) F N (by k_mem) (by k_mem) (by k_mem) (by k_mem) (by k_mem) (by k_mem) (by k_mem) (by k_mem) hd' O ?_ ?_ ?_ ?_
  · refine ltN ?_; omega
  · refine ltN ?_; omega
  · refine ltN ?_; omega
  intro C CO FC NC
  clear F N
  replace D1 : DoAt prog w g C.f1 C.dn kf := by rw [CO.f1, CO.dn]; exact D1
  replace D2 : IsAt prog w g C.f2 C.dn tf := by rw [CO.f2, CO.dn]; exact D2
  replace hot : IsTup g C.ot vs.toArray := by rw [CO.ot]; exact hot
  have hto := CO.to
  have hO := CO.ord
  have hdn := CO.dn
  clear CO G O l9 l7 st9 z9 hd'
  refine while_run (prog := prog) (w := w) (C := C) (kf := kf) (tf := tf) (ops := ops) PassesOwn.leaving FC NC rfl ?_ ?_
  all_goals clear FC NC
  · intro h tk k stt u pl pt key kt wt ys n d hk hp F N hD hdk hyl hr
    by_cases hpl2 : ops.length ≤ pl
    · have hge : (vs.length : Int) ≤ (pl : Int) := by omega
      have hr2 : runRes kf tf ops 40 (.go 0 noS []) = (Str.ofString "fault", d) := by rw [hr]; unfold runRes; rw [if_pos hpl2]
      simp only [Cst.led] at N
      simp only [NM] at F
      (try k_fold)
      walk_at "pb_steps"
      rename Fr _ _ _ _ => F9
      rename News _ _ _ _ => N9
      exact raise_end B X T F9 N9 (dn := C.dn) (ys := ys) (n := n) (by k_mem) rfl rfl (fault_run _) rfl hdp hu fun e B a0 h' tk h1 h2 h3 h4 => hE e _ B a0 h' tk ys n _ d (fault_run _) (.inl ⟨rfl, rfl⟩) hr2 hD h1 h2 (hdn ▸ h3) h4
    · have hlt : ¬ ((vs.length : Int) ≤ (pl : Int)) := by omega
      have hlt2 : pl < vs.length := by omega
      rcases k with _ | k
      · have hr2 : runRes kf tf ops 40 (.go 0 noS []) = (Str.ofString "steps", d) := by rw [hr]; unfold runRes; rw [if_neg hpl2]
        simp only [Cst.led] at N
        simp only [NM] at F
        (try k_fold)
        walk_at "pb_steps"
        rename Fr _ _ _ _ => F9
        rename News _ _ _ _ => N9
        exact raise_end B X T F9 N9 (dn := C.dn) (ys := ys) (n := n) (by k_mem) rfl rfl (fault_step _) rfl hdp hu fun e B a0 h' tk h1 h2 h3 h4 => hE e _ B a0 h' tk ys n _ d (fault_step _) (.inr ⟨rfl, rfl⟩) hr2 hD h1 h2 (hdn ▸ h3) h4
      · obtain ⟨o, ho⟩ : ∃ o, ops[pl]? = some o := ⟨ops[pl]'(by omega), by simp [hlen ▸ hlt2]⟩
        have hmem := List.mem_of_getElem? ho
        obtain ⟨t, kt0, v1, r, hx, hT, hv1, hr1⟩ := OpsAt.get hds ho
        have hp0 := hpl o hmem
        have hs0 := hst o hmem
        have hl0 := hlast o hmem
        have hstep : runRes kf tf ops 40 (.go 0 noS []) = runRes kf tf ops k (step kf tf ops (.go pl key d)) := by rw [hr]; conv => lhs; unfold runRes; rw [if_neg hpl2]
        have hys := hD.length
        have hneg : ¬ (40 : Int) ≤ ((40 - (k + 1) : Nat) : Int) := by omega
        have hst1 : ((40 - (k + 1) : Nat) : Int) + 1 = ((40 - k : Nat) : Int) := by omega
        have h0 : (0 : Int) ≤ (pl : Int) := by omega
        simp only [NM] at F
        have om := ord_md hO
        have ot := ord_tb hO
        have oc := ord_mc hO
        have N0 := N
        simp only [Cst.led] at N
        clear N0
        (try k_fold)
        have hk40 : k < 40 := by omega
        have hdk1 : d.length + k ≤ 40 := by omega
        have hdk2 : d.length + 1 + k ≤ 40 := by omega
        have hp1 : pl + 1 < 1000 := by omega
        walk_at "pb_toK"
        cases o <;> simp only [plainOp, Bool.false_eq_true] at hp0
        case jump j =>
          cases hv1; cases hr1
          simp only [step, ho] at hstep
          walk_at "pb_steps"
          rename Fr _ _ _ _ => F9
          rename News _ _ _ _ => N9
          exact jr_end (cf' := .go j key d) F9 hst1 ⟨hl0, _, _, _, _, _, N9, hD⟩ hk40 hdk1 hstep
        case test c j =>
          have hv2 : DIn g v1 (condD c) := hv1
          cases hr1 with
          | cons h2 hr1 =>
          cases h2
          cases hr1
          simp only [step, ho] at hstep
          walk_at "pb_steps"
          rename Fr _ _ _ _ => F9
          rename News _ _ _ _ => N9
          rw [hys] at N9
          cases htf : tf c d.length with
          | true =>
            simp only [htf, if_true] at N9 hstep
            exact jr_end (cf' := .go (pl + 1) key d) F9 hst1 ⟨hp1, _, _, _, _, _, N9, hD⟩ hk40 hdk1 hstep
          | false =>
            simp only [htf, Bool.false_eq_true, if_false] at N9 hstep
            exact jr_end (cf' := .go j key d) F9 hst1 ⟨hl0, _, _, _, _, _, N9, hD⟩ hk40 hdk1 hstep
        case key x j =>
          cases hv1
          cases hr1 with
          | cons h2 hr1 =>
          cases h2
          cases hr1
          simp only [step, ho] at hstep
          walk_at "pb_steps"
          rename Fr _ _ _ _ => F9
          rename News _ _ _ _ => N9
          cases htf : key == x with
          | true =>
            simp only [htf, if_true] at N9 hstep
            exact jr_end (cf' := .go (pl + 1) key d) F9 hst1 ⟨hp1, _, _, _, _, _, N9, hD⟩ hk40 hdk1 hstep
          | false =>
            simp only [htf, Bool.false_eq_true, if_false] at N9 hstep
            exact jr_end (cf' := .go j key d) F9 hst1 ⟨hl0, _, _, _, _, _, N9, hD⟩ hk40 hdk1 hstep
        case stop x =>
          cases hv1; cases hr1
          simp only [step, ho] at hstep
          walk_at "pb_steps"
          rename Fr _ _ _ _ => F9
          rename News _ _ _ _ => N9
          have hw : (x == noS) = false := by
            simp only [stopOk, beq_iff_eq] at hs0
            subst hs0; decide
          exact jr_end (cf' := .over x d) F9 hst1 ⟨hw, _, _, _, _, _, _, _, N9, hD⟩ hk40 hdk1 hstep
        case deed a =>
          cases hr1
          simp only [step, ho] at hstep
          walk_at "pb_steps"
          rename Fr _ _ _ _ => F9
          rename News _ _ _ _ => N9
          rw [hys] at N9
          exact jr_end (cf' := .go (pl + 1) (kf d.length) (d ++ [a])) F9 hst1 ⟨hp1, _, _, _, _, _, N9, hD.append (.one hv1)⟩ hk40 (by simp only [Cf.done, List.length_append, List.length_singleton]; exact hdk2) hstep
  · intro h tk k stt u pl pt key kt wd wt ys n d F N hD hwd hr
    simp only [Cst.led] at N
    simp only [NM] at F
    (try k_fold)
    walk_at "pb_steps"
    rename Fr _ _ _ _ => F9
    rename News _ _ _ _ => N9
    exact hQ _ _ _ _ n _ _ hr hD F9.keep (hdn ▸ (N9 (C.dn, listOf ys.toArray n) (by k_mem)).1)

-- Tidx
section
open PySem.AutoSeq1 (wpAny_loadPart')
open PySem.MeetsSeq PySem.MeetsSeq2 PySem.MeetsSeq3 PySem.SeqRoads2
theorem tuple_index2 (l : Addr) (x0 x1 : Value) (n : Nat) (dd : Option Addr) (sl : Array (Option Value)) (x : Value) (b : Bool) :
    Meets (Builtin.«tuple.index» ⟨[.ref l, x], []⟩)
      (fun A R s => s.heap.get? l = some { cls := .type "tuple", dict := dd, data := .seq [x0, x1].toArray n, slots := sl } ∧ EqAt A.in1 s x0 x (!b) ∧ (b = true → EqAt A.in1 s x1 x true) ∧ R (.ok (.ret (.int (if b then 1 else 0) s.toks))) { s with toks := s.toks + 1 }) :=
  .of_wp fun prog w A R s h => by
    obtain ⟨hp, g, d, tk, os⟩ := s; obtain ⟨hl, h0, h1, h⟩ := h
    unfold Builtin.«tuple.index»
    simp only [Std.Legacy.Range.forIn_eq_forIn_range']
    wp_walk using wpAny_loadPart' hl, wpAny_forIn_list _ (fun rest st s' => st = (none, ()) ∧ s' = ⟨hp, g, d, tk, os⟩ ∧ (rest = [0, 1] ∨ (rest = [1] ∧ b = true))) _
    case turn =>
      rintro i rest st s' ⟨rfl, rfl, hr⟩
      rcases hr with hr | ⟨hr, rfl⟩
      · cases hr
        show wpAny _ _ (eqBool x0 x >>= _) _ _ _
        refine wpAny_bind (h0 prog w _ _ ?_)
        cases b with
        | false =>
          wp_walk
          exact ⟨_, rfl, h⟩
        | true =>
          wp_walk
          exact ⟨rfl, rfl, .inr ⟨rfl, rfl⟩⟩
      · cases hr
        show wpAny _ _ (eqBool x1 x >>= _) _ _ _
        refine wpAny_bind (h1 rfl prog w _ _ ?_)
        wp_walk
        exact ⟨_, rfl, h⟩
    case fin =>
      rintro st s' ⟨rfl, rfl, hr⟩
      rcases hr with hr | ⟨hr, _⟩ <;> cases hr
    case h =>
      exact ⟨rfl, rfl, .inl (by simp [Std.Legacy.Range.size]; rfl)⟩
theorem index_cond {prog : Program} {w : World} {A : Around} {E : Value → Shared → Prop} {s : Shared} {g : Heap} {L : Addr} {m : Str → Option Value} {l : Addr} {x0 x1 x : Value} {c : Bool} {Q : Value → Shared → Prop}
    (F : Fr g L s.heap m) (hl : IsTup g l [x0, x1].toArray) (h0 : DIn g x0 (condD false)) (h1 : DIn g x1 (condD true)) (hx : DIn g x (condD c)) (hu : A.units + 20 < cLine) (h : Q (.int (if c then 1 else 0) s.toks) { s with toks := s.toks + 1 }) :
    wpAny (model prog w) A (call (.builtin "tuple.index") [.ref l, x]) Q E s := by
  have hl' := hl.keeps F.keep
  obtain ⟨⟨cls, dd, data, sl⟩, ho, hc, n, hd⟩ := id hl'
  simp only at hc hd
  subst hc hd
  refine call_meets PySem.F.slot_tuple_index ⟨_, ho, rfl⟩ PySem.F.entry_tuple_index (PySem.F.args_tuple_index_2 _ _) (tuple_index2 l x0 x1 n dd sl x c) ⟨ho, ?_, ?_, h⟩
  · have e : cmp (condD false) (condD c) = some (!c) := by rw [cond_cmp]; cases c <;> rfl
    have := cond_depth false
    exact eqD (h0.keeps F.keep) (hx.keeps F.keep) e (by simp only [Around.in1_units]; omega)
  · intro e
    subst e
    have := cond_depth true
    exact eqD (h1.keeps F.keep) (hx.keeps F.keep) (cmp_self _) (by simp only [Around.in1_units]; omega)
end

-- Lr2
theorem fillL2 : (PySem.Challenge.rw_pb0247_01.Holds ∧ ∀ P, hd.heap_39 P = []) → True := by k_fill; intro _; trivial
/-- a closure's object, made by the call; some places change -/
theorem enterFM {prog : Program} {w : World} {A : Around} {E : Value → Shared → Prop} {s : Shared} {g : Heap} {p : Program} {loose : List Str} {mg mb : Str → Option Value} {Q : Value → Shared → Prop}
    {name qual : Str} {params : Arguments} {body : List Stmt} {scope : Scope} {dV kV doc pm cdv ct : Value} {an : Option Addr} {f : Addr} {args : List Value} {binds : List (Str × Value)} {fo : Obj} {cl : List (Str × Addr)} {mt : List (Addr × Obj)}
    (T : TopRead p loose mg mb g) (G : Apart g s.heap mt) (hcr : s.heap.CodeRec cdv qual)
    (ho : s.heap.get? f = some fo) (hd : fo.data = .func (fnX name qual params body scope cl dV kV doc pm an cdv ct)) (hroom : A.depth < recursionLimit)
    (hbind : BindsTo s (fnX name qual params body scope cl dV kV doc pm an cdv ct) ⟨args, []⟩ binds) (hloc : ∀ y ∈ binds, scope.names.lookup y.1 = some .local)
    (h : ∀ L h₁, Fr g L h₁ (fun y => binds.reverse.lookup y) → News g L h₁ mt → (∀ p ∈ mt, p.1 < L) →
      wpAny (model prog w) (A.deeper (envX qual scope L f cdv cl)) (execs body (envX qual scope L f cdv cl))
        (fun fl s' => Q (match fl with | .ret v => v | _ => .none) s') (fun _ _ => False)
        { s with heap := h₁, toks := s.toks + binds.length })
    (hco : scope.isCoroutine = false) (hgen : scope.isGenerator = false) (hk : scope.kind = .function)
    (hcell : ∀ x ∈ scope.names, x.2 ≠ .cell) : wpAny (model prog w) A (call (.ref f) args) Q E s := by
  obtain ⟨gs, gz, gm⟩ := G
  refine wpAny_call (codeAny_call_def (fd := fnX name qual params body scope cl dV kV doc pm an cdv ct) (body := body) (binds := binds) hroom ho hd (T.keeps gs).nolimit hcr rfl hbind hcell hloc (fun h₁ hns hk₁ => ?_) hco hgen hk)
  exact wpAny_mono (h s.heap.objs.size h₁ ⟨hns, fun b o e => hk₁ b o (gs b o e), gz⟩ (fun p hp => ⟨hk₁ _ _ (gm p hp).1, Nat.ne_of_lt (Heap.lt_size (gm p hp).1), (gm p hp).2⟩) (fun p hp => Heap.lt_size (gm p hp).1)) (fun _ _ x => x) (fun _ _ x => x.elim)
noncomputable def kfOf (ns : List Int) (k : Nat) : Str := if Int.fmod (ns.getD (Int.fmod (k : Int) (ns.length : Int)).toNat 0 + (k : Int)) 2 = 0 then Str.ofString "" else Str.ofString "end"
noncomputable def tfOf (ns : List Int) (c : Bool) (k : Nat) : Bool := Int.fmod (Int.fdiv (ns.getD (Int.fmod (3 * (k : Int)) (ns.length : Int)).toNat 0) 2 + (k : Int) + (if c then 1 else 0)) 2 == 0
theorem ground_dn {g₂ h : Heap} {dn : Addr} {o : Obj} (hs : g₂.StaysIn h) (hd : g₂.get? dn = none) (ho : h.get? dn = some o) : ∃ g3, Apart g3 h [(dn, o)] ∧ g₂.StaysIn g3 ∧ ∀ b x, b ≠ dn → h.get? b = some x → g3.get? b = some x := by
  refine ⟨hideAll h [dn], ⟨fun _ _ e => of_hideAll _ e, Nat.le_of_eq (hideAll_size _ _), fun p hp => ?_⟩, fun b x e => hideAll_get _ (hs b x e) fun q => ?_, fun b x hb e => hideAll_get _ e fun q => hb (List.mem_singleton.mp q)⟩
  · rw [List.mem_singleton.mp hp]
    exact ⟨ho, hideAll_none _ (.head _)⟩
  · rw [List.mem_singleton.mp q, hd] at e; cases e
theorem wordsLr21 : True := by
  k_with_none
  w_top off
  k_with "pb_lt" => (first | (with_reducible assumption) | (refine' lt_use (by with_reducible assumption) ?_; (repeat (first | with_reducible exact And.left | with_reducible exact id | with_reducible refine' lt_skip ?_)); done))
  trivial
theorem wordsLr22 : True := by
  k_with "pb_steps" => (repeat' (first | (k_unfold; (try dsimp only)) | walk1 | (dsimp only; walk1) | fail "no step"))
  trivial
theorem wordsLr23 : True := by
  k_with "eval Name" => (k_here; (with_reducible rename Fr _ _ _ _ => kFzz); k_dflt (refine' nameC_F kFzz (by rfl) (by rfl) (by rfl) (by decide) (by decide) (by with_reducible assumption) (by with_reducible assumption) ?_; k_whole))
  k_with "call builtin:list.append" => (k_here; (with_reducible show wpAny _ _ (PySem.call (Value.builtin _) [Value.ref _, _]) _ _ _); k_dflt (refine' append_K (by k_asm) (by k_asm) (by k_upd) ?_ (by (rw [sizeLine_eq]; simp; omega)); k_whole); intro hzz' Fzz' Nzz'; (try k_sweep))
  trivial
theorem len_N {prog : Program} {w : World} {A : Around} {E : Value → Shared → Prop} {s : Shared} {g : Heap} {L : Addr} {l : Addr} {vs : List Value} {n : Nat} {news : List (Addr × Obj)} {Q : Value → Shared → Prop}
    (N : News g L s.heap news) (hm : (l, listOf vs.toArray n) ∈ news) (hn : vs.length < 1000) (h : Q (.int vs.length (s.toks + 1)) { s with toks := s.toks + 1 + 1 }) :
    wpAny (model prog w) A (call (.builtin "len") [.ref l]) Q E s :=
  len_list (items := vs.toArray) ⟨_, N.get hm, rfl, _, rfl⟩ (by simp; omega) (by simpa using h)
theorem wordsLr24 : True := by
  k_with "call builtin:len" => (k_here; (with_reducible show wpAny _ _ (PySem.call _ [Value.ref _]) _ _ _); (with_reducible rename Fr _ _ _ _ => kFzz); (with_reducible rename News _ _ _ _ => kNzz); first | (k_dflt (refine' len_l kFzz (by with_reducible assumption) (by first | with_reducible assumption | omega) ?_; k_whole)) | (k_dflt (refine' len_N kNzz (by k_mem) (by with_reducible assumption) ?_; k_whole)))
  trivial
theorem cls_ne3' : Value.type "list" ≠ Value.type "tuple" := by intro h; injection h with h; exact absurd h (by decide)
/-- the parts of _law_run -/
noncomputable def HasDefs (P : Params) (st0 : Stmt) (n1 n1' : Str) (pr1 : Arguments) (bd1 : List Stmt) (sc1 : Scope) (p1 : Pos) (n2 n2' : Str) (pr2 : Arguments) (bd2 : List Stmt) (sc2 : Scope) (p2 : Pos) (rest : List Stmt) : Prop :=
  ∃ oc od name qual params scope dV kV doc pm an cdv ct osl, (hd.heap_39 P).lookup 468 = some ⟨oc, od, .func (fnOf name qual params (st0 :: .FunctionDef n1 pr1 bd1 [] none [] sc1 none n1' p1 :: .FunctionDef n2 pr2 bd2 [] none [] sc2 none n2' p2 :: rest) scope dV kV doc pm an cdv ct), osl⟩
theorem doone_c {prog : Program} {w : World} {p : Program} {loose : List Str} {mg mb : Str → Option Value}
    {st0 : Stmt} {n1 n1' : Str} {pr1 : Arguments} {bd1 : List Stmt} {sc1 : Scope} {p1 : Pos} {n2 n2' : Str} {pr2 : Arguments} {bd2 : List Stmt} {sc2 : Scope} {p2 : Pos} {rest : List Stmt}
    {g₂ : Heap} {f1 dn cl a1 a2 c' : Addr} {o1 o2 oc : Obj} {cvs : Array Value} {ct9 : Tok} {qual : Str} {doc pm ctv : Value} {cs : List Value} {ns : List Int}
    (HD : HasDefs w.params st0 n1 n1' pr1 bd1 sc1 p1 n2 n2' pr2 bd2 sc2 p2 rest)
    (X : (hd.heap_39 w.params).In g₂) (T : TopRead p loose mg mb g₂)
    (hfn : g₂.get? f1 = some (fnMade n1 qual pr1 bd1 sc1 [(Str.ofString "done", a2), (Str.ofString "cells", a1)] doc pm c' ctv))
    (hc : g₂.get? c' = some oc) (hcd : oc.data = .fields cvs) (hcq : cvs[1]? = some (.str qual ct9))
    (h1 : g₂.get? a1 = some o1) (e1 : o1.data = .cell (some (.ref cl))) (h2 : g₂.get? a2 = some o2) (e2 : o2.data = .cell (some (.ref dn)))
    (hcl : g₂.IsList cl cs.toArray) (hi : IntsAre cs ns) (l1 : 1 ≤ ns.length) (l2 : ns.length ≤ 60) (hdn0 : g₂.get? dn = none) : DoAt prog w g₂ f1 dn (kfOf ns) := by
  obtain ⟨oc0, od0, name0, qual0, params0, scope0, dV0, kV0, doc0, pm0, an0, cdv0, ct0, osl0, ho⟩ := HD
  have e := ho.symm.trans (show (hd.heap_39 w.params).lookup 468 = some _ by k_is)
  cases e
  clear ho
  refine ⟨⟨_, _, _, _, hfn⟩, fun A2 s2 E2 Q2 v ys n hs2 hdn hh2 hd2 hu2 hy hQ2 => ?_⟩
  obtain ⟨g3, G3, st3, keep3⟩ := ground_dn hs2 hdn0 hdn
  obtain ⟨ah2, dp2, fr2, gd2, un2⟩ := A2
  dsimp only at hh2 hd2 hu2
  subst hh2
  replace hcl := hcl.at fun o e => st3 _ _ e
  replace X := X.keeps st3
  replace T := T.keeps st3
  replace h1 := st3 _ _ h1
  replace h2 := st3 _ _ h2
  have hlen := hi.length
  refine' enterFM (g := g3) T G3 ⟨_, _, _, _, rfl, hs2 _ _ hc, hcd, hcq⟩ (hs2 _ _ hfn) ?hd ?ro ?bi ?lo ?K ?c2 ?c3 ?c4 ?c5
  case hd => exact rfl
  case ro => dsimp only; omega
  case bi => exact BindsTo.of_eq rfl
  case lo => exact locs rfl
  case c2 => exact rfl
  case c3 => exact rfl
  case c4 => exact rfl
  case c5 => decide
  intro L3 h3 F3 N3 l3
  have l33 : @LT.lt Nat instLTNat _ L3 := l3 _ (.head _)
  clear l3
  walk_at "pb_steps"
  all_goals
    rename Fr _ _ _ _ => F
    rename News _ _ _ _ => N
    rename Int.fmod _ 2 = _ => hk
    rw [hlen] at hk
    have NN := N.get (a := dn) (by k_mem)
    rw [List.push_toArray] at NN
    first
      | (have e : kfOf ns ys.length = Str.ofString "" := by unfold kfOf; rw [hk]; rfl
         rw [e] at hQ2
         exact hQ2 _ _ _ _ (fun b o hb q => F.keep _ _ (keep3 b o hb q)) NN)
      | (have e : kfOf ns ys.length = Str.ofString "end" := by unfold kfOf; rw [hk]; rfl
         rw [e] at hQ2
         exact hQ2 _ _ _ _ (fun b o hb q => F.keep _ _ (keep3 b o hb q)) NN)
theorem meth_index {prog : Program} {w : World} {A : Around} {E : Value → Shared → Prop} {s : Shared} {g : Heap} {L : Addr} {m : Str → Option Value} {l : Addr} {o : Obj} {pl : Sem Bool} {Q : Value × List Value → Shared → Prop}
    (F : Fr g L s.heap m) (ho : g.get? l = some o) (hc : o.cls = .type "tuple") (hd : o.dict = none) (h : Q (.builtin "tuple.index", [.ref l]) s) :
    wpAny (model prog w) A (getMethod (.ref l) "index" pl) Q E s :=
  getMethod_builtin (T := "tuple") ⟨o, F.keep _ _ ho, hc⟩ PySem.F.plainAttrs_tuple PySem.F.slot_tuple_index PySem.F.type_tuple_index (fun a e => by cases e; exact ⟨o, F.keep _ _ ho, hd⟩) h
theorem wordsLr25 : True := by
  k_with "getMethod ref" => (k_here; (with_reducible rename Fr _ _ _ _ => kFzz); k_dflt (refine' meth_index kFzz (by with_reducible assumption) (by rfl) (by rfl) ?_; k_whole))
  k_with "call builtin:tuple.index" => (k_here; (with_reducible rename Fr _ _ _ _ => kFzz); k_dflt (refine' index_cond kFzz (by with_reducible assumption) (by with_reducible assumption) (by with_reducible assumption) (by with_reducible assumption) (by (first | exact dlt1 (by with_reducible assumption) (by decide) | exact dltk (by with_reducible assumption) (by decide) | exact dlt2 (by with_reducible assumption) (by decide) | (simp only [Around.deeper]; omega))) ?_; k_whole))
  trivial
theorem isso_c {prog : Program} {w : World} {p : Program} {loose : List Str} {mg mb : Str → Option Value}
    {st0 : Stmt} {n1 n1' : Str} {pr1 : Arguments} {bd1 : List Stmt} {sc1 : Scope} {p1 : Pos} {n2 n2' : Str} {pr2 : Arguments} {bd2 : List Stmt} {sc2 : Scope} {p2 : Pos} {rest : List Stmt}
    {g₂ : Heap} {f2 dn cl a1 a2 c' : Addr} {o1 o2 oc : Obj} {cvs : Array Value} {ct9 : Tok} {qual : Str} {doc pm ctv : Value} {cs : List Value} {ns : List Int}
    (HD : HasDefs w.params st0 n1 n1' pr1 bd1 sc1 p1 n2 n2' pr2 bd2 sc2 p2 rest)
    (X : (hd.heap_39 w.params).In g₂) (T : TopRead p loose mg mb g₂)
    (hfn : g₂.get? f2 = some (fnMade n2 qual pr2 bd2 sc2 [(Str.ofString "done", a2), (Str.ofString "cells", a1)] doc pm c' ctv))
    (hc : g₂.get? c' = some oc) (hcd : oc.data = .fields cvs) (hcq : cvs[1]? = some (.str qual ct9))
    (h1 : g₂.get? a1 = some o1) (e1 : o1.data = .cell (some (.ref cl))) (h2 : g₂.get? a2 = some o2) (e2 : o2.data = .cell (some (.ref dn)))
    (hcl : g₂.IsList cl cs.toArray) (hi : IntsAre cs ns) (l1 : 1 ≤ ns.length) (l2 : ns.length ≤ 60) (hdn0 : g₂.get? dn = none) : IsAt prog w g₂ f2 dn (tfOf ns) := by
  obtain ⟨oc0, od0, name0, qual0, params0, scope0, dV0, kV0, doc0, pm0, an0, cdv0, ct0, osl0, ho⟩ := HD
  have e := ho.symm.trans (show (hd.heap_39 w.params).lookup 468 = some _ by k_is)
  cases e
  clear ho
  refine ⟨⟨_, _, _, _, hfn⟩, fun A2 s2 E2 Q2 v cc ys n hs2 hdn hh2 hd2 hu2 hy hv hQ2 => ?_⟩
  obtain ⟨g3, G3, st3, keep3⟩ := ground_dn hs2 hdn0 hdn
  obtain ⟨ah2, dp2, fr2, gd2, un2⟩ := A2
  dsimp only at hh2 hd2 hu2
  subst hh2
  replace hcl := hcl.at fun o e => st3 _ _ e
  replace X := X.keeps st3
  replace T := T.keeps st3
  replace h1 := st3 _ _ h1
  replace h2 := st3 _ _ h2
  replace hv : DIn g3 v (condD cc) := hv.tups fun b xs ⟨o, ho, hc, r⟩ => ⟨o, keep3 b o (fun q => by rw [q, hdn] at ho; cases ho; exact (cls_ne3' hc).elim) ho, hc, r⟩
  have hlen := hi.length
  have h35 : IsTup g3 435 [Value.ref (condA false), Value.ref (condA true)].toArray := ⟨{ cls := .type "tuple", data := .seq #[.ref 432, .ref 434] }, X _ _ (by k_is), rfl, _, rfl⟩
  have h35' : g3.get? 435 = some { cls := .type "tuple", data := .seq #[.ref 432, .ref 434] } := X _ _ (by k_is)
  have c0 := cond_in X false
  have c1 := cond_in X true
  refine' enterFM (g := g3) T G3 ⟨_, _, _, _, rfl, hs2 _ _ hc, hcd, hcq⟩ (hs2 _ _ hfn) ?hd ?ro ?bi ?lo ?K ?c2 ?c3 ?c4 ?c5
  case hd => exact rfl
  case ro => dsimp only; omega
  case bi => exact BindsTo.of_eq rfl
  case lo => exact locs rfl
  case c2 => exact rfl
  case c3 => exact rfl
  case c4 => exact rfl
  case c5 => decide
  intro L3 h3 F3 N3 l3
  have l33 : @LT.lt Nat instLTNat _ L3 := l3 _ (.head _)
  clear l3
  walk_at "pb_steps"
  rename Fr _ _ _ _ => F
  rename News _ _ _ _ => N
  rw [tfOf, ← hlen] at hQ2
  refine hQ2 _ _ (fun b o q => ?_)
  by_cases hb : b = dn
  · subst hb; have := hdn.symm.trans q; cases this; exact N.get (by k_mem)
  · exact F.keep _ _ (keep3 b o hb q)

-- Lr1
theorem fillL1 : (PySem.Challenge.rw_pb0247_01.Holds ∧ ∀ P, hd.heap_39 P = []) → True := by k_fill; intro _; trivial
theorem lt_s1 {a L : Nat} (h : a < L) : @LT.lt Nat instLTNat a (L + 1) ∧ True := ⟨Nat.lt_succ_of_lt h, trivial⟩
theorem lt_s2 {a L : Nat} (h : a < L) : @LT.lt Nat instLTNat a (L + 1 + 1) ∧ @LT.lt Nat instLTNat (L + 1) (L + 1 + 1) := ⟨Nat.lt_succ_of_lt (Nat.lt_succ_of_lt h), Nat.lt_succ_self _⟩
/-- the order of the five places that a run changes -/
noncomputable def Ord5 (dn dd de cdt co : Addr) : Prop := @LT.lt Nat instLTNat dn dd ∧ @LT.lt Nat instLTNat dd de ∧ @LT.lt Nat instLTNat de cdt ∧ @LT.lt Nat instLTNat cdt co
noncomputable def Ne5 (b dn dd de cdt co : Addr) : Prop := b ≠ co ∧ b ≠ cdt ∧ b ≠ de ∧ b ≠ dd ∧ b ≠ dn
theorem ne5_of {b dn dd de cdt co : Addr} (h1 : b ≠ dn) (h2 : @LT.lt Nat instLTNat b dd) (o : Ord5 dn dd de cdt co) : Ne5 b dn dd de cdt co := by
  obtain ⟨o1, o2, o3, o4⟩ := o
  refine ⟨?_, ?_, ?_, ?_, h1⟩ <;> (refine neN ?_; omega)
theorem ne5_lt {b dn dd de cdt co : Addr} (h1 : @LT.lt Nat instLTNat b dn) (o : Ord5 dn dd de cdt co) : Ne5 b dn dd de cdt co := ne5_of (Nat.ne_of_lt h1) (Nat.lt_trans h1 o.1) o
theorem use_run {A A₀ : Around} {s : Shared} {base g : Heap} {outer : List Env} {env : Env} {L : Addr} {m : Str → Option Value} {news : List (Addr × Obj)} {w : World} {co cdt de dd dn ot f1 f2 f3 f4 : Addr} {t1 t2 t3 t4 t5 t6 : Tok} {bv : Value} {goal : Prop}
    (B : Below A₀ base outer g) (F : Fr g L s.heap m) (N : News g L s.heap news) (hA : A.frames = some (env :: outer)) (hf : env.frame = some L) (hke : env.scope.kind = .function)
    (h1 : (co, instObj 38 cdt) ∈ news) (h2 : (cdt, dictOf [en w "ops" t1 (.ref ot), en w "begins" t2 bv] 2) ∈ news) (h3 : (de, instObj 418 dd) ∈ news)
    (h4 : (dd, dictOf [en w "do" t3 (.ref f1), en w "test" t4 (.ref f2), en w "number" t5 (.ref f3), en w "put" t6 (.ref f4)] 4) ∈ news) (h5 : (dn, listOf #[] 0) ∈ news) (O : Ord5 dn dd de cdt co)
    (K : ∀ g₂, Below A base (env :: outer) g₂ → Apart g₂ s.heap [(co, instObj 38 cdt), (cdt, dictOf [en w "ops" t1 (.ref ot), en w "begins" t2 bv] 2), (de, instObj 418 dd), (dd, dictOf [en w "do" t3 (.ref f1), en w "test" t4 (.ref f2), en w "number" t5 (.ref f3), en w "put" t6 (.ref f4)] 4), (dn, listOf #[] 0)] →
      g.StaysIn g₂ → (∀ p ∈ news, (p.1 ≠ co ∧ p.1 ≠ cdt ∧ p.1 ≠ de ∧ p.1 ≠ dd ∧ p.1 ≠ dn) → g₂.get? p.1 = some p.2) → Fr g L g₂ m → g₂.get? dn = none → Ord5 dn dd de cdt co → goal) : goal := by
  have N0 : News g L s.heap [(co, instObj 38 cdt), (cdt, dictOf [en w "ops" t1 (.ref ot), en w "begins" t2 bv] 2), (de, instObj 418 dd), (dd, dictOf [en w "do" t3 (.ref f1), en w "test" t4 (.ref f2), en w "number" t5 (.ref f3), en w "put" t6 (.ref f4)] 4), (dn, listOf #[] 0)] := by
    intro p hp
    simp only [List.mem_cons, List.not_mem_nil, or_false] at hp
    rcases hp with rfl | rfl | rfl | rfl | rfl
    · exact N _ h1
    · exact N _ h2
    · exact N _ h3
    · exact N _ h4
    · exact N _ h5
  obtain ⟨FG, BG, st, _⟩ := groundX (s := s) (R := fun _ _ => True) B F N0 hA hf hke
  refine K _ BG ⟨fun _ _ e => of_hideAll _ e, Nat.le_of_eq (hideAll_size _ _), fun p hp => ⟨(N0 p hp).1, hideAll_none _ (List.mem_map_of_mem hp)⟩⟩ st (fun p hp hn => hideAll_get _ (N p hp).1 fun q => ?_) FG (hideAll_none _ (by simp)) O
  obtain ⟨n1, n2, n3, n4, n5⟩ := hn
  simp only [List.map_cons, List.map_nil, List.mem_cons, List.not_mem_nil, or_false] at q
  rcases q with q | q | q | q | q
  · exact n1 q
  · exact n2 q
  · exact n3 q
  · exact n4 q
  · exact n5 q
theorem ne_of_news {g h : Heap} {L a b : Addr} {o o' : Obj} {news : List (Addr × Obj)} (N : News g L h news) (m1 : (a, o) ∈ news) (m2 : (b, o') ∈ news) (hc : o.cls ≠ o'.cls) : a ≠ b := fun q => by
  have h1 := (N _ m1).1
  have h2 := (N _ m2).1
  simp only at h1 h2
  rw [q, h2] at h1; cases h1; exact hc rfl
theorem cls_ne1 {C : Addr} {x : String} : Value.type x ≠ Value.ref C := by intro h; cases h
theorem cls_ne2 : Value.type "tuple" ≠ Value.type "dict" := by intro h; injection h with h; exact absurd h (by decide)
theorem cls_ne3 : Value.type "tuple" ≠ Value.type "list" := by intro h; injection h with h; exact absurd h (by decide)
theorem of_K2 {g₂ : Heap} {c : Addr} {o : Obj} {v : Option Value} {news : List (Addr × Obj)} {co cdt de dd dn : Addr} (_d : o.data = .cell v) (K2 : ∀ p ∈ news, (p.1 ≠ co ∧ p.1 ≠ cdt ∧ p.1 ≠ de ∧ p.1 ≠ dd ∧ p.1 ≠ dn) → g₂.get? p.1 = some p.2) (hm : (c, o) ∈ news) (hn : c ≠ co ∧ c ≠ cdt ∧ c ≠ de ∧ c ≠ dd ∧ c ≠ dn) : g₂.get? c = some o := K2 (c, o) hm hn
theorem ground_kts {A₀ : Around} {base g G B h₅ : Heap} {outer : List Env} {env : Env} {L : Addr} {m : Str → Option Value} (K : Below A₀ base outer g) (F : Fr g L G m) (hf : env.frame = some L)
    (hBG : ∀ b o, b ∉ frs (env :: outer) → G.get? b = some o → B.get? b = some o) (hBh : B.StaysIn h₅) (hsm : G.UpToSlots h₅) :
    ∃ g', KtsTurn (frs outer) g g' ∧ Fr g' L h₅ m ∧ Below A₀ base outer g' := by
  have hmem : ∀ b, b ∈ frs (env :: outer) → b = L ∨ b ∈ frs outer := fun b hm => by
    obtain ⟨e, he, hb⟩ := List.mem_filterMap.mp hm
    rcases List.mem_cons.mp he with rfl | he
    · rw [hf] at hb; exact .inl (Option.some.inj hb).symm
    · exact .inr (List.mem_filterMap.mpr ⟨e, he, hb⟩)
  obtain ⟨T, S⟩ := kts_turn_at (h := h₅) (fs := frs outer) (g := g)
    (fun b hb => by
      obtain ⟨_, o, ho, _⟩ := K.frames.mem hb
      exact ⟨o, ho⟩)
    (fun b o e nm => hBh b o (hBG b o (fun hm => by
      rcases hmem b hm with z | z
      · rw [z, kts_self F] at e
        cases e
      · exact nm z) (F.keep b o e)))
    (fun b o e hm => by
      obtain ⟨_, o', ho', hd⟩ := K.frames.mem hm
      rw [e] at ho'
      cases ho'
      exact hsm b o (F.keep b o e) hd)
  refine ⟨_, T, ⟨hsm.ns F.ns, S, by rw [T.size]; exact F.above⟩, ⟨K.stack, fun b o e => T.other b o (K.stays b o e) (fun hm => by
    rw [(K.frames.mem hm).1] at e
    cases e), K.frames.of_keeps fun b o e _ => ?_⟩⟩
  obtain ⟨sl, hs⟩ := T.up e
  exact ⟨_, hs, rfl⟩
/-- what the ledger says after the run -/
theorem news_after {g g' h h9 : Heap} {L dn : Addr} {x X o1 o2 ot : Obj} {news : List (Addr × Obj)} (N : News g L h news) (hn : ∀ b, g.get? b = none → g'.get? b = none) (hd : (dn, x) ∈ news) (hdn : h9.get? dn = some X)
    (m1 : (L + 1 + 1, o1) ∈ news) (g1 : h9.get? (L + 1 + 1) = some o1) (m2 : (L + 1, o2) ∈ news) (g2 : h9.get? (L + 1) = some o2) (m3 : (463, ot) ∈ news) (g3 : h9.get? 463 = some ot) : News g' L h9 [(dn, X), (L + 1 + 1, o1), (L + 1, o2), (463, ot)] := fun p hp => by
  simp only [List.mem_cons, List.not_mem_nil, or_false] at hp
  rcases hp with rfl | rfl | rfl | rfl
  · exact ⟨hdn, (N _ hd).2.1, hn _ (N _ hd).2.2⟩
  · exact ⟨g1, (N _ m1).2.1, hn _ (N _ m1).2.2⟩
  · exact ⟨g2, (N _ m2).2.1, hn _ (N _ m2).2.2⟩
  · exact ⟨g3, (N _ m3).2.1, hn _ (N _ m3).2.2⟩
theorem after_use {g g' h h9 : Heap} {L dn dd de cdt co : Addr} {x X o1 o2 ot : Obj} {news : List (Addr × Obj)} {goal : Prop} (N : News g L h news) (hn : ∀ b, g.get? b = none → g'.get? b = none)
    (K9 : ∀ p ∈ news, Ne5 p.1 dn dd de cdt co → h9.get? p.1 = some p.2) (O : Ord5 dn dd de cdt co) (lq : @LT.lt Nat instLTNat (L + 1 + 1) dn ∧ @LT.lt Nat instLTNat (L + 1) dn ∧ @LT.lt Nat instLTNat 463 dn) (hd : (dn, x) ∈ news) (hdn : h9.get? dn = some X)
    (m1 : (L + 1 + 1, o1) ∈ news) (m2 : (L + 1, o2) ∈ news) (m3 : (463, ot) ∈ news) (K : News g' L h9 [(dn, X), (L + 1 + 1, o1), (L + 1, o2), (463, ot)] → goal) : goal :=
  K (news_after N hn hd hdn m1 (K9 _ m1 (ne5_lt lq.1 O)) m2 (K9 _ m2 (ne5_lt lq.2.1 O)) m3 (K9 _ m3 (ne5_lt lq.2.2 O)))
noncomputable abbrev qDo : Str := "_law_run.<locals>.do_one"
noncomputable abbrev qIs : Str := "_law_run.<locals>.is_so"
noncomputable abbrev qLa : Str := "_law_run.<locals>.<lambda>"
noncomputable def RTab (h : Heap) (ps : Array Value) : Prop := ps = #[] ∨ ∃ c1 c2 c3 c4, ps = #[rawInt (280 : Int), rawInt (4 : Int), .ref c1, rawInt (285 : Int), rawInt (4 : Int), .ref c2, rawInt (287 : Int), rawInt (33 : Int), .ref c3, rawInt (287 : Int), rawInt (61 : Int), .ref c4] ∧
  h.CodeRec (.ref c1) qDo ∧ h.CodeRec (.ref c2) qIs ∧ h.CodeRec (.ref c3) qLa ∧ h.CodeRec (.ref c4) qLa
theorem tups_up {h h' : Heap} (k : h.UpToSlots h') : Tups h h' := fun b xs ⟨o, ho, hc, n, hd⟩ => by
  obtain ⟨sl, hs⟩ := k b o ho (fun vs q => by rw [hd] at q; cases q)
  exact ⟨_, hs, hc, n, hd⟩
theorem newTup_end {M : Model} {A : Around} {E : Value → Shared → Prop} {s : Shared} {vs : List Value} {Q : Value → Shared → Prop} (hz : vs.length ≤ sizeLine)
    (h : ∀ r h', s.heap.StaysIn h' → h'.get? r = some { cls := .type "tuple", data := .seq vs.toArray } → s.heap.get? r = none → (∀ b o, s.heap.get? b = some o → b < r) → Q (.ref r) { s with heap := h' }) : wpAny M A (newTuple vs) Q E s :=
  wpAny_newObj_type (h s.heap.objs.size _ (fun _ _ e => Heap.get?_push_of_some _ e) (Heap.get?_push_size _ rfl) (by
    cases q : s.heap.get? s.heap.objs.size with
    | none => rfl
    | some o => exact absurd (Heap.lt_size q) (Nat.lt_irrefl _)) (fun b o e => Heap.lt_size e)) (by show vs.toArray.size ≤ sizeLine; rw [List.size_toArray]; exact hz)
theorem run_post {g g' h9 h' : Heap} {fs : List Addr} {L r : Addr} {m : Str → Option Value} (T9 : KtsTurn fs g g') (F : Fr g' L h9 m) (hk : h9.StaysIn h') (hr : h9.get? r = none) :
    (∀ b o, b ∉ fs → g.get? b = some o → h'.get? b = some o) ∧ g.UpToSlots h' ∧ g.get? r = none := by
  refine ⟨fun b o hb e => hk _ _ (F.keep _ _ (T9.other b o e hb)), fun b o e _ => ?_, ?_⟩
  · obtain ⟨sl, hs⟩ := T9.up e
    exact ⟨sl, hk _ _ (F.keep _ _ hs)⟩
  · cases q : g.get? r with
    | none => rfl
    | some o =>
      obtain ⟨sl, hs⟩ := T9.up q
      rw [F.keep _ _ hs] at hr; cases hr
theorem rec_of {h : Heap} {c : Addr} {oc : Obj} {vs : Array Value} {q q' : Str} {t : Tok} (hg : h.get? c = some oc) (hd : oc.data = .fields vs) (hq : vs[1]? = some (.str q' t)) (he : q' = q) : h.CodeRec (.ref c) q := by
  subst he; exact ⟨_, _, _, _, rfl, hg, hd, hq⟩
theorem fresh_of {g h : Heap} {L a : Addr} {x : Obj} {news : List (Addr × Obj)} (N : News g L h news) (m : (a, x) ∈ news) : g.get? a = none := (N _ m).2.2
theorem rec_keep {A₀ : Around} {base g h' : Heap} {outer : List Env} {cd : Value} {q : Str} (B : Below A₀ base outer g) (x : g.CodeRec cd q) (k : ∀ b o, b ∉ frs outer → g.get? b = some o → h'.get? b = some o) : h'.CodeRec cd q := by
  obtain ⟨c, o, vs, t, e, hg, hd, hq⟩ := x
  refine ⟨c, o, vs, t, e, k _ _ (fun hm => ?_) hg, hd, hq⟩
  obtain ⟨_, o', ho', hn⟩ := B.frames.mem hm
  rw [hg] at ho'; cases ho'
  exact hn _ hd
theorem off_frs {A₀ : Around} {base g h : Heap} {outer : List Env} {env : Env} {L : Addr} {news : List (Addr × Obj)} (K : Below A₀ base outer g) (N : News g L h news) (hf : env.frame = some L) : ∀ p ∈ news, p.1 ∉ frs (env :: outer) := fun p hp hm => by
  obtain ⟨e, he, hb⟩ := List.mem_filterMap.mp hm
  rcases List.mem_cons.mp he with rfl | he
  · rw [hf] at hb; exact (N p hp).2.1 (Option.some.inj hb).symm
  · obtain ⟨_, o, ho, _⟩ := K.frames.mem (List.mem_filterMap.mpr ⟨e, he, hb⟩)
    rw [(N p hp).2.2] at ho; cases ho
theorem news0 {g h : Heap} {L : Addr} : News g L h [] := fun _ hq => nomatch hq
theorem news1 {g h : Heap} {L : Addr} {p : Addr × Obj} {l : List (Addr × Obj)} (x : h.get? p.1 = some p.2 ∧ p.1 ≠ L ∧ g.get? p.1 = none) (r : News g L h l) : News g L h (p :: l) := fun q hq => by
  rcases List.mem_cons.mp hq with rfl | hq
  · exact x
  · exact r q hq
/-- behind the making of the closures and of the deeds -/
noncomputable def MidOk (prog : Program) (w : World) (g : Heap) (outer : List Env) (L : Addr) (m0 : Str → Option Value) (kf : Nat → Str) (tf : Bool → Nat → Bool) (dn : Addr) (o1 o2 : Obj) (h' : Heap) (de dd f1 f2 f3 f4 : Addr) (t3 t4 t5 t6 : Tok) (ps' : Array Value) (ex : List (Addr × Obj)) : Prop :=
  Fr g L h' (fun y => if y = Str.ofString "deeds" then some (.ref de) else if y = Str.ofString "is_so" then some (.ref f2) else if y = Str.ofString "do_one" then some (.ref f1) else m0 y) ∧
  News g L h' ((de, instObj 418 dd) :: (dd, dictOf [en w "do" t3 (.ref f1), en w "test" t4 (.ref f2), en w "number" t5 (.ref f3), en w "put" t6 (.ref f4)] 4) :: (dn, listOf #[] 0) :: (L + 1 + 1, o2) :: (L + 1, o1) :: (463, tabObj ps') :: ex) ∧
  (@LT.lt Nat instLTNat dn dd ∧ @LT.lt Nat instLTNat dd de) ∧ (∀ p ∈ ex, p.1 ≠ dn ∧ @LT.lt Nat instLTNat p.1 dd) ∧
  (∀ g₂, g.StaysIn g₂ → (∀ p ∈ ex, g₂.get? p.1 = some p.2) → g₂.get? (L + 1) = some o1 → g₂.get? (L + 1 + 1) = some o2 → g₂.get? dn = none → DoAt prog w g₂ f1 dn kf ∧ IsAt prog w g₂ f2 dn tf) ∧
  (∀ h'', (∀ b o, b ∉ frs outer → g.get? b = some o → h''.get? b = some o) → (∀ p ∈ ex, h''.get? p.1 = some p.2) → RTab h'' ps')
structure RunMid (prog : Program) (w : World) (g : Heap) (outer : List Env) (L : Addr) (m0 : Str → Option Value) (kf : Nat → Str) (tf : Bool → Nat → Bool) (dn : Addr) (o1 o2 : Obj) (s s' : Shared) : Prop where
  ok : ∃ h' tk de dd f1 f2 f3 f4 t3 t4 t5 t6 ps' a1 x1 a2 x2 a3 x3 a4 x4 a5 x5 a6 x6, s' = { s with heap := h', toks := tk } ∧ MidOk prog w g outer L m0 kf tf dn o1 o2 h' de dd f1 f2 f3 f4 t3 t4 t5 t6 ps' [(a1, x1), (a2, x2), (a3, x3), (a4, x4), (a5, x5), (a6, x6)]
theorem ex_nil {R : Addr × Obj → Prop} : ∀ p ∈ ([] : List (Addr × Obj)), R p := fun _ h => nomatch h
theorem ex_cons {R : Addr × Obj → Prop} {x : Addr × Obj} {xs : List (Addr × Obj)} (h : R x) (t : ∀ p ∈ xs, R p) : ∀ p ∈ x :: xs, R p := fun p hp => by
  rcases List.mem_cons.mp hp with rfl | hp
  · exact h
  · exact t p hp
theorem run_stage {prog : Program} {w : World} {M : Model} {A : Around} {E : Value → Shared → Prop} {s : Shared} {g : Heap} {outer : List Env} {L cl dn : Addr} {m0 : Str → Option Value} {kf : Nat → Str} {tf : Bool → Nat → Bool} {o1 o2 : Obj} {S1 S2 S3 : Stmt} {rest : List Stmt} {env : Env} {Q : Flow → Shared → Prop}
    (_F : Fr g L s.heap m0) (_e1 : o1.data = .cell (some (.ref cl))) (_e2 : o2.data = .cell (some (.ref dn)))
    (h1 : wpAny M A (exec S1 env) (fun f s1 => f = .next ∧ wpAny M A (exec S2 env) (fun f s2 => f = .next ∧ wpAny M A (exec S3 env) (fun f s3 => f = .next ∧ RunMid prog w g outer L m0 kf tf dn o1 o2 s s3) (fun _ _ => False) s2) (fun _ _ => False) s1) (fun _ _ => False) s)
    (h2 : ∀ h' tk de dd f1 f2 f3 f4 t3 t4 t5 t6 ps' a1 x1 a2 x2 a3 x3 a4 x4 a5 x5 a6 x6,
      Fr g L h' (fun y => if y = Str.ofString "deeds" then some (.ref de) else if y = Str.ofString "is_so" then some (.ref f2) else if y = Str.ofString "do_one" then some (.ref f1) else m0 y) →
      News g L h' ((de, instObj 418 dd) :: (dd, dictOf [en w "do" t3 (.ref f1), en w "test" t4 (.ref f2), en w "number" t5 (.ref f3), en w "put" t6 (.ref f4)] 4) :: (dn, listOf #[] 0) :: (L + 1 + 1, o2) :: (L + 1, o1) :: (463, tabObj ps') :: [(a1, x1), (a2, x2), (a3, x3), (a4, x4), (a5, x5), (a6, x6)]) →
      @LT.lt Nat instLTNat dn dd → @LT.lt Nat instLTNat dd de → (∀ p ∈ ([(a1, x1), (a2, x2), (a3, x3), (a4, x4), (a5, x5), (a6, x6)] : List (Addr × Obj)), p.1 ≠ dn ∧ @LT.lt Nat instLTNat p.1 dd) →
      (∀ g₂, g.StaysIn g₂ → (∀ p ∈ ([(a1, x1), (a2, x2), (a3, x3), (a4, x4), (a5, x5), (a6, x6)] : List (Addr × Obj)), g₂.get? p.1 = some p.2) → g₂.get? (L + 1) = some o1 → g₂.get? (L + 1 + 1) = some o2 → g₂.get? dn = none → DoAt prog w g₂ f1 dn kf ∧ IsAt prog w g₂ f2 dn tf) →
      (∀ h'', (∀ b o, b ∉ frs outer → g.get? b = some o → h''.get? b = some o) → (∀ p ∈ ([(a1, x1), (a2, x2), (a3, x3), (a4, x4), (a5, x5), (a6, x6)] : List (Addr × Obj)), h''.get? p.1 = some p.2) → RTab h'' ps') →
      wpAny M A (execs rest env) Q E { s with heap := h', toks := tk }) : wpAny M A (execs (S1 :: S2 :: S3 :: rest) env) Q E s := by
  refine wpAny_execs_cons (wpAny_mono h1 (fun f s1 q => ?_) fun _ _ x => x.elim)
  obtain ⟨rfl, q⟩ := q
  refine wpAny_execs_cons (wpAny_mono q (fun f s2 q => ?_) fun _ _ x => x.elim)
  obtain ⟨rfl, q⟩ := q
  refine wpAny_execs_cons (wpAny_mono q (fun f s3 q => ?_) fun _ _ x => x.elim)
  obtain ⟨rfl, ⟨h', tk, de, dd, f1, f2, f3, f4, t3, t4, t5, t6, ps', a1, x1, a2, x2, a3, x3, a4, x4, a5, x5, a6, x6, rfl, F, N, ⟨O1, O2⟩, hex, KD, KR⟩⟩ := q
  exact h2 h' tk de dd f1 f2 f3 f4 t3 t4 t5 t6 ps' a1 x1 a2 x2 a3 x3 a4 x4 a5 x5 a6 x6 F N O1 O2 hex KD KR
theorem wordsLr11 : True := by
  k_with_none
  w_top off
  k_with "pb_lt" => (first | (with_reducible assumption) | (refine' lt_use (by with_reducible assumption) ?_; (repeat (first | with_reducible exact And.left | with_reducible exact id | with_reducible refine' lt_skip ?_)); done))
  trivial
theorem wordsLr12 : True := by
  k_with "execs cons" => (k_here; k_dflt (refine' execs_hide ?_); intro P9zz tk8zz hP9zz; (try dsimp only))
  trivial
theorem wordsLr13 : True := by
  k_with "pb_steps" => (repeat' (first | (walk_at "pb_hp") | (k_unfold; (try dsimp only)) | walk1 | (dsimp only; walk1) | fail "no step"))
  k_with "pb_to401" => (repeat' (first | (walk_at "pb_hp") | (k_unfold; (try dsimp only)) | ((fail_if_success (with_reducible show wpAny _ _ (PySem.call (Value.ref 401) _) _ _ _)); walk1) | (dsimp only; (fail_if_success (with_reducible show wpAny _ _ (PySem.call (Value.ref 401) _) _ _ _)); walk1) | fail "no step"))
  k_with "pb_toX" => (repeat' (first | (walk_at "pb_hp") | (k_unfold; (try dsimp only)) | ((fail_if_success (with_reducible show wpAny _ _ (execs (_ :: _ :: _) _) _ _ _)); walk1) | (dsimp only; (fail_if_success (with_reducible show wpAny _ _ (execs (_ :: _ :: _) _) _ _ _)); walk1) | fail "no step"))
  k_with "pb_toT" => (repeat' (first | (walk_at "pb_hp") | (k_unfold; (try dsimp only)) | ((fail_if_success (with_reducible show wpAny _ _ (newTuple _) _ _ _)); walk1) | (dsimp only; (fail_if_success (with_reducible show wpAny _ _ (newTuple _) _ _ _)); walk1) | fail "no step"))
  k_with "pb_enterM" => (refine' enterC (by with_reducible assumption) (by k_asm) (by exact topRead_of (by with_reducible assumption)) (by k_is) (by k_is) (by first | exact dlt0 (by with_reducible assumption) | exact dltk (by with_reducible assumption) (by decide) | exact dlt1 (by with_reducible assumption) (by decide) | omega | (dsimp only; omega)) (by first | exact BindsTo.of_eq (binds := [(Str.ofString _, _), (Str.ofString _, _), (Str.ofString _, _)]) rfl | exact BindsTo.of_eq (binds := [(Str.ofString _, _), (Str.ofString _, _)]) rfl | exact BindsTo.of_eq (binds := [(Str.ofString _, _)]) rfl | exact BindsTo.of_eq rfl) (by exact rfl) (by decide +kernel) ?_ (by exact rfl) (by exact rfl) (by exact rfl); k_whole; intro Lzz' hzz' tkzz' cellszz' Fzz' Nzz' Yzz' l1zz stzz' zzz'; k_cells Yzz'; (try simp only [List.cons_append, List.nil_append, List.append_nil] at Nzz'); (try dsimp only); (try k_fold))
  trivial
theorem wordsLr14 : True := by
  k_with "eval Name" => (k_here; (with_reducible rename Fr _ _ _ _ => kFzz); k_dflt (refine' nameC_F kFzz (by rfl) (by rfl) (by rfl) (by decide) (by decide) (by with_reducible assumption) (by with_reducible assumption) ?_; k_whole))
  k_with "call builtin:list.append" => (k_here; (with_reducible show wpAny _ _ (PySem.call (Value.builtin _) [Value.ref _, _]) _ _ _); k_dflt (refine' append_K (by k_asm) (by k_asm) (by k_upd) ?_ (by (rw [sizeLine_eq]; simp; omega)); k_whole); intro hzz' Fzz' Nzz'; (try k_sweep))
  trivial
theorem lawrun_c {prog : Program} {w : World} {A : Around} {E : Value → Shared → Prop} {s : Shared} {base g : Heap} {outer : List Env} {p : Program} {loose : List Str} {mean : ExcName → Option Value} {mg mb : Str → Option Value} {Q : Value → Shared → Prop}
    {a cl : Addr} {ops : List Op} {vs cs : List Value} {ns : List Int} {ps : Array Value}
    (B : Below A base outer g) (XB : (hd.heap_39 w.params).In base) (TB : Top p loose mean mg mb base) (CB : CodeHd base 467 463) (G : Apart g s.heap [(463, tabObj ps)]) (R : RTab g ps) (hh : A.handled = none) (hdp : A.depth + 100 < recursionLimit) (hu : A.units + 1000 < cLine)
    (hl : g.IsList a vs.toArray) (hds : DAll g vs (ops.map Op.d)) (hn : ops.length < 900) (hcl : g.IsList cl cs.toArray) (hi : IntsAre cs ns) (h1 : 1 ≤ ns.length) (h2 : ns.length ≤ 60)
    (hlast : ∀ o ∈ ops, o.last < 1000) (hpl : ∀ o ∈ ops, plainOp o = true) (hst0 : ∀ o ∈ ops, stopOk o = true)
    (hQ : ∀ r h' tk u dn' n wd d ys ps', runRes (kfOf ns) (tfOf ns) ops 40 (.go 0 noS []) = (wd, d) → (∀ b o, b ∉ frs outer → g.get? b = some o → h'.get? b = some o) → g.UpToSlots h' → h'.get? r = some { cls := .type "tuple", data := .seq [Value.str wd u, .ref dn'].toArray } → h'.get? dn' = some (listOf ys.toArray n) → DAll h' ys d →
      h'.get? 463 = some (tabObj ps') → RTab h' ps' → g.get? r = none → g.get? dn' = none → @LT.lt Nat instLTNat 463 dn' → @LT.lt Nat instLTNat dn' r → Q (.ref r) { s with heap := h', toks := tk }) :
    wpAny (model prog w) A (call (.ref 468) [.ref a, .ref cl]) Q E s := by
  have X := XB.keeps B.stays
  have T := TB.keeps B.stays
  have hCH := CB.keeps B.stays
  have hlen := hds.length
  rw [List.length_map] at hlen
  obtain ⟨ah, dp, fr, gd, un⟩ := A
  dsimp only at hh hdp hu
  subst hh
  obtain rfl : fr = some outer := B.stack
  walk_at "pb_enterM"
  rename ∀ p ∈ [(463, tabObj _)], _ => l2
  rename s.heap.StaysIn _ => st2
  rename s.heap.objs.size ≤ _ => z2
  have l463 : @LT.lt Nat instLTNat 463 _ := l2 _ (.head _)
  have la := lt_s1 l463
  have lb := lt_s2 l463
  clear l2 st2 z2
  rename _ = Data.cell _ => d2
  revert d2
  rename _ = Data.cell _ => d1
  intro d2
  replace d2 : _ = Data.cell (some (Value.ref cl)) := d2
  replace d1 : _ = Data.cell none := d1
  refine' execs_hide ?_
  intro P1 tk7 hP1
  (try dsimp only)
  walk_at "pb_toX"
  rename _ = Data.cell (some (Value.ref _)) => d4
  rename Fr _ _ _ _ => F0
  rename _ ∧ _ => lq
  refine run_stage (prog := prog) (w := w) (kf := kfOf ns) (tf := tfOf ns) (outer := outer) F0 d2 d4 ?zst ?ztl
  case zst =>
    clear hQ
    rcases R with rfl | ⟨c1, c2, c3, c4, rfl, H1, H2, H3, H4⟩
    · walk_at "pb_steps"
      · trivial
      rename Fr _ _ _ _ => F
      rename News _ _ _ _ => N
      refine ⟨⟨_, _, _, _, _, _, _, _, _, _, _, _, _, _, _, _, _, _, _, _, _, _, _, _, _, rfl, F, news1 (N _ (.head _)) (news1 (N _ (.tail _ (.head _))) (news1 (N _ (.tail _ (.tail _ (.tail _ (.tail _ (.tail _ (.tail _ (.tail _ (.tail _ (.tail _ (.tail _ (.head _)))))))))))) (news1 (N _ (.tail _ (.tail _ (.tail _ (.tail _ (.tail _ (.tail _ (.tail _ (.tail _ (.tail _ (.tail _ (.tail _ (.head _))))))))))))) (news1 (N _ (.tail _ (.tail _ (.tail _ (.tail _ (.tail _ (.tail _ (.tail _ (.tail _ (.tail _ (.tail _ (.tail _ (.tail _ (.head _)))))))))))))) (news1 (N _ (.tail _ (.tail _ (.tail _ (.tail _ (.tail _ (.tail _ (.tail _ (.tail _ (.tail _ (.tail _ (.tail _ (.tail _ (.tail _ (.head _))))))))))))))) (news1 (N _ (.tail _ (.tail _ (.tail _ (.tail _ (.tail _ (.tail _ (.head _)))))))) (news1 (N _ (.tail _ (.tail _ (.tail _ (.tail _ (.tail _ (.tail _ (.tail _ (.head _))))))))) (news1 (N _ (.tail _ (.tail _ (.tail _ (.tail _ (.tail _ (.tail _ (.tail _ (.tail _ (.head _)))))))))) (news1 (N _ (.tail _ (.tail _ (.tail _ (.tail _ (.tail _ (.tail _ (.tail _ (.tail _ (.tail _ (.head _))))))))))) (news1 (N _ (.tail _ (.tail _ (.tail _ (.tail _ (.tail _ (.head _))))))) (news1 (N _ (.tail _ (.tail _ (.tail _ (.head _))))) news0))))))))))), ⟨?_, ?_⟩, ?_, ?_, ?_⟩⟩
      · refine ltN ?_; omega
      · refine ltN ?_; omega
      · exact ex_cons ⟨by k_ne, by first | walk_at "pb_lt" | (refine ltN ?_; omega)⟩ (ex_cons ⟨by k_ne, by first | walk_at "pb_lt" | (refine ltN ?_; omega)⟩ (ex_cons ⟨by k_ne, by first | walk_at "pb_lt" | (refine ltN ?_; omega)⟩ (ex_cons ⟨by k_ne, by first | walk_at "pb_lt" | (refine ltN ?_; omega)⟩ (ex_cons ⟨by k_ne, by first | walk_at "pb_lt" | (refine ltN ?_; omega)⟩ (ex_cons ⟨by k_ne, by first | walk_at "pb_lt" | (refine ltN ?_; omega)⟩ ex_nil)))))
      · intro g₂ st2 hx y1 y2 hdn0
        have X2 := X.keeps st2
        have T2 := topRead_of (T.keeps st2)
        have hc2 := hcl.at fun o e => st2 _ _ e
        exact ⟨doone_c (cl := cl) (cs := cs) ⟨_, _, _, _, _, _, _, _, _, _, _, _, _, _, by k_is⟩ X2 T2 (hx _ (.tail _ (.tail _ (.head _)))) (hx _ (.tail _ (.tail _ (.tail _ (.head _))))) (by with_reducible assumption) (by with_reducible assumption) y1 d2 y2 d4 hc2 hi h1 h2 hdn0,
          isso_c (cl := cl) (cs := cs) ⟨_, _, _, _, _, _, _, _, _, _, _, _, _, _, by k_is⟩ X2 T2 (hx _ (.head _)) (hx _ (.tail _ (.head _))) (by with_reducible assumption) (by with_reducible assumption) y1 d2 y2 d4 hc2 hi h1 h2 hdn0⟩
      · intro h'' hk hx
        exact .inr ⟨_, _, _, _, rfl, rec_of (hx _ (.tail _ (.tail _ (.tail _ (.head _))))) (by with_reducible assumption) (by with_reducible assumption) (by exact rfl), rec_of (hx _ (.tail _ (.head _))) (by with_reducible assumption) (by with_reducible assumption) (by exact rfl), rec_of (hx _ (.tail _ (.tail _ (.tail _ (.tail _ (.head _)))))) (by with_reducible assumption) (by with_reducible assumption) (by exact rfl), rec_of (hx _ (.tail _ (.tail _ (.tail _ (.tail _ (.tail _ (.head _))))))) (by with_reducible assumption) (by with_reducible assumption) (by exact rfl)⟩
    · obtain ⟨cc1, ox1, vx1, tx1, ex1, gx1, dx1, qx1⟩ := id H1
      cases ex1
      obtain ⟨cc2, ox2, vx2, tx2, ex2, gx2, dx2, qx2⟩ := id H2
      cases ex2
      walk_at "pb_steps"
      · trivial
      rename Fr _ _ _ _ => F
      rename News _ _ _ _ => N
      refine ⟨⟨_, _, _, _, _, _, _, _, _, _, _, _, _, _, _, _, _, _, _, _, _, _, _, _, _, rfl, F, news1 (N _ (.head _)) (news1 (N _ (.tail _ (.head _))) (news1 (N _ (.tail _ (.tail _ (.tail _ (.tail _ (.tail _ (.tail _ (.head _)))))))) (news1 (N _ (.tail _ (.tail _ (.tail _ (.tail _ (.tail _ (.tail _ (.tail _ (.head _))))))))) (news1 (N _ (.tail _ (.tail _ (.tail _ (.tail _ (.tail _ (.tail _ (.tail _ (.tail _ (.head _)))))))))) (news1 (N _ (.tail _ (.tail _ (.tail _ (.tail _ (.tail _ (.tail _ (.tail _ (.tail _ (.tail _ (.head _))))))))))) (news1 (N _ (.tail _ (.tail _ (.tail _ (.tail _ (.head _)))))) (news1 (N _ (.tail _ (.tail _ (.tail _ (.tail _ (.tail _ (.head _))))))) (news1 (N _ (.tail _ (.tail _ (.tail _ (.tail _ (.head _)))))) (news1 (N _ (.tail _ (.tail _ (.tail _ (.tail _ (.tail _ (.head _))))))) (news1 (N _ (.tail _ (.tail _ (.tail _ (.tail _ (.head _)))))) (news1 (N _ (.tail _ (.tail _ (.tail _ (.tail _ (.tail _ (.head _))))))) news0))))))))))), ⟨?_, ?_⟩, ?_, ?_, ?_⟩⟩
      · refine ltN ?_; omega
      · refine ltN ?_; omega
      · exact ex_cons ⟨by k_ne, by first | walk_at "pb_lt" | (refine ltN ?_; omega)⟩ (ex_cons ⟨by k_ne, by first | walk_at "pb_lt" | (refine ltN ?_; omega)⟩ (ex_cons ⟨by k_ne, by first | walk_at "pb_lt" | (refine ltN ?_; omega)⟩ (ex_cons ⟨by k_ne, by first | walk_at "pb_lt" | (refine ltN ?_; omega)⟩ (ex_cons ⟨by k_ne, by first | walk_at "pb_lt" | (refine ltN ?_; omega)⟩ (ex_cons ⟨by k_ne, by first | walk_at "pb_lt" | (refine ltN ?_; omega)⟩ ex_nil)))))
      · intro g₂ st2 hx y1 y2 hdn0
        have X2 := X.keeps st2
        have T2 := topRead_of (T.keeps st2)
        have hc2 := hcl.at fun o e => st2 _ _ e
        exact ⟨doone_c (cl := cl) (cs := cs) ⟨_, _, _, _, _, _, _, _, _, _, _, _, _, _, by k_is⟩ X2 T2 (hx _ (.tail _ (.head _))) (st2 _ _ gx1) dx1 qx1 y1 d2 y2 d4 hc2 hi h1 h2 hdn0,
          isso_c (cl := cl) (cs := cs) ⟨_, _, _, _, _, _, _, _, _, _, _, _, _, _, by k_is⟩ X2 T2 (hx _ (.head _)) (st2 _ _ gx2) dx2 qx2 y1 d2 y2 d4 hc2 hi h1 h2 hdn0⟩
      · intro h'' hk hx
        exact .inr ⟨_, _, _, _, rfl, rec_keep B H1 hk, rec_keep B H2 hk, rec_keep B H3 hk, rec_keep B H4 hk⟩
  case ztl =>
    clear F0
    rename News _ _ _ _ => N0
    clear N0
    intro h1' tk1 de dd f1 f2 f3 f4 t3 t4 t5 t6 ps' a1 x1 a2 x2 a3 x3 a4 x4 a5 x5 a6 x6 F1 N1 O1 O2 hex KD KR
    refine' execs_hide ?_
    intro P2 tk7 hP2
    (try dsimp only)
    refine wpAny_Try_except ?_
    walk_at "pb_to401"
    rename Fr _ _ _ _ => F
    rename News _ _ _ _ => N
    refine' use_run (w := w) B F N ?hA ?hf ?hke ?m1 ?m2 ?m3 ?m4 ?m5 ?O ?K
    case m1 => k_mem
    case m2 => k_mem
    case m3 => k_mem
    case m4 => k_mem
    case m5 => k_mem
    case O => exact ⟨O1, O2, by refine ltN ?_; omega, by refine ltN ?_; omega⟩
    case K =>
     intro g₂ B2 G2 st2 K2 FG hdn0 OO
     have KDg := KD g₂ st2 (fun p hp => K2 p (by repeat (first | exact hp | refine List.Mem.tail _ ?_)) (ne5_of (hex p hp).1 (hex p hp).2 OO)) (K2 (_, _) (by k_mem) (ne5_lt lq.2.1 OO)) (K2 (_, _) (by k_mem) (ne5_lt lq.1 OO)) hdn0
     refine run_c (kf := kfOf ns) (tf := tfOf ns) (vs := vs) (ops := ops) B2 (X.keeps st2) (T.keeps st2) G2 OO rfl ?hd ?hu ?ot (hds.keeps st2) hn hlast hpl hst0 KDg.1 KDg.2 ?Q ?E
     case hd => (first | exact dlt1 (by with_reducible assumption) (by decide) | exact dltk (by with_reducible assumption) (by decide) | exact dlt2 (by with_reducible assumption) (by decide) | (simp only [Around.deeper]; omega))
     case hu => (first | exact dlt1 (by with_reducible assumption) (by decide) | exact dltk (by with_reducible assumption) (by decide) | exact dlt2 (by with_reducible assumption) (by decide) | (simp only [Around.deeper]; omega))
     case ot => exact ⟨_, K2 (_, { cls := .type "tuple", data := .seq vs.toArray }) (by k_mem) ⟨ne_of_news N (by k_mem) (by k_mem) cls_ne1, ne_of_news N (by k_mem) (by k_mem) cls_ne2, ne_of_news N (by k_mem) (by k_mem) cls_ne1, ne_of_news N (by k_mem) (by k_mem) cls_ne2, ne_of_news N (by k_mem) (by k_mem) cls_ne3⟩, rfl, _, rfl⟩
     case Q =>
       intro h9 tk9 u9 ys n9 wd d hrun hD hst hdn
       have F9 : Fr g _ h9 _ := ⟨FG.ns.keeps hst, fun b o e => hst b o (FG.keep b o e), FG.above⟩
       have K9 := fun p hp hn => hst _ _ (K2 p hp hn)
       refine after_use (g' := g) N (fun _ e => e) K9 OO lq (by k_mem) hdn (by k_mem) (by k_mem) (by k_mem) fun N9 => ?_
       walk_at "pb_toT"
       refine newTup_end (by rw [sizeLine_eq]; simp) fun r h' hk hr1 hr0 hlt => ?_
       obtain ⟨P1, P2, P3⟩ := run_post KtsTurn.refl F9 hk hr0
       exact hQ r h' _ _ _ n9 _ d ys _ hrun P1 P2 hr1 (hk _ _ hdn) ((hD.keeps hst).keeps hk) (hk _ _ (N9.get (a := 463) (by k_mem))) (KR h' P1 fun p hp => hk _ _ (K9 p (by repeat (first | exact hp | refine List.Mem.tail _ ?_)) (ne5_of (hex p hp).1 (hex p hp).2 OO))) P3 (fresh_of (x := W.listOf #[] 0) N (by k_mem)) lq.2.2 (hlt _ _ hdn)
     case E =>
       intro e9 Cx B9 a09 h9 tk9 ys n9 wd d hCx hwd hrun hD hfl hB9 hdn hsm
       refine catch_open rfl rfl hfl fun h5 hfl5 hsm5 => ?_
       obtain ⟨g5, T5, F5, B5⟩ := ground_kts B FG rfl hB9 hfl5.1 (hsm.trans hsm5)
       have X5 : (hd.heap_39 w.params).In h5 := (XB.keeps B5.stays).keeps F5.keep
       rcases hwd with ⟨rfl, rfl⟩ | ⟨rfl, rfl⟩
       · refine handle_V (b := false) X5 hCx (fault_step _) (by decide) hfl5 (fun A E Q q => ?_) (by passes_own) (fun _ => ?_) (fun q => by cases q)
         · exact nameC_K F5 rfl rfl rfl (by decide) (XB.keeps B5.stays) (topRead_of (TB.keeps B5.stays)) (by k_is) q
         refine handle_V (b := true) X5 hCx (fault_run _) (by decide) hfl5 (fun A E Q q => ?_) (by passes_own) (fun q => by cases q) (fun _ h6 hfl6 hsm6 => ?_)
         · exact nameC_K F5 rfl rfl rfl (by decide) (XB.keeps B5.stays) (topRead_of (TB.keeps B5.stays)) (by k_is) q
         obtain ⟨g6, T6, F6, B6⟩ := ground_kts B FG rfl hB9 hfl6.1 ((hsm.trans hsm5).trans hsm6)
         have U6 := (hsm.trans hsm5).trans hsm6
         have hdn6 := hfl6.1 _ _ hdn
         have K9 := fun p hp hn => hfl6.1 _ _ (hB9 _ _ (off_frs B N rfl p hp) (K2 p hp hn))
         have X6 := XB.keeps B6.stays
         have P6 := TB.keeps B6.stays
         refine after_use (g' := g6) N T6.none_ K9 OO lq (by k_mem) hdn6 (by k_mem) (by k_mem) (by k_mem) fun N9 => ?_
         walk_at "pb_toT"
         refine newTup_end (by rw [sizeLine_eq]; simp) fun r h' hk hr1 hr0 hlt => ?_
         obtain ⟨P1, P2, P3⟩ := run_post T6 F6 hk hr0
         exact hQ r h' _ _ _ n9 _ d ys _ hrun P1 P2 hr1 (hk _ _ hdn6) ((hD.tups (tups_up U6)).keeps hk) (hk _ _ (N9.get (a := 463) (by k_mem))) (KR h' P1 fun p hp => hk _ _ (K9 p (by repeat (first | exact hp | refine List.Mem.tail _ ?_)) (ne5_of (hex p hp).1 (hex p hp).2 OO))) P3 (fresh_of (x := W.listOf #[] 0) N (by k_mem)) lq.2.2 (hlt _ _ hdn6)
       · refine handle_V (b := true) X5 hCx (fault_step _) (by decide) hfl5 (fun A E Q q => ?_) (by passes_own) (fun q => by cases q) (fun _ h6 hfl6 hsm6 => ?_)
         · exact nameC_K F5 rfl rfl rfl (by decide) (XB.keeps B5.stays) (topRead_of (TB.keeps B5.stays)) (by k_is) q
         obtain ⟨g6, T6, F6, B6⟩ := ground_kts B FG rfl hB9 hfl6.1 ((hsm.trans hsm5).trans hsm6)
         have U6 := (hsm.trans hsm5).trans hsm6
         have hdn6 := hfl6.1 _ _ hdn
         have K9 := fun p hp hn => hfl6.1 _ _ (hB9 _ _ (off_frs B N rfl p hp) (K2 p hp hn))
         have X6 := XB.keeps B6.stays
         have P6 := TB.keeps B6.stays
         refine after_use (g' := g6) N T6.none_ K9 OO lq (by k_mem) hdn6 (by k_mem) (by k_mem) (by k_mem) fun N9 => ?_
         walk_at "pb_toT"
         refine newTup_end (by rw [sizeLine_eq]; simp) fun r h' hk hr1 hr0 hlt => ?_
         obtain ⟨P1, P2, P3⟩ := run_post T6 F6 hk hr0
         exact hQ r h' _ _ _ n9 _ d ys _ hrun P1 P2 hr1 (hk _ _ hdn6) ((hD.tups (tups_up U6)).keeps hk) (hk _ _ (N9.get (a := 463) (by k_mem))) (KR h' P1 fun p hp => hk _ _ (K9 p (by repeat (first | exact hp | refine List.Mem.tail _ ?_)) (ne5_of (hex p hp).1 (hex p hp).2 OO))) P3 (fresh_of (x := W.listOf #[] 0) N (by k_mem)) lq.2.2 (hlt _ _ hdn6)
    case hA => exact rfl
    case hf => exact rfl
    case hke => exact rfl

-- Run2
section
theorem RTab.mono {h h' : Heap} {ps : Array Value} (k : ∀ cd q, h.CodeRec cd q → h'.CodeRec cd q) (R : RTab h ps) : RTab h' ps := by
  rcases R with e | ⟨c1, c2, c3, c4, e, H1, H2, H3, H4⟩
  · exact .inl e
  · exact .inr ⟨c1, c2, c3, c4, e, k _ _ H1, k _ _ H2, k _ _ H3, k _ _ H4⟩
theorem rec_hide {h : Heap} {P : Addr} {ps : Array Value} (hP : h.get? P = some (tabObj ps)) (hn : ∀ q t, ps[1]? ≠ some (.str q t)) {cd : Value} {q : Str} (x : h.CodeRec cd q) : (hideAll h [P]).CodeRec cd q := by
  obtain ⟨c, o, vs, t, e, hg, hd, hq⟩ := x
  refine ⟨c, o, vs, t, e, hideAll_get _ hg fun m => ?_, hd, hq⟩
  rw [List.mem_singleton.mp m, hP] at hg; cases hg
  injection hd with hd
  subst hd
  exact hn _ _ hq
theorem RTab.no {h : Heap} {ps : Array Value} (R : RTab h ps) : ∀ q t, ps[1]? ≠ some (.str q t) := by
  rcases R with rfl | ⟨c1, c2, c3, c4, rfl, _⟩
  · intro q t e; simp at e
  · intro q t e; simp [rawInt] at e
theorem tab_tups {h : Heap} {P : Addr} {ps : Array Value} (hP : h.get? P = some (tabObj ps)) : Tups h (hideAll h [P]) := tups_hide fun b hb xs ⟨o, ho, hc, _⟩ => by
  rw [List.mem_singleton.mp hb, hP] at ho; cases ho
  cases hc
theorem tab_list {h : Heap} {P a : Addr} {ps its : Array Value} (hP : h.get? P = some (tabObj ps)) (x : h.IsList a its) : (hideAll h [P]).IsList a its := by
  have ha : a ≠ P := fun q => by
    obtain ⟨o, ho, hc, _⟩ := x
    rw [q, hP] at ho; cases ho
    cases hc
  exact x.at fun o e => hideAll_get _ e fun q => ha (List.mem_singleton.mp q)
theorem run_use {prog : Program} {w : World} {A A₀ : Around} {E : Value → Shared → Prop} {s : Shared} {base gc : Heap} {outer : List Env} {env : Env} {L : Addr} {m : Str → Option Value} {p : Program} {loose : List Str} {mean : ExcName → Option Value} {mg mb : Str → Option Value} {Q : Value → Shared → Prop}
    {a cl : Addr} {ops : List Op} {vs cs : List Value} {ns : List Int} {ps : Array Value}
    (K : Below A₀ base outer gc) (F : Fr gc L s.heap m) (hA : A.frames = some (env :: outer)) (hf : env.frame = some L) (hke : env.scope.kind = .function)
    (XB : (hd.heap_39 w.params).In base) (TB : Top p loose mean mg mb base) (CB : CodeHd base 467 463) (g4 : gc.get? 463 = none) (hP : s.heap.get? 463 = some (tabObj ps)) (R : RTab s.heap ps) (hh : A.handled = none) (hdp : A.depth + 100 < recursionLimit) (hu : A.units + 1000 < cLine)
    (hl : s.heap.IsList a vs.toArray) (hds : DAll s.heap vs (ops.map Op.d)) (hn : ops.length < 900) (hcl : s.heap.IsList cl cs.toArray) (hi : IntsAre cs ns) (h1 : 1 ≤ ns.length) (h2 : ns.length ≤ 60)
    (hlast : ∀ o ∈ ops, o.last < 1000) (hpl : ∀ o ∈ ops, plainOp o = true) (hst0 : ∀ o ∈ ops, stopOk o = true)
    (hQ : ∀ r h' tk u dn n wd d ys ps' g', runRes (kfOf ns) (tfOf ns) ops 40 (.go 0 noS []) = (wd, d) → KtsTurn (frs outer) gc g' → Below A₀ base outer g' → Fr g' L h' m →
      News g' L h' [(r, { cls := .type "tuple", data := .seq [Value.str wd u, .ref dn].toArray }), (dn, listOf ys.toArray n)] →
      (∀ b o, b ∉ frs (env :: outer) → b ≠ 463 → s.heap.get? b = some o → h'.get? b = some o) → (∀ b o, b ≠ 463 → s.heap.get? b = some o → (∀ vs, o.data ≠ .fields vs) → ∃ sl, h'.get? b = some { o with slots := sl }) → DAll h' ys d →
      h'.get? 463 = some (tabObj ps') → RTab h' ps' → (hideAll s.heap [463]).get? r = none → (hideAll s.heap [463]).get? dn = none → @LT.lt Nat instLTNat 463 dn → @LT.lt Nat instLTNat dn r → Q (.ref r) { s with heap := h', toks := tk }) :
    wpAny (model prog w) A (call (.ref 468) [.ref a, .ref cl]) Q E s := by
  have nL : (463 : Addr) ≠ L := fun q => by
    obtain ⟨o, es, ep, ho, hd, _⟩ := F.ns
    rw [← q, hP] at ho; cases ho
    cases hd
  have N : News gc L s.heap [(463, tabObj ps)] := fun p hp => by
    rw [List.mem_singleton.mp hp]
    exact ⟨hP, nL, g4⟩
  obtain ⟨FG, BG, st, _⟩ := groundX (s := s) (R := fun _ _ => True) K F N hA hf hke
  simp only [List.map_cons, List.map_nil] at FG BG st
  refine lawrun_c BG XB TB CB ⟨fun _ _ e => of_hideAll _ e, Nat.le_of_eq (hideAll_size _ _), fun p hp => ?_⟩ (R.mono fun _ _ x => rec_hide hP R.no x) hh hdp hu (tab_list hP hl) (hds.tups (tab_tups hP)) hn (tab_list hP hcl) hi h1 h2 hlast hpl hst0 ?_
  · rw [List.mem_singleton.mp hp]
    exact ⟨hP, hideAll_none _ (.head _)⟩
  · intro r h' tk u dn n wd d ys ps' hrun hk hup hr hdn hD h4 hR hr0 hdn0 l1 l2
    obtain ⟨g', T', F', B'⟩ := ground_kts K FG hf hk (fun _ _ e => e) hup
    have hL : ∀ b, (hideAll s.heap [463]).get? b = none → b ≠ L := fun b hb q => by
      obtain ⟨o, es, ep, ho, _⟩ := FG.ns
      rw [← q, hb] at ho; cases ho
    have hg : ∀ b, (hideAll s.heap [463]).get? b = none → g'.get? b = none := fun b hb => T'.none_ b (by
      cases q : gc.get? b with
      | none => rfl
      | some o => have := FG.keep _ _ q; rw [hb] at this; cases this)
    refine hQ r h' tk u dn n wd d ys ps' g' hrun T' B' F' (fun p hp => ?_) (fun b o hb h4' e => hk b o hb (hideAll_get _ e fun q => h4' (List.mem_singleton.mp q))) (fun b o h4' e hf => hup b o (hideAll_get _ e fun q => h4' (List.mem_singleton.mp q)) hf) hD h4 hR hr0 hdn0 l1 l2
    rcases List.mem_cons.mp hp with rfl | hp
    · exact ⟨hr, hL _ hr0, hg _ hr0⟩
    · rw [List.mem_singleton.mp hp]
      exact ⟨hdn, hL _ hdn0, hg _ hdn0⟩
end

-- Led
theorem fillK6 : (PySem.Challenge.rw_pb0247_01.Holds ∧ ∀ P, hd.heap_39 P = []) → True := by k_fill; intro _; trivial
theorem wordsLed1 : True := by
  k_with_none
  w_top off
  k_with "pb_lt" => (first | (with_reducible assumption) | (refine' lt_use (by with_reducible assumption) ?_; (repeat (first | with_reducible exact And.left | with_reducible exact id | with_reducible refine' lt_skip ?_)); done))
  trivial
theorem wordsLed2 : True := by
  k_with "subscriptTail" => (k_here; (with_reducible show wpAny _ _ (subscriptTail _ _ (Value.ref _) (Value.int _ _)) _ _ _); k_dflt (first | (refine' item_list (by k_asm) (by with_reducible assumption) (by first | with_reducible assumption | omega) (by first | with_reducible assumption | omega) (by with_reducible assumption) ?_; k_whole) | (refine' item_tup (by k_asm) (by with_reducible assumption) (by decide) (by decide) (by (first | exact seq_0 _ | exact seq_1 _ | rfl)) (by rfl) ?_; k_whole)))
  k_with "pb_enter" => (refine' enter (by k_asm) (by k_asm) (by k_asm) (by k_is) (by k_is) (by first | exact dlt0 (by with_reducible assumption) | exact dltk (by with_reducible assumption) (by decide) | exact dlt1 (by with_reducible assumption) (by decide) | omega | (dsimp only; omega)) (by first | exact BindsTo.of_eq (binds := [(Str.ofString _, _), (Str.ofString _, _), (Str.ofString _, _)]) rfl | exact BindsTo.of_eq (binds := [(Str.ofString _, _), (Str.ofString _, _)]) rfl | exact BindsTo.of_eq (binds := [(Str.ofString _, _)]) rfl | exact BindsTo.of_eq rfl) (by exact locs rfl) ?_ (by exact rfl) (by exact rfl) (by exact rfl) (by decide); k_whole; intro Lzz' hzz' Fzz' Nzz' Xzz' Tzz'; (try dsimp only); (try k_fold))
  k_with "call builtin:len" => (k_here; (with_reducible show wpAny _ _ (PySem.call _ [Value.ref _]) _ _ _); k_dflt (refine' len_l (by k_asm) (by with_reducible assumption) (by first | with_reducible assumption | omega) ?_; k_whole))
  k_with "truthy bool" => (refine' truthy_known (by with_reducible assumption) ?_)
  k_with "pb_steps" => (repeat' (first | (k_unfold; (try dsimp only)) | walk1 | (dsimp only; walk1) | fail "no step"))
  k_with "pb_enterC" => (refine' enterC (mt := []) (Apart.whole _) (by k_asm) (by k_asm) (by k_is) (by k_is) (by first | exact dlt0 (by with_reducible assumption) | exact dltk (by with_reducible assumption) (by decide) | exact dlt1 (by with_reducible assumption) (by decide) | omega | (dsimp only; omega)) (by first | exact BindsTo.of_eq (binds := [(Str.ofString _, _), (Str.ofString _, _), (Str.ofString _, _)]) rfl | exact BindsTo.of_eq (binds := [(Str.ofString _, _), (Str.ofString _, _)]) rfl | exact BindsTo.of_eq (binds := [(Str.ofString _, _)]) rfl | exact BindsTo.of_eq rfl) (by exact rfl) (by decide +kernel) ?_ (by exact rfl) (by exact rfl) (by exact rfl); k_whole; intro Lzz' hzz' tkzz' cellszz' Fzz' Nzz' Yzz' l1zz stzz' zzz'; clear l1zz stzz' zzz'; k_cells Yzz'; (try simp only [List.cons_append, List.nil_append, List.append_nil] at Nzz'); (try dsimp only); (try k_fold))
  k_with "callWith ref" => (k_here; refine' callWith_fn (by with_reducible assumption) ?_ (by rfl) (by rfl); k_whole)
  k_with "eval ListComp" => (k_here; k_dflt (refine' eval_ListCompJ (by exact rfl) (by decide) (by rfl) (by decide) (by rfl) ?_ (by (intro _; rfl)); k_whole))
  k_with "eval Name" => (k_here; k_inBlock; (with_reducible rename Fr _ _ _ _ => kFzz); k_dflt (first | (refine' nameC_L kFzz (by rfl) (by rfl) (by rfl) (by decide) (by with_reducible assumption) ?_; k_whole) | (refine' nameC_C kFzz (by rfl) (by rfl) (by rfl) (by decide) (by with_reducible assumption) (by with_reducible assumption) ?_; k_whole) | (refine' nameC_F kFzz (by rfl) (by rfl) (by rfl) (by decide) (by decide) (by with_reducible assumption) (by with_reducible assumption) ?_; k_whole) | (refine' nameC_K kFzz (by rfl) (by rfl) (by rfl) (by decide) (by k_asm) (by k_asm) (by k_is) ?_; k_whole)))
  k_with "And" => ((with_reducible show FnHere _ _ ∧ _); (with_reducible rename Fr _ _ _ _ => kFzz); k_dflt (refine ⟨FnHere.keeps (Fr.keep kFzz) (by with_reducible assumption), ?_⟩); try dsimp only [List.nil_append, List.cons_append])
  k_with "call ref" => (k_here; (with_reducible show wpAny _ _ (PySem.call (Value.ref _) [Value.int _ _]) _ _ _); (with_reducible rename Fr _ _ _ _ => kFzz); k_dflt (refine' change_use (by with_reducible assumption) kFzz (by rfl) (by (first | exact dlt1 (by with_reducible assumption) (by decide) | exact dltk (by with_reducible assumption) (by decide) | exact dlt2 (by with_reducible assumption) (by decide) | (simp only [Around.deeper]; omega))) (by (first | exact dlt1 (by with_reducible assumption) (by decide) | exact dltk (by with_reducible assumption) (by decide) | exact dlt2 (by with_reducible assumption) (by decide) | (simp only [Around.deeper]; omega))) (by with_reducible rfl) (by first | with_reducible assumption | omega) ?_; k_whole); intro h9zz u9zz t9zz st9zz; (have Fzz' := Fr.keeps kFzz st9zz); (with_reducible rename News _ _ _ _ => kNzz); (have Nzz' := News.grown kNzz st9zz); (try k_sweep); (try dsimp only))
  k_with "pb_upto" => (repeat' (first | (k_unfold; (try dsimp only)) | ((fail_if_success (with_reducible show wpAny _ _ (PySem.call (Value.type _) _) _ _ _)); walk1) | (dsimp only; (fail_if_success (with_reducible show wpAny _ _ (PySem.call (Value.type _) _) _ _ _)); walk1) | fail "no step"))
  k_with "pb_enterM" => (refine' enterC (by with_reducible assumption) (by k_asm) (by exact topRead_of (by with_reducible assumption)) (by k_is) (by k_is) (by first | exact dlt0 (by with_reducible assumption) | exact dltk (by with_reducible assumption) (by decide) | exact dlt1 (by with_reducible assumption) (by decide) | omega | (dsimp only; omega)) (by first | exact BindsTo.of_eq (binds := [(Str.ofString _, _), (Str.ofString _, _), (Str.ofString _, _)]) rfl | exact BindsTo.of_eq (binds := [(Str.ofString _, _), (Str.ofString _, _)]) rfl | exact BindsTo.of_eq (binds := [(Str.ofString _, _)]) rfl | exact BindsTo.of_eq rfl) (by exact rfl) (by decide +kernel) ?_ (by exact rfl) (by exact rfl) (by exact rfl); k_whole; intro Lzz' hzz' tkzz' cellszz' Fzz' Nzz' Yzz' l1zz stzz' zzz'; k_cells Yzz'; (try simp only [List.cons_append, List.nil_append, List.append_nil] at Nzz'); (try dsimp only); (try k_fold))
  k_with "eval Lambda" => (k_here; k_dflt (refine' lam_make (by k_asm) (by k_asm) (by with_reducible assumption) (by with_reducible assumption) (by with_reducible assumption) (by with_reducible assumption) (by with_reducible assumption) (by with_reducible assumption) (by with_reducible assumption) (by with_reducible assumption) (by rfl) (by rfl) (by rfl) (by rfl) (by rfl) ?_; k_whole); intro fzz' czz' ctzz' hzz' tkzz' tlzz' Fzz' Nzz' hsub9zz hoff9zz hcr9zz hoff8zz; (try k_sweep))
  k_with "eval Name" => (k_here; (with_reducible rename Fr _ _ _ _ => kFzz); k_dflt (refine' nameC_F kFzz (by rfl) (by rfl) (by rfl) (by decide) (by decide) (by with_reducible assumption) (by with_reducible assumption) ?_; k_whole))
  k_with "subscriptTail" => (k_here; (with_reducible show wpAny _ _ (subscriptTail _ _ (Value.ref _) (Value.int _ _)) _ _ _); (with_reducible rename Fr _ _ _ _ => kFzz); (with_reducible rename News _ _ _ _ => kNzz); k_dflt (refine' item_tupS kFzz kNzz (by with_reducible assumption) (by (intro p9zz hp9zz; repeat (first | exact hp9zz | refine List.Mem.tail _ ?_))) (by decide) (by decide) (by (first | exact seq_0 _ | exact seq_1 _ | rfl)) (by rfl) (by with_unfolding_all rfl) ?_; k_whole))
  k_with "call ref" => (k_here; (with_reducible show wpAny _ _ (PySem.call (Value.ref 68) [_, Value.ref _, Value.int _ _]) _ _ _); (with_reducible rename Fr _ _ _ _ => kFzz); k_dflt (refine' way_c (by k_asm) (by k_asm) (Fr.keep kFzz) (by rfl) (by (first | exact dlt1 (by with_reducible assumption) (by decide) | exact dltk (by with_reducible assumption) (by decide) | exact dlt2 (by with_reducible assumption) (by decide) | (simp only [Around.deeper]; omega))) (by (first | exact dlt1 (by with_reducible assumption) (by decide) | exact dltk (by with_reducible assumption) (by decide) | exact dlt2 (by with_reducible assumption) (by decide) | (simp only [Around.deeper]; omega))) (by exact OpsAt.keeps (Fr.keep kFzz) (by with_reducible assumption)) (by omega) (by with_reducible assumption) (by with_reducible assumption) (by exact DIn.keeps (Fr.keep kFzz) (by with_reducible assumption)) ?_; k_whole))
  trivial

theorem labs_last {o : Op} (h : o.labs.all (· < 1000) = true) : o.last < 1000 := by
  cases o <;> simp_all [Op.labs, Op.last]

theorem led_c {prog : Program} {w : World} {A : Around} {E : Value → Shared → Prop} {s : Shared} {h₀ : Heap} {p : Program} {loose : List Str} {mean : ExcName → Option Value} {mg mb : Str → Option Value} {Q : Value → Shared → Prop}
    {a : Addr} {ops : List Op} {ps : Array Value}
    (X : (hd.heap_39 w.params).In h₀) (T : Top p loose mean mg mb h₀) (st : h₀.StaysIn s.heap) (h7 : h₀.get? 70 = none) (hCH : CodeHd h₀ 74 70) (hh : A.handled = none) (hdp : A.depth + 40 < recursionLimit) (hu : A.units + 400 < cLine)
    (hO : OpsAt s.heap a ops) (hn : ops.length < 900) (hb : ∀ q ∈ ops, q.labs.all (· < 1000) = true) (hT : TabL s.heap ps)
    (hQ : ∀ r h' tk ps', (∀ b o, b ≠ 70 → s.heap.get? b = some o → h'.get? b = some o) → TabL h' ps' → OpsAt h' r (ledF ops) → Q (.ref r) { s with heap := h', toks := tk }) :
    wpAny (model prog w) A (call (.ref 75) [.ref a]) Q E s := by
  obtain ⟨ah, dp, fr, gd, un⟩ := A
  dsimp only at hh hdp hu
  subst hh
  obtain ⟨hG, hst⟩ := apart70 st h7 hT.1
  replace X := X.keeps hst
  replace T := T.keeps hst
  replace hCH := CodeHd.keeps hCH hst
  have X2 := X
  obtain ⟨vs, hl, hds⟩ := hO
  have h70 : ∀ b ∈ [70], ∀ xs, ¬ IsTup s.heap b xs := fun b hb xs ⟨o, ho, hc, _⟩ => by
    rw [List.mem_singleton.mp hb, hT.1] at ho; cases ho
    cases hc
  have ha7 : a ≠ 70 := fun q => by
    obtain ⟨o, ho, hc, _⟩ := hl
    rw [q, hT.1] at ho; cases ho
    cases hc
  replace hds := hds.tups (tups_hide h70)
  replace hl : (hideAll s.heap [70]).IsList a vs.toArray := hl.at fun o e => hideAll_get _ e fun q => ha7 (List.mem_singleton.mp q)
  have hgk : ∀ b o, b ≠ 70 → s.heap.get? b = some o → (hideAll s.heap [70]).get? b = some o := fun b o hb e => hideAll_get _ e fun q => hb (List.mem_singleton.mp q)
  have hT1 := hT.2
  generalize hideAll s.heap [70] = g at *
  have hlen := hds.length
  rw [List.length_map] at hlen
  have hO : OpsAt g a ops := ⟨vs, hl, hds⟩
  have hps : TabT g ps [] := by
    rcases hT1 with e | ⟨c', e, c2, oc, vs', t, e2, h1, h2, h3⟩
    · exact .inl e
    · refine .inr ⟨c', e, fun h hg _ => ⟨c2, oc, vs', t, e2, hg _ _ (hgk _ _ (fun q => ?_) h1), h2, h3⟩⟩
      rw [q, hT.1] at h1; cases h1
      cases h2
      rw [e] at h3
      cases h3
  walk_at "pb_enterM"
  walk_at "pb_steps"
  rename Fr _ _ _ _ => F
  rename News _ _ _ _ => N
  rename _ = Data.cell _ => d2
  revert d2
  rename _ = Data.cell _ => d1
  intro d2
  rename s.heap.objs.size ≤ _ => hLz
  rename _ ∧ _ => l1
  rename ∀ p ∈ [_], _ => l2
  have l70 := l2 _ (.head _)
  refine PySem.wpAny_For ?_ (fun _ => rfl)
  walk1
  replace d1 : _ = Data.cell none := d1
  replace d2 : _ = Data.cell (some (Value.ref a)) := d2
  refine iter_led (prog := prog) (w := w) (ops := ops) (c := _) rfl hl hds rfl rfl rfl F (news_swap N) d1 ?_ ?_ ?_ hps ?_ ?_
  all_goals clear N F
  · exact Nat.ne_of_gt l1.1
  · exact Nat.ne_of_lt (Nat.lt_succ_self _)
  · exact Nat.ne_of_lt (Nat.lt_trans (Nat.lt_trans l70 (Nat.lt_succ_self _)) (Nat.lt_succ_self _))
  · intro i o v I oI oc h tk ys n u ps tl ho hd' hT' hL F hoc N hI7 hIc hDI hcoI hoff hyl hIcls
    have hc7 : _ ≠ 70 := Nat.ne_of_gt (Nat.lt_trans (Nat.lt_trans l70 (Nat.lt_succ_self _)) (Nat.lt_succ_self _))
    have hco7 : _ ≠ 70 := Nat.ne_of_gt (Nat.lt_trans l70 (Nat.lt_succ_self _))
    have hD7 : _ ≠ 70 := Nat.ne_of_gt l1.2.2
    have hlast : ∀ q ∈ ops, q.last < 1000 := fun q hq => labs_last (hb q hq)
    walk_at "pb_steps"
    clear F N
    rename Fr _ _ _ _ => F
    rename News _ _ _ _ => N
    rename LedS _ _ _ => hcr
    rename OwnOff _ _ => hoff8
    revert hoff8
    rename OwnOff _ _ => hoff9
    rename ∀ p ∈ tl, _ => hsub9
    intro hoff8
    refine relab_c X (topRead_of T) F.keep rfl (by first | exact dlt1 (by with_reducible assumption) (by decide) | exact dltk (by with_reducible assumption) (by decide) | exact dlt2 (by with_reducible assumption) (by decide) | (simp only [Around.deeper]; omega)) (by first | exact dlt1 (by with_reducible assumption) (by decide) | exact dltk (by with_reducible assumption) (by decide) | exact dlt2 (by with_reducible assumption) (by decide) | (simp only [Around.deeper]; omega)) (hd'.keeps F.keep) (hb o (List.mem_of_getElem? ho)) (f := wayOn ops o) ?_ fun r h2 t2 st2 hr2 => ?_
    · refine ⟨⟨_, _, _, _, N.get (List.Mem.head _)⟩, fun A2 s2 E2 Q2 n2 tk2 hs2 hh2 hd2 hu2 hn2 hQ2 => ?_⟩
      obtain ⟨ah2, dp2, fr2, gd2, un2⟩ := A2
      dsimp only at hh2 hd2 hu2
      subst hh2
      have e1 := hs2 _ _ (N.get (.tail _ (.tail _ (.head _))))
      have e2 := hs2 _ _ (N.get (.tail _ (.tail _ (.tail _ (.tail _ (.head _))))))
      have X3 := (X.keeps F.keep).keeps hs2
      have T3 := (topRead_of (T.keeps F.keep)).keeps hs2
      have hO3 := (hO.keeps F.keep).keeps hs2
      have hd3 := (hd'.keeps F.keep).keeps hs2
      have hcr3 := (hcr.at F N fun p hp => .tail _ (.tail _ (.tail _ (.tail _ (.tail _ (.tail _ hp)))))).keeps hs2
      have hf3 := hs2 _ _ (N.get (.head _))
      clear hcr F N
      refine enterL T3.nolimit hcr3 hf3 (by dsimp only; omega) rfl (locs rfl) ?_ rfl rfl rfl (by decide)
      intro L3 h3 F3 N3
      clear X T hO hd'
      walk_at "pb_steps"
      rename Fr _ _ _ _ => F3
      rename Heap.StaysIn _ _ => st3
      exact hQ2 _ _ _ fun b o e => st3 b o (F3.keep b o e)
    · obtain ⟨tl3, hsub3, F2, N2, hoff3, hrD, hrT⟩ := led_join F N st2 hr2 hoff9 hIcls hoc d2
      have hT3 : TabT g _ tl3 := .inr ⟨_, rfl, hcr.mono hsub3⟩
      have hL3 := hL.mono fun p hp => hsub3 p (hsub9 p hp)
      clear N F st2 hoff9
      obtain ⟨t, kt, v1, rr, rfl, hTt, hv1, hrr⟩ := DIn.op hr2
      have hTS := hrT t _ rfl hTt
      clear hrT
      by_cases hj : isJump (relab (wayOn ops o) o) = true
      · obtain ⟨n', e⟩ : ∃ n', relab (wayOn ops o) o = .jump n' := by
          cases q : relab (wayOn ops o) o <;> rw [q] at hj <;> first | exact ⟨_, rfl⟩ | cases hj
        rw [e] at hr2 hrD hTS hv1 hrr
        have hk : (Str.ofString (Op.jump n').kind == Str.ofString "jump") = true := (kind_jump _).trans rfl
        cases hv1 with
        | int i' u' =>
        cases hrr
        by_cases hlt : n' < vs.length
        · obtain ⟨o3, ho3⟩ : ∃ o3, ops[n']? = some o3 := ⟨ops[n']'(by omega), by simp [hlen ▸ hlt]⟩
          obtain ⟨t3, kt3, v3, r3, hx', hTt3, hv3, hr3⟩ := OpsAt.get hds ho3
          have hx : vs[(n' : Int).toNat]? = some (.ref t3) := by simpa using hx'
          have h63 : (n' : Int) < 2 ^ 63 := by omega
          have hn0 : (0 : Int) ≤ (n' : Int) := by omega
          by_cases hs3 : (Str.ofString o3.kind == Str.ofString "stop") = true
          · have hd3 : DIn g (.ref t3) o3.d := .tup hTt3 (.cons (.str _ _) (.cons hv3 hr3))
            obtain ⟨w3, rfl⟩ : ∃ w3, o3 = .stop w3 := by
              rw [kind_stop] at hs3
              cases o3 <;> first | exact ⟨_, rfl⟩ | cases hs3
            walk_at "pb_steps"
            rename Fr _ _ _ _ => F
            rename News _ _ _ _ => N
            refine led_append F N hoff8 hDI (Ne.symm (Nat.ne_of_lt l1.1)) (Nat.ne_of_lt l1.2.1) hD7 hoff3 (by omega) ?_
            intro h9 F9 N9
            clear F N
            walk_at "pb_steps"
            exact turn_led F9 N9 hoc hDI (Ne.symm (Nat.ne_of_lt l1.1)) hcoI (Nat.ne_of_lt (Nat.lt_succ_self _)) hI7 hc7 hoff3 there_norm2 hT3 (led_next hL3 ho (ledOp_stop e ho3) (fun h hg _ => hd3.keeps hg))
          · have hs4 := Bool.eq_false_iff.mpr hs3
            walk_at "pb_steps"
            rename Fr _ _ _ _ => F
            rename News _ _ _ _ => N
            refine led_append F N hoff8 hDI (Ne.symm (Nat.ne_of_lt l1.1)) (Nat.ne_of_lt l1.2.1) hD7 hoff3 (by omega) ?_
            intro h9 F9 N9
            clear F N
            walk_at "pb_steps"
            exact turn_led F9 N9 hoc hDI (Ne.symm (Nat.ne_of_lt l1.1)) hcoI (Nat.ne_of_lt (Nat.lt_succ_self _)) hI7 hc7 hoff3 there_norm hT3 (led_next hL3 ho (ledOp_far e (fun w q => by rw [ho3] at q; cases q; exact hs3 ((kind_stop _).trans rfl))) hrD)
        · walk_at "pb_steps"
          rename Fr _ _ _ _ => F
          rename News _ _ _ _ => N
          refine led_append F N hoff8 hDI (Ne.symm (Nat.ne_of_lt l1.1)) (Nat.ne_of_lt l1.2.1) hD7 hoff3 (by omega) ?_
          intro h9 F9 N9
          clear F N
          walk_at "pb_steps"
          exact turn_led F9 N9 hoc hDI (Ne.symm (Nat.ne_of_lt l1.1)) hcoI (Nat.ne_of_lt (Nat.lt_succ_self _)) hI7 hc7 hoff3 there_norm hT3 (led_next hL3 ho (ledOp_far e (fun w q => by rw [List.getElem?_eq_none (by omega)] at q; cases q)) hrD)
      · have hk : (Str.ofString (relab (wayOn ops o) o).kind == Str.ofString "jump") = false := (kind_jump _).trans (Bool.eq_false_iff.mpr hj)
        walk_at "pb_steps"
        rename Fr _ _ _ _ => F
        rename News _ _ _ _ => N
        refine led_append F N hoff8 hDI (Ne.symm (Nat.ne_of_lt l1.1)) (Nat.ne_of_lt l1.2.1) hD7 hoff3 (by omega) ?_
        intro h9 F9 N9
        clear F N
        walk_at "pb_steps"
        exact turn_led F9 N9 hoc hDI (Ne.symm (Nat.ne_of_lt l1.1)) hcoI (Nat.ne_of_lt (Nat.lt_succ_self _)) hI7 hc7 hoff3 there_norm hT3 (led_next hL3 ho (ledOp_other hj) hrD)
  · intro h9 tk9 ys n u ps9 tl hT9 hL9 F N
    walk_at "pb_steps"
    rename Fr _ _ _ _ => F
    rename News _ _ _ _ => N
    refine hQ _ _ _ ps9 (fun b o hb e => F.keep _ _ (hgk b o hb e)) ⟨N.get (.tail _ (.tail _ (.head _))), ?_⟩ ⟨ys, ⟨_, N.get (.head _), rfl, _, rfl⟩, hL9.at F N fun p hp => .tail _ (.tail _ (.tail _ hp))⟩
    exact hT9.imp id fun ⟨c', e, r⟩ => ⟨c', e, r.at F N fun p hp => .tail _ (.tail _ (.tail _ hp))⟩

-- Run3
section
noncomputable def KeepsOff (L : Addr) (h h' : Heap) : Prop := ∀ b o, b ≠ L → h.get? b = some o → h'.get? b = some o
theorem KeepsOff.same {L : Addr} {h h' h'' : Heap} (k : KeepsOff L h h') (x : Heap.SameBut L h' h'') : KeepsOff L h h'' := fun b o hb e => (x.2 b hb).trans (k b o hb e)
theorem KeepsOff.refl {L : Addr} {h : Heap} : KeepsOff L h h := fun _ _ _ e => e
/-- what changes a frame alone leaves the tuples -/
theorem frame_tups {L : Addr} {h h' : Heap} {m : Str → Option Value} (n : h.Ns L m) (k : KeepsOff L h h') : Tups h h' := fun b xs ⟨o, ho, hc, n', hd⟩ => by
  obtain ⟨oL, es, ep, hL, hLd, _⟩ := n
  refine ⟨o, k b o (fun q => ?_) ho, hc, n', hd⟩
  rw [q, hL] at ho; cases ho
  rw [hLd] at hd; cases hd
theorem frame_list {L a : Addr} {h h' : Heap} {m : Str → Option Value} {its : Array Value} (n : h.Ns L m) (k : KeepsOff L h h') (x : h.IsList a its) : h'.IsList a its := by
  obtain ⟨oL, es, ep, hL, hLd, _⟩ := n
  refine x.at fun o e => k a o (fun q => ?_) e
  obtain ⟨o', ho', _, n', hd⟩ := x
  rw [q, hL] at ho'; cases ho'
  rw [hLd] at hd; cases hd
theorem frame_rec {L : Addr} {h h' : Heap} {m : Str → Option Value} {cd : Value} {q : Str} (n : h.Ns L m) (k : KeepsOff L h h') (x : h.CodeRec cd q) : h'.CodeRec cd q := by
  obtain ⟨c, o, vs, t, e, hg, hd, hq⟩ := x
  obtain ⟨oL, es, ep, hL, hLd, _⟩ := n
  refine ⟨c, o, vs, t, e, k c o (fun q => ?_) hg, hd, hq⟩
  rw [q, hL] at hg; cases hg
  rw [hLd] at hd; cases hd
theorem comp_fr {g h h9 : Heap} {L : Addr} {m m' : Str → Option Value} (F : Fr g L h m) (hk : ∀ b o, b ∉ [L] → h.get? b = some o → h9.get? b = some o) (hn : h9.Ns L m') : Fr g L h9 m' ∧ KeepsOff L h h9 :=
  have k : KeepsOff L h h9 := fun b o hb e => hk b o (fun q => hb (List.mem_singleton.mp q)) e
  ⟨⟨hn, fun b o e => k b o (fun q => by rw [q, kts_self F] at e; cases e) (F.keep b o e), F.above⟩, k⟩
/-- a record of code is no table -/
theorem rec_but {h h' : Heap} {P : Addr} {ps : Array Value} (hP : h.get? P = some (tabObj ps)) (hn : ∀ q t, ps[1]? ≠ some (.str q t)) {fs : List Addr} (hf : ∀ b ∈ fs, ∀ o, h.get? b = some o → ∀ vs, o.data ≠ .fields vs)
    (k : ∀ b o, b ∉ fs → b ≠ P → h.get? b = some o → h'.get? b = some o) {cd : Value} {q : Str} (x : h.CodeRec cd q) : h'.CodeRec cd q := by
  obtain ⟨c, o, vs, t, e, hg, hd, hq⟩ := x
  refine ⟨c, o, vs, t, e, k c o (fun m => hf c m o hg vs hd) (fun m => ?_) hg, hd, hq⟩
  rw [m, hP] at hg; cases hg
  injection hd with hd
  subst hd
  exact hn _ _ hq
theorem frs_no {A₀ : Around} {base g h : Heap} {outer : List Env} {env : Env} {L : Addr} {m : Str → Option Value} (K : Below A₀ base outer g) (F : Fr g L h m) (hf : env.frame = some L) : ∀ b ∈ frs (env :: outer), ∀ o, h.get? b = some o → ∀ vs, o.data ≠ .fields vs := fun b hb o ho vs hd => by
  obtain ⟨e, he, hb'⟩ := List.mem_filterMap.mp hb
  rcases List.mem_cons.mp he with rfl | he
  · rw [hf] at hb'
    obtain ⟨oL, es, ep, hL, hLd, _⟩ := F.ns
    cases hb'
    rw [ho] at hL; cases hL
    rw [hd] at hLd; cases hLd
  · obtain ⟨_, o', ho', hn⟩ := K.frames.mem (List.mem_filterMap.mpr ⟨e, he, hb'⟩)
    rw [F.keep _ _ ho'] at ho; cases ho
    exact hn _ hd
theorem run_N {prog : Program} {w : World} {A A₀ : Around} {E : Value → Shared → Prop} {s : Shared} {base gc : Heap} {outer : List Env} {env : Env} {L : Addr} {m : Str → Option Value} {p : Program} {loose : List Str} {mean : ExcName → Option Value} {mg mb : Str → Option Value} {Q : Value → Shared → Prop}
    {a cl : Addr} {ops : List Op} {vs cs : List Value} {ns : List Int} {ps : Array Value} {nw : List (Addr × Obj)}
    (K : Below A₀ base outer gc) (F : Fr gc L s.heap m) (N : News gc L s.heap ((463, tabObj ps) :: nw)) (n4 : ∀ p ∈ nw, p.1 ≠ 463) (hA : A.frames = some (env :: outer)) (hf : env.frame = some L) (hke : env.scope.kind = .function)
    (XB : (hd.heap_39 w.params).In base) (TB : Top p loose mean mg mb base) (CB : CodeHd base 467 463) (R : RTab s.heap ps) (hh : A.handled = none) (hdp : A.depth + 100 < recursionLimit) (hu : A.units + 1000 < cLine)
    (hl : s.heap.IsList a vs.toArray) (hds : DAll s.heap vs (ops.map Op.d)) (hn : ops.length < 900) (hcl : s.heap.IsList cl cs.toArray) (hi : IntsAre cs ns) (h1 : 1 ≤ ns.length) (h2 : ns.length ≤ 60)
    (hlast : ∀ o ∈ ops, o.last < 1000) (hpl : ∀ o ∈ ops, plainOp o = true) (hst0 : ∀ o ∈ ops, stopOk o = true)
    (hQ : ∀ r h' tk u dn n wd d ys ps' g', runRes (kfOf ns) (tfOf ns) ops 40 (.go 0 noS []) = (wd, d) → KtsTurn (frs outer) gc g' → Below A₀ base outer g' → Fr g' L h' m →
      News g' L h' ((463, tabObj ps') :: (r, { cls := .type "tuple", data := .seq [Value.str wd u, .ref dn].toArray }) :: (dn, listOf ys.toArray n) :: nw) → (∀ p ∈ nw, p.1 ≠ r ∧ p.1 ≠ dn) → r ≠ 463 → dn ≠ 463 → dn ≠ r →
      Tups s.heap h' → h'.IsList cl cs.toArray → (∀ cd q, s.heap.CodeRec cd q → h'.CodeRec cd q) → DAll h' ys d → RTab h' ps' → Q (.ref r) { s with heap := h', toks := tk }) :
    wpAny (model prog w) A (call (.ref 468) [.ref a, .ref cl]) Q E s := by
  have hP := (N _ (.head _)).1
  refine run_use K F hA hf hke XB TB CB (N _ (.head _)).2.2 hP R hh hdp hu hl hds hn hcl hi h1 h2 hlast hpl hst0 ?_
  intro r h' tk u dn n wd d ys ps' g' hrun T' B' F' N' hk hup hD h4 hR hr0 hdn0 l1 l2
  have off : ∀ b, (hideAll s.heap [463]).get? b = none → ∀ p ∈ nw, p.1 ≠ b := fun b hb p hp q => by
    have := hideAll_get [463] (N p (.tail _ hp)).1 (fun m => n4 p hp (List.mem_singleton.mp m))
    rw [q, hb] at this; cases this
  have c4 : ∀ o : Obj, s.heap.get? 463 = some o → o.cls ≠ .type "tuple" ∧ o.cls ≠ .type "list" := fun o e => by
    rw [hP] at e; cases e
    exact ⟨(fun q => nomatch q), (fun q => nomatch q)⟩
  refine hQ r h' tk u dn n wd d ys ps' g' hrun T' B' F' (fun p hp => ?_) (fun p hp => ⟨off r hr0 p hp, off dn hdn0 p hp⟩) (fun q => ?_) (fun q => ?_) (fun q => ?_) (fun b xs ⟨o, ho, hc, n', hd⟩ => ?_) ?_ (fun cd q x => rec_but hP R.no (frs_no K F hf) (fun b o hb h4' e => hk b o hb h4' e) x) hD hR
  · rcases List.mem_cons.mp hp with rfl | hp
    · exact ⟨h4, (N _ (.head _)).2.1, T'.none_ _ (N _ (.head _)).2.2⟩
    · rcases List.mem_cons.mp hp with rfl | hp
      · exact N' _ (.head _)
      · rcases List.mem_cons.mp hp with rfl | hp
        · exact N' _ (.tail _ (.head _))
        · have := N p (.tail _ hp)
          exact ⟨hk _ _ (off_frs K N hf p (.tail _ hp)) (n4 p hp) this.1, this.2.1, T'.none_ _ this.2.2⟩
  · rw [q] at l2; exact absurd (Nat.lt_trans l1 l2) (Nat.lt_irrefl _)
  · rw [q] at l1; exact absurd l1 (Nat.lt_irrefl _)
  · rw [q] at l2; exact absurd l2 (Nat.lt_irrefl _)
  · obtain ⟨sl, hs⟩ := hup b o (fun q => (c4 o (q ▸ ho)).1 hc) ho (fun vs q => by rw [hd] at q; cases q)
    exact ⟨_, hs, hc, n', hd⟩
  · obtain ⟨o, ho, hc, n', hd⟩ := hcl
    obtain ⟨sl, hs⟩ := hup cl o (fun q => (c4 o (q ▸ ho)).2 hc) ho (fun vs q => by rw [hd] at q; cases q)
    exact ⟨_, hs, hc, n', hd⟩
theorem led_N {prog : Program} {w : World} {A A₀ : Around} {E : Value → Shared → Prop} {s : Shared} {base gc : Heap} {outer : List Env} {L : Addr} {m : Str → Option Value} {p : Program} {loose : List Str} {mean : ExcName → Option Value} {mg mb : Str → Option Value} {Q : Value → Shared → Prop}
    {a : Addr} {ops : List Op} {ps7 : Array Value} {x : Addr × Obj} {nw : List (Addr × Obj)}
    (K : Below A₀ base outer gc) (F : Fr gc L s.heap m) (N : News gc L s.heap (x :: (70, tabObj ps7) :: nw)) (n7 : ∀ p ∈ x :: nw, p.1 ≠ 70)
    (XB : (hd.heap_39 w.params).In base) (TB : Top p loose mean mg mb base) (b7 : base.get? 70 = none) (C7 : CodeHd base 74 70) (hT : TabL s.heap ps7) (hh : A.handled = none) (hdp : A.depth + 100 < recursionLimit) (hu : A.units + 1000 < cLine)
    (hO : OpsAt s.heap a ops) (hn : ops.length < 900) (hb : ∀ q ∈ ops, q.labs.all (· < 1000) = true)
    (hQ : ∀ r h' tk ps7', Fr gc L h' m → News gc L h' (x :: (70, tabObj ps7') :: nw) → (∀ b o, b ≠ 70 → s.heap.get? b = some o → h'.get? b = some o) → (∀ cd q, s.heap.CodeRec cd q → h'.CodeRec cd q) → TabL h' ps7' → OpsAt h' r (ledF ops) → Q (.ref r) { s with heap := h', toks := tk }) :
    wpAny (model prog w) A (call (.ref 75) [.ref a]) Q E s := by
  have h7 := N _ (.tail _ (.head _))
  refine led_c XB TB (fun b o e => F.keep _ _ (K.stays b o e)) b7 C7 hh (by omega) (by omega) hO hn hb hT ?_
  intro r h' tk ps7' hk hT' hO'
  have hno : ∀ q t, ps7[1]? ≠ some (.str q t) := by
    rcases hT.2 with rfl | ⟨c', rfl, _⟩
    · intro q t e; simp at e
    · intro q t e; simp [rawInt] at e
  have g7 : ∀ b o, gc.get? b = some o → b ≠ 70 := fun b o e q => by
    rw [q, h7.2.2] at e; cases e
  refine hQ r h' tk ps7' ⟨F.ns.at' fun o e => hk _ _ (Ne.symm h7.2.1) e, fun b o e => hk b o (g7 b o e) (F.keep b o e), F.above⟩ (fun p hp => ?_) hk (fun cd q x => rec_but (fs := []) hT.1 hno (fun b hb => nomatch hb) (fun b o _ h e => hk b o h e) x) hT' hO'
  rcases List.mem_cons.mp hp with rfl | hp
  · exact ⟨hk _ _ (n7 _ (.head _)) (N _ (.head _)).1, (N _ (.head _)).2⟩
  · rcases List.mem_cons.mp hp with rfl | hp
    · exact ⟨hT'.1, h7.2⟩
    · have := N p (.tail _ (.tail _ hp))
      exact ⟨hk _ _ (n7 p (.tail _ hp)) this.1, this.2⟩
end

-- Leq
section
theorem DAll.nth {h : Heap} {vs : List Value} {ds : List D} (x : DAll h vs ds) {j : Nat} {v : Value} (e : vs[j]? = some v) : ∃ d, ds[j]? = some d ∧ DIn h v d := by
  have hl := x.length
  cases q : ds[j]? with
  | none =>
    have := List.getElem?_eq_none_iff.mp q
    rw [List.getElem?_eq_none (by omega)] at e; cases e
  | some d =>
    obtain ⟨v', e', hd⟩ := x.get q
    rw [e] at e'; cases e'
    exact ⟨d, rfl, hd⟩
theorem lists_eq {prog : Program} {w : World} {A : Around} {E : Value → Shared → Prop} {s : Shared} {l b : Addr} {vs ws : List Value} {ds : List D} {Q : Value → Shared → Prop}
    (hl : s.heap.IsList l vs.toArray) (hb : s.heap.IsList b ws.toArray) (h1 : DAll s.heap vs ds) (h2 : DAll s.heap ws ds) (hd : ∀ d ∈ ds, d.depth ≤ 40) (hu : A.units + 100 < cLine) (h : Q (.bool true) s) :
    wpAny (model prog w) A (compareOp .Eq (.ref l) (.ref b)) Q E s := by
  have l1 := h1.length
  have l2 := h2.length
  have r := RcAt.lists (A := A) (e := fun _ => true) hl hb (by simp; omega) (by omega) (fun j j1 j2 => by
    simp only [List.size_toArray] at j1 j2
    obtain ⟨d, hd1, hd2⟩ := h1.nth (j := j) (v := vs[j]) (by simp [j1])
    obtain ⟨d', hd1', hd2'⟩ := h2.nth (j := j) (v := ws[j]) (by simp [j2])
    rw [hd1] at hd1'; cases hd1'
    have := hd d (List.mem_of_getElem? hd1)
    simp only [List.getElem_toArray]
    exact eqD hd2 hd2' (cmp_self _) (by simp only [Around.in1_units]; omega))
  have e : (List.range vs.toArray.size).all (fun _ => true) = true := by simp
  rw [e] at r
  exact r prog w E Q h
theorem lists_ne {prog : Program} {w : World} {A : Around} {E : Value → Shared → Prop} {s : Shared} {l b : Addr} {vs ws : List Value} {ds : List D} {Q : Value → Shared → Prop}
    (hl : s.heap.IsList l vs.toArray) (hb : s.heap.IsList b ws.toArray) (h1 : DAll s.heap vs ds) (h2 : DAll s.heap ws ds) (hd : ∀ d ∈ ds, d.depth ≤ 40) (hu : A.units + 100 < cLine) (h : Q (.bool false) s) :
    wpAny (model prog w) A (compareOp .NotEq (.ref l) (.ref b)) Q E s := by
  have l1 := h1.length
  have l2 := h2.length
  have r := RcNeAt.lists (A := A) (e := fun _ => true) hl hb (by simp; omega) (by omega) (fun j j1 j2 => by
    simp only [List.size_toArray] at j1 j2
    obtain ⟨d, hd1, hd2⟩ := h1.nth (j := j) (v := vs[j]) (by simp [j1])
    obtain ⟨d', hd1', hd2'⟩ := h2.nth (j := j) (v := ws[j]) (by simp [j2])
    rw [hd1] at hd1'; cases hd1'
    have := hd d (List.mem_of_getElem? hd1)
    simp only [List.getElem_toArray]
    exact eqD hd2 hd2' (cmp_self _) (by simp only [Around.in1_units]; omega))
  have e : (!(List.range vs.toArray.size).all (fun _ => true)) = false := by simp
  rw [e] at r
  exact r prog w E Q h
theorem pick_upto (vs : List Value) (n : Nat) : slicePick vs.toArray none (some (n : Int)) none = (vs.take n).toArray := by
  have e : sliceBounds none (some (n : Int)) none vs.toArray.size = (((0 : Nat) : Int), ((min n vs.toArray.size : Nat) : Int), 1) := by
    simp only [sliceBounds, Option.getD_none, show (1 : Int) > 0 by decide, if_true, if_neg (show ¬ ((n : Int) < 0) by omega)]
    congr 1
    congr 1
    omega
  rw [kmk_pick_nat _ e]
  show ((vs.drop 0).take (min n vs.toArray.size - 0)).toArray = _
  rw [List.drop_zero, Nat.sub_zero, List.size_toArray, kmk_take_min]
/-- `l[:n]` of a list -/
theorem slice_upto {prog : Program} {w : World} {A : Around} {E : Value → Shared → Prop} {s : Shared} {g : Heap} {L : Addr} {m : Str → Option Value} {news : List (Addr × Obj)} {value slice : PySem.Expr} {l : Addr} {vs : List Value} {n : Nat} {t : Tok} {Q : Value → Shared → Prop}
    (F : Fr g L s.heap m) (N : News g L s.heap news) (hl : s.heap.IsList l vs.toArray)
    (h : ∀ D h', Fr g L h' m → News g L h' ((D, W.listOf (vs.take n).toArray 0) :: news) → (∀ p ∈ news, p.1 < D) → s.heap.StaysIn h' → Q (.ref D) { s with heap := h' })
    (hs : subscripted slice false (.ref l) (.ref s.heap.objs.size) = operate [.ref s.heap.objs.size, .ref l] (getItem (.ref l) (.ref s.heap.objs.size)) := by with_unfolding_all rfl)
    (ht : ∀ r, letTemporaryGo value (.ref l) r = pure () := by intro _; with_unfolding_all rfl)
    (hsz : vs.length < 1000) :
    wpAny (model prog w) A (subscriptTail value slice (.ref l) (.ref s.heap.objs.size)) Q E { s with heap := s.heap.push { cls := .type "slice", data := .fields #[.none, .int n t, .none] } } := by
  refine subscriptTail_ops (Heap.IsList.typeIs (s := { s with heap := s.heap.push { cls := .type "slice", data := .fields #[.none, .int n t, .none] } }) (hl.push _)) list_getitem_lookup
    (wpAny_getItem_list_slice (hl.push _) (Heap.IsSliceOf.new ..) .none (.int _ _) .none (by simp) ?_ (by rw [sizeLine_eq]; simp; omega)) hs ht
  have N1 := News.push (F.push { cls := .type "slice", data := .fields #[.none, .int n t, .none] }) (N.grown fun _ _ e => Heap.get?_push_of_some _ e) { cls := .type "list", data := .seq (slicePick vs.toArray none (some (n : Int)) none) }
  rw [pick_upto] at N1 ⊢
  refine h _ _ ((F.push _).push _) N1 (fun p hp => ?_) (fun b o e => Heap.get?_push_of_some _ (Heap.get?_push_of_some _ e))
  rw [Heap.size_push]
  exact Nat.lt_succ_of_lt (Heap.lt_size (N p hp).1)
end

-- Plain4
section
theorem last_labs {k : Nat} (hk : 0 < k) : ∀ {o : Op}, o.labs.all (· < k) = true → o.last < k
  | .jump n, h => by simpa [Op.labs, Op.last] using h
  | .test _ n, h => by simpa [Op.labs, Op.last] using h
  | .key _ n, h => by simpa [Op.labs, Op.last] using h
  | .choose _ _, _ => hk
  | .stop _, _ => hk
  | .leave, _ => hk
  | .deed _, _ => hk
  | .push, _ => hk
  | .put _, _ => hk
  | .calc _, _ => hk
theorem lastAt_lt {k : Nat} (hk : 0 < k) {ops : List Op} (h : ∀ q ∈ ops, q.labs.all (· < k) = true) (l : Nat) : lastAt ops l < k := by
  unfold lastAt
  cases e : ops[l]? with
  | none => simpa [e] using hk
  | some o => simpa [e] using last_labs hk (h o (List.mem_of_getElem? e))
theorem chase_lt {k : Nat} (hk : 0 < k) {ops : List Op} (h : ∀ q ∈ ops, q.labs.all (· < k) = true) {q : Option Op} : ∀ {j l e : Nat}, l < k → chase q ops j l = some e → e < k
  | 0, _, _, _, e => by simp [chase] at e
  | j + 1, l, e, hl, he => by
    unfold chase at he
    split at he
    · exact chase_lt hk h (lastAt_lt hk h l) he
    · cases he; exact hl
theorem way_lt {k : Nat} {ops : List Op} (h : ∀ q ∈ ops, q.labs.all (· < k) = true) (o : Op) {l : Nat} (hl : l < k) : wayOn ops o l < k := by
  have hk : 0 < k := by omega
  unfold wayOn
  split
  · rename_i e q; exact chase_lt hk h hl q
  · split
    · rename_i e q; exact chase_lt hk h hl q
    · exact hl
theorem ledOp_cases (ops : List Op) (o : Op) : (∃ (w : Str) (l : Nat), ops[l]? = some (Op.stop w) ∧ isJump o = true ∧ ledOp ops o = Op.stop w) ∨ ledOp ops o = relab (wayOn ops o) o := by
  cases o with
  | jump n =>
    rcases ledOp_jump ops n with ⟨w, h1, h2⟩ | ⟨_, h2⟩
    · exact .inl ⟨w, _, h1, rfl, h2⟩
    · exact .inr h2
  | _ => exact .inr rfl
theorem relab_labs (f : Nat → Nat) (o : Op) : (relab f o).labs = o.labs.map f := by cases o <;> rfl
theorem relab_plain (f : Nat → Nat) (o : Op) : plainOp (relab f o) = plainOp o := by cases o <;> rfl
theorem relab_stop (f : Nat → Nat) (o : Op) : stopOk (relab f o) = stopOk o := by cases o <;> rfl
theorem labs_led {k : Nat} {ops : List Op} (h : ∀ q ∈ ops, q.labs.all (· < k) = true) {o : Op} (ho : o.labs.all (· < k) = true) : (ledOp ops o).labs.all (· < k) = true := by
  rcases ledOp_cases ops o with ⟨w, l, _, _, e⟩ | e
  · rw [e]; rfl
  · rw [e, relab_labs, List.all_map]
    rw [List.all_eq_true] at ho ⊢
    intro x hx
    have := ho x hx
    simp only [Function.comp, decide_eq_true_eq] at this ⊢
    exact way_lt h o this
theorem labs_ledF {k : Nat} {ops : List Op} (h : ∀ q ∈ ops, q.labs.all (· < k) = true) : ∀ q ∈ ledF ops, q.labs.all (· < k) = true := fun q hq => by
  obtain ⟨o, ho, rfl⟩ := List.mem_map.mp hq
  exact labs_led h (h o ho)
theorem plain_ledF {ops : List Op} (h : ∀ q ∈ ops, plainOp q = true) : ∀ q ∈ ledF ops, plainOp q = true := fun q hq => by
  obtain ⟨o, ho, rfl⟩ := List.mem_map.mp hq
  rcases ledOp_cases ops o with ⟨w, l, _, _, e⟩ | e
  · rw [e]; rfl
  · rw [e, relab_plain]; exact h o ho
theorem stop_ledF {ops : List Op} (h : ∀ q ∈ ops, stopOk q = true) : ∀ q ∈ ledF ops, stopOk q = true := fun q hq => by
  obtain ⟨o, ho, rfl⟩ := List.mem_map.mp hq
  rcases ledOp_cases ops o with ⟨w, l, hl, _, e⟩ | e
  · rw [e]; exact h _ (List.mem_of_getElem? hl)
  · rw [e, relab_stop]; exact h o ho
noncomputable def plainOf (o : Op) : Op := if plainOp o then o else .deed (.tup [sD "display", sD o.kind])
theorem plain_of (o : Op) : plainOp (plainOf o) = true := by unfold plainOf; split <;> first | assumption | rfl
theorem labs_of {k : Nat} {o : Op} (h : o.labs.all (· < k) = true) : (plainOf o).labs.all (· < k) = true := by unfold plainOf; split <;> first | assumption | rfl
theorem stop_of {o : Op} (h : stopOk o = true) : stopOk (plainOf o) = true := by unfold plainOf; split <;> first | assumption | rfl
end

-- Plain5
section
variable {kf : Nat → Str} {tf : Bool → Nat → Bool}
theorem step_len (ops : List Op) : ∀ c : Cf, (step kf tf ops c).done.length ≤ c.done.length + 1
  | .over w d => by simp [step, Cf.done]
  | .go p k d => by
    simp only [step]
    split <;> simp [Cf.done]
theorem runRes_len (ops : List Op) : ∀ (f : Nat) (c : Cf), (runRes kf tf ops f c).2.length ≤ c.done.length + f
  | f, .over w d => by cases f <;> simp [runRes, Cf.done]
  | 0, .go p k d => by unfold runRes; split <;> simp [Cf.done]
  | f + 1, .go p k d => by
    unfold runRes
    split
    · simp [Cf.done]
    · have h1 := runRes_len ops f (step kf tf ops (.go p k d))
      have h2 : (step kf tf ops (.go p k d)).done.length ≤ d.length + 1 := step_len (kf := kf) (tf := tf) ops (.go p k d)
      show (runRes kf tf ops f (step kf tf ops (.go p k d))).2.length ≤ d.length + (f + 1)
      omega
theorem step_mem {P : D → Prop} {ops : List Op} (h : ∀ d, Op.deed d ∈ ops → P d) : ∀ c : Cf, (∀ x ∈ c.done, P x) → ∀ x ∈ (step kf tf ops c).done, P x
  | .over w d, hc, x, hx => hc x hx
  | .go p k d, hc, x, hx => by
    simp only [step] at hx
    split at hx
    · exact hc x hx
    · exact hc x hx
    · exact hc x hx
    · exact hc x hx
    · rename_i a e
      simp only [Cf.done, List.mem_append, List.mem_singleton] at hx
      rcases hx with hx | rfl
      · exact hc x hx
      · exact h _ (List.mem_of_getElem? e)
    · exact hc x hx
theorem runRes_mem {P : D → Prop} {ops : List Op} (h : ∀ d, Op.deed d ∈ ops → P d) : ∀ (f : Nat) (c : Cf), (∀ x ∈ c.done, P x) → ∀ x ∈ (runRes kf tf ops f c).2, P x
  | f, .over w d, hc, x, hx => by cases f <;> (simp only [runRes] at hx; exact hc x hx)
  | 0, .go p k d, hc, x, hx => by
    unfold runRes at hx
    split at hx <;> exact hc x hx
  | f + 1, .go p k d, hc, x, hx => by
    unfold runRes at hx
    split at hx
    · exact hc x hx
    · exact runRes_mem h f _ (step_mem h _ hc) x hx
end

-- Plain6
section
theorem runs_use {kf : Nat → Str} {tf : Bool → Nat → Bool} {pl : List Op} {f : Nat} {c : Cf} {wd2 wd5 : Str} {d2 d5 : List D} (h2 : runRes kf tf pl f c = (wd2, d2)) (h5 : runRes kf tf (ledF pl) f c = (wd5, d5)) (hc : c.done = []) :
    d2.length ≤ f ∧ d5.length ≤ f ∧ d5.take d2.length = d2 ∧ (wd2 ≠ Str.ofString "steps" → wd5 = wd2 ∧ d5 = d2) ∧ ((∀ o ∈ pl, stopOk o = true) → ∀ x ∈ d2, x.depth ≤ 40) := by
  have RA := runs_alike (kf := kf) (tf := tf) pl f c
  have l2 := runRes_len (kf := kf) (tf := tf) pl f c
  have l5 := runRes_len (kf := kf) (tf := tf) (ledF pl) f c
  have m2 := runRes_mem (kf := kf) (tf := tf) (P := fun x => x.depth ≤ 40) (ops := pl) (f := f) (c := c)
  rw [h2] at l2 m2
  rw [h5] at l5
  rw [h2, h5] at RA
  rw [hc] at l2 l5 m2
  obtain ⟨RA1, RA2⟩ := RA
  refine ⟨by simpa using l2, by simpa using l5, RA1, fun q => ?_, fun h => m2 (fun d hd => ?_) (fun x hx => nomatch hx)⟩
  · have e := RA2 q
    cases e
    exact ⟨rfl, rfl⟩
  · have := h _ hd
    simp only [stopOk] at this
    have := Nat.le_of_ble_eq_true this
    omega
end

-- CompA
section
section
variable {prog : Program} {w : World} {A : Around} {E : Value → Shared → Prop} {env : Env} {s₁ : Shared} {g : Heap} {mtA ex : List Addr} {mt₀ : List (Addr × Obj)} {scope : Scope} {cl : List (Str × Addr)} {x : Str} {elt : PySem.Expr} {Q : Value → Shared → Prop}

theorem comp_listA {Qm : (Str → Option Value) → Value → Shared → Prop} {m0 : Str → Option Value} {l : Addr} {vs : List Value} (J : Nat → Heap → List (Addr × Obj) → List Value → Prop) (hm0 : s₁.heap.Ns env.locals m0) (hh : A.handled = none) (hl : s₁.heap.IsList l vs.toArray) (hn : vs.length < 1000) (hlm : l ∉ mtA)
    (hg : g.StaysIn s₁.heap) (hgz : g.objs.size ≤ s₁.heap.objs.size) (hex : ∀ b ∈ ex, b ∉ mtA ∧ ∃ o, s₁.heap.get? b = some o ∧ ∀ ys n, o.data ≠ .seq ys n) (hM : MtOk g s₁.heap mtA mt₀) (hJ : ∀ gi, J 0 gi mt₀ [])
    (turn : ∀ C i v gi h tk m mt ys, s₁.heap.objs.size ≤ C → vs[i]? = some v → gi.StaysIn h → J i gi mt ys → Fr g C h m → m x = some v → News g C h mt → MtOk g h mtA mt →
      wpAny (model prog w) A (eval elt (compEnvC scope cl C env)) (EltEnd g mtA gi (fun gi' mt' y => J (i + 1) gi' mt' (ys ++ [y])) { s₁ with heap := h, toks := tk }) (fun _ _ => False) { s₁ with heap := h, toks := tk })
    (done : ∀ D h' tk ys mt gi, s₁.heap.get? D = none → h'.PlainList D (List.toArray ys) → ys.length = vs.length → gi.StaysIn h' → J vs.length gi mt ys → MtOk g h' mtA mt →
      (∀ b o, b ∉ mtA → b ∉ ex → s₁.heap.get? b = some o → h'.get? b = some o) → Qm m0 (.ref D) { s₁ with heap := h', toks := tk }) :
    wpAny (model prog w) A (pyIter (.ref l)) (fun it s₂ => ∃ m, s₂.heap.Ns env.locals m ∧ CompAt prog w A env scope cl x elt ex (Qm m) it s₂) E s₁ := by
  refine wpAny_pyIter_list hl ?_
  refine ⟨m0, hm0.keeps (fun b o e => Heap.get?_push_of_some _ e), ?_⟩
  obtain ⟨ol, hol, _⟩ := id hl
  have hlt := Heap.lt_size hol
  have hne : l ≠ s₁.heap.objs.size := Nat.ne_of_lt hlt
  have fresh : s₁.heap.get? s₁.heap.objs.size = none := by
    cases e : s₁.heap.get? s₁.heap.objs.size with
    | none => rfl
    | some o' => exact absurd (Heap.lt_size e) (Nat.lt_irrefl _)
  have mne : s₁.heap.objs.size ∉ mtA := fun q => by
    obtain ⟨o, ho, _⟩ := hM.2 _ q
    have := (hM.1 _ ho).1
    rw [fresh] at this; cases this
  refine ⟨s₁.heap.objs.size, [s₁.heap.objs.size, l], [s₁.heap.objs.size], vs.toArray.size, _, _, g, mtA, mt₀, J, rfl, Walks.list hh _ l hne vs.toArray, ?_, ⟨⟨_, Heap.get?_push_size _ rfl, rfl, rfl⟩, hl.at fun o e => Heap.get?_push_of_some _ e⟩,
    ?_, ?_, fun b o e => Heap.get?_push_of_some _ (hg b o e), ?_, ?_, ?_, ?_, ⟨fun p hp => ⟨Heap.get?_push_of_some _ (hM.1 p hp).1, (hM.1 p hp).2⟩, hM.2⟩, hJ, ?_, ?_⟩
  · rw [sizeLine_eq]; simp; omega
  · intro b hb
    simp only [Heap.size_push]
    rcases List.mem_cons.mp hb with rfl | hb
    · exact Nat.lt_succ_self _
    · rw [List.mem_singleton.mp hb]; exact Nat.lt_succ_of_lt hlt
  · rintro i h ⟨⟨o, ho, hc, _⟩, _⟩ b hb xs ⟨o', ho', hc', _⟩
    rw [List.mem_singleton.mp hb, ho] at ho'; cases ho'
    rw [hc] at hc'; simp at hc'
  · simp only [Heap.size_push]; exact Nat.le_succ_of_le hgz
  · intro b hb
    rw [List.mem_singleton.mp hb]
    cases e : g.get? s₁.heap.objs.size with
    | none => rfl
    | some o' => have := hg _ _ e; rw [fresh] at this; cases this
  · intro b hb
    rcases List.mem_cons.mp hb with rfl | hb
    · exact mne
    · rw [List.mem_singleton.mp hb]; exact hlm
  · intro b hb
    obtain ⟨e1, o, ho, hc⟩ := hex b hb
    exact ⟨e1, fun q => Nat.ne_of_lt (Heap.lt_size ho) (List.mem_singleton.mp q), o, Heap.get?_push_of_some _ ho, hc⟩
  · intro C i v gi h tk m mt ys hC _ hP hgi hJ F hm N M
    simp only [Heap.size_push] at hC
    exact turn C i v gi h tk m mt ys (by exact Nat.le_of_succ_le hC) (by simpa using hP) hgi hJ F hm N M
  · intro D h' tk ys mt gi hD ha hlen hgi hJ M hk
    have hD' : s₁.heap.get? D = none := by
      cases e : s₁.heap.get? D with
      | none => rfl
      | some o' => have := Heap.get?_push_of_some { cls := .type "list_iterator", data := .fields #[.ref l, .int 0 0] } e; rw [hD] at this; cases this
    have hlen' : ys.length = vs.length := by simpa using hlen
    rw [List.size_toArray] at hJ
    exact done D h' tk ys mt gi hD' ha hlen' hgi hJ M fun b o hbm hbx e => hk b o (fun q => Nat.ne_of_lt (Heap.lt_size e) (List.mem_singleton.mp q)) hbm hbx (Heap.get?_push_of_some _ e)

theorem comp_map_listA {Qm : (Str → Option Value) → Value → Shared → Prop} {m0 : Str → Option Value} {l : Addr} {vs : List Value} {ds : List D} (hm0 : s₁.heap.Ns env.locals m0) (hh : A.handled = none) (hl : s₁.heap.IsList l vs.toArray) (hn : vs.length < 1000) (hlen : ds.length = vs.length)
    (hex : ∀ b ∈ ex, ∃ o, s₁.heap.get? b = some o ∧ ∀ ys n, o.data ≠ .seq ys n)
    (turn : ∀ (C : Addr) (i : Nat) (v : Value) (d : D) (h : Heap) (tk : Nat) (m : Str → Option Value), s₁.heap.objs.size ≤ C → vs[i]? = some v → ds[i]? = some d → Fr s₁.heap C h m → m x = some v → News s₁.heap C h [] →
      wpAny (model prog w) A (eval elt (compEnvC scope cl C env)) (fun y s₃ => ∃ h₃ tk₃, s₃ = { s₁ with heap := h₃, toks := tk₃ } ∧ h.StaysIn h₃ ∧ DIn h₃ y d) (fun _ _ => False) { s₁ with heap := h, toks := tk })
    (done : ∀ D h' tk ys, s₁.heap.get? D = none → h'.PlainList D (List.toArray ys) → DAll h' ys ds → (∀ b o, b ∉ ex → s₁.heap.get? b = some o → h'.get? b = some o) → Qm m0 (.ref D) { s₁ with heap := h', toks := tk }) :
    wpAny (model prog w) A (pyIter (.ref l)) (fun it s₂ => ∃ m, s₂.heap.Ns env.locals m ∧ CompAt prog w A env scope cl x elt ex (Qm m) it s₂) E s₁ := by
  refine comp_listA (g := s₁.heap) (mtA := []) (mt₀ := []) (fun i gi _ ys => DAll gi ys (ds.take i)) hm0 hh hl hn (fun q => nomatch q) (fun _ _ e => e) (Nat.le_refl _) (fun b hb => ⟨(fun q => nomatch q), hex b hb⟩) ⟨(fun _ hp => nomatch hp), (fun _ hb => nomatch hb)⟩ (fun gi => by simpa using DAll.nil) ?_ ?_
  · intro C i v gi h tk m mt ys hC hv hgi hJ F hm N M
    have hi : i < ds.length := by
      rw [hlen]
      rcases Nat.lt_or_ge i vs.length with q | q
      · exact q
      · rw [List.getElem?_eq_none q] at hv; cases hv
    refine wpAny_mono (turn C i v ds[i] h tk m hC hv (by simp [hi]) F hm (fun _ hp => nomatch hp)) (fun y s₃ q => ?_) fun _ _ f => f
    obtain ⟨h₃, tk₃, rfl, hk, hd⟩ := q
    refine ⟨h₃, tk₃, [], rfl, fun b o _ e => hk b o e, ⟨(fun _ hp => nomatch hp), (fun _ hb => nomatch hb)⟩, fun gi' hgi' ht => ?_⟩
    rw [List.take_succ_eq_append_getElem hi]
    exact (hJ.keeps hgi').append (.one (hd.tups ht))
  · intro D h' tk ys mt gi hD ha hl' hgi hJ M hk
    rw [← hlen, List.take_length] at hJ
    exact done D h' tk ys hD ha (hJ.keeps hgi) fun b o hb e => hk b o (fun q => nomatch q) hb e

end
end

-- Ra1
theorem fillR1 : (PySem.Challenge.rw_pb0247_01.Holds ∧ ∀ P, hd.heap_39 P = []) → True := by k_fill; intro _; trivial
theorem keeps_of {g h : Heap} {L : Addr} {m : Str → Option Value} (_ : Fr g L h m) : KeepsOff L h h := .refl
noncomputable def KeepsAll (h h' : Heap) : Prop := h.StaysIn h'
theorem KeepsAll.step {h h' h'' : Heap} (k : KeepsAll h h') (x : KeepsAll h' h'') : KeepsAll h h'' := fun b o e => x b o (k b o e)
theorem KeepsAll.refl (h : Heap) : KeepsAll h h := fun _ _ e => e
theorem newTuple_A {M : Model} {A : Around} {E : Value → Shared → Prop} {s : Shared} {g : Heap} {L : Addr} {m : Str → Option Value} {news : List (Addr × Obj)} {vs : List Value} {Q : Value → Shared → Prop} (F : Fr g L s.heap m) (N : News g L s.heap news)
    (h : ∀ D h', Fr g L h' m → News g L h' ((D, ({ cls := .type "tuple", data := .seq vs.toArray } : Obj)) :: news) → (∀ p ∈ news, p.1 < D) → KeepsAll s.heap h' → Q (.ref D) { s with heap := h' }) (hz : vs.length ≤ sizeLine) : wpAny M A (newTuple vs) Q E s :=
  newTuple_NK F N (fun h' F' N' k => h _ h' F' N' (fun p hp => Heap.lt_size (N p hp).1) k) hz
theorem KeepsOff.all {L : Addr} {h h' h'' : Heap} (k : KeepsOff L h h') (x : KeepsAll h' h'') : KeepsOff L h h'' := fun b o hb e => x b o (k b o hb e)
theorem unpack_A {prog : Program} {w : World} {A : Around} {E : Value → Shared → Prop} {s : Shared} {env : Env} {g : Heap} {L : Addr} {m : Str → Option Value} {news : List (Addr × Obj)} {elts : List PySem.Expr} {k} {pos : Pos} {t : Addr} {items : Array Value} {Q : Unit → Shared → Prop} (F : Fr g L s.heap m) (N : News g L s.heap news) (ht : IsTup s.heap t items)
    (hh : A.handled = none) (hn : (assignEach elts env).length = items.size) (hstar : (assignEach elts env).findIdx? (·.1) = none)
    (h : ∀ h', Fr g L h' m → News g L h' news → KeepsAll s.heap h' → wpAny (model prog w) A (assignInOrder ((assignEach elts env).map (·.2)) items.toList) Q E { s with heap := h' }) :
    wpAny (model prog w) A (assign (.Tuple elts k pos) env (.ref t)) Q E s :=
  assign_Tuple_tuple hh ht hn hstar fun h' he => h h' (F.extBut he (Nat.le_refl _)) (N.extBut he (Nat.le_refl _)) fun b o e => he b o (Nat.ne_of_lt (Heap.lt_size e)) e
theorem DAll.take {h : Heap} : ∀ {vs : List Value} {ds : List D}, DAll h vs ds → ∀ n : Nat, DAll h (vs.take n) (ds.take n)
  | _, _, _, 0 => by simpa using DAll.nil
  | _, _, .nil, n + 1 => by simpa using DAll.nil
  | _, _, .cons hd ha, n + 1 => by simpa using DAll.cons hd (ha.take n)
theorem alike_post {g g5 h6 : Heap} {fs : List Addr} {L : Addr} {m : Str → Option Value} (T : KtsTurn fs g g5) (F6 : Fr g5 L h6 m) : (∀ b o, b ∉ fs → g.get? b = some o → h6.get? b = some o) ∧ g.UpToSlots h6 :=
  ⟨fun b o hb e => F6.keep _ _ (T.other b o e hb), fun b o e _ => let ⟨sl, hs⟩ := T.up e; ⟨sl, F6.keep _ _ hs⟩⟩
theorem news_perm5 {g h : Heap} {L : Addr} {a b c d e : Addr × Obj} (N : News g L h [a, b, c, d, e]) : News g L h [a, d, b, c, e] := fun p hp => N p (by
  simp only [List.mem_cons, List.not_mem_nil, or_false] at hp ⊢
  rcases hp with h | h | h | h | h <;> simp [h])
theorem comp_news {g h h9 : Heap} {L D : Addr} {m : Str → Option Value} {X : Obj} {nw : List (Addr × Obj)} (F : Fr g L h m) (N : News g L h nw) (k : KeepsOff L h h9) (hD : h.get? D = none) (hX : h9.get? D = some X) : News g L h9 (nw ++ [(D, X)]) ∧ ∀ p ∈ nw, p.1 ≠ D := by
  refine ⟨fun p hp => ?_, fun p hp q => ?_⟩
  · rcases List.mem_append.mp hp with hp | hp
    · exact ⟨k _ _ (N p hp).2.1 (N p hp).1, (N p hp).2⟩
    · rw [List.mem_singleton.mp hp]
      refine ⟨hX, fun q => ?_, ?_⟩
      · obtain ⟨o, _, _, ho, _⟩ := F.ns
        rw [← q, hD] at ho; cases ho
      · cases q : g.get? D with
        | none => rfl
        | some o => have := F.keep _ _ q; rw [hD] at this; cases this
  · have := (N p hp).1
    rw [q, hD] at this; cases this
theorem tab70_list {h h' : Heap} {a : Addr} {ps its : Array Value} (hP : h.get? 70 = some (tabObj ps)) (k : ∀ b o, b ≠ 70 → h.get? b = some o → h'.get? b = some o) (x : h.IsList a its) : h'.IsList a its := by
  refine x.at fun o e => k a o (fun q => ?_) e
  obtain ⟨o', ho, hc, _⟩ := x
  rw [q, hP] at ho; cases ho
  cases hc
theorem tab70_tups {h h' : Heap} {ps : Array Value} (hP : h.get? 70 = some (tabObj ps)) (k : ∀ b o, b ≠ 70 → h.get? b = some o → h'.get? b = some o) : Tups h h' := fun b xs ⟨o, ho, hc, r⟩ => ⟨o, k b o (fun q => by
  rw [q, hP] at ho; cases ho
  cases hc) ho, hc, r⟩
theorem plain_any (o : Op) : ((["jump", "test", "key", "stop", "do"] : List Str).any fun x => x == Str.ofString o.kind) = plainOp o := by cases o <;> (simp only [Op.kind, plainOp]; decide)
theorem wordsRa11 : True := by
  k_with_none
  w_top off
  k_with "pb_lt" => (first | (with_reducible assumption) | (refine' lt_use (by with_reducible assumption) ?_; (repeat (first | with_reducible exact And.left | with_reducible exact id | with_reducible refine' lt_skip ?_)); done))
  trivial
theorem wordsRa12 : True := by
  k_with "execs cons" => (k_here; k_dflt (refine' execs_hide ?_); intro P9zz tk8zz hP9zz; (try dsimp only))
  trivial
theorem wordsRa13 : True := by
  k_with "subscriptTail" => (k_here; (with_reducible show wpAny _ _ (subscriptTail _ _ (Value.ref _) (Value.int _ _)) _ _ _); k_dflt (first | (refine' item_tup (by k_asm) (by with_reducible assumption) (by decide) (by decide) (by (first | exact seq_0 _ | exact seq_1 _ | rfl)) (by rfl) ?_; k_whole)))
  k_with "truthy bool" => (refine' truthy_known (by with_reducible assumption) ?_)
  k_with "pb_steps" => (repeat' (first | (walk_at "pb_hp") | (k_unfold; (try dsimp only)) | walk1 | (dsimp only; walk1) | fail "no step"))
  k_with "pb_enterM" => (refine' enterM (by with_reducible assumption) (by k_asm) (by exact topRead_of (by with_reducible assumption)) (by k_is) (by k_is) (by first | exact dlt0 (by with_reducible assumption) | exact dltk (by with_reducible assumption) (by decide) | exact dlt1 (by with_reducible assumption) (by decide) | omega | (dsimp only; omega)) (by first | exact BindsTo.of_eq (binds := [(Str.ofString _, _), (Str.ofString _, _), (Str.ofString _, _)]) rfl | exact BindsTo.of_eq (binds := [(Str.ofString _, _), (Str.ofString _, _)]) rfl | exact BindsTo.of_eq (binds := [(Str.ofString _, _)]) rfl | exact BindsTo.of_eq rfl) (by exact locs rfl) ?_ (by exact rfl) (by exact rfl) (by exact rfl) (by decide); k_whole; intro Lzz' hzz' Fzz' Nzz' l1zz; (try simp only [List.cons_append, List.nil_append, List.append_nil] at Nzz'); (try dsimp only); (try k_fold))
  trivial
theorem wordsRa14 : True := by
  k_with "storeName" => (k_here; (with_reducible rename KeepsOff _ _ _ => kOzz); k_dflt (refine' stNK (by k_asm) (by k_asm) ?_ (by rfl) (by rfl); k_whole); intro hzz' Fzz' Nzz' hszz' _; (have kOzz' := KeepsOff.same kOzz hszz'); clear kOzz hszz'; (try k_sweep))
  k_with "newTuple" => (k_here; (with_reducible rename KeepsAll _ _ => kOzz); k_dflt (refine' newTuple_A (by k_asm) (by k_asm) ?_ (by kmk_size); k_whole); intro Dzz' hzz' Fzz' Nzz' l1zz hkzz'; (have kOzz' := KeepsAll.step kOzz hkzz'); clear kOzz hkzz'; (try k_lt l1zz); (try k_sweep))
  k_with "assign Tuple" => (k_here; (with_reducible rename KeepsOff _ _ _ => kOzz); (with_reducible show wpAny _ _ (assign (Expr.Tuple _ _ _) _ (Value.ref _)) _ _ _); k_dflt (refine' unpack_A (by k_asm) (by k_asm) (by first | with_reducible assumption | (refine News.isTup (by k_asm) (by k_mem))) (by exact rfl) (by exact rfl) (by exact rfl) ?_); intro hzz' Fzz' Nzz' hkzz'; (have kOzz' := KeepsOff.all kOzz hkzz'); clear kOzz hkzz'; (try k_sweep))
  k_with "call builtin:len" => (k_here; (with_reducible show wpAny _ _ (PySem.call _ [Value.ref _]) _ _ _); (with_reducible rename News _ _ _ _ => kNzz); k_dflt (refine' len_N kNzz (by k_mem) (by with_reducible assumption) ?_; k_whole))
  k_with "subscriptTail Name Slice ref ref" => (k_here; (with_reducible rename KeepsOff _ _ _ => kOzz); (with_reducible show wpAny _ _ (subscriptTail _ (PySem.Expr.Slice none (some _) none _) (Value.ref _) (Value.ref _)) _ _ _); k_dflt (refine' slice_upto (by k_asm) (by k_asm) (by (refine News.isList (by k_asm) (by k_mem))) ?_ (by with_unfolding_all rfl) (by kmk_pure) (by with_reducible assumption); k_whole); intro Dzz' hzz' Fzz' Nzz' l1zz hkzz'; (have kOzz' := KeepsOff.all kOzz hkzz'); clear kOzz hkzz'; (try k_lt l1zz); (try k_sweep))
  k_with "pb_toI" => (repeat' (first | (walk_at "pb_hp") | (k_unfold; (try dsimp only)) | ((fail_if_success (with_reducible show wpAny _ _ (pyIter _) _ _ _)); walk1) | (dsimp only; (fail_if_success (with_reducible show wpAny _ _ (pyIter _) _ _ _)); walk1) | fail "no step"))
  k_with "eval Name" => (k_here; k_inBlock; (with_reducible rename Fr _ _ _ _ => kFzz); k_dflt (first | (refine' nameC_L kFzz (by rfl) (by rfl) (by rfl) (by decide) (by with_reducible assumption) ?_; k_whole) | (refine' nameC_K kFzz (by rfl) (by rfl) (by rfl) (by decide) (by k_asm) (by k_asm) (by k_is) ?_; k_whole)))
  k_with "pb_toT" => (repeat' (first | (walk_at "pb_hp") | (k_unfold; (try dsimp only)) | ((fail_if_success (with_reducible show wpAny _ _ (newTuple _) _ _ _)); walk1) | (dsimp only; (fail_if_success (with_reducible show wpAny _ _ (newTuple _) _ _ _)); walk1) | fail "no step"))
  k_with "pb_toC" => (repeat' (first | (walk_at "pb_hp") | (k_unfold; (try dsimp only)) | ((fail_if_success (with_reducible show wpAny _ _ (PySem.call (Value.ref _) _) _ _ _)); walk1) | (dsimp only; (fail_if_success (with_reducible show wpAny _ _ (PySem.call (Value.ref _) _) _ _ _)); walk1) | fail "no step"))
  k_with "pb_toE" => (repeat' (first | (walk_at "pb_hp") | (k_unfold; (try dsimp only)) | ((fail_if_success (with_reducible show wpAny _ _ (PySem.call (Value.ref _) _) _ _ _)); (fail_if_success (with_reducible show wpAny _ _ (compareOp _ (Value.ref _) (Value.ref _)) _ _ _)); walk1) | (dsimp only; (fail_if_success (with_reducible show wpAny _ _ (PySem.call (Value.ref _) _) _ _ _)); (fail_if_success (with_reducible show wpAny _ _ (compareOp _ (Value.ref _) (Value.ref _)) _ _ _)); walk1) | fail "no step"))
  k_with "pb_toA" => (repeat' (first | (walk_at "pb_hp") | (k_unfold; (try dsimp only)) | ((fail_if_success (with_reducible show wpAny _ _ (exec (.Assign _ _ _) _) _ _ _)); walk1) | (dsimp only; (fail_if_success (with_reducible show wpAny _ _ (exec (.Assign _ _ _) _) _ _ _)); walk1) | fail "no step"))
  trivial
theorem alike_c {prog : Program} {w : World} {A : Around} {E : Value → Shared → Prop} {s : Shared} {base g : Heap} {outer : List Env} {p : Program} {loose : List Str} {mean : ExcName → Option Value} {mg mb : Str → Option Value} {Q : Value → Shared → Prop}
    {a cl : Addr} {ops : List Op} {vs cs : List Value} {ns : List Int} {ps ps7 : Array Value}
    (B : Below A base outer g) (XB : (hd.heap_39 w.params).In base) (TB : Top p loose mean mg mb base) (CB : CodeHd base 467 463) (C7 : CodeHd base 74 70)
    (b7 : base.get? 70 = none) (G : Apart g s.heap [(463, tabObj ps), (70, tabObj ps7)]) (R : RTab g ps) (R7 : ps7 = #[] ∨ ∃ c', ps7 = #[rawInt 46, rawInt 31, .ref c'] ∧ g.CodeRec (.ref c') lamQ) (hh : A.handled = none) (hdp : A.depth + 200 < recursionLimit) (hu : A.units + 2000 < cLine)
    (hl : g.IsList a vs.toArray) (hds : DAll g vs (ops.map Op.d)) (hn : ops.length < 900) (hcl : g.IsList cl cs.toArray) (hi : IntsAre cs ns) (h1 : 1 ≤ ns.length) (h2 : ns.length ≤ 60) (hlab : ∀ q ∈ ops, q.labs.all (· < 1000) = true) (hst0 : ∀ o ∈ ops, stopOk o = true)
    (hQ : ∀ h' tk ps' ps7', (∀ b o, b ∉ frs outer → g.get? b = some o → h'.get? b = some o) → g.UpToSlots h' → h'.get? 463 = some (tabObj ps') → RTab h' ps' → TabL h' ps7' → Q (.bool true) { s with heap := h', toks := tk }) :
    wpAny (model prog w) A (call (.ref 473) [.ref a, .ref cl]) Q E s := by
  have X := XB.keeps B.stays
  have T := TB.keeps B.stays
  have hlen := hds.length
  rw [List.length_map] at hlen
  obtain ⟨ah, dp, fr, gd, un⟩ := A
  dsimp only at hh hdp hu
  subst hh
  obtain rfl : fr = some outer := B.stack
  walk_at "pb_enterM"
  walk_at "pb_toA"
  refine' assign_ListCompJ ?k0 ?k1 ?k2 ?k3 ?k4 ?k5 ?k6 ?k7 ?_ ?k8
  case k1 => exact rfl
  case k2 => decide
  case k3 => rfl
  case k4 => decide
  case k5 => rfl
  case k6 => rfl
  case k7 => rfl
  case k8 => intro _; rfl
  case k0 => rfl
  case _ =>
   walk_at "pb_toI"
   rename Fr _ _ _ _ => F
   rename News _ _ _ _ => N
   refine' comp_map_listA (vs := vs) (ds := (ops.map plainOf).map Op.d) F.ns rfl (hl.at fun o e => F.keep _ _ e) (by omega) (by simp [hlen]) ?hex ?turn ?done
   case hex =>
     intro b hb
     rw [List.mem_singleton.mp hb]
     obtain ⟨o, es, ep, ho, hd, _⟩ := F.ns
     exact ⟨o, ho, fun ys n q => by rw [hd] at q; cases q⟩
   case turn =>
     intro C9 i v d h9 tk9 m9 hC9 hv hd9 F9 hm N9
     obtain ⟨o9, ho9, rfl⟩ : ∃ o, ops[i]? = some o ∧ d = (plainOf o).d := by
       cases e : ops[i]? with
       | none => simp [e] at hd9
       | some o => simp [e] at hd9; exact ⟨o, rfl, hd9.symm⟩
     obtain ⟨v', hv', hD9⟩ := hds.get (k := i) (d := o9.d) (by simp [ho9])
     obtain rfl : v' = v := Option.some.inj (hv'.symm.trans hv)
     replace hD9 := hD9.keeps F.keep
     obtain ⟨t9, u9, w9, r9, rfl, ht9, _, _⟩ := hD9.op
     have hany := plain_any o9
     have kS9 := KeepsAll.refl h9
     have hDh := hD9.keeps F9.keep
     unfold plainOf
     cases hp : plainOp o9 with
     | true =>
       rw [hp] at hany
       walk_at "pb_steps"
       all_goals rename KeepsAll _ _ => k8
       · exact k8
       · first | rw [if_pos trivial] | rw [if_pos rfl]
         exact hDh.keeps k8
     | false =>
       rw [hp] at hany
       walk_at "pb_steps"
       all_goals rename KeepsAll _ _ => k8
       · exact k8
       · rename News _ _ _ _ => N8
         rw [if_neg Bool.false_ne_true]
         exact .tup ⟨_, N8.get (.head _), rfl, _, rfl⟩ (.cons (.str _ _) (.cons (.tup ⟨_, N8.get (.tail _ (.head _)), rfl, _, rfl⟩ (.cons (.str _ _) (.cons (.str _ _) .nil))) .nil))
   case done =>
     intro D9 h9 tk9 ys hD9 hPL hDA hk9 hns9
     obtain ⟨n9, hPL⟩ := hPL
     obtain ⟨F9, KO⟩ := comp_fr F hk9 hns9
     obtain ⟨N9, nD9⟩ := comp_news F N KO hD9 hPL
     simp only [List.cons_append, List.nil_append] at N9
     have keep9 := F9.keep
     have hOl : ((ops.map plainOf).map Op.d) = (ops.map plainOf).map Op.d := rfl
     have e1 : ∀ q ∈ ops.map plainOf, q.labs.all (· < 1000) = true := fun q hq => by
       obtain ⟨o, ho, rfl⟩ := List.mem_map.mp hq
       exact labs_of (hlab o ho)
     have e2 : ∀ q ∈ ops.map plainOf, plainOp q = true := fun q hq => by
       obtain ⟨o, ho, rfl⟩ := List.mem_map.mp hq
       exact plain_of o
     have e3 : ∀ q ∈ ops.map plainOf, stopOk q = true := fun q hq => by
       obtain ⟨o, ho, rfl⟩ := List.mem_map.mp hq
       exact stop_of (hst0 o ho)
     have e4 : (ops.map plainOf).length < 900 := by simpa using hn
     generalize ops.map plainOf = pl at *
     clear F N
     walk_at "pb_toC"
     refine run_N (ns := ns) B F9 N9 ?_ rfl rfl rfl XB TB CB (R.mono fun _ _ x => x.keeps F9.keep) rfl ?_ ?_ ⟨_, hPL, rfl, _, rfl⟩ hDA e4 (hcl.at fun o e => F9.keep _ _ e) hi h1 h2 (fun o ho => last_labs (by omega) (e1 o ho)) e2 e3 ?_
     · intro p hp
       simp only [List.mem_cons, List.not_mem_nil, or_false] at hp
       rcases hp with rfl | rfl
       · show (70 : Addr) ≠ 463; decide
       · exact Ne.symm (nD9 _ (.head _))
     · (first | exact dlt1 (by with_reducible assumption) (by decide) | exact dltk (by with_reducible assumption) (by decide) | exact dlt2 (by with_reducible assumption) (by decide) | (simp only [Around.deeper]; omega))
     · (first | exact dlt1 (by with_reducible assumption) (by decide) | exact dltk (by with_reducible assumption) (by decide) | exact dlt2 (by with_reducible assumption) (by decide) | (simp only [Around.deeper]; omega))
     · intro r2 h2' tk2 u2 dn2 n2 wd2 d2 ys2 ps2 g2 hrun2 T2 B2 F2 N2 off2 r24 dn24 dr2 tu2 hcl2 rec2 hD2 R2
       have KO2 := keeps_of F2
       have ns2 := F2.ns
       have X2 := XB.keeps B2.stays
       have TT2 := TB.keeps B2.stays
       clear KO hk9
       walk_at "pb_toC"
       rename Fr _ _ _ _ => F3
       rename News _ _ _ _ => N3
       rename KeepsOff _ _ _ => KO3
       replace N3 := news_perm5 N3
       have t3 := frame_tups ns2 KO3
       have r3 : ∀ cd q, Heap.CodeRec _ cd q → Heap.CodeRec _ cd q := fun cd q x => frame_rec ns2 KO3 (rec2 cd q x)
       refine led_N B2 F3 N3 ?_ XB TB b7 C7 ⟨(N3 _ (.tail _ (.head _))).1, R7.imp_right fun ⟨c', e, x⟩ => ⟨c', e, r3 _ _ (x.keeps keep9)⟩⟩ rfl ?_ ?_ ⟨ys, ⟨_, (N3 _ (.tail _ (.tail _ (.tail _ (.tail _ (.head _)))))).1, rfl, _, rfl⟩, (hDA.tups tu2).tups t3⟩ e4 e1 ?_
       · intro p hp
         simp only [List.mem_cons, List.not_mem_nil, or_false] at hp
         rcases hp with rfl | rfl | rfl | rfl
         · show (463 : Addr) ≠ 70; decide
         · exact Ne.symm (off2 _ (.head _)).1
         · exact Ne.symm (off2 _ (.head _)).2
         · exact Ne.symm (nD9 _ (.tail _ (.head _)))
       · (first | exact dlt1 (by with_reducible assumption) (by decide) | exact dltk (by with_reducible assumption) (by decide) | exact dlt2 (by with_reducible assumption) (by decide) | (simp only [Around.deeper]; omega))
       · (first | exact dlt1 (by with_reducible assumption) (by decide) | exact dltk (by with_reducible assumption) (by decide) | exact dlt2 (by with_reducible assumption) (by decide) | (simp only [Around.deeper]; omega))
       · intro r4 h4' tk4 ps74 F4 N4 hk4 rec4 TL4 O4
         have hP3 := (N3 _ (.tail _ (.head _))).1
         have hcl4 := tab70_list hP3 hk4 (frame_list ns2 KO3 hcl2)
         have RR4 := R2.mono fun _ _ x => rec4 _ _ (frame_rec ns2 KO3 x)
         have hD4 := (hD2.tups t3).tups (tab70_tups hP3 hk4)
         clear F3 N3
         obtain ⟨vs4, hl4, hd4⟩ := O4
         walk_at "pb_toC"
         refine run_N (ns := ns) B2 F4 N4 ?_ rfl rfl rfl XB TB CB RR4 rfl ?_ ?_ hl4 hd4 (by rw [led_len]; exact e4) hcl4 hi h1 h2 (fun o ho => last_labs (by omega) (labs_ledF e1 o ho)) (plain_ledF e2) (stop_ledF e3) ?_
         · intro p hp
           simp only [List.mem_cons, List.not_mem_nil, or_false] at hp
           rcases hp with rfl | rfl | rfl | rfl
           · show (70 : Addr) ≠ 463; decide
           · exact r24
           · exact dn24
           · exact Ne.symm (nD9 _ (.head _))
         · (first | exact dlt1 (by with_reducible assumption) (by decide) | exact dltk (by with_reducible assumption) (by decide) | exact dlt2 (by with_reducible assumption) (by decide) | (simp only [Around.deeper]; omega))
         · (first | exact dlt1 (by with_reducible assumption) (by decide) | exact dltk (by with_reducible assumption) (by decide) | exact dlt2 (by with_reducible assumption) (by decide) | (simp only [Around.deeper]; omega))
         · intro r5 h5' tk5 u5 dn5 n5 wd5 d5 ys5 ps5 g5 hrun5 T5 B5 F5 N5 off5 r54 dn54 dr5 tu5 hcl5 rec5 hD5 R5
           have KO5 := keeps_of F5
           have ns5 := F5.ns
           have X5 := XB.keeps B5.stays
           have TT5 := TB.keeps B5.stays
           clear KO3
           obtain ⟨hlen2, hlen5, RA1, RA2, hdep⟩ := runs_use hrun2 hrun5 rfl
           replace hdep := hdep e3
           clear hrun2 hrun5
           have hy2 : ys2.length < 1000 := by have := hD2.length; omega
           have hy5 : ys5.length < 1000 := by have := hD5.length; omega
           walk_at "pb_toE"
           · rename Fr _ _ _ _ => F6
             rename News _ _ _ _ => N6
             rename KeepsOff _ _ _ => KO6
             have t6 := frame_tups ns5 KO6
             refine lists_eq (vs := ys5.take ys2.length) (ws := ys2) (ds := d2) (N6.isList (by k_mem)) (N6.isList (by k_mem)) ?_ ((hD4.tups tu5).tups t6) hdep ?_ ?_
             · have q9 := (hD5.tups t6).take d2.length
               rw [RA1] at q9
               rw [hD2.length]
               exact q9
             · (first | exact dlt1 (by with_reducible assumption) (by decide) | exact dltk (by with_reducible assumption) (by decide) | exact dlt2 (by with_reducible assumption) (by decide) | (simp only [Around.deeper]; omega))
             · have P := alike_post (T2.trans T5) F6
               exact hQ _ _ _ _ P.1 P.2 (N6.get (a := 463) (by k_mem)) (R5.mono fun _ _ x => frame_rec ns5 KO6 x) ⟨N6.get (a := 70) (by k_mem), TL4.2.imp_right fun ⟨c', e, x⟩ => ⟨c', e, frame_rec ns5 KO6 (rec5 _ _ x)⟩⟩
           · rename Fr _ _ _ _ => F6
             rename News _ _ _ _ => N6
             rename KeepsOff _ _ _ => KO6
             have t6 := frame_tups ns5 KO6
             rename (wd2 == _) = false => q1
             have RA3 := RA2 (fun q => by rw [q] at q1; exact absurd q1 (by decide))
             obtain ⟨rfl, rfl⟩ := RA3
             refine lists_eq (vs := ys5) (ws := ys2) (N6.isList (by k_mem)) (N6.isList (by k_mem)) (hD5.tups t6) ((hD4.tups tu5).tups t6) hdep ?_ ?_
             · (first | exact dlt1 (by with_reducible assumption) (by decide) | exact dltk (by with_reducible assumption) (by decide) | exact dlt2 (by with_reducible assumption) (by decide) | (simp only [Around.deeper]; omega))
             · have P := alike_post (T2.trans T5) F6
               exact hQ _ _ _ _ P.1 P.2 (N6.get (a := 463) (by k_mem)) (R5.mono fun _ _ x => frame_rec ns5 KO6 x) ⟨N6.get (a := 70) (by k_mem), TL4.2.imp_right fun ⟨c', e, x⟩ => ⟨c', e, frame_rec ns5 KO6 (rec5 _ _ x)⟩⟩
           · rename (wd5 == _) = false => q2
             rename (wd2 == _) = false => q1
             have RA3 := RA2 (fun q => by rw [q] at q1; exact absurd q1 (by decide))
             obtain ⟨rfl, rfl⟩ := RA3
             rw [beq_self_eq_true] at q2
             cases q2

-- Slice3
section
section
variable {prog : Program} {w : World} {A : Around} {E : Value → Shared → Prop} {s : Shared}
theorem adjust_m1 (n : Nat) (hn : 1 ≤ n) : Builtin.Slice.sliceAdjust none (some (-1 : Int)) 1 (n : Int) = (0, ((n - 1 : Nat) : Int)) := by
  unfold Builtin.Slice.sliceAdjust
  have h1 : ¬ ((1 : Int) < 0) := by omega
  have h2 : ((-1 : Int) < 0) := by omega
  simp only [h1, h2, if_false, if_true]
  congr 1
  omega
theorem sliceApplied_m1 {sl : Addr} {n : Nat} {u : Tok} {Q : Int × Int × Nat → Shared → Prop} (hs : s.heap.IsSliceOf sl .none (.int (-1) u) .none) (hn : 1 ≤ n) (h : Q (0, 1, n - 1) s) :
    wpAny (model prog w) A (Builtin.Slice.sliceApplied (.ref sl) (pure (n : Int))) Q E s := by
  obtain ⟨os, hos, hcs, hds⟩ := id hs
  unfold Builtin.Slice.sliceApplied Builtin.Slice.sliceFields
  refine wpAny_bind (wpAny_bind (wpAny_field hos hds (x := .none) rfl (wpAny_bind (wpAny_field hos hds (x := .int (-1) u) rfl (wpAny_bind (wpAny_field hos hds (x := .none) rfl (wpAny_pure ?_)))))))
  refine wpAny_bind (slicePart_none ?_)
  show wpAny _ _ (if ((1 : Int) == 0) = true then _ else _) _ _ s
  rw [if_neg (by decide)]
  refine wpAny_bind (slicePart_none (wpAny_bind (slicePart_int (wpAny_bind (wpAny_pure ?_)))))
  show wpAny _ _ (match Builtin.Slice.sliceAdjust none (some (-1 : Int)) 1 (n : Int) with | (lo, hi) => pure (lo, (1 : Int), Builtin.Slice.slicePlaces lo hi 1)) _ _ s
  rw [adjust_m1 n hn]
  show wpAny _ _ (pure ((0 : Int), (1 : Int), Builtin.Slice.slicePlaces (0 : Int) ((n - 1 : Nat) : Int) 1)) _ _ s
  have e : Builtin.Slice.slicePlaces (0 : Int) ((n - 1 : Nat) : Int) 1 = n - 1 := by
    unfold Builtin.Slice.slicePlaces
    have h1 : (1 : Int) > 0 := by omega
    simp only [h1, if_true, Int.ediv_one]
    split <;> omega
  rw [e]
  exact wpAny_pure h
theorem getItem_tupM1 {t sl : Addr} {items ys : List Value} {u : Tok} {Q : Value → Shared → Prop} (ht : IsTup s.heap t (List.toArray items)) (hs : s.heap.IsSliceOf sl .none (.int (-1) u) .none) (h1 : 1 ≤ items.length)
    (e : ((List.range (items.length - 1)).filterMap fun (k : Nat) => (List.toArray items)[((0 : Int) + (k : Int) * 1).toNat]?).toArray = List.toArray ys) (hz : ys.length < 1000)
    (h2 : Q (.ref s.heap.objs.size) { s with heap := s.heap.push { cls := .type "tuple", data := .seq (List.toArray ys) } }) :
    wpAny (model prog w) A (getItem (.ref t) (.ref sl)) Q E s := by
  obtain ⟨os, hos, hcs, hds⟩ := id hs
  have hTs : s.TypeIs (.ref sl) "slice" := ⟨os, hos, hcs⟩
  unfold getItem
  try with_reducible refine wpAny_holding ?_
  first | refine wpAny_bind (wpAny_pure ?_) | skip
  refine wpAny_bind (wpAny_sequenceKey ht.typeIs (by decide) ?_)
  refine wpAny_bind (wpAny_callSpecial?_slot (name := Str.ofString "__getitem__") ht.typeIs slot_tuple_getitem
    (wpAny_call_entry slot_tuple_getitem ht.typeIs entry_tuple_getitem ?_ (args_tuple_getitem _ _)))
  show wpAny _ _ (Builtin.Tuple.tupleItemsOf (.ref t) >>= _) _ _ s
  refine wpAny_bind (tupleItemsOf_ ht ?_)
  refine wpAny_bind (wpAny_typeOf hTs ?_)
  rw [if_pos (by decide)]
  refine wpAny_bind (sliceApplied_m1 hs (n := (List.toArray items).size) (by simpa using h1) ?_)
  show wpAny _ _ (if ((0 : Int) == 0 && (1 : Int) == 1 && (List.toArray items).size - 1 == (List.toArray items).size) = true then _ else _) _ _ s
  rw [if_neg (by simp; omega)]
  rw [List.size_toArray, e]
  have hdrop : sizeOk (.seq (List.toArray ys)) := by
    show (List.toArray ys).size ≤ sizeLine
    rw [sizeLine_eq]; simp; omega
  first
    | exact wpAny_bind (m := Builtin.Tuple.tupleExact _) (wpAny_newObj_type (wpAny_pure ⟨_, rfl, wpAny_pure h2⟩) hdrop)
    | exact wpAny_bind (m := Builtin.Tuple.tupleExact _) (wpAny_newObj_type (wpAny_bind (wpAny_pure (wpAny_pure ⟨_, rfl, wpAny_pure h2⟩))) hdrop)
    | exact wpAny_bind (wpAny_bind (m := Builtin.Tuple.tupleExact _) (wpAny_newObj_type (wpAny_pure (wpAny_pure ⟨_, rfl, wpAny_pure h2⟩)) hdrop))
    | exact wpAny_bind (wpAny_bind (m := Builtin.Tuple.tupleExact _) (wpAny_newObj_type (wpAny_pure ⟨_, rfl, wpAny_pure h2⟩) hdrop))
theorem sliceM1 {g : Heap} {L : Addr} {m : Str → Option Value} {news : List (Addr × Obj)} {Q : Value → Shared → Prop}
    {value slice : PySem.Expr} {t : Addr} {items ys : List Value} {u : Tok} (F : Fr g L s.heap m) (N : News g L s.heap news) (ht : IsTup s.heap t (List.toArray items)) (h1 : 1 ≤ items.length)
    (e : ((List.range (items.length - 1)).filterMap fun (k : Nat) => (List.toArray items)[((0 : Int) + (k : Int) * 1).toNat]?).toArray = List.toArray ys) (hz : ys.length < 1000)
    (hs : subscripted slice false (.ref t) (.ref s.heap.objs.size) = operate [.ref s.heap.objs.size, .ref t] (getItem (.ref t) (.ref s.heap.objs.size)))
    (h : ∀ D h', Fr g L h' m → News g L h' ((D, { cls := .type "tuple", data := .seq (List.toArray ys) }) :: news) → (∀ p ∈ news, p.1 < D) → Q (.ref D) { s with heap := h' }) :
    wpAny (model prog w) A (subscriptTail value slice (.ref t) (.ref s.heap.objs.size)) Q E { s with heap := s.heap.push { cls := .type "slice", data := .fields #[.none, .int (-1) u, .none] } } := by
  have k1 : s.heap.StaysIn (s.heap.push { cls := .type "slice", data := .fields #[.none, .int (-1) u, .none] }) := fun _ _ e => Heap.get?_push_of_some _ e
  have ht' : IsTup (s.heap.push { cls := .type "slice", data := .fields #[.none, .int (-1) u, .none] }) t (List.toArray items) := ht.keeps k1
  refine tail_any (s := { s with heap := s.heap.push { cls := .type "slice", data := .fields #[.none, .int (-1) u, .none] } }) ht'.typeIs slot_tuple_getitem.lookup (getItem_tupM1 ht' (Heap.IsSliceOf.new ..) h1 e hz ?_) hs
  refine h _ _ ((F.push _).push _) (News.push (F.push _) (N.grown k1) _) fun p hp => ?_
  rw [Heap.size_push]
  exact Nat.lt_succ_of_lt (Heap.lt_size (N p hp).1)
theorem drop1_2 (a b : Value) : ((List.range ([a, b].length - 1)).filterMap fun (k : Nat) => (List.toArray [a, b])[((0 : Int) + (k : Int) * 1).toNat]?).toArray = List.toArray [a] := by simp [List.range, List.range.loop, List.filterMap]
theorem drop1_3 (a b c : Value) : ((List.range ([a, b, c].length - 1)).filterMap fun (k : Nat) => (List.toArray [a, b, c])[((0 : Int) + (k : Int) * 1).toNat]?).toArray = List.toArray [a, b] := by simp [List.range, List.range.loop, List.filterMap]
end
end

-- Ldue
theorem fillK9 : (PySem.Challenge.rw_pb0247_01.Holds ∧ ∀ P, hd.heap_39 P = []) → True := by k_fill; intro _; trivial
theorem wordsLdue1 : True := by
  k_with_none
  w_top off
  k_with "pb_lt" => (first | (with_reducible assumption) | (refine' lt_use (by with_reducible assumption) ?_; (repeat (first | with_reducible exact And.left | with_reducible exact id | with_reducible refine' lt_skip ?_)); done))
  trivial
theorem wordsLdue2 : True := by
  k_with "subscriptTail" => (k_here; (with_reducible show wpAny _ _ (subscriptTail _ _ (Value.ref _) (Value.int _ _)) _ _ _); k_dflt (first | (refine' item_list (by k_asm) (by with_reducible assumption) (by first | with_reducible assumption | omega) (by first | with_reducible assumption | omega) (by with_reducible assumption) ?_; k_whole) | (refine' item_tup (by k_asm) (by with_reducible assumption) (by decide) (by decide) (by (first | exact seq_0 _ | exact seq_1 _ | rfl)) (by rfl) ?_; k_whole)))
  k_with "pb_enter" => (refine' enter (by k_asm) (by k_asm) (by k_asm) (by k_is) (by k_is) (by first | exact dlt0 (by with_reducible assumption) | exact dltk (by with_reducible assumption) (by decide) | exact dlt1 (by with_reducible assumption) (by decide) | omega | (dsimp only; omega)) (by first | exact BindsTo.of_eq (binds := [(Str.ofString _, _), (Str.ofString _, _), (Str.ofString _, _)]) rfl | exact BindsTo.of_eq (binds := [(Str.ofString _, _), (Str.ofString _, _)]) rfl | exact BindsTo.of_eq (binds := [(Str.ofString _, _)]) rfl | exact BindsTo.of_eq rfl) (by exact locs rfl) ?_ (by exact rfl) (by exact rfl) (by exact rfl) (by decide); k_whole; intro Lzz' hzz' Fzz' Nzz' Xzz' Tzz'; (try dsimp only); (try k_fold))
  k_with "call builtin:len" => (k_here; (with_reducible show wpAny _ _ (PySem.call _ [Value.ref _]) _ _ _); k_dflt (refine' len_l (by k_asm) (by with_reducible assumption) (by first | with_reducible assumption | omega) ?_; k_whole))
  k_with "truthy bool" => (refine' truthy_known (by with_reducible assumption) ?_)
  k_with "pb_steps" => (repeat' (first | (k_unfold; (try dsimp only)) | walk1 | (dsimp only; walk1) | fail "no step"))
  k_with "pb_enterC" => (refine' enterC (mt := []) (Apart.whole _) (by k_asm) (by k_asm) (by k_is) (by k_is) (by first | exact dlt0 (by with_reducible assumption) | exact dltk (by with_reducible assumption) (by decide) | exact dlt1 (by with_reducible assumption) (by decide) | omega | (dsimp only; omega)) (by first | exact BindsTo.of_eq (binds := [(Str.ofString _, _), (Str.ofString _, _), (Str.ofString _, _)]) rfl | exact BindsTo.of_eq (binds := [(Str.ofString _, _), (Str.ofString _, _)]) rfl | exact BindsTo.of_eq (binds := [(Str.ofString _, _)]) rfl | exact BindsTo.of_eq rfl) (by exact rfl) (by decide +kernel) ?_ (by exact rfl) (by exact rfl) (by exact rfl); k_whole; intro Lzz' hzz' tkzz' cellszz' Fzz' Nzz' Yzz' l1zz stzz' zzz'; clear l1zz stzz' zzz'; k_cells Yzz'; (try simp only [List.cons_append, List.nil_append, List.append_nil] at Nzz'); (try dsimp only); (try k_fold))
  k_with "callWith ref" => (k_here; refine' callWith_fn (by with_reducible assumption) ?_ (by rfl) (by rfl); k_whole)
  k_with "eval ListComp" => (k_here; k_dflt (refine' eval_ListCompJ (by exact rfl) (by decide) (by rfl) (by decide) (by rfl) ?_ (by (intro _; rfl)); k_whole))
  k_with "eval Name" => (k_here; k_inBlock; (with_reducible rename Fr _ _ _ _ => kFzz); k_dflt (first | (refine' nameC_L kFzz (by rfl) (by rfl) (by rfl) (by decide) (by with_reducible assumption) ?_; k_whole) | (refine' nameC_C kFzz (by rfl) (by rfl) (by rfl) (by decide) (by with_reducible assumption) (by with_reducible assumption) ?_; k_whole) | (refine' nameC_F kFzz (by rfl) (by rfl) (by rfl) (by decide) (by decide) (by with_reducible assumption) (by with_reducible assumption) ?_; k_whole) | (refine' nameC_K kFzz (by rfl) (by rfl) (by rfl) (by decide) (by k_asm) (by k_asm) (by k_is) ?_; k_whole)))
  k_with "And" => ((with_reducible show FnHere _ _ ∧ _); (with_reducible rename Fr _ _ _ _ => kFzz); k_dflt (refine ⟨FnHere.keeps (Fr.keep kFzz) (by with_reducible assumption), ?_⟩); try dsimp only [List.nil_append, List.cons_append])
  k_with "call ref" => (k_here; (with_reducible show wpAny _ _ (PySem.call (Value.ref _) [Value.int _ _]) _ _ _); (with_reducible rename Fr _ _ _ _ => kFzz); k_dflt (refine' change_use (by with_reducible assumption) kFzz (by rfl) (by (first | exact dlt1 (by with_reducible assumption) (by decide) | exact dltk (by with_reducible assumption) (by decide) | exact dlt2 (by with_reducible assumption) (by decide) | (simp only [Around.deeper]; omega))) (by (first | exact dlt1 (by with_reducible assumption) (by decide) | exact dltk (by with_reducible assumption) (by decide) | exact dlt2 (by with_reducible assumption) (by decide) | (simp only [Around.deeper]; omega))) (by with_reducible rfl) (by first | with_reducible assumption | omega) ?_; k_whole); intro h9zz u9zz t9zz st9zz; (have Fzz' := Fr.keeps kFzz st9zz); (with_reducible rename News _ _ _ _ => kNzz); (have Nzz' := News.grown kNzz st9zz); (try k_sweep); (try dsimp only))
  k_with "pb_upto" => (repeat' (first | (k_unfold; (try dsimp only)) | ((fail_if_success (with_reducible show wpAny _ _ (PySem.call (Value.type _) _) _ _ _)); walk1) | (dsimp only; (fail_if_success (with_reducible show wpAny _ _ (PySem.call (Value.type _) _) _ _ _)); walk1) | fail "no step"))
  k_with "subscriptTail" => (k_here; (with_reducible show wpAny _ _ (subscriptTail _ _ (Value.ref _) (Value.int _ _)) _ _ _); k_dflt (first | (refine' item_op (by k_asm) (by with_reducible assumption) (by with_reducible rfl) (by with_reducible assumption) (by with_reducible assumption) (by with_unfolding_all rfl) ?_; k_whole; intro t8zz o8zz ho8zz hk8zz ht8zz) | (refine' item_last (by k_asm) (by with_reducible assumption) (by with_reducible assumption) (by with_reducible rfl) (by with_unfolding_all rfl) ?_; k_whole; intro k8zz)))
  trivial


theorem lawway_d {prog : Program} {w : World} {A : Around} {E : Value → Shared → Prop} {s : Shared} {h₀ : Heap} {p : Program} {loose : List Str} {mg mb : Str → Option Value} {Q : Value → Shared → Prop}
    {a : Addr} {ov : Value} {n : Nat} {tk : Tok} {ops : List Op} {o : Op} {g : Heap} {L : Addr} {m : Str → Option Value}
    (X : (hd.heap_39 w.params).In h₀) (T : TopRead p loose mg mb h₀) (st : h₀.StaysIn s.heap) (F : Fr g L s.heap m) (hh : A.handled = none) (hdp : A.depth + 20 < recursionLimit) (hu : A.units + 200 < cLine)
    (hO : OpsAt g a ops) (hn : ops.length < 900) (hn' : n < 1000) (hb : ∀ q ∈ ops, q.last < 1000) (ho : DIn g ov o.d)
    (hQ : ∀ h' u tk, s.heap.StaysIn h' → Q (.int ((wayOn ops o n : Nat) : Int) u) { s with heap := h', toks := tk }) :
    wpAny (model prog w) A (call (.ref 456) [.ref a, ov, .int n tk]) Q E s := by
  refine lawway_c X T st hh hdp hu (hO.keeps F.keep) hn hn' hb (ho.keeps F.keep) ?_
  rw [lawWay_eq]
  exact hQ
theorem wordsLdue3 : True := by
  k_with "call ref" => (k_here; (with_reducible show wpAny _ _ (PySem.call (Value.ref 456) [Value.ref _, Value.ref _, Value.int _ _]) _ _ _); (with_reducible rename Fr _ _ _ _ => kFzz); (with_reducible rename News _ _ _ _ => kNzz); k_dflt (refine' lawway_d (by k_asm) (by k_asm) (Fr.keep kFzz) kFzz (by rfl) (by (first | exact dlt1 (by with_reducible assumption) (by decide) | exact dltk (by with_reducible assumption) (by decide) | exact dlt2 (by with_reducible assumption) (by decide) | (simp only [Around.deeper]; omega))) (by (first | exact dlt1 (by with_reducible assumption) (by decide) | exact dltk (by with_reducible assumption) (by decide) | exact dlt2 (by with_reducible assumption) (by decide) | (simp only [Around.deeper]; omega))) (by with_reducible assumption) (by with_reducible assumption) (by with_reducible assumption) (by with_reducible assumption) (by with_reducible assumption) ?_; k_whole); intro h9zz u9zz t9zz st9zz; (have Fzz' := Fr.keeps kFzz st9zz); (have Nzz' := News.grown kNzz st9zz); (try k_sweep); (try dsimp only))
  k_with "subscriptTail" => (k_here; (with_reducible show wpAny _ _ (subscriptTail _ (PySem.Expr.Slice none (some _) none _) (Value.ref _) (Value.ref _)) _ _ _); (with_reducible rename Fr _ _ _ _ => kFzz); k_dflt (refine' sliceM1 kFzz (by k_asm) (IsTup.keeps (by with_reducible assumption) (Fr.keep kFzz)) (by simp; done) (by first | exact drop1_2 _ _ | exact drop1_3 _ _ _) (by simp; done) (by with_unfolding_all rfl) ?_; k_whole); intro D9zz h9zz Fzz' Nzz' l1zz; (try k_lt l1zz); (try k_sweep))
  trivial
theorem due_none {prog : Program} {w : World} {A : Around} {E : Value → Shared → Prop} {s : Shared} {h₀ : Heap} {p : Program} {loose : List Str} {mg mb : Str → Option Value} {Q : Value → Shared → Prop}
    {a t : Addr} {k : Str} {kt : Tok} {v1 : Value} {r : List Value} {ops : List Op}
    (X : (hd.heap_39 w.params).In h₀) (T : TopRead p loose mg mb h₀) (st : h₀.StaysIn s.heap) (hh : A.handled = none) (hdp : A.depth + 30 < recursionLimit) (hu : A.units + 300 < cLine)
    (hO : OpsAt s.heap a ops)
    (hT : IsTup s.heap t (Value.str k kt :: v1 :: r).toArray) (hc : (k == Str.ofString "choose") = false)
    (ha : ((["test", "key", "put", "calc", "push", "jump"] : List Str).any fun x => x == k) = false)
    (hQ : ∀ h' tk, s.heap.StaysIn h' → Q (.ref t) { s with heap := h', toks := tk }) :
    wpAny (model prog w) A (call (.ref 461) [.ref a, .ref t]) Q E s := by
  obtain ⟨ah, dp, fr, gd, un⟩ := A
  dsimp only at hh hdp hu
  subst hh
  replace X := X.keeps st
  replace T := T.keeps st
  walk_at "pb_enterC"
  walk_at "pb_steps"
  rename Fr _ _ _ _ => F
  exact hQ _ _ F.keep
theorem due_ask {prog : Program} {w : World} {A : Around} {E : Value → Shared → Prop} {s : Shared} {h₀ : Heap} {p : Program} {loose : List Str} {mg mb : Str → Option Value} {Q : Value → Shared → Prop}
    {a t : Addr} {k : Str} {kt u : Tok} {v1 : Value} {n : Nat} {ops : List Op} {o : Op}
    (X : (hd.heap_39 w.params).In h₀) (T : TopRead p loose mg mb h₀) (st : h₀.StaysIn s.heap) (hh : A.handled = none) (hdp : A.depth + 30 < recursionLimit) (hu : A.units + 300 < cLine)
    (hO : OpsAt s.heap a ops) (hz : ops.length < 900) (hb : ∀ q ∈ ops, q.last < 1000) (ho : DIn s.heap (.ref t) o.d)
    (hT : IsTup s.heap t [Value.str k kt, v1, Value.int (n : Nat) u].toArray) (hc : (k == Str.ofString "choose") = false) (hj : (k == Str.ofString "jump") = false)
    (ha : ((["test", "key", "put", "calc", "push", "jump"] : List Str).any fun x => x == k) = true) (hn : n < 1000)
    (hQ : ∀ t' h' tk u, s.heap.StaysIn h' → IsTup h' t' [Value.str k kt, v1, Value.int (wayOn ops o n : Nat) u].toArray → Q (.ref t') { s with heap := h', toks := tk }) :
    wpAny (model prog w) A (call (.ref 461) [.ref a, .ref t]) Q E s := by
  obtain ⟨ah, dp, fr, gd, un⟩ := A
  dsimp only at hh hdp hu
  subst hh
  have hi : (0 : Int) ≤ (n : Int) := by omega
  replace X := X.keeps st
  replace T := T.keeps st
  walk_at "pb_enterC"
  rename _ = Data.cell _ => d1
  revert d1
  rename _ = Data.cell _ => d2
  intro d1
  replace d1 : _ = Data.cell (some (Value.ref a)) := d1
  replace d2 : _ = Data.cell (some (Value.ref t)) := d2
  walk_at "pb_steps"
  rename Fr _ _ _ _ => F
  rename News _ _ _ _ => N
  exact hQ _ _ _ _ F.keep ⟨_, N.get (List.Mem.head _), rfl, _, rfl⟩
theorem due_push {prog : Program} {w : World} {A : Around} {E : Value → Shared → Prop} {s : Shared} {h₀ : Heap} {p : Program} {loose : List Str} {mg mb : Str → Option Value} {Q : Value → Shared → Prop}
    {a t : Addr} {k : Str} {kt u : Tok} {v1 : Value}
    (X : (hd.heap_39 w.params).In h₀) (T : TopRead p loose mg mb h₀) (st : h₀.StaysIn s.heap) (hh : A.handled = none) (hdp : A.depth + 30 < recursionLimit) (hu : A.units + 300 < cLine)
    (hT : IsTup s.heap t [Value.str k kt, v1, Value.int (-1) u].toArray) (hc : (k == Str.ofString "choose") = false)
    (ha : ((["test", "key", "put", "calc", "push", "jump"] : List Str).any fun x => x == k) = true)
    (hQ : ∀ h' tk, s.heap.StaysIn h' → Q (.ref t) { s with heap := h', toks := tk }) :
    wpAny (model prog w) A (call (.ref 461) [.ref a, .ref t]) Q E s := by
  obtain ⟨ah, dp, fr, gd, un⟩ := A
  dsimp only at hh hdp hu
  subst hh
  replace X := X.keeps st
  replace T := T.keeps st
  walk_at "pb_enterC"
  walk_at "pb_steps"
  all_goals (rename Fr _ _ _ _ => F; exact hQ _ _ F.keep)
theorem due_jump {prog : Program} {w : World} {A : Around} {E : Value → Shared → Prop} {s : Shared} {h₀ : Heap} {p : Program} {loose : List Str} {mg mb : Str → Option Value} {Q : Value → Shared → Prop}
    {a t : Addr} {kt u : Tok} {n : Nat} {ops : List Op}
    (X : (hd.heap_39 w.params).In h₀) (T : TopRead p loose mg mb h₀) (st : h₀.StaysIn s.heap) (hh : A.handled = none) (hdp : A.depth + 30 < recursionLimit) (hu : A.units + 300 < cLine)
    (hO : OpsAt s.heap a ops) (hz : ops.length < 900) (hb : ∀ q ∈ ops, q.last < 1000) (ho : DIn s.heap (.ref t) (Op.jump n).d)
    (hT : IsTup s.heap t [Value.str (Str.ofString "jump") kt, Value.int (n : Nat) u].toArray) (hn : n < 1000)
    (hQ : ∀ r h' tk, s.heap.StaysIn h' → DIn h' r (ledOp ops (.jump n)).d → Q r { s with heap := h', toks := tk }) :
    wpAny (model prog w) A (call (.ref 461) [.ref a, .ref t]) Q E s := by
  have hOO := hO
  obtain ⟨vs, hl, hds⟩ := hO
  have hlen := hds.length
  rw [List.length_map] at hlen
  have hnl : vs.length < 1000 := by omega
  have hO := hOO
  obtain ⟨ah, dp, fr, gd, un⟩ := A
  dsimp only at hh hdp hu
  subst hh
  have hi : (0 : Int) ≤ (n : Int) := by omega
  replace X := X.keeps st
  replace T := T.keeps st
  have hw : relab (wayOn ops (.jump n)) (.jump n) = .jump (wayOn ops (.jump n) n) := rfl
  walk_at "pb_enterC"
  rename _ = Data.cell _ => d1
  revert d1
  rename _ = Data.cell _ => d2
  intro d1
  replace d1 : _ = Data.cell (some (Value.ref a)) := d1
  replace d2 : _ = Data.cell (some (Value.ref t)) := d2
  walk_at "pb_steps"
  · rename_i hcond
    have hlt : wayOn ops (.jump n) n < vs.length := Int.ofNat_lt.mp hcond
    obtain ⟨o3, ho3⟩ : ∃ o3, ops[(wayOn ops (.jump n) n)]? = some o3 := ⟨ops[(wayOn ops (.jump n) n)]'(by omega), by simp [hlen ▸ hlt]⟩
    obtain ⟨t3, kt3, v3, r3, hx', hTt3, hv3, hr3⟩ := OpsAt.get hds ho3
    have hx : vs[((wayOn ops (.jump n) n) : Int).toNat]? = some (.ref t3) := by simpa using hx'
    have h63 : ((wayOn ops (.jump n) n) : Int) < 2 ^ 63 := by omega
    have hn0 : (0 : Int) ≤ ((wayOn ops (.jump n) n) : Int) := by omega
    have hd3 : DIn s.heap (.ref t3) o3.d := .tup hTt3 (.cons (.str _ _) (.cons hv3 hr3))
    walk_at "pb_steps"
    · rename (_ == _) = true => hs3
      have hs4 : (Str.ofString o3.kind == Str.ofString "stop") = true := hs3
      obtain ⟨w3, e3⟩ : ∃ w3, o3 = .stop w3 := by
        rw [kind_stop] at hs4
        cases o3 <;> first | exact ⟨_, rfl⟩ | cases hs4
      rename Fr _ _ _ _ => F
      refine hQ _ _ _ F.keep ?_
      rw [ledOp_stop hw (ho3.trans (congrArg some e3)), ← e3]
      exact hd3.keeps F.keep
    · rename (_ == _) = false => hs3
      have hs4 : ¬ (Str.ofString o3.kind == Str.ofString "stop") = true := fun q => Bool.noConfusion (q.symm.trans hs3)
      rename Fr _ _ _ _ => F
      rename News _ _ _ _ => N
      refine hQ _ _ _ F.keep ?_
      rw [ledOp_far hw (fun w q => by rw [ho3] at q; cases q; exact hs4 ((kind_stop _).trans rfl))]
      exact .tup ⟨_, N.get (List.Mem.head _), rfl, _, rfl⟩ (.cons (.str _ _) (.cons (.int _ _) .nil))
  · rename Fr _ _ _ _ => F
    rename News _ _ _ _ => N
    rename ¬ (_ < (vs.length : Int)) => hcond
    have hlt : ¬ wayOn ops (.jump n) n < vs.length := fun q => hcond (Int.ofNat_lt.mpr q)
    refine hQ _ _ _ F.keep ?_
    rw [ledOp_far hw (fun w q => by rw [List.getElem?_eq_none (by omega)] at q; cases q)]
    exact .tup ⟨_, N.get (List.Mem.head _), rfl, _, rfl⟩ (.cons (.str _ _) (.cons (.int _ _) .nil))
theorem due_choose {prog : Program} {w : World} {A : Around} {E : Value → Shared → Prop} {s : Shared} {h₀ : Heap} {p : Program} {loose : List Str} {mg mb : Str → Option Value} {Q : Value → Shared → Prop}
    {a t t' : Addr} {kt u u' : Tok} {n n' : Nat} {ops : List Op}
    (X : (hd.heap_39 w.params).In h₀) (T : TopRead p loose mg mb h₀) (st : h₀.StaysIn s.heap) (hh : A.handled = none) (hdp : A.depth + 40 < recursionLimit) (hu : A.units + 400 < cLine)
    (hO : OpsAt s.heap a ops) (hz : ops.length < 900) (hb : ∀ q ∈ ops, q.last < 1000) (ho : DIn s.heap (.ref t) (Op.choose n n').d)
    (hT : IsTup s.heap t [Value.str (Str.ofString "choose") kt, Value.ref t'].toArray) (hT' : IsTup s.heap t' [Value.int (n : Nat) u, Value.int (n' : Nat) u'].toArray) (hn : n < 1000) (hn' : n' < 1000)
    (hQ : ∀ r h' tk, s.heap.StaysIn h' → DIn h' r (ledOp ops (.choose n n')).d → Q r { s with heap := h', toks := tk }) :
    wpAny (model prog w) A (call (.ref 461) [.ref a, .ref t]) Q E s := by
  obtain ⟨ah, dp, fr, gd, un⟩ := A
  dsimp only at hh hdp hu
  subst hh
  replace X := X.keeps st
  replace T := T.keeps st
  walk_at "pb_enterC"
  rename _ = Data.cell _ => d1
  revert d1
  rename _ = Data.cell _ => d2
  intro d1
  replace d1 : _ = Data.cell (some (Value.ref a)) := d1
  replace d2 : _ = Data.cell (some (Value.ref t)) := d2
  walk_at "pb_steps"
  rename Fr _ _ _ _ => F
  rename News _ _ _ _ => N
  have hc1 := N.get (List.Mem.head _)
  have hc2 := N.get (List.Mem.tail _ (List.Mem.head _))
  have hO1 := hO.keeps F.keep
  have ho1 := ho.keeps F.keep
  have X1 := X.keeps F.keep
  have T1 := T.keeps F.keep
  refine comp_map_tuple (vs := [Value.int (n : Nat) u, Value.int (n' : Nat) u']) (ds := [.int (wayOn ops (.choose n n') n : Nat), .int (wayOn ops (.choose n n') n' : Nat)]) rfl (hT'.keeps F.keep) (by simp) rfl (fun _ h => nomatch h) ?_ ?_
  · intro C9 i v d h9 tk9 m9 hC9 hv hd9 F9 hm N9
    obtain ⟨k9, u9, rfl, hk9, rfl⟩ : ∃ (k : Nat) (u : Tok), v = .int (k : Nat) u ∧ k < 1000 ∧ d = .int (wayOn ops (.choose n n') k : Nat) := by
      rcases i with _ | _ | i
      · simp at hv hd9; exact ⟨n, u, hv.symm, hn, hd9.symm⟩
      · simp at hv hd9; exact ⟨n', u', hv.symm, hn', hd9.symm⟩
      · simp at hv
    walk_at "pb_steps"
    · rename Heap.StaysIn _ _ => st9
      exact st9
    · exact .int _ _
  · intro D9 h9 tk9 ys hD9 ha9 hd9 hk9
    have F' := F.keeps fun b o e => hk9 b o (fun q => nomatch q) e
    have N' := N.grown fun b o e => hk9 b o (fun q => nomatch q) e
    clear F N hk9
    obtain ⟨a1, a2, rfl⟩ : ∃ a1 a2, ys = [Value.int (wayOn ops (.choose n n') n : Nat) a1, Value.int (wayOn ops (.choose n n') n' : Nat) a2] := by
      cases hd9 with
      | cons h1 hd9 =>
        cases h1
        cases hd9 with
        | cons h1 hd9 =>
          cases h1
          cases hd9
          exact ⟨_, _, rfl⟩
    walk_at "pb_upto"
    refine tuple_ofL F' N' (vs := [Value.int (wayOn ops (.choose n n') n : Nat) a1, Value.int (wayOn ops (.choose n n') n' : Nat) a2]) ha9.isList ?_ (by rw [sizeLine_eq]; simp)
    intro D8 h8 F8 N8 hk8
    clear F' N'
    walk_at "pb_steps"
    rename Fr _ _ _ _ => F
    rename News _ _ _ _ => N
    exact hQ _ _ _ F.keep (.tup ⟨_, N.get (List.Mem.head _), rfl, _, rfl⟩ (.cons (.str _ _) (.cons (.tup ⟨_, N.get (List.Mem.tail _ (List.Mem.head _)), rfl, _, rfl⟩ (.cons (.int _ _) (.cons (.int _ _) .nil))) .nil)))
/-- the contract of _law_due -/
theorem due_c {prog : Program} {w : World} {A : Around} {E : Value → Shared → Prop} {s : Shared} {h₀ : Heap} {p : Program} {loose : List Str} {mg mb : Str → Option Value} {Q : Value → Shared → Prop}
    {a : Addr} {ov : Value} {ops : List Op} {o : Op}
    (X : (hd.heap_39 w.params).In h₀) (T : TopRead p loose mg mb h₀) (st : h₀.StaysIn s.heap) (hh : A.handled = none) (hdp : A.depth + 40 < recursionLimit) (hu : A.units + 400 < cLine)
    (hO : OpsAt s.heap a ops) (hz : ops.length < 900) (hb : ∀ q ∈ ops, q.last < 1000) (ho : DIn s.heap ov o.d) (hl : o.labs.all (· < 1000) = true)
    (hQ : ∀ r h' tk, s.heap.StaysIn h' → DIn h' r (ledOp ops o).d → Q r { s with heap := h', toks := tk }) :
    wpAny (model prog w) A (call (.ref 461) [.ref a, ov]) Q E s := by
  have hD := ho
  have hdp3 : A.depth + 30 < recursionLimit := by omega
  have hu3 : A.units + 300 < cLine := by omega
  obtain ⟨t, kt, v1, r, rfl, hT, hv1, hr⟩ := ho.op
  cases o <;> simp only [Op.labs, List.all_cons, List.all_nil, Bool.and_true, Bool.and_eq_true, decide_eq_true_eq] at hl
  case jump n =>
    cases hv1; cases hr
    exact due_jump X T st hh hdp3 hu3 hO hz hb hD hT hl hQ
  case choose n n' =>
    cases hv1 with
    | tup ht ha =>
      cases ha with
      | cons h1 ha =>
        cases h1
        cases ha with
        | cons h1 ha =>
          cases h1
          cases ha
          cases hr
          exact due_choose X T st hh hdp hu hO hz hb hD hT ht hl.1 hl.2 hQ
  case stop w' => exact due_none X T st hh hdp3 hu3 hO hT (by simp only [Op.kind]; decide) (by simp only [Op.kind]; decide) fun h' tk k => hQ _ h' tk k (hD.keeps k)
  case leave => exact due_none X T st hh hdp3 hu3 hO hT (by simp only [Op.kind]; decide) (by simp only [Op.kind]; decide) fun h' tk k => hQ _ h' tk k (hD.keeps k)
  case deed d => exact due_none X T st hh hdp3 hu3 hO hT (by simp only [Op.kind]; decide) (by simp only [Op.kind]; decide) fun h' tk k => hQ _ h' tk k (hD.keeps k)
  case push =>
    cases hr with
    | cons h1 hr =>
      cases h1
      cases hr
      exact due_push X T st hh hdp3 hu3 hT (by simp only [Op.kind]; decide) (by simp only [Op.kind]; decide) fun h' tk k => hQ _ h' tk k (hD.keeps k)
  all_goals
    cases hr with
    | cons h1 hr =>
      cases h1
      cases hr
      refine due_ask X T st hh hdp3 hu3 hO hz hb hD hT (by simp only [Op.kind]; decide) (by simp only [Op.kind]; decide) (by simp only [Op.kind]; decide) hl fun t' h' tk u k ht' => hQ _ h' tk k ?_
      exact .tup ht' (.cons (.str _ _) (.cons (hv1.keeps k) (.cons (.int _ _) .nil)))

-- CompR
section
section
variable {prog : Program} {w : World} {A : Around} {E : Value → Shared → Prop} {env : Env} {s₁ : Shared} {g : Heap} {mtA ex : List Addr} {mt₀ : List (Addr × Obj)} {scope : Scope} {cl : List (Str × Addr)} {x : Str} {elt : PySem.Expr} {Q : Value → Shared → Prop}

theorem comp_rangeA {Qm : (Str → Option Value) → Value → Shared → Prop} {m0 : Str → Option Value} {r : Addr} {n : Nat} {t₀ u₀ v₀ : Tok} (J : Nat → Heap → List (Addr × Obj) → List Value → Prop) (hm0 : s₁.heap.Ns env.locals m0) (hh : A.handled = none) (hr : IsRange s₁.heap r 0 (n : Int) 1 t₀ u₀ v₀) (hsmall : Builtin.Range.small 0 (n : Int) 1 = true) (hn' : Builtin.Range.rangeSize 0 (n : Int) 1 = (n : Int)) (hn : n < 1000)
    (hg : g.StaysIn s₁.heap) (hgz : g.objs.size ≤ s₁.heap.objs.size) (hex : ∀ b ∈ ex, b ∉ mtA ∧ ∃ o, s₁.heap.get? b = some o ∧ ∀ ys n, o.data ≠ .seq ys n) (hM : MtOk g s₁.heap mtA mt₀) (hJ : ∀ gi, J 0 gi mt₀ [])
    (turn : ∀ C i v gi h tk m mt ys, s₁.heap.objs.size ≤ C → i < n → (∃ t, v = .int (i : Int) t) → gi.StaysIn h → J i gi mt ys → Fr g C h m → m x = some v → News g C h mt → MtOk g h mtA mt →
      wpAny (model prog w) A (eval elt (compEnvC scope cl C env)) (EltEnd g mtA gi (fun gi' mt' y => J (i + 1) gi' mt' (ys ++ [y])) { s₁ with heap := h, toks := tk }) (fun _ _ => False) { s₁ with heap := h, toks := tk })
    (done : ∀ D h' tk ys mt gi, s₁.heap.get? D = none → h'.PlainList D (List.toArray ys) → ys.length = n → gi.StaysIn h' → J n gi mt ys → MtOk g h' mtA mt →
      (∀ b o, b ∉ mtA → b ∉ ex → s₁.heap.get? b = some o → h'.get? b = some o) → Qm m0 (.ref D) { s₁ with heap := h', toks := tk }) :
    wpAny (model prog w) A (pyIter (.ref r)) (fun it s₂ => ∃ m, s₂.heap.Ns env.locals m ∧ CompAt prog w A env scope cl x elt ex (Qm m) it s₂) E s₁ := by
  refine wpAny_pyIter_range hr hsmall ?_
  refine ⟨m0, hm0.keeps (fun b o e => Heap.get?_push_of_some _ e), ?_⟩
  have W : Walks prog w A s₁.heap.objs.size [s₁.heap.objs.size] [s₁.heap.objs.size] n (fun i v => i < n ∧ ∃ t, v = .int (0 + i * 1) t)
      (fun i h => IsRangeIter h s₁.heap.objs.size (0 + (i : Nat) * 1) ((n : Int) - (i : Nat)) 1) := (Walks.range hh _ 0 1 n).bound
  have fresh : s₁.heap.get? s₁.heap.objs.size = none := by
    cases e : s₁.heap.get? s₁.heap.objs.size with
    | none => rfl
    | some o' => exact absurd (Heap.lt_size e) (Nat.lt_irrefl _)
  have mne : s₁.heap.objs.size ∉ mtA := fun q => by
    obtain ⟨o, ho, _⟩ := hM.2 _ q
    have := (hM.1 _ ho).1
    rw [fresh] at this; cases this
  refine ⟨s₁.heap.objs.size, [s₁.heap.objs.size], [s₁.heap.objs.size], n, _, _, g, mtA, mt₀, J, rfl, W, ?_, ?_,
    ?_, ?_, fun b o e => Heap.get?_push_of_some _ (hg b o e), ?_, ?_, ?_, ?_, ⟨fun p hp => ⟨Heap.get?_push_of_some _ (hM.1 p hp).1, (hM.1 p hp).2⟩, hM.2⟩, hJ, ?_, ?_⟩
  · rw [sizeLine_eq]; omega
  · show IsRangeIter _ _ _ _ _
    rw [hn']
    simpa using Heap.get?_push_size _ rfl
  · intro b hb
    simp only [Heap.size_push]
    rw [List.mem_singleton.mp hb]
    exact Nat.lt_succ_self _
  · rintro i h hI b hb xs ⟨o', ho', hc', _⟩
    rw [List.mem_singleton.mp hb, show h.get? s₁.heap.objs.size = some _ from hI] at ho'; cases ho'
    simp at hc'
  · simp only [Heap.size_push]; exact Nat.le_succ_of_le hgz
  · intro b hb
    rw [List.mem_singleton.mp hb]
    cases e : g.get? s₁.heap.objs.size with
    | none => rfl
    | some o' => have := hg _ _ e; rw [fresh] at this; cases this
  · intro b hb
    rw [List.mem_singleton.mp hb]; exact mne
  · intro b hb
    obtain ⟨e1, o, ho, hc⟩ := hex b hb
    exact ⟨e1, fun q => Nat.ne_of_lt (Heap.lt_size ho) (List.mem_singleton.mp q), o, Heap.get?_push_of_some _ ho, hc⟩
  · intro C i v gi h tk m mt ys hC hi hP hgi hJ F hm N M
    simp only [Heap.size_push] at hC
    obtain ⟨_, t, rfl⟩ := hP
    exact turn C i _ gi h tk m mt ys (by exact Nat.le_of_succ_le hC) hi ⟨t, by simp⟩ hgi hJ F hm N M
  · intro D h' tk ys mt gi hD ha hlen hgi hJ M hk
    have hD' : s₁.heap.get? D = none := by
      cases e : s₁.heap.get? D with
      | none => rfl
      | some o' => have := Heap.get?_push_of_some { cls := .type "range_iterator", data := .fields #[rawInt 0, rawInt (Builtin.Range.rangeSize 0 (n : Int) 1), rawInt 1] } e; rw [hD] at this; cases this
    exact done D h' tk ys mt gi hD' ha hlen hgi hJ M fun b o hbm hbx e => hk b o (fun q => Nat.ne_of_lt (Heap.lt_size e) (List.mem_singleton.mp q)) hbm hbx (Heap.get?_push_of_some _ e)
end
end

-- La1
section
/-- behind the first statement: the tape -/
noncomputable def Tape1 (g : Heap) (L : Addr) (m : Str → Option Value) (c1 : Addr) (nw : List (Addr × Obj)) (s s' : Shared) : Prop :=
  ∃ h' tk tp cl vs u n1 n2 o1, s' = { s with heap := h', toks := tk } ∧ Fr g L h' m ∧ News g L h' ((c1, o1) :: nw ++ [(tp, listOf [Value.ref cl, Value.int 0 u].toArray n1), (cl, listOf vs.toArray n2)]) ∧
    o1.data = .cell (some (.ref tp)) ∧ TapeOk vs 0 0 ∧ @LT.lt Nat instLTNat cl tp ∧ (∀ p ∈ (c1, o1) :: nw, @LT.lt Nat instLTNat p.1 cl)
theorem law_s1 {M : Model} {A : Around} {E : Value → Shared → Prop} {s : Shared} {g : Heap} {L : Addr} {m : Str → Option Value} {c1 : Addr} {o0 : Obj} {p2 p3 p4 p5 : Addr × Obj} {S : Stmt} {rest : List Stmt} {env : Env} {Q : Flow → Shared → Prop}
    (_F : Fr g L s.heap m) (_N : News g L s.heap [p3, p2, (c1, o0), p4, p5]) (h1 : wpAny M A (exec S env) (fun f s' => f = .next ∧ Tape1 g L m c1 [p3, p2, p4, p5] s s') (fun _ _ => False) s)
    (h2 : ∀ h' tk tp cl vs u n1 n2 o1, Fr g L h' m → News g L h' [(c1, o1), p3, p2, p4, p5, (tp, listOf [Value.ref cl, Value.int 0 u].toArray n1), (cl, listOf vs.toArray n2)] →
    o1.data = .cell (some (.ref tp)) → TapeOk vs 0 0 → @LT.lt Nat instLTNat cl tp → (∀ p ∈ (c1, o1) :: [p3, p2, p4, p5], @LT.lt Nat instLTNat p.1 cl) → wpAny M A (execs rest env) Q E { s with heap := h', toks := tk }) : wpAny M A (execs (S :: rest) env) Q E s := by
  refine wpAny_execs_cons (wpAny_mono h1 (fun f s' q => ?_) fun _ _ x => x.elim)
  obtain ⟨rfl, h', tk, tp, cl, vs, u, n1, n2, o1, rfl, F, N, a, b, c, d⟩ := q
  exact h2 _ _ _ _ _ _ _ _ _ F N a b c d
theorem room_d (e : Env) (n : Nat) (h : n ≤ 300) : (callerA.deeper e).depth + n < recursionLimit := by
  have : (callerA.deeper e).depth ≤ 600 := by show 1 + claimMargin + 1 ≤ 600; decide
  have h2 : recursionLimit = 1000 := rfl
  omega
theorem room_u (e : Env) (n : Nat) (h : n ≤ 3000) : (callerA.deeper e).units + n < cLine := by
  have : (callerA.deeper e).units ≤ 600 := by simp only [Around.deeper, callerA]; decide
  have h2 : cLine = 9900 := rfl
  omega
theorem ni2 {a t c : Addr} (h1 : @LT.lt Nat instLTNat a c) (h2 : @LT.lt Nat instLTNat c t) : a ∉ [t, c] := fun q => by
  simp only [List.mem_cons, List.not_mem_nil, or_false] at q
  rcases q with rfl | rfl
  · exact absurd (Nat.lt_trans h1 h2) (Nat.lt_irrefl _)
  · exact absurd h1 (Nat.lt_irrefl _)
theorem tape1_mk {g h : Heap} {L : Addr} {m : Str → Option Value} {c1 tp cl : Addr} {p2 p3 p4 p5 : Addr × Obj} {news : List (Addr × Obj)} {s : Shared} {tk : Nat} {vs : List Value} {ns : List Int} {u : Tok} {n1 n2 : Nat} {o1 : Obj}
    (F : Fr g L h m) (N : News g L h news) (m1 : (tp, listOf [Value.ref cl, Value.int 0 u].toArray n1) ∈ news) (m2 : (cl, listOf vs.toArray n2) ∈ news) (hd : o1.data = .cell (some (.ref tp))) (m3 : (c1, o1) ∈ news) (k3 : p3 ∈ news) (k2 : p2 ∈ news) (k4 : p4 ∈ news) (k5 : p5 ∈ news)
    (hi : IntsAre vs ns) (hl : 1 ≤ ns.length) (hl' : ns.length ≤ 60) (l1 : @LT.lt Nat instLTNat cl tp) (q1 : @LT.lt Nat instLTNat c1 cl) (q2 : @LT.lt Nat instLTNat p2.1 cl) (q3 : @LT.lt Nat instLTNat p3.1 cl) (q4 : @LT.lt Nat instLTNat p4.1 cl) (q5 : @LT.lt Nat instLTNat p5.1 cl) :
    Tape1 g L m c1 [p3, p2, p4, p5] s { s with heap := h, toks := tk } := by
  refine ⟨h, tk, tp, cl, vs, u, n1, n2, o1, rfl, F, news1 (N _ m3) (news1 (N _ k3) (news1 (N _ k2) (news1 (N _ k4) (news1 (N _ k5) (news1 (N _ m1) (news1 (N _ m2) news0)))))), hd, ⟨ns, hi, hl, hl', by omega, by omega⟩, l1, fun p hp => ?_⟩
  simp only [List.mem_cons, List.not_mem_nil, or_false] at hp
  rcases hp with rfl | rfl | rfl | rfl | rfl <;> assumption
theorem comp_rangeE {prog : Program} {w : World} {A : Around} {E : Value → Shared → Prop} {env : Env} {s₁ : Shared} {g g₀ : Heap} {mtA : List Addr} {mt₀ : List (Addr × Obj)} {scope : Scope} {cl : List (Str × Addr)} {x : Str} {elt : PySem.Expr} {Q : Value → Shared → Prop} {m0 : Str → Option Value} {r : Addr} {n : Nat} {b₀ : Int} {t₀ u₀ v₀ : Tok} (J : Nat → Heap → List (Addr × Obj) → List Value → Prop)
    (F : Fr g₀ env.locals s₁.heap m0) (hh : A.handled = none) (hr : IsRange s₁.heap r 0 b₀ 1 t₀ u₀ v₀) (hb : b₀ = (n : Int)) (hn : n < 900)
    (hg : g.StaysIn s₁.heap) (hgz : g.objs.size ≤ s₁.heap.objs.size) (hM : MtOk g s₁.heap mtA mt₀) (hJ : ∀ gi, J 0 gi mt₀ [])
    (turn : ∀ C i v gi h tk m mt ys, s₁.heap.objs.size ≤ C → i < n → (∃ t, v = .int (i : Int) t) → gi.StaysIn h → J i gi mt ys → Fr g C h m → m x = some v → News g C h mt → MtOk g h mtA mt →
      wpAny (model prog w) A (eval elt (compEnvC scope cl C env)) (EltEnd g mtA gi (fun gi' mt' y => J (i + 1) gi' mt' (ys ++ [y])) { s₁ with heap := h, toks := tk }) (fun _ _ => False) { s₁ with heap := h, toks := tk })
    (done : ∀ D h' tk ys mt gi, s₁.heap.get? D = none → h'.PlainList D (List.toArray ys) → ys.length = n → gi.StaysIn h' → J n gi mt ys → MtOk g h' mtA mt →
      (∀ b o, b ∉ mtA → s₁.heap.get? b = some o → h'.get? b = some o) → Q (.ref D) { s₁ with heap := h', toks := tk }) :
    wpAny (model prog w) A (pyIter (.ref r)) (fun it s₂ => CompAt prog w A env scope cl x elt [] Q it s₂) E s₁ := by
  subst hb
  refine wpAny_mono (comp_rangeA (Qm := fun _ => Q) (ex := []) J F.ns hh hr ?_ ?_ (by omega) hg hgz (fun b hb => nomatch hb) hM hJ turn (fun D h' tk ys mt gi a b c d e f k => done D h' tk ys mt gi a b c d e f fun b o hb e => k b o hb (fun q => nomatch q) e)) (fun it s₂ x => x.choose_spec.2) fun _ _ x => x
  · exact small_one (by decide) (by decide) (by omega) (by omega)
  · simp [Builtin.Range.rangeSize]; omega
/-- the ops drawn so far -/
noncomputable def opsOk (many : Nat) (ops : List Op) : Prop := ∀ o ∈ ops, o.labs.all (· ≤ many) = true ∧ stopOk o = true
noncomputable def JT (tp cl : Addr) (many b : Nat) (i : Nat) (gi : Heap) (mt : List (Addr × Obj)) (ys : List Value) : Prop :=
  ∃ vs j u n1 n2 ops, mt = [(tp, listOf [Value.ref cl, Value.int j u].toArray n1), (cl, listOf vs.toArray n2)] ∧ TapeOk vs j (b + 4 * i) ∧ DAll gi ys (ops.map Op.d) ∧ ops.length = i ∧ opsOk many ops
theorem op_use {prog : Program} {w : World} {A : Around} {E : Value → Shared → Prop} {s : Shared} {g gi : Heap} {p : Program} {loose : List Str} {mg mb : Str → Option Value} {tp cl C : Addr} {many b i : Nat} {tk : Tok} {m : Str → Option Value} {mt : List (Addr × Obj)} {ys : List Value}
    (X : (hd.heap_39 w.params).In g) (T : TopRead p loose mg mb g) (F : Fr g C s.heap m) (hh : A.handled = none) (hdp : A.depth + 20 < recursionLimit) (hu : A.units + 200 < cLine) (hne : @LT.lt Nat instLTNat cl tp)
    (hgi : gi.StaysIn s.heap) (hJ : JT tp cl many b i gi mt ys) (M : MtOk g s.heap [tp, cl] mt) (hb : b + 4 * i < 900) (hl : 2 ≤ many) (hl' : many < 900) :
    wpAny (model prog w) A (call (.ref 442) [.ref tp, .int many tk]) (EltEnd g [tp, cl] gi (fun gi' mt' y => JT tp cl many b (i + 1) gi' mt' (ys ++ [y])) s) E s := by
  obtain ⟨vs, j, u, n1, n2, ops, rfl, ⟨ns, hi, h1, h2, h3, h4⟩, hD, hlen, hok⟩ := hJ
  have e1 := M.1 _ (.head _)
  have e2 := M.1 _ (.tail _ (.head _))
  refine op_c X T F.keep hh hdp hu e1.2.2 e2.2.2 ⟨vs, ns, j, u, n1, n2, e1.1, e2.1, hi, h1, h2, h3, h4, hne⟩ hb hl hl' ?_
  rintro o r h' tk' hd hlab hst ⟨vs', ns', j', u', n1', n2', q1, q2, q3, q4, q5, q6, q7, q8⟩ _ hk
  refine ⟨h', tk', [(tp, listOf [Value.ref cl, Value.int j' u'].toArray n1'), (cl, listOf vs'.toArray n2')], rfl, fun b o hb e => hk b o (fun q => hb (by simp [q])) (fun q => hb (by simp [q])) e, ⟨fun p hp => ?_, fun b hb => ?_⟩, fun gi' hgi' ht => ?_⟩
  · simp only [List.mem_cons, List.not_mem_nil, or_false] at hp
    rcases hp with rfl | rfl
    · exact ⟨q1, e1.2⟩
    · exact ⟨q2, e2.2⟩
  · simp only [List.mem_cons, List.not_mem_nil, or_false] at hb
    rcases hb with rfl | rfl
    · exact ⟨_, .head _, by simp⟩
    · exact ⟨_, .tail _ (.head _), by simp⟩
  · refine ⟨vs', j', u', n1', n2', ops ++ [o], rfl, ⟨ns', q3, q4, q5, q6, by omega⟩, ?_, by simp [hlen], fun o' ho => ?_⟩
    · rw [List.map_append]
      exact (hD.keeps hgi').append (.one (hd.tups ht))
    · rcases List.mem_append.mp ho with ho | ho
      · exact hok _ ho
      · rw [List.mem_singleton.mp ho]
        exact ⟨hlab, hst⟩
theorem mtok_tape {g h : Heap} {tp cl : Addr} {vs : List Value} {i : Int} {u : Tok} {n1 n2 : Nat} (G : Apart g h [(tp, listOf [Value.ref cl, Value.int i u].toArray n1), (cl, listOf vs.toArray n2)]) : MtOk g h [tp, cl] [(tp, listOf [Value.ref cl, Value.int i u].toArray n1), (cl, listOf vs.toArray n2)] := by
  refine ⟨fun p hp => ⟨(G.2.2 p hp).1, ?_, (G.2.2 p hp).2⟩, fun b hb => ?_⟩
  · simp only [List.mem_cons, List.not_mem_nil, or_false] at hp
    rcases hp with rfl | rfl <;> simp
  · simp only [List.mem_cons, List.not_mem_nil, or_false] at hb
    rcases hb with rfl | rfl
    · exact ⟨_, .head _, by simp⟩
    · exact ⟨_, .tail _ (.head _), by simp⟩
theorem tape_off {h₀ h : Heap} {tp cl : Addr} {vs : List Value} {i : Int} {u : Tok} {n1 n2 : Nat} (st : h₀.StaysIn h) (f1 : h₀.get? tp = none) (f2 : h₀.get? cl = none) (e1 : h.get? tp = some (listOf [Value.ref cl, Value.int i u].toArray n1)) (e2 : h.get? cl = some (listOf vs.toArray n2)) :
    ∃ g9, MtOk g9 h [tp, cl] [(tp, listOf [Value.ref cl, Value.int i u].toArray n1), (cl, listOf vs.toArray n2)] ∧ h₀.StaysIn g9 ∧ g9.StaysIn h ∧ g9.objs.size ≤ h.objs.size ∧ ∀ b o, h.get? b = some o → b ∉ [tp, cl] → g9.get? b = some o :=
  let ⟨G, st9⟩ := tape_apart st f1 f2 e1 e2
  ⟨_, mtok_tape G, st9, G.1, G.2.1, fun _ _ e q => hideAll_get _ e q⟩
theorem comp_newsT {g h h9 : Heap} {L D : Addr} {m : Str → Option Value} {X : Obj} {mtA : List Addr} {nw : List (Addr × Obj)} (F : Fr g L h m) (N : News g L h nw) (n0 : L ∉ mtA) (n1 : ∀ b ∈ mtA, g.get? b = none) (n2 : ∀ p ∈ nw, p.1 ∉ mtA)
    (hk : ∀ b o, b ∉ mtA → h.get? b = some o → h9.get? b = some o) (hD : h.get? D = none) (hX : h9.get? D = some X) : Fr g L h9 m ∧ News g L h9 ((D, X) :: nw) ∧ ∀ p ∈ nw, p.1 ≠ D := by
  refine ⟨⟨F.ns.at' fun o e => hk _ _ n0 e, fun b o e => hk _ _ (fun q => ?_) (F.keep _ _ e), F.above⟩, fun p hp => ?_, fun p hp q => ?_⟩
  · rw [n1 _ q] at e; cases e
  · rcases List.mem_cons.mp hp with rfl | hp
    · refine ⟨hX, fun q => ?_, ?_⟩
      · obtain ⟨o, _, _, ho, _⟩ := F.ns
        rw [← q, hD] at ho; cases ho
      · cases q : g.get? D with
        | none => rfl
        | some o => have := F.keep _ _ q; rw [hD] at this; cases this
    · exact ⟨hk _ _ (n2 p hp) (N p hp).1, (N p hp).2⟩
  · have := (N p hp).1
    rw [q, hD] at this; cases this
theorem comp_newsC {P : Prop} {g h h9 : Heap} {L D tp cl : Addr} {m : Str → Option Value} {X : Obj} {nw : List (Addr × Obj)} (F : Fr g L h m) (N : News g L h nw) (hk : ∀ b o, b ∉ [tp, cl] → h.get? b = some o → h9.get? b = some o) (hD : h.get? D = none) (hX : h9.get? D = some X)
    (lct : @LT.lt Nat instLTNat cl tp) (f1 : g.get? tp = none) (f2 : g.get? cl = none) (lL : @LT.lt Nat instLTNat L cl) (n2 : ∀ p ∈ nw, @LT.lt Nat instLTNat p.1 cl) (k : Fr g L h9 m → News g L h9 ((D, X) :: nw) → (∀ p ∈ nw, @Ne Nat p.1 D) → P) : P := by
  obtain ⟨a, b, c⟩ := comp_newsT F N (ni2 lL lct) (fun b hb => by
    simp only [List.mem_cons, List.not_mem_nil, or_false] at hb
    rcases hb with rfl | rfl <;> assumption) (fun p hp => ni2 (n2 p hp) lct) hk hD hX
  exact k a b c
section
variable {M : Model} {A : Around} {E : Value → Shared → Prop} {s : Shared} {h₀ : Heap} {L a : Addr} {m : Str → Option Value} {cn : Str} {cs : Scope} {ccd : Value} {cl : List (Str × Addr)}
  {x : Str} {v : Value} {Q : Unit → Shared → Prop} {news : List (Addr × Obj)} {g : Obj → List (Addr × Obj)} {c : Addr} {o : Obj} {v₀ : Option Value}
theorem storeX_LK (F : Fr h₀ L s.heap m) (N : News h₀ L s.heap news)
    (h : ∀ h', Fr h₀ L h' (fun y => if y = x then some v else m y) → News h₀ L h' news → Heap.SameBut L s.heap h' → Q () { s with heap := h', toks := s.toks + 1 })
    (hk : cs.kind = .function) (hx : (envX cn cs L a ccd cl).kindOf x = some .local) : wpAny M A (storeName (envX cn cs L a ccd cl) x v) Q E s :=
  wpAny_storeName_local hx F.ns (fun h' hn hs => h h' (F.set hn hs) (N.set hs) hs) (by show (cs.kind == .class || (cs.kind == .module && L != mainGlobals)) = false; rw [hk]; rfl)
theorem storeX_CK (F : Fr h₀ L s.heap m) (N : News h₀ L s.heap news) (hc : cl.lookup x = some c) (U : UpdF c o news g) (hd : o.data = .cell v₀)
    (h : ∀ h' o', Fr h₀ L h' m → News h₀ L h' (g o') → o'.data = .cell (some v) → Heap.SameBut c s.heap h' → Q () { s with heap := h' })
    (hk : cs.kind = .function) (hx : (envX cn cs L a ccd cl).kindOf x = some .cell) : wpAny M A (storeName (envX cn cs L a ccd cl) x v) Q E s := by
  obtain ⟨own, rest, rfl, hg, h1, h2⟩ := U.split
  have hmem := N (c, o) (List.mem_append_right _ (.head _))
  refine wpAny_storeName_cell hk hx hc ⟨o, hmem.1, hd⟩ fun h' hv hs => ?_
  obtain ⟨o', ho', hd'⟩ := hv
  refine h h' o' ⟨F.ns.sameBut hs (Ne.symm hmem.2.1), fun b ob e => (hs.2 b (fun q => ?_)).trans (F.keep b ob e), F.above⟩ (hg o' ▸ N.setAt h1 h2 hs ho') hd' hs
  rw [q, hmem.2.2] at e; cases e
end
theorem cell_tups {h h' : Heap} {c : Addr} {o : Obj} {v : Option Value} (e : h.get? c = some o) (hd : o.data = .cell v) (hs : Heap.SameBut c h h') : Tups h h' := fun b xs ⟨o', ho, hc, n, hd'⟩ => by
  refine ⟨o', (hs.2 b fun q => ?_).trans ho, hc, n, hd'⟩
  rw [q, e] at ho; cases ho
  rw [hd] at hd'; cases hd'
theorem newList_A {M : Model} {A : Around} {E : Value → Shared → Prop} {s : Shared} {g : Heap} {L : Addr} {m : Str → Option Value} {news : List (Addr × Obj)} {vs : List Value} {Q : Value → Shared → Prop} (F : Fr g L s.heap m) (N : News g L s.heap news)
    (h : ∀ D h', Fr g L h' m → News g L h' ((D, listOf vs.toArray 0) :: news) → (∀ p ∈ news, p.1 < D) → KeepsAll s.heap h' → Q (.ref D) { s with heap := h' }) (hz : vs.length ≤ sizeLine) : wpAny M A (newList vs) Q E s :=
  newList_NK F N (fun h' F' N' k => h _ h' F' N' (fun p hp => Heap.lt_size (N p hp).1) k) hz
theorem list_copyA {prog : Program} {w : World} {A : Around} {E : Value → Shared → Prop} {s : Shared} {g : Heap} {L : Addr} {m : Str → Option Value} {news : List (Addr × Obj)} {l : Addr} {vs : List Value} {Q : Value → Shared → Prop} (F : Fr g L s.heap m) (N : News g L s.heap news) (hl : s.heap.IsList l vs.toArray)
    (h : ∀ D c h', Fr g L h' m → News g L h' ((D, listOf vs.toArray c) :: news) → (∀ q ∈ news, q.1 < D) → KeepsAll s.heap h' → Q (.ref D) { s with heap := h' }) (hsz : vs.length < 1000) :
    wpAny (model prog w) A (call (.type "list") [.ref l]) Q E s := by
  obtain ⟨o, ho, hc, n, hd⟩ := hl
  exact call_list_seq (hsz := by rw [sizeLine_eq]; simp; omega) l (.inl rfl) ho hc hd fun h' c' hk hD => h _ c' h' (F.keeps hk) (news_pushed F N hk hD rfl) (fun q hq => Heap.lt_size (N q hq).1) hk
theorem comp_mapE {prog : Program} {w : World} {A : Around} {E : Value → Shared → Prop} {env : Env} {s₁ : Shared} {g₀ : Heap} {scope : Scope} {cl : List (Str × Addr)} {x : Str} {elt : PySem.Expr} {Q : Value → Shared → Prop} {m0 : Str → Option Value} {l : Addr} {vs : List Value} {ds : List D}
    (F : Fr g₀ env.locals s₁.heap m0) (hh : A.handled = none) (hl : s₁.heap.IsList l vs.toArray) (hn : vs.length < 1000) (hlen : ds.length = vs.length)
    (turn : ∀ (C : Addr) (i : Nat) (v : Value) (d : D) (h : Heap) (tk : Nat) (m : Str → Option Value), s₁.heap.objs.size ≤ C → vs[i]? = some v → ds[i]? = some d → Fr s₁.heap C h m → m x = some v → News s₁.heap C h [] →
      wpAny (model prog w) A (eval elt (compEnvC scope cl C env)) (fun y s₃ => ∃ h₃ tk₃, s₃ = { s₁ with heap := h₃, toks := tk₃ } ∧ h.StaysIn h₃ ∧ DIn h₃ y d) (fun _ _ => False) { s₁ with heap := h, toks := tk })
    (done : ∀ D h' tk ys, s₁.heap.get? D = none → h'.PlainList D (List.toArray ys) → DAll h' ys ds → KeepsAll s₁.heap h' → Q (.ref D) { s₁ with heap := h', toks := tk }) :
    wpAny (model prog w) A (pyIter (.ref l)) (fun it s₂ => CompAt prog w A env scope cl x elt [] Q it s₂) E s₁ :=
  wpAny_mono (comp_map_listA (Qm := fun _ => Q) (ex := []) F.ns hh hl hn hlen (fun b hb => nomatch hb) turn fun D h' tk ys a b c k => done D h' tk ys a b c fun b o e => k b o (fun q => nomatch q) e) (fun it s₂ x => x.choose_spec.2) fun _ _ x => x
theorem len_small {vs : List Value} {ns : List Int} (h : IntsAre vs ns) (l : ns.length < 1000) : vs.length < 1000 := by rw [h.length]; exact l
theorem take_small {vs : List Value} {ns : List Int} (h : IntsAre vs ns) (l : ns.length < 1000) : (vs.take 60).length < 1000 := by have := h.length; rw [List.length_take]; omega
theorem ints_take {vs : List Value} {ns : List Int} (h : IntsAre vs ns) : ∀ n : Nat, IntsAre (vs.take n) (ns.take n) := by
  induction h with
  | nil => intro n; simpa using IntsAre.nil
  | cons a t _ ih => intro n; cases n with
    | zero => simpa using IntsAre.nil
    | succ n => simpa using IntsAre.cons a t (ih n)
theorem one_of {vs : List Value} {ns : List Int} (h : IntsAre vs ns) (e : vs.isEmpty = false) : 1 ≤ ns.length := by
  cases h with
  | nil => cases e
  | cons a t h => simp
theorem op_depth {o : Op} (h : stopOk o = true) : o.d.depth ≤ 40 := by
  cases o <;> simp only [Op.d, D.depth, D.depths, Op.arg, Op.rest]
  case deed d =>
    have : d.depth ≤ 20 := Nat.le_of_ble_eq_true h
    omega
  case test c n => cases c <;> decide
  all_goals simp [D.depth, D.depths]
theorem ops_depth {ops : List Op} (h : ∀ o ∈ ops, stopOk o = true) : ∀ d ∈ ops.map Op.d, d.depth ≤ 40 := fun d hd => by
  obtain ⟨o, ho, rfl⟩ := List.mem_map.mp hd
  exact op_depth (h o ho)
end

-- La2
section
theorem law_stage {M : Model} {A : Around} {E : Value → Shared → Prop} {s : Shared} {S : Stmt} {rest : List Stmt} {env : Env} {Q : Flow → Shared → Prop} (P : Shared → Prop)
    (h1 : wpAny M A (exec S env) (fun f s' => f = .next ∧ P s') (fun _ _ => False) s) (h2 : ∀ s', P s' → wpAny M A (execs rest env) Q E s') : wpAny M A (execs (S :: rest) env) Q E s := by
  refine wpAny_execs_cons (wpAny_mono h1 (fun f s' q => ?_) fun _ _ x => x.elim)
  obtain ⟨rfl, hP⟩ := q
  exact h2 _ hP
/-- behind the runs: the frame and the two tables -/
noncomputable def Mid6 (g : Heap) (L : Addr) (m : Str → Option Value) (s s' : Shared) : Prop :=
  ∃ h' tk ps4 ps7, s' = { s with heap := h', toks := tk } ∧ Fr g L h' m ∧ News g L h' [(463, tabObj ps4), (70, tabObj ps7)] ∧ TabL h' ps7
theorem law_s6 {M : Model} {A : Around} {E : Value → Shared → Prop} {s : Shared} {g : Heap} {L : Addr} {m : Str → Option Value} {S : Stmt} {rest : List Stmt} {env : Env} {Q : Flow → Shared → Prop} (_F : Fr g L s.heap m)
    (h1 : wpAny M A (exec S env) (fun f s' => f = .next ∧ Mid6 g L m s s') (fun _ _ => False) s)
    (h2 : ∀ h' tk ps4 ps7, Fr g L h' m → News g L h' [(463, tabObj ps4), (70, tabObj ps7)] → TabL h' ps7 → wpAny M A (execs rest env) Q E { s with heap := h', toks := tk }) : wpAny M A (execs (S :: rest) env) Q E s := by
  refine law_stage _ h1 fun s' hP => ?_
  obtain ⟨h', tk, ps4, ps7, rfl, F, N, T⟩ := hP
  exact h2 _ _ _ _ F N T
theorem two_hide {h : Heap} {ps ps7 : Array Value} (h4 : h.get? 463 = some (tabObj ps)) (h7 : h.get? 70 = some (tabObj ps7)) {b : Addr} {o : Obj} (e : h.get? b = some o) (hc : o.cls ≠ .none) : (hideAll h [463, 70]).get? b = some o :=
  hideAll_get _ e fun q => by
    simp only [List.mem_cons, List.not_mem_nil, or_false] at q
    rcases q with rfl | rfl
    · rw [h4] at e; cases e; exact hc rfl
    · rw [h7] at e; cases e; exact hc rfl
theorem TabL.no {h : Heap} {ps : Array Value} (T : TabL h ps) : ∀ q t, ps[1]? ≠ some (.str q t) := by
  rcases T.2 with rfl | ⟨c', rfl, _⟩
  · intro q t e; simp at e
  · intro q t e; simp [rawInt] at e
theorem two_rec {h : Heap} {ps7 : Array Value} (h4 : h.get? 463 = some (tabObj #[])) (T7 : TabL h ps7) {cd : Value} {q : Str} (x : h.CodeRec cd q) : (hideAll h [463, 70]).CodeRec cd q := by
  obtain ⟨c, o, vs, t, e, hg, hd, hq⟩ := x
  refine ⟨c, o, vs, t, e, hideAll_get _ hg fun m => ?_, hd, hq⟩
  simp only [List.mem_cons, List.not_mem_nil, or_false] at m
  rcases m with rfl | rfl
  · rw [h4] at hg; cases hg
    injection hd with hd
    subst hd
    simp at hq
  · rw [T7.1] at hg; cases hg
    injection hd with hd
    subst hd
    exact T7.no _ _ hq
theorem alike_use {prog : Program} {w : World} {A A₀ : Around} {E : Value → Shared → Prop} {s : Shared} {gc : Heap} {env : Env} {L : Addr} {m : Str → Option Value} {p : Program} {loose : List Str} {mean : ExcName → Option Value} {mg mb : Str → Option Value} {Q : Value → Shared → Prop}
    {a cl : Addr} {ops : List Op} {vs cs : List Value} {ns : List Int} {ps7 : Array Value}
    (K : Below A₀ gc [] gc) (F : Fr gc L s.heap m) (N : News gc L s.heap [(463, tabObj #[]), (70, tabObj ps7)]) (hA : A.frames = some [env]) (hf : env.frame = some L) (hke : env.scope.kind = .function)
    (XB : (hd.heap_39 w.params).In gc) (TB : Top p loose mean mg mb gc) (CB : CodeHd gc 467 463) (C7 : CodeHd gc 74 70) (T7 : TabL s.heap ps7) (hh : A.handled = none) (hdp : A.depth + 200 < recursionLimit) (hu : A.units + 2000 < cLine)
    (hl : s.heap.IsList a vs.toArray) (hds : DAll s.heap vs (ops.map Op.d)) (hn : ops.length < 900) (hcl : s.heap.IsList cl cs.toArray) (hi : IntsAre cs ns) (h1 : 1 ≤ ns.length) (h2 : ns.length ≤ 60) (hlab : ∀ q ∈ ops, q.labs.all (· < 1000) = true) (hst0 : ∀ o ∈ ops, stopOk o = true)
    (hQ : ∀ h' tk ps4' ps7', Fr gc L h' m → News gc L h' [(463, tabObj ps4'), (70, tabObj ps7')] → TabL h' ps7' → Q (.bool true) { s with heap := h', toks := tk }) :
    wpAny (model prog w) A (call (.ref 473) [.ref a, .ref cl]) Q E s := by
  obtain ⟨FG, BG, st, _⟩ := groundX (s := s) (R := fun _ _ => True) K F N hA hf hke
  simp only [List.map_cons, List.map_nil] at FG BG st
  have e4 := N _ (.head _)
  have e7 := N _ (.tail _ (.head _))
  dsimp only at e4 e7
  have lst : ∀ {b : Addr} {its : Array Value}, s.heap.IsList b its → (hideAll s.heap [463, 70]).IsList b its := fun ⟨o, ho, hc, r⟩ => ⟨o, two_hide e4.1 e7.1 ho (by rw [hc]; nofun), hc, r⟩
  refine alike_c BG XB TB CB C7 e7.2.2 ⟨fun _ _ e => of_hideAll _ e, Nat.le_of_eq (hideAll_size _ _), fun p hp => ?_⟩ (.inl rfl) (T7.2.imp_right fun ⟨c', e, x⟩ => ⟨c', e, two_rec e4.1 T7 x⟩) hh hdp hu (lst hl)
    (hds.tups fun b xs ⟨o, ho, hc, r⟩ => ⟨o, two_hide e4.1 e7.1 ho (by rw [hc]; nofun), hc, r⟩) hn (lst hcl) hi h1 h2 hlab hst0 ?_
  · simp only [List.mem_cons, List.not_mem_nil, or_false] at hp
    rcases hp with rfl | rfl
    · exact ⟨e4.1, hideAll_none _ (.head _)⟩
    · exact ⟨e7.1, hideAll_none _ (.tail _ (.head _))⟩
  · intro h' tk ps' ps7' hk hup h4' _ T7'
    obtain ⟨g', T', F', _⟩ := ground_kts K FG hf hk (fun _ _ e => e) hup
    refine hQ h' tk ps' ps7' ⟨F'.ns, fun b o e => F'.keep b o (T'.other b o e (by simp [frs])), F.above⟩ (news1 ⟨h4', e4.2⟩ (news1 ⟨T7'.1, e7.2⟩ news0)) T7'
/-- the fixed chain and what is due of it -/
noncomputable def chainOps : List Op := [.jump 2, .stop (Str.ofString "exit"), .jump 3, .test false 0, .key (Str.ofString "end") 5, .key (Str.ofString "end") 4, .jump 6]
noncomputable def chainDue : List Op := [.jump 3, .stop (Str.ofString "exit"), .jump 3, .test false 3, .key (Str.ofString "end") 5, .key (Str.ofString "end") 4, .jump 6]
theorem chain_led : ledF chainOps = chainDue := by kernel_rfl
theorem chain_labs : ∀ q ∈ chainOps, q.labs.all (· < 1000) = true := by simp [chainOps, Op.labs]
theorem chain_depth : ∀ d ∈ chainDue.map Op.d, d.depth ≤ 40 := by decide
theorem dTup {g h : Heap} {L a : Addr} {news : List (Addr × Obj)} {vs : List Value} {ds : List D} (N : News g L h news) (m : (a, ({ cls := .type "tuple", data := .seq vs.toArray } : Obj)) ∈ news) (x : DAll h vs ds) : DIn h (.ref a) (.tup ds) := .tup (tupN N m) x
end

-- Lit
section
section
variable {M : Model} {A : Around} {env : Env} {g h₁ : Heap} {L : Addr} {m : Str → Option Value}
/-- an expression that makes a datum, in each heap grown from h₁ -/
noncomputable def Mk (M : Model) (A : Around) (env : Env) (g h₁ : Heap) (L : Addr) (m : Str → Option Value) (e : PySem.Expr) (d : D) : Prop :=
  ∀ (E Q : Value → Shared → Prop) (s : Shared), h₁.StaysIn s.heap → Fr g L s.heap m → (∀ v h' tk, s.heap.StaysIn h' → DIn h' v d → Q v { s with heap := h', toks := tk }) → wpAny M A (eval e env) Q E s
/-- the same of a display's items -/
noncomputable def MkL (M : Model) (A : Around) (env : Env) (g h₁ : Heap) (L : Addr) (m : Str → Option Value) (es : List PySem.Expr) (ds : List D) : Prop :=
  ∀ (E : Value → Shared → Prop) (Q : List Value → Shared → Prop) (s : Shared) (pos : Pos), h₁.StaysIn s.heap → Fr g L s.heap m →
    (∀ vs h' tk, s.heap.StaysIn h' → DAll h' vs ds → vs.length = es.length → Q vs { s with heap := h', toks := tk }) → wpAny M A (spliced (backTo pos (starEach es env))) Q E s
theorem MkL.nil : MkL M A env g h₁ L m [] [] := fun _ _ s _ _ _ hQ => args_nil (hQ [] s.heap s.toks (fun _ _ e => e) .nil rfl)
theorem MkL.cons {e : PySem.Expr} {es : List PySem.Expr} {d : D} {ds : List D} (he : starEach (e :: es) env = (false, eval e env) :: starEach es env) (x : Mk M A env g h₁ L m e d) (y : MkL M A env g h₁ L m es ds) :
    MkL M A env g h₁ L m (e :: es) (d :: ds) := fun E Q s pos hs F hQ =>
  args_cons (x E _ s hs F fun v h' tk k hd => y E _ _ pos (fun b o q => k b o (hs b o q)) (Fr.keeps F k) fun vs h'' tk' k' hds hl => hQ (v :: vs) h'' tk' (fun b o q => k' b o (k b o q)) (.cons (hd.keeps k') hds) (congrArg (· + 1) hl)) he
theorem Mk.str {x : Str} {k : Nat} {pos : Pos} : Mk M A env g h₁ L m (.Constant (.str x) k pos) (.str x) := fun _ _ s _ _ hQ => Constant_str (hQ _ s.heap _ (fun _ _ e => e) (.str _ _))
theorem Mk.int {i : Int} {k : Nat} {pos : Pos} : Mk M A env g h₁ L m (.Constant (.int i) k pos) (.int i) := fun _ _ s _ _ hQ => wpAny_Constant_int (hQ _ s.heap _ (fun _ _ e => e) (.int _ _))
theorem Mk.tup {es : List PySem.Expr} {ds : List D} {k : Nat} {pos : Pos} (x : MkL M A env g h₁ L m es ds) (hz : es.length ≤ 100) : Mk M A env g h₁ L m (.Tuple es k pos) (.tup ds) := fun E Q s hs F hQ =>
  Tuple_ (x E _ s pos hs F fun vs h' tk k hd hl => newTuple_A (news := []) (Fr.keeps F k) (fun _ h => nomatch h) (fun T h'' _ N _ ka => hQ _ h'' tk (fun b o q => ka b o (k b o q)) (dTup N (.head _) (hd.keeps ka))) (by rw [sizeLine_eq]; omega))
theorem Mk.loc {x : Str} {v : Value} {d : D} {pos : Pos} (hL : env.locals = L) (hk : env.scope.kind = .function) (hx : env.kindOf x = some .local) (hb : (x == ("__debug__" : Str)) = false) (hv : m x = some v) (hd : DIn h₁ v d) :
    Mk M A env g h₁ L m (.Name x pos) d := fun _ _ s hs F hQ => nameC_L F hL hk hx hb hv (hQ v s.heap s.toks (fun _ _ e => e) (hd.keeps hs))
/-- a list display of data -/
theorem mk_list {E : Value → Shared → Prop} {s : Shared} {news : List (Addr × Obj)} {es : List PySem.Expr} {ds : List D} {pos : Pos} {Q : Value → Shared → Prop} (x : MkL M A env g s.heap L m es ds) (F : Fr g L s.heap m) (N : News g L s.heap news) (hz : es.length ≤ 100)
    (hQ : ∀ r h' tk vs, Fr g L h' m → News g L h' ((r, listOf vs.toArray 0) :: news) → (∀ p ∈ news, p.1 < r) → KeepsAll s.heap h' → DAll h' vs ds → Q (.ref r) { s with heap := h', toks := tk }) : wpAny M A (eval (.List es pos) env) Q E s :=
  List_ (x E _ s pos (fun _ _ e => e) F fun vs h' tk k hd hl => newList_A (Fr.keeps F k) (News.grown N k) (fun r h'' F' N' lt ka => hQ r h'' tk vs F' N' lt (fun b o q => ka b o (k b o q)) (hd.keeps ka)) (by rw [sizeLine_eq]; omega))
end
end

-- La3
theorem wordsLa31 : True := by
  k_with_none
  w_top off
  k_with "pb_lt" => (first | (with_reducible assumption) | (refine' lt_use (by with_reducible assumption) ?_; (repeat (first | with_reducible exact And.left | with_reducible exact id | with_reducible refine' lt_skip ?_)); done))
  trivial
theorem wordsLa32 : True := by
  k_with "execs cons" => (k_here; k_dflt (refine' execs_hide ?_); intro P9zz tk8zz hP9zz; (try dsimp only))
  trivial
theorem wordsLa33 : True := by
  k_with "pb_toC" => (repeat' (first | (walk_at "pb_hp") | (k_unfold; (try dsimp only)) | ((fail_if_success (with_reducible show wpAny _ _ (PySem.call (Value.ref _) _) _ _ _)); walk1) | (dsimp only; (fail_if_success (with_reducible show wpAny _ _ (PySem.call (Value.ref _) _) _ _ _)); walk1) | fail "no step"))
  k_with "pb_steps" => (repeat' (first | (walk_at "pb_hp") | (k_unfold; (try dsimp only)) | walk1 | (dsimp only; walk1) | fail "no step"))
  k_with "pb_toI" => (repeat' (first | (walk_at "pb_hp") | (k_unfold; (try dsimp only)) | ((fail_if_success (with_reducible show wpAny _ _ (pyIter _) _ _ _)); walk1) | (dsimp only; (fail_if_success (with_reducible show wpAny _ _ (pyIter _) _ _ _)); walk1) | fail "no step"))
  k_with "pb_tu" => (first | (with_reducible exact TapeU.here) | (refine' TapeU.there (by k_ne) (by k_ne) (by walk_at "pb_tu")))
  k_with "call ref" => (k_here; (with_reducible show wpAny _ _ (PySem.call (Value.ref 429) [Value.ref _, Value.int _ _]) _ _ _); (with_reducible rename Fr _ _ _ _ => kFzz); (with_reducible rename News _ _ _ _ => kNzz); k_dflt (refine' draw_use (by k_asm) (by exact topRead_of (by k_asm)) (fun _ _ e => e) kFzz kNzz (by with_reducible assumption) (by walk_at "pb_tu") (by rfl) (by exact room_d _ _ (by decide)) (by exact room_u _ _ (by decide)) (by with_reducible assumption) (by omega) (by omega) (by omega) ?_; k_whole); intro r9zz h9zz u9zz t9zz vs9zz i9zz v9zz a9zz b9zz lo9zz hi9zz ok9zz Fzz' Nzz'; (try dsimp only at Nzz'); (try k_sweep); (try dsimp only))
  k_with "eval ListComp" => (k_here; k_dflt (refine' eval_ListCompJ (by exact rfl) (by decide) (by rfl) (by decide) (by rfl) ?_ (by (intro _; rfl)); k_whole))
  k_with "eval Name" => (k_here; k_inBlock; (with_reducible rename Fr _ _ _ _ => kFzz); k_dflt (first | (refine' nameC_L kFzz (by rfl) (by rfl) (by rfl) (by decide) (by with_reducible assumption) ?_; k_whole) | (refine' nameC_C kFzz (by rfl) (by rfl) (by rfl) (by decide) (by with_reducible assumption) (by with_reducible assumption) ?_; k_whole) | (refine' nameC_F kFzz (by rfl) (by rfl) (by rfl) (by decide) (by decide) (by with_reducible assumption) (by with_reducible assumption) ?_; k_whole) | (refine' nameC_K kFzz (by rfl) (by rfl) (by rfl) (by decide) (by k_asm) (by exact topRead_of (by k_asm)) (by k_is) ?_; k_whole)))
  k_with "storeName" => (k_here; (with_reducible rename KeepsOff _ _ _ => kOzz); k_dflt (refine' storeX_LK (by k_asm) (by k_asm) ?_ (by rfl) (by rfl); k_whole); intro hzz' Fzz' Nzz' hszz'; (have kOzz' := KeepsOff.same kOzz hszz'); clear kOzz hszz'; (try k_sweep))
  k_with "newTuple" => (k_here; (with_reducible rename KeepsOff _ _ _ => kOzz); k_dflt (refine' newTuple_A (by k_asm) (by k_asm) ?_ (by kmk_size); k_whole); intro Dzz' hzz' Fzz' Nzz' l1zz hkzz'; (have kOzz' := KeepsOff.all kOzz hkzz'); clear kOzz hkzz'; (try k_lt l1zz); (try k_sweep))
  k_with "newList" => (k_here; (with_reducible rename KeepsOff _ _ _ => kOzz); k_dflt (refine' newList_A (by k_asm) (by k_asm) ?_ (by kmk_size); k_whole); intro Dzz' hzz' Fzz' Nzz' l1zz hkzz'; (have kOzz' := KeepsOff.all kOzz hkzz'); clear kOzz hkzz'; (try k_lt l1zz); (try k_sweep))
  k_with "pb_go" => (repeat' (first | (walk_at "pb_hp") | (k_unfold; (try dsimp only)) | ((fail_if_success (with_reducible show wpAny _ _ (PySem.call (Value.ref _) _) _ _ _)); (fail_if_success (with_reducible show wpAny _ _ (pyIter _) _ _ _)); (fail_if_success (with_reducible show wpAny _ _ (compareOp _ (Value.ref _) (Value.ref _)) _ _ _)); walk1) | (dsimp only; (fail_if_success (with_reducible show wpAny _ _ (PySem.call (Value.ref _) _) _ _ _)); (fail_if_success (with_reducible show wpAny _ _ (pyIter _) _ _ _)); (fail_if_success (with_reducible show wpAny _ _ (compareOp _ (Value.ref _) (Value.ref _)) _ _ _)); walk1) | fail "no step"))
  k_with "subscriptTail Name Slice ref ref" => (k_here; (with_reducible rename KeepsOff _ _ _ => kOzz); (with_reducible show wpAny _ _ (subscriptTail _ (PySem.Expr.Slice none (some _) none _) (Value.ref _) (Value.ref _)) _ _ _); k_dflt (refine' slice_upto (n := 60) (by k_asm) (by k_asm) (by with_reducible assumption) ?_ (by with_unfolding_all rfl) (by kmk_pure) (by with_reducible assumption); k_whole); intro Dzz' hzz' Fzz' Nzz' l1zz hkzz'; (have kOzz' := KeepsOff.all kOzz hkzz'); clear kOzz hkzz'; (try k_lt l1zz); (try k_sweep))
  k_with "call type:list" => (k_here; (with_reducible rename KeepsOff _ _ _ => kOzz); (with_reducible show wpAny _ _ (PySem.call (Value.type _) [Value.ref _]) _ _ _); k_dflt (refine' list_copyA (by k_asm) (by k_asm) (by (refine News.isList (by k_asm) (by k_mem))) ?_ (by with_reducible assumption); k_whole); intro Dzz' czz' hzz' Fzz' Nzz' l1zz hkzz'; (have kOzz' := KeepsOff.all kOzz hkzz'); clear kOzz hkzz'; (try k_lt l1zz); (try k_sweep))
  k_with "pb_toS" => (repeat' (first | (walk_at "pb_hp") | (k_unfold; (try dsimp only)) | ((fail_if_success (with_reducible show wpAny _ _ (subscriptTail _ _ _ _) _ _ _)); walk1) | (dsimp only; (fail_if_success (with_reducible show wpAny _ _ (subscriptTail _ _ _ _) _ _ _)); walk1) | fail "no step"))
  k_with "pb_toX" => (repeat' (first | (walk_at "pb_hp") | (k_unfold; (try dsimp only)) | ((fail_if_success (with_reducible show wpAny _ _ (execs (_ :: _) _) _ _ _)); walk1) | (dsimp only; (fail_if_success (with_reducible show wpAny _ _ (execs (_ :: _) _) _ _ _)); walk1) | fail "no step"))
  k_with "pb_toL" => (repeat' (first | (walk_at "pb_hp") | (k_unfold; (try dsimp only)) | ((fail_if_success (with_reducible show wpAny _ _ (eval (PySem.Expr.List _ _) _) _ _ _)); walk1) | (dsimp only; (fail_if_success (with_reducible show wpAny _ _ (eval (PySem.Expr.List _ _) _) _ _ _)); walk1) | fail "no step"))
  trivial
theorem lt_t1 {a b L : Nat} (h : @LT.lt Nat instLTNat a L ∧ @LT.lt Nat instLTNat b L) : @LT.lt Nat instLTNat a (L + 1) ∧ @LT.lt Nat instLTNat b (L + 1) := ⟨Nat.lt_succ_of_lt h.1, Nat.lt_succ_of_lt h.2⟩
theorem lt_t2 {a b L : Nat} (h : @LT.lt Nat instLTNat a L ∧ @LT.lt Nat instLTNat b L) : @LT.lt Nat instLTNat a (L + 1 + 1) ∧ @LT.lt Nat instLTNat b (L + 1 + 1) ∧ @LT.lt Nat instLTNat (L + 1) (L + 1 + 1) := ⟨(lt_t1 (lt_t1 h)).1, (lt_t1 (lt_t1 h)).2, Nat.lt_succ_self _⟩
theorem lt_t3 {a b L : Nat} (h : @LT.lt Nat instLTNat a L ∧ @LT.lt Nat instLTNat b L) : @LT.lt Nat instLTNat a (L + 1 + 1 + 1) ∧ @LT.lt Nat instLTNat b (L + 1 + 1 + 1) ∧ @LT.lt Nat instLTNat (L + 1) (L + 1 + 1 + 1) ∧ @LT.lt Nat instLTNat (L + 1 + 1) (L + 1 + 1 + 1) := ⟨(lt_t1 (lt_t1 (lt_t1 h))).1, (lt_t1 (lt_t1 (lt_t1 h))).2, Nat.lt_succ_of_lt (Nat.lt_succ_self _), Nat.lt_succ_self _⟩
theorem law_holds : PySem.Challenge.rw_pb0247_01.Holds := hd (by
  k_go0
  all_goals (try k_fold)
  rename Fr _ _ _ _ => F
  rename News _ _ _ _ => N
  rename @LT.lt Nat instLTNat _ _ ∧ @LT.lt Nat instLTNat _ _ => lg
  have lg1 := lt_t1 lg
  have lg2 := lt_t2 lg
  have lg3 := lt_t3 lg
  have l47 : @LT.lt Nat instLTNat 70 463 ∧ True := ⟨by decide, trivial⟩
  replace F : Fr _ _ _ (fun y => if y = Str.ofString "script" then some (Value.ref _) else none) := F
  refine law_s1 F N ?_ ?_
  · walk_at "pb_steps"
    · trivial
    · rename Fr _ _ _ _ => F
      rename News _ _ _ _ => N
      rename IntsAre _ (List.take 60 _) => hI
      rename 0 < List.length _ => hl
      refine tape1_mk F N (.head _) (.tail _ (.head _)) (by assumption) (by k_mem) (by k_mem) (by k_mem) (by k_mem) (by k_mem) hI hl (by rw [List.length_take]; omega) ?_ ?_ ?_ ?_ ?_ ?_ <;> ((try dsimp only); first | walk_at "pb_lt" | omega)
    · trivial
    · rename Fr _ _ _ _ => F
      rename News _ _ _ _ => N
      refine tape1_mk (vs := [_]) (ns := [0]) F N (.head _) (.tail _ (.head _)) (by assumption) (by k_mem) (by k_mem) (by k_mem) (by k_mem) (by k_mem) ?_ (by decide) (by decide) ?_ ?_ ?_ ?_ ?_ ?_
      case refine_1 => exact IntsAre.cons _ _ .nil
      all_goals ((try dsimp only); first | walk_at "pb_lt" | omega)
  · intro h2 tk2 tp cl vs u2 n1 n2 o1 F2 N2 hd2 hok2 lct lce
    have lte := fun p hp => Nat.lt_trans (lce p hp) lct
    k_lt lce
    k_lt lte
    clear F N
    walk_at "pb_toI"
    rename Fr _ _ _ _ => F
    rename News _ _ _ _ => N
    rename TapeOk _ _ (0 + 1) => ok9
    rename _ = Data.cell (some (Value.int (2 + _) _)) => dm
    rename (0 : Int) ≤ _ => lo9
    rename _ < (9 : Int) => hi9
    rename IsRange _ _ _ _ _ _ _ _ => hR
    generalize hmi : (2 + _ : Int) = mi at dm hR ⊢
    obtain ⟨many, rfl, hm2, hm3⟩ : ∃ n : Nat, mi = (n : Int) ∧ 2 ≤ n ∧ n < 900 := ⟨mi.toNat, by omega, by omega, by omega⟩
    have e1 := N _ (.tail _ (.tail _ (.tail _ (.tail _ (.tail _ (.head _))))))
    have e2 := N _ (.tail _ (.tail _ (.tail _ (.tail _ (.tail _ (.tail _ (.head _)))))))
    dsimp only at e1 e2
    obtain ⟨g9, M9, hst, gst, gsz, goff⟩ := tape_off (h₀ := ghostOf _ _) F.keep e1.2.2 e2.2.2 e1.1 e2.1
    rename Frag.In _ _ => X0
    rename Top _ _ _ _ _ (ghostOf _ _) => T0
    have X1 := X0.keeps hst
    have T1 := T0.keeps hst
    have c1 := goff _ _ (N _ (.head _)).1 (ni2 (by dsimp only; first | walk_at "pb_lt" | omega) lct)
    have c2 := goff _ _ (N _ (.tail _ (.tail _ (.head _)))).1 (ni2 (by dsimp only; first | walk_at "pb_lt" | omega) lct)
    dsimp only at c1 c2
    refine comp_rangeE (n := many) (g := g9) (mtA := [tp, cl]) (JT tp cl many 1) F rfl hR rfl hm3 gst gsz M9 ?zJ ?zT ?zD
    case zJ =>
      intro gi
      exact ⟨_, _, _, _, _, [], rfl, ok9, .nil, rfl, fun o ho => nomatch ho⟩
    case zT =>
      intro C9 i9 v9 gi9 h9 tk9 m9 mt9 ys9 hC9 hi9 hv9 hgi9 hJ9 F9 hm9 N9 M9
      clear X0 T0 F N hR hst gst gsz goff e1 e2
      walk_at "pb_toC"
      rename Fr _ _ _ _ => F8
      exact op_use X1 (topRead_of T1) F8 rfl (room_d _ _ (by decide)) (room_u _ _ (by decide)) lct hgi9 hJ9 M9 (by omega) hm2 hm3
    case zD =>
      intro D9 h9 tk9 ys9 mt9 gi9 hD9 hPL9 hlen9 hgi9 hJ9 M9 hk9
      clear hst gst gsz goff X1 T1 c1 c2 hR
      obtain ⟨vs9, j9, u9, a9, b9, ops, -, -, hDA9, hlen, hok⟩ := hJ9
      obtain ⟨n9, hPL9⟩ := hPL9
      replace hDA9 := hDA9.keeps hgi9
      refine comp_newsC F (news1 (N (463, _) (by k_mem)) (news1 (N (70, _) (by k_mem)) (news1 (N _ (.head _)) (news1 (N _ (.tail _ (.tail _ (.head _)))) (news1 (N _ (.tail _ (.head _))) news0))))) hk9 hD9 hPL9 lct e1.2.2 e2.2.2 (by omega) ?zn2 ?zgo
      case zn2 =>
        repeat' (first | exact ex_nil | refine ex_cons ?_ ?_)
        all_goals ((try dsimp only); first | walk_at "pb_lt" | omega)
      intro F9 N9 nD9
      have q1 := nD9 _ (.tail _ (.tail _ (.tail _ (.tail _ (.head _)))))
      have q2 := nD9 _ (.head _)
      have q3 := nD9 _ (.tail _ (.head _))
      dsimp only at q1 q2 q3
      clear F N hk9 hD9 e1 e2
      refine' storeX_CK F9 N9 ?zc ?zU ?zd ?zk ?za ?zb
      case za => rfl
      case zb => rfl
      case zc => rfl
      case zU => k_updF
      case zd => k_asm
      intro h3 o3 F3 N3 d3 hs3
      have ct3 := cell_tups (N9 _ (.tail _ (.tail _ (.tail _ (.tail _ (.tail _ (.head _))))))).1 (by assumption) hs3
      replace hDA9 := hDA9.tups ct3
      clear F9 N9 ct3 hs3 hPL9
      replace N3 := news1 (N3 (463, _) (by k_mem)) (news1 (N3 (70, _) (by k_mem)) (news1 (N3 (D9, _) (by k_mem)) (news1 (N3 _ (.tail _ (.tail _ (.tail _ (.head _))))) (news1 (N3 _ (.tail _ (.tail _ (.tail _ (.tail _ (.head _)))))) (news1 (N3 _ (.tail _ (.tail _ (.tail _ (.tail _ (.tail _ (.head _))))))) news0)))))
      have KO := keeps_of F3
      have hOK : ∀ o ∈ ops, stopOk o = true := fun o ho => (hok o ho).2
      have hLab : ∀ o ∈ ops, o.labs.all (· < 1000) = true := fun o ho => by
        have := (hok o ho).1
        simp only [List.all_eq_true, decide_eq_true_eq] at this ⊢
        intro x hx
        have := this x hx
        omega
      have hn9 : ops.length < 900 := by omega
      have hy9 : ys9.length < 1000 := by omega
      rename Below _ _ _ _ => K0
      have b7 := (N3 (70, _) (by k_mem)).2.2
      dsimp only at b7
      walk_at "pb_go"
      rename CodeHd _ _ _ => C7
      revert C7
      rename CodeHd _ _ _ => C4
      intro C7
      refine led_N K0 F3 N3 ?zn7 X0 T0 b7 C7 ⟨(N3 (70, _) (by k_mem)).1, .inl rfl⟩ rfl (room_d _ _ (by decide)) (room_u _ _ (by decide)) ⟨ys9, ⟨_, (N3 _ (.tail _ (.tail _ (.head _)))).1, rfl, _, rfl⟩, hDA9⟩ hn9 hLab ?zgo4
      case zn7 =>
        repeat' (first | exact ex_nil | refine ex_cons ?_ ?_)
        all_goals k_ne
      intro r4 h4 tk4 ps74 F4 N4 hk4 rec4 TL4 O4
      have KO4 := keeps_of F4
      have ns4 := F4.ns
      replace hDA9 := hDA9.tups (tab70_tups (N3 (70, _) (by k_mem)).1 hk4)
      clear KO F3 N3 hk4
      obtain ⟨vs4, hl4, hd4⟩ := O4
      walk_at "pb_go"
      rename Fr _ _ _ _ => F5
      rename News _ _ _ _ => N5
      rename KeepsOff _ _ _ => KO5
      have t5 := frame_tups ns4 KO5
      replace hDA9 := hDA9.tups t5
      replace hd4 := hd4.tups t5
      replace hl4 := frame_list ns4 KO5 hl4
      have TL5 : TabL _ ps74 := ⟨(N5 (70, _) (by k_mem)).1, TL4.2.imp_right fun ⟨c', e, x⟩ => ⟨c', e, frame_rec ns4 KO5 x⟩⟩
      clear KO5 TL4 t5 ns4
      have X5 := X0.keeps F5.keep
      have T5 := T0.keeps F5.keep
      have c5 := (N5 _ (.tail _ (.tail _ (.tail _ (.tail _ (.tail _ (.head _))))))).1
      have l5 := (N5 _ (.tail _ (.tail _ (.head _)))).1
      dsimp only at c5 l5
      refine comp_mapE (vs := ys9) (ds := (ledF ops).map Op.d) F5 rfl ⟨_, l5, rfl, _, rfl⟩ hy9 (by simp [ledF]; omega) ?zt5 ?zd5
      case zt5 =>
        intro C9 i v d h9 tk9 m9 hC9 hv hd9 F9 hm N9
        obtain ⟨o9, ho9, rfl⟩ : ∃ o, ops[i]? = some o ∧ d = (ledOp ops o).d := by
          cases e : ops[i]? with
          | none => simp [ledF, e] at hd9
          | some o => simp [ledF, e] at hd9; exact ⟨o, rfl, hd9.symm⟩
        obtain ⟨v', hv', hD9⟩ := hDA9.get (k := i) (d := o9.d) (by simp [ho9])
        obtain rfl : v' = v := Option.some.inj (hv'.symm.trans hv)
        have hmem := List.mem_of_getElem? ho9
        walk_at "pb_go"
        rename Fr _ _ _ _ => F8
        refine due_c X5 (topRead_of T5) F8.keep rfl (room_d _ _ (by decide)) (room_u _ _ (by decide)) ⟨ys9, ⟨_, F8.keep _ _ l5, rfl, _, rfl⟩, hDA9.keeps F8.keep⟩ hn9 (fun o ho => last_labs (by omega) (hLab o ho)) (hD9.keeps F8.keep) (hLab _ hmem) ?_
        intro r h' tk' k hd
        exact ⟨h', tk', rfl, k, hd⟩
      case zd5 =>
        intro D6 h6 tk6 ys6 hD6 hPL6 hDA6 hk6
        have F6 := F5.keeps hk6
        have N6 := N5.grown hk6
        replace hd4 := hd4.keeps hk6
        replace hDA9 := hDA9.keeps hk6
        replace hl4 : h6.IsList r4 vs4.toArray := hl4.at fun o e => hk6 _ _ e
        have TL6 : TabL h6 ps74 := ⟨hk6 _ _ TL5.1, TL5.2.imp_right fun ⟨c', e, x⟩ => ⟨c', e, x.keeps hk6⟩⟩
        clear F5 N5 TL5 X5 T5 c5 l5 hk6 hD6
        walk_at "pb_go"
        obtain ⟨n6, hPL6⟩ := hPL6
        refine lists_ne (vs := vs4) (ws := ys6) hl4 ⟨_, hPL6, rfl, _, rfl⟩ hd4 hDA6 (ops_depth (stop_ledF hOK)) (room_u _ _ (by decide)) ?_
        clear hPL6 hDA6
        walk_at "pb_go"
        refine led_N K0 F6 N6 ?zn6 X0 T0 b7 C7 TL6 rfl (room_d _ _ (by decide)) (room_u _ _ (by decide)) ⟨vs4, hl4, hd4⟩ (by rw [led_len]; exact hn9) (labs_ledF hLab) ?zgo6
        case zn6 =>
          repeat' (first | exact ex_nil | refine ex_cons ?_ ?_)
          all_goals k_ne
        intro r7 h7 tk7 ps77 F7 N7 hk7 rec7 TL7 O7
        have hP6 := (N6 (70, _) (by k_mem)).1
        dsimp only at hP6
        replace hd4 := hd4.tups (tab70_tups hP6 hk7)
        replace hDA9 := hDA9.tups (tab70_tups hP6 hk7)
        replace hl4 := tab70_list hP6 hk7 hl4
        rw [ledF_again] at O7
        obtain ⟨vs7, hr7, hd7⟩ := O7
        clear F6 N6 TL6 hP6 hk7 rec7
        walk_at "pb_go"
        refine lists_ne (vs := vs7) (ws := vs4) hr7 hl4 hd7 hd4 (ops_depth (stop_ledF hOK)) (room_u _ _ (by decide)) ?_
        clear hr7 hl4 hd7 hd4
        rename IntsAre _ _ => hI
        have hIl := hI.length
        have hz7 := len_small hI (by omega)
        have hz8 := take_small hI (by omega)
        walk_at "pb_toX"
        refine law_s6 F7 ?zs6 ?zs7
        case zs6 =>
          have KO7 := keeps_of F7
          have ns7 := F7.ns
          rename Heap.IsList (ghostOf _ _) _ _ => hScr
          have hScr7 := hScr.at fun o e => F7.keep _ _ e
          walk_at "pb_toS"
          rename Fr _ _ _ _ => kF
          rename News _ _ _ _ => kN
          refine' slice_upto (n := 60) kF kN ?zl ?zg ?zs ?zt ?zz
          case zl => with_reducible assumption
          case zs => with_unfolding_all rfl
          case zt => kmk_pure
          case zz => with_reducible assumption
          intro D8 h8 F8 N8 l8 hk8
          have KO8 := KeepsOff.all KO7 hk8
          clear kF kN KO7 hk8 hScr7
          k_lt l8
          walk_at "pb_go"
          all_goals
            rename Fr _ _ _ _ => F9
            rename News _ _ _ _ => N9
            rename KeepsOff _ _ _ => KO9
            have t9 := frame_tups ns7 KO9
            have hDA8 := hDA9.tups t9
            have TL9 : TabL _ ps77 := ⟨(N9 (70, _) (by k_mem)).1, TL7.2.imp_right fun ⟨c', e, x⟩ => ⟨c', e, frame_rec ns7 KO9 x⟩⟩
            clear KO9 t9
            have lops := (N9 (D9, _) (by k_mem)).1
            dsimp only at lops
          · refine alike_use (cs := [Value.int 0 _]) (ns := [0]) K0 F9 (news1 (N9 (463, _) (by k_mem)) (news1 (N9 (70, _) (by k_mem)) news0)) rfl rfl rfl X0 T0 C4 C7 TL9 rfl (room_d _ _ (by decide)) (room_u _ _ (by decide)) ⟨_, lops, rfl, _, rfl⟩ hDA8 hn9 ⟨_, (N9 _ (.head _)).1, rfl, _, rfl⟩ (IntsAre.cons _ _ .nil) (by decide) (by decide) hLab hOK ?_
            intro h' tk' ps4' ps7' F' N' T'
            walk_at "pb_go"
            exact ⟨_, _, _, _, rfl, F', N', T'⟩
          · rename List.isEmpty _ = false => hem
            have hI60 := ints_take hI 60
            have hle : 1 ≤ (List.take 60 _).length := one_of hI60 hem
            refine alike_use K0 F9 (news1 (N9 (463, _) (by k_mem)) (news1 (N9 (70, _) (by k_mem)) news0)) rfl rfl rfl X0 T0 C4 C7 TL9 rfl (room_d _ _ (by decide)) (room_u _ _ (by decide)) ⟨_, lops, rfl, _, rfl⟩ hDA8 hn9 ⟨_, (N9 _ (.head _)).1, rfl, _, rfl⟩ hI60 hle (by rw [List.length_take]; omega) hLab hOK ?_
            intro h' tk' ps4' ps7' F' N' T'
            walk_at "pb_go"
            exact ⟨_, _, _, _, rfl, F', N', T'⟩
        case zs7 =>
          clear F7 N7 hDA9 TL7 hI hIl hz7 hz8
          intro h7 tk7 ps4 ps7 F7 N7 TL7
          walk_at "pb_toL"
          refine mk_list (ds := chainOps.map Op.d) ?zml F7 N7 (by decide) ?zmq
          case zml =>
            repeat' (first | exact MkL.nil | exact Mk.str | exact Mk.int | (refine MkL.cons rfl ?_ ?_) | (refine Mk.tup ?_ (by decide)))
            intro E Q s hs F hQ
            have X9 := X0.keeps F.keep
            walk_at "pb_steps"
            exact hQ _ _ _ (fun _ _ e => e) (cond_in X9 false)
          case zmq =>
          intro r8 h8 tk8 vs8 F8 N8 lt8 k8 hch
          k_lt lt8
          have TL8 : TabL h8 ps7 := ⟨k8 _ _ TL7.1, TL7.2.imp_right fun ⟨c', e, x⟩ => ⟨c', e, x.keeps k8⟩⟩
          have KO8 := keeps_of F8
          have ns8 := F8.ns
          clear F7 N7 TL7 k8
          walk_at "pb_go"
          rename Fr _ _ _ _ => F9
          rename News _ _ _ _ => N9
          rename KeepsOff _ _ _ => KO9
          have X9 := X0.keeps F9.keep
          have hch9 := hch.tups (frame_tups ns8 KO9)
          have TL9 : TabL _ ps7 := ⟨(N9 (70, _) (by k_mem)).1, TL8.2.imp_right fun ⟨c', e, x⟩ => ⟨c', e, frame_rec ns8 KO9 x⟩⟩
          clear KO9 ns8 TL8 hch
          have Nc := news1 (N9 (463, _) (by k_mem)) (news1 (N9 (70, _) (by k_mem)) (news1 (N9 _ (.head _)) (news1 (N9 _ (.tail _ (.head _))) news0)))
          refine led_N K0 F9 Nc ?zn8 X0 T0 b7 C7 TL9 rfl (room_d _ _ (by decide)) (room_u _ _ (by decide)) ⟨_, ⟨_, (N9 _ (.tail _ (.head _))).1, rfl, _, rfl⟩, hch9⟩ (by decide) chain_labs ?zgo8
          case zn8 =>
            repeat' (first | exact ex_nil | refine ex_cons ?_ ?_)
            all_goals k_ne
          intro r9 h9 tk9 ps79 F10 N10 hk9 rec9 TL10 O9
          rw [chain_led] at O9
          obtain ⟨vs9, hl9, hd9⟩ := O9
          clear N9 Nc F9 hch9 TL9
          walk_at "pb_toL"
          refine mk_list (ds := chainDue.map Op.d) ?zml2 F10 N10 (by decide) ?zmq2
          case zml2 =>
            repeat' (first | exact MkL.nil | exact Mk.str | exact Mk.int | (refine MkL.cons rfl ?_ ?_) | (refine Mk.tup ?_ (by decide)))
            exact Mk.loc rfl rfl rfl (by decide) rfl (dTup N10 (.tail _ (.tail _ (.head _))) (.cons (.str _ _) (.cons (cond_in (X0.keeps F10.keep) false) (.cons (.int _ _) .nil))))
          case zmq2 =>
          intro r11 h11 tk11 vs11 F11 N11 lt11 k11 hdu
          walk_at "pb_go"
          refine lists_eq (hl9.at fun o e => k11 _ _ e) ⟨_, (N11 _ (.head _)).1, rfl, _, rfl⟩ (hd9.keeps k11) hdu chain_depth (room_u _ _ (by decide)) ?_
          clear hdu hd9 hl9
          walk_at "pb_go"
          refine goodW_bool F11 (by assumption) (raisesW_false ?_) ?_
          · wrow_none_raised
          · wrow_post
  )
end Pb

theorem PySem.Challenge.cw_pb0247_01_holds : PySem.Challenge.rw_pb0247_01.Holds :=
  Pb.law_holds
