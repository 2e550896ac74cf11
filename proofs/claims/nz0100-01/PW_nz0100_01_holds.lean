import PyProof.Rows.All
import Wide.All
import OpenK.AllK
import Wide.FinOn
import PySem.Challenge.RW_nz0100_01
set_option Elab.async false
set_option maxRecDepth 100000
set_option maxHeartbeats 8000000
set_option linter.unusedVariables false
set_option compiler.extract_closed false
set_option genSizeOf false
set_option genInjectivity false
set_option bootstrap.genMatcherCode false
namespace Nz
noncomputable def q : PySem.Str := PySem.Str.ofString "q"
theorem e : q = q := rfl
name_quick tw742825935373324 for q by e
name_quick tw3685112061709394217 for q by e
name_quick tw14503925219194333350 for q by e
name_quick tw5032795647487876625 for q by e
name_quick tw16483559862134454508 for q by e
name_quick tw9539488995026237618 for q by e
name_quick tw3162403665770991236 for q by e
name_quick tw11901255758821035346 for q by e
name_quick tw1734492444096408581 for q by e
name_quick tw4473730004878899678 for q by e
name_quick tw2204731429871019306 for q by e
name_quick tw10629773183172871775 for q by e
name_quick tw3199184326434655199 for q by e
name_quick tw6773541754070471992 for q by e
name_quick tw13599459471950604864 for q by e
name_quick tw11512459433930840203 for q by e
name_quick tw18194898481817554752 for q by e
name_quick tw163600642578488178 for q by e
name_quick tw2200629819542978554 for q by e
name_quick tw6324952978259267163 for q by e
name_quick tw2029809139187554157 for q by e
name_quick tw18395883958019556855 for q by e
name_quick tw6469126999673821612 for q by e
name_quick tw13307501955795155650 for q by e
name_quick tw17153917725200763870 for q by e
name_quick tw6979414788679907453 for q by e
name_quick tw6784217966299163826 for q by e
name_quick tw6566358095736111209 for q by e
name_quick tw16233938104173165196 for q by e
name_quick tw11651042035658034944 for q by e
name_quick tw1819887999555158846 for q by e
name_quick tw12523193803410118188 for q by e
name_quick tw12465605920659838085 for q by e
name_quick tw9575480321621803341 for q by e
name_quick tw6344463038543191664 for q by e
name_quick tw9146865487945427453 for q by e
name_quick tw17863626504791434646 for q by e
name_quick tw15622200118127448852 for q by e
name_quick tw9262110886058551425 for q by e
name_quick tw16737077053063640956 for q by e
name_quick tw2038160209340609688 for q by e
name_quick tw15157925921976316236 for q by e
name_quick tw15623930212088984030 for q by e
name_quick tw15315168756148133339 for q by e
name_quick tw14864319641719482642 for q by e
name_quick tw3563944237043855116 for q by e
name_quick tw7867542681986037120 for q by e
name_quick tw166378328747573789 for q by e
name_quick tw8348224242929025781 for q by e
name_quick tw13229223672020471077 for q by e
name_quick tw10806316130049725108 for q by e
name_quick tw6739166216993332783 for q by e
name_quick tw3407435205528083965 for q by e
name_quick tw4660994284415968550 for q by e
name_quick tw12824996326732532868 for q by e
name_quick tw6633245758149755936 for q by e
name_quick tw7476675173799882115 for q by e
name_quick tw8646807533699807460 for q by e
name_quick tw773627107954470581 for q by e
name_quick tw12974702331745476894 for q by e
name_quick tw14384770187477820213 for q by e
name_quick tw8504444182844723521 for q by e
name_quick tw12215750366344810636 for q by e
name_quick tw1729469276881921023 for q by e
name_quick tw7245492220419878101 for q by e
name_quick tw15590025079193451509 for q by e
name_quick tw7148903478648638005 for q by e
name_quick tw9953066078404009580 for q by e
name_quick tw1818533959162663149 for q by e
name_quick tw17619877098237352080 for q by e
name_quick tw883718278298515703 for q by e
name_quick tw10690866412775156316 for q by e
name_quick tw9070866947404607165 for q by e
name_quick tw10309614881542164959 for q by e
name_quick tw13229618776484836226 for q by e
name_quick tw8831183135801789679 for q by e
name_quick tw17548420682812042799 for q by e
name_quick tw17836547494786351663 for q by e
name_quick tw17360746496899619137 for q by e
name_quick tw12558240977265837963 for q by e
name_quick tw15234503125452119943 for q by e
name_quick tw7988021108395849431 for q by e
name_quick tw4297467153828220837 for q by e
name_quick tw9459026616606460515 for q by e
name_quick tw740619830376683395 for q by e
name_quick tw12633072053059584921 for q by e
name_quick tw1207040579745475316 for q by e
name_quick tw16229521874110474392 for q by e
name_quick tw7626214345535760309 for q by e
name_quick tw2801958687990448808 for q by e
name_quick tw9564035469246435394 for q by e
name_quick tw6118793469054177024 for q by e
name_quick tw13214069196430157008 for q by e
name_quick tw7265541939670462440 for q by e
name_quick tw14545761655073948334 for q by e
name_quick tw18258511745647415166 for q by e
name_quick tw6955732989814533669 for q by e
name_quick tw4300948093919133904 for q by e
name_quick tw7718291354224034118 for q by e
name_quick tw5402262013611095661 for q by e
name_quick tw16320334703746839908 for q by e
name_quick tw18126645513482637410 for q by e
name_quick tw16483446868429863743 for q by e
name_quick tw10860530235956171939 for q by e
name_quick tw4737699945540501982 for q by e
name_quick tw11562676755037468771 for q by e
name_quick tw13641448435736703336 for q by e
name_quick tw15333807031393080653 for q by e
name_quick tw9481945439164428365 for q by e
name_quick tw17616780346368244223 for q by e
name_quick tw15936204302243463448 for q by e
name_quick tw15957563637261286785 for q by e
name_quick tw9664103368678188472 for q by e
name_quick tw18131145348475409347 for q by e
name_quick tw5462091628181791387 for q by e
name_quick tw2556504039109948310 for q by e
name_quick tw6862978348628280507 for q by e
name_quick tw2085603008805454610 for q by e
name_quick tw4625100848232947998 for q by e
name_quick tw13584598764918268564 for q by e
name_quick tw7639978517568966036 for q by e
name_quick tw7466902136704277230 for q by e
name_quick tw1225678047106671220 for q by e
name_quick tw4494947557025841199 for q by e
name_quick tw17121740650252912041 for q by e
name_quick tw746695290779173259 for q by e
name_quick tw15672113849174126573 for q by e
name_quick tw11118898076470628748 for q by e
name_quick tw6240941687911283659 for q by e
name_quick tw9847510464865526537 for q by e
name_quick tw2995309381457095354 for q by e
name_quick tw10991187753195579989 for q by e
name_quick tw15799401946422067328 for q by e
name_quick tw8997393116840413465 for q by e
name_quick tw237561888559710399 for q by e
name_quick tw1779383467736184464 for q by e
name_quick tw17013103392571636136 for q by e
name_quick tw2108762088801603946 for q by e
name_quick tw9516751708722880130 for q by e
name_quick tw8098763158389142879 for q by e
name_quick tw13808989903795594640 for q by e
name_quick tw10336323375837980702 for q by e
name_quick tw11333992835631808180 for q by e
name_quick tw6361304027547634070 for q by e
name_quick tw5387353183694008825 for q by e
name_quick tw4949137905704874505 for q by e
name_quick tw17322995623692691436 for q by e
name_quick tw11577263964645110004 for q by e
name_quick tw8938766039312510732 for q by e
name_quick tw46895302518238946 for q by e
name_quick tw3713138643514749790 for q by e
name_quick tw3129050010811906062 for q by e
name_quick tw17658915932662638073 for q by e
name_quick tw8097437011090110140 for q by e
name_quick tw13063407139977327753 for q by e
name_quick tw4544812728668993684 for q by e
name_quick tw10978837011325260350 for q by e
name_quick tw12772917685200795018 for q by e
name_quick tw1423301070749411255 for q by e
name_quick tw3980009287287636825 for q by e
name_quick tw16853218366067807498 for q by e
name_quick tw12078262768220267965 for q by e
name_quick tw13609117353328434710 for q by e
name_quick tw2404820381737229246 for q by e
name_quick tw1711354140989190060 for q by e
name_quick tw2195029872366567843 for q by e
name_quick tw9351143526705741479 for q by e
name_quick tw14792318288037703784 for q by e
name_quick tw11359624434029418746 for q by e
name_quick tw11404322203410798267 for q by e
name_quick tw17704320648046944959 for q by e
name_quick tw17994209909541239472 for q by e
name_quick tw14353024988566425890 for q by e
name_quick tw6675985662975970059 for q by e
name_quick tw15750217164873701077 for q by e
name_quick tw5944474500443230359 for q by e
name_quick tw8224589731954409763 for q by e
name_quick tw4851968855440674999 for q by e
name_quick tw14894710287841092178 for q by e
name_quick tw7044870435296731151 for q by e
name_quick tw7962446603074862657 for q by e
name_quick tw17573158285323098431 for q by e
name_quick tw4874471457562708357 for q by e
name_quick tw10220023672575649411 for q by e
name_quick tw14011095661265087177 for q by e
name_quick tw387160099850868093 for q by e
name_quick tw17373089847779033856 for q by e
name_quick tw12959591613837549495 for q by e
name_quick tw11171376836490226454 for q by e
name_quick tw14479957674085501081 for q by e
name_quick tw5483034908284098777 for q by e
name_quick tw9048466273011617886 for q by e
name_quick tw3084478754246978838 for q by e
name_quick tw7684087591874722455 for q by e
name_quick tw9594251171902138900 for q by e
name_quick tw6395988216982642284 for q by e
name_quick tw7651452950690962972 for q by e
name_quick tw2887417796932216925 for q by e
name_quick tw6885307243953755685 for q by e
name_quick tw7161950345127923961 for q by e
name_quick tw7552483982252231834 for q by e
name_quick tw6070406986734036899 for q by e
name_quick tw16109268681063830745 for q by e
name_quick tw8212359988487119205 for q by e
name_quick tw2658324499882813037 for q by e
name_quick tw17940164236843876970 for q by e
name_quick tw3907383543493293730 for q by e
name_quick tw13137909489723835573 for q by e
name_quick tw10659232925693644843 for q by e
name_quick tw2586603052057327474 for q by e
name_quick tw4221466740352469816 for q by e
name_quick tw7435695583697955062 for q by e
name_quick tw1332991359719601564 for q by e
name_quick tw17976995822396899430 for q by e
name_quick tw16656773266402218235 for q by e
name_quick tw6689034478351546553 for q by e
name_quick tw5744444310016293268 for q by e
name_quick tw10491396649033242465 for q by e
name_quick tw3860372393329886121 for q by e
name_quick tw11008203437252708940 for q by e
name_quick tw13416692264964642297 for q by e
name_quick tw1350897134330460096 for q by e
name_quick tw2775341109566650667 for q by e
name_quick tw13200212981815817113 for q by e
name_quick tw13561739102738289133 for q by e
name_quick tw8794812985377635607 for q by e
name_quick tw2489435153224591534 for q by e
name_quick tw10715539180988239341 for q by e
name_quick tw10887144089902799648 for q by e
name_quick tw7812666684625694213 for q by e
name_quick tw1564989037571172025 for q by e
name_quick tw8636254228620775445 for q by e
name_quick tw11780939808270336510 for q by e
name_quick tw4695324058417135211 for q by e
name_quick tw16180432726317674485 for q by e
name_quick tw14585415354156722699 for q by e
name_quick tw6960915498487357076 for q by e
name_quick tw9952343687125572392 for q by e
name_quick tw14763958608446066202 for q by e
name_quick tw3209500952685203042 for q by e
name_quick tw2397622204810759368 for q by e
name_quick tw16421761062513499421 for q by e
name_quick tw17543643277727403027 for q by e
name_quick tw1038258743231762628 for q by e
name_quick tw2714336145822820886 for q by e
name_quick tw9139892291124942927 for q by e
name_quick tw1473005755757910812 for q by e
name_quick tw760545495454859148 for q by e
name_quick tw10545693577561556978 for q by e
name_quick tw16205502331976976116 for q by e
name_quick tw426006956604743931 for q by e
name_quick tw9309409048926351127 for q by e
name_quick tw10099234646689561153 for q by e
name_quick tw8280286970506750165 for q by e
name_quick tw6964609621793557608 for q by e
name_quick tw13496517674200059377 for q by e
name_quick tw2802233796920311879 for q by e
name_quick tw15718349541382221272 for q by e
name_quick tw10229399290669348875 for q by e
name_quick tw18032294476224051003 for q by e
name_quick tw18191319946542633343 for q by e
name_quick tw1737339588154738960 for q by e
name_quick tw8829340090571931918 for q by e
name_quick tw11482233516469530256 for q by e
name_quick tw6057864445448327270 for q by e
name_quick tw848528391633364213 for q by e
name_quick tw15781172694005058461 for q by e
name_quick tw13923526244312765478 for q by e
name_quick tw6761745490049223372 for q by e
name_quick tw11212770066744521819 for q by e
name_quick tw17436440161768689714 for q by e
name_quick tw5211076148768207715 for q by e
name_quick tw1028498414430632101 for q by e
name_quick tw281536634002873144 for q by e
name_quick tw477463475245631379 for q by e
name_quick tw8091801193337568210 for q by e
name_quick tw13599561938726103014 for q by e
name_quick tw9270687166889652800 for q by e
name_quick tw7055415081252180583 for q by e
name_quick tw18015009339632965483 for q by e
name_quick tw6217165582819702277 for q by e
name_quick tw7197373558052272317 for q by e
name_quick tw15582765770251613091 for q by e
name_quick tw10830117541750209731 for q by e
name_quick tw15957845850822193540 for q by e
name_quick tw609143768652058203 for q by e
name_quick tw584405578172105357 for q by e
name_quick tw7878233561077228135 for q by e
name_quick tw14252526168273268977 for q by e
name_quick tw12537309875119561741 for q by e
name_quick tw7376606857837400882 for q by e
name_quick tw7135360407992173623 for q by e
name_quick tw13191258836386908936 for q by e
name_quick tw6029521585314867354 for q by e
name_quick tw9310655250072577082 for q by e
name_quick tw12761352319087616590 for q by e
name_quick tw3303151057463762397 for q by e
name_quick tw1712121330179669245 for q by e
name_quick tw7953767520973423729 for q by e
name_quick tw2185214817559031252 for q by e
name_quick tw7919750405055650807 for q by e
name_quick tw11615054377548313269 for q by e
name_quick tw4666084421778731764 for q by e
name_quick tw4416431487060789277 for q by e
name_quick tw15031036918121826123 for q by e
name_quick tw5561283538092791150 for q by e
name_quick tw17402536390852843054 for q by e
name_quick tw4601428939171431932 for q by e
name_quick tw208332447609720608 for q by e
name_quick tw11014268495289127160 for q by e
name_quick tw4887769571848639780 for q by e
name_quick tw2364938791081876604 for q by e
name_quick tw14856434617225062875 for q by e
name_quick tw3835521333090710234 for q by e
name_quick tw15972807555438572266 for q by e
name_quick tw3018660952867110749 for q by e
name_quick tw12599483968161729234 for q by e
name_quick tw5709606897630007463 for q by e
name_quick tw2050534475226769710 for q by e
name_quick tw13089598551715221875 for q by e
name_quick tw10859671604709781268 for q by e
name_quick tw6986398822160301496 for q by e
name_quick tw10233187197171694048 for q by e
name_quick tw6771269474777373499 for q by e
name_quick tw14406757800397210538 for q by e
name_quick tw9661053023414496329 for q by e
name_quick tw2633504023515373750 for q by e
name_quick tw12127988173882358941 for q by e
name_quick tw12554302043233652996 for q by e
name_quick tw3444497615771917872 for q by e
name_quick tw13176300018974429253 for q by e
name_quick tw4451609843002858474 for q by e
name_quick tw9363474409850156680 for q by e
name_quick tw2799966310224211216 for q by e
name_quick tw17600587968199075792 for q by e
name_quick tw16114091669783993546 for q by e
name_quick tw340518637407412562 for q by e
name_quick tw10019172182699178035 for q by e
name_quick tw14968204986084740369 for q by e
name_quick tw6151714507942309850 for q by e
name_quick tw4285888976182659356 for q by e
name_quick tw3822535635718579464 for q by e
name_quick tw4717155067417399866 for q by e
name_quick tw12682158404814718602 for q by e
name_quick tw11933274667146567727 for q by e
name_quick tw2249694539134988371 for q by e
name_quick tw18394062856205493889 for q by e
name_quick tw6018432930312303281 for q by e
name_quick tw9133447563138097069 for q by e
name_quick tw1090956901428464445 for q by e
name_quick tw16848397378493295510 for q by e
name_quick tw10473927662643385561 for q by e
name_quick tw14671726863904530509 for q by e
name_quick tw6408264095378399249 for q by e
name_quick tw5909933927091605760 for q by e
name_quick tw15240058082950489290 for q by e
name_quick tw11245984958856162718 for q by e
name_quick tw7651176494763301167 for q by e
name_quick tw7427831407158903461 for q by e
name_quick tw16140950978945685775 for q by e
name_quick tw11816160284987409631 for q by e
name_quick tw14061806952406209802 for q by e
name_quick tw14542383910859038730 for q by e
name_quick tw9342351049970060148 for q by e
name_quick tw1188441724297681278 for q by e
name_quick tw16005501366698722755 for q by e
name_quick tw10187149062062560026 for q by e
name_quick tw15699377972744599779 for q by e
name_quick tw1259404366239155365 for q by e
name_quick tw11365654387181076868 for q by e
name_quick tw7087013093953672171 for q by e
name_quick tw3974117620210420920 for q by e
name_quick tw3914510740079397310 for q by e
name_quick tw3038038420438040263 for q by e
name_quick tw7515035816944416747 for q by e
name_quick tw10666407543082351394 for q by e
name_quick tw1118969200361184382 for q by e
name_quick tw7496767711602094282 for q by e
name_quick tw10332662843395199669 for q by e
name_quick tw7703410946079582472 for q by e
name_quick tw10092476446554319712 for q by e
name_quick tw8467988057173030893 for q by e
name_quick tw11323187523742838230 for q by e
name_quick tw15385899348523751781 for q by e
name_quick tw3206999364770920009 for q by e
name_quick tw1310047065186609684 for q by e
name_quick tw7876695116326076793 for q by e
name_quick tw8643010945050875412 for q by e
name_quick tw11267012272043143638 for q by e
name_quick tw11133115234411049897 for q by e
name_quick tw6994914229237002347 for q by e
name_quick tw6430330032876983248 for q by e
name_quick tw5390596953887000352 for q by e
name_quick tw5666354753396538630 for q by e
name_quick tw7679596008877025606 for q by e
name_quick tw7075596515100099686 for q by e
name_quick tw15965757445884119492 for q by e
name_quick tw3744688757759338479 for q by e
name_quick tw12853292314843181134 for q by e
name_quick tw18261131109908677785 for q by e
name_quick tw11776906952894653467 for q by e
name_quick tw15294254880360440513 for q by e
name_quick tw9212600844950691384 for q by e
name_quick tw10114519762313371237 for q by e
name_quick tw13183752662520106478 for q by e
name_quick tw11893684709731425139 for q by e
name_quick tw6599751423960692286 for q by e
name_quick tw3274951005102757873 for q by e
name_quick tw10839348790495687391 for q by e
name_quick tw2014908147714971025 for q by e
name_quick tw5065207125121976234 for q by e
name_quick tw15093188917684609515 for q by e
name_quick tw1395614365530391701 for q by e
name_quick tw8085923854611746821 for q by e
name_quick tw10095912009747147748 for q by e
name_quick tw17794232213060636991 for q by e
name_quick tw2860033305740395305 for q by e
name_quick tw10704708901972413715 for q by e
name_quick tw16957406581513218011 for q by e
name_quick tw5256619481638750009 for q by e
name_quick tw8260173760339611617 for q by e
name_quick tw2739469558849588647 for q by e
name_quick tw6898092854942772468 for q by e
name_quick tw863038545754750133 for q by e
name_quick tw12883033319257213366 for q by e
name_quick tw17413076751576532773 for q by e
name_quick tw17322012263135698038 for q by e
name_quick tw18135022839741949512 for q by e
name_quick tw16612271564919870377 for q by e
name_quick tw18319476689148063014 for q by e
name_quick tw9073944248674334550 for q by e
name_quick tw4993172840877592023 for q by e
name_quick tw11782369961740109184 for q by e
name_quick tw4236183342306639095 for q by e
name_quick tw8503742479570233432 for q by e
name_quick tw8208560885082489429 for q by e
name_quick tw11284355321594727542 for q by e
name_quick tw2231518916353339898 for q by e
name_quick tw10755431179989226962 for q by e
name_quick tw13618972560726694028 for q by e
name_quick tw15146920266792969017 for q by e
name_quick tw15948997616223485032 for q by e
name_quick tw5571146987319323178 for q by e
name_quick tw15773514804224948532 for q by e
name_quick tw13214749515210603002 for q by e
name_quick tw15483416636623255951 for q by e
name_quick tw3977432050820369127 for q by e
name_quick tw11368513812771419501 for q by e
name_quick tw16643823511099413890 for q by e
name_quick tw6715860168178548514 for q by e
name_quick tw3735777244976354309 for q by e
name_quick tw3871372814800388404 for q by e
name_quick tw2820376038620632451 for q by e
name_quick tw13634655306751413340 for q by e
name_quick tw14672052165182780398 for q by e
name_quick tw10807801712717010108 for q by e
name_quick tw10149902420152563832 for q by e
name_quick tw17783601071941269477 for q by e
name_quick tw17619386361104102122 for q by e
name_quick tw8813444991829281730 for q by e
name_quick tw14657453639580294705 for q by e
name_quick tw15113813671534723957 for q by e
name_quick tw14662406127547423392 for q by e
name_quick tw14560770022372896527 for q by e
name_quick tw9320327625272128883 for q by e
name_quick tw1681706273766388214 for q by e
name_quick tw473267430946380665 for q by e
name_quick tw5815381569590727855 for q by e
name_quick tw3247401585708944372 for q by e
name_quick tw12109217070965369019 for q by e
name_quick tw863726951943295250 for q by e
name_quick tw5221102176038941847 for q by e
name_quick tw8238756241983435712 for q by e
name_quick tw13671857506700797949 for q by e
name_quick tw11525892001084589300 for q by e
name_quick tw7729875508205924137 for q by e
name_quick tw18113081723522910259 for q by e
name_quick tw9433796078600271131 for q by e
name_quick tw14353805738751637133 for q by e
name_quick tw6669546627355434999 for q by e
name_quick tw3253953116606463963 for q by e
name_quick tw15368350166843183400 for q by e
name_quick tw11121922704326312858 for q by e
name_quick tw4513198272057374617 for q by e
name_quick tw17970864078976517717 for q by e
name_quick tw6958256513298749941 for q by e
name_quick tw11773871405499664863 for q by e
name_quick tw6608891502980079578 for q by e
name_quick tw1085096170685233077 for q by e
name_quick tw16735849847500552936 for q by e
name_quick tw16474649939246312180 for q by e
name_quick tw14515431420135614953 for q by e
name_quick tw14922637113716395879 for q by e
name_quick tw3111656027670830707 for q by e
name_quick tw11420047802460822203 for q by e
name_quick tw1080042920970039223 for q by e
name_quick tw4312046612072889471 for q by e
name_quick tw4030231237680257109 for q by e
name_quick tw5754483069281610823 for q by e
name_quick tw319920643846997224 for q by e
name_quick tw18014606472055108359 for q by e
name_quick tw17336381369546749930 for q by e
name_quick tw12426305391607877086 for q by e
name_quick tw17904159520732540763 for q by e
name_quick tw15797246611107427348 for q by e
name_quick tw5319899747535129018 for q by e
name_quick tw1731227100600066505 for q by e
name_quick tw8947015458928741239 for q by e
name_quick tw4728168278015504088 for q by e
name_quick tw17415330493336571106 for q by e
name_quick tw6927188864567728225 for q by e
name_quick tw10492395982640164291 for q by e
name_quick tw3927042102459667616 for q by e
name_quick tw18060722015229534676 for q by e
name_quick tw9182726591073488991 for q by e
name_quick tw11268511924456158906 for q by e
name_quick tw10722454185938748971 for q by e
name_quick tw6138107252541902357 for q by e
name_quick tw6858092477594109668 for q by e
name_quick tw12988028956432080145 for q by e
name_quick tw4620355768187502070 for q by e
name_quick tw11923337148313794979 for q by e
name_quick tw10229567703686111129 for q by e
name_quick tw14245287772020327543 for q by e
name_quick tw4416705408563462634 for q by e
name_quick tw1450068550211827138 for q by e
name_quick tw5327700597714598569 for q by e
name_quick tw11872902630224897250 for q by e
name_quick tw3201597005583270423 for q by e
name_quick tw120506795900176762 for q by e
name_quick tw5890855767512885748 for q by e
name_quick tw10373826867187487234 for q by e
name_quick tw5240333130919142923 for q by e
name_quick tw9843706770806002740 for q by e
name_quick tw4656146854287802266 for q by e
name_quick tw10785526960511042545 for q by e
name_quick tw1844431448615619133 for q by e
name_quick tw13592972197853988536 for q by e
name_quick tw5995833260620111632 for q by e
name_quick tw1809902500810718730 for q by e
name_quick tw11154118330777751826 for q by e
name_quick tw11756537336743573528 for q by e
name_quick tw12602913050759387658 for q by e
name_quick tw13351448032317750402 for q by e
name_quick tw18320184248982042636 for q by e
name_quick tw2669203401543268838 for q by e
name_quick tw10068544118854114142 for q by e
name_quick tw9048644971020188841 for q by e
name_quick tw3509965694000148054 for q by e
name_quick tw3240718854751233551 for q by e
name_quick tw9430542415067343777 for q by e
name_quick tw11706647308265125396 for q by e
name_quick tw10867756600728678376 for q by e
name_quick tw16650619446848722409 for q by e
name_quick tw16296379456089830243 for q by e
name_quick tw8980126317547434294 for q by e
name_quick tw5622396666061529505 for q by e
name_quick tw4505821726594690956 for q by e
name_quick tw16956583041787158115 for q by e
name_quick tw16174852970591953854 for q by e
name_quick tw8524032290298677103 for q by e
name_quick tw13686731207520095210 for q by e
name_quick tw16462031768785914571 for q by e
name_quick tw12067425844372050656 for q by e
name_quick tw959915371062834914 for q by e
name_quick tw16784945603121824510 for q by e
name_quick tw4873098135789371150 for q by e
name_quick tw7226363875807580588 for q by e
name_quick tw9941682296879174588 for q by e
name_quick tw4859038504057082601 for q by e
name_quick tw6783575400132083558 for q by e
name_quick tw1170006988447874132 for q by e
name_quick tw12109076883201235362 for q by e
name_quick tw9469225111319221739 for q by e
name_quick tw18327768925842860764 for q by e
name_quick tw10973917005820491425 for q by e
name_quick tw14098893122665191719 for q by e
name_quick tw12576476134722856379 for q by e
name_quick tw15664061681419163366 for q by e
name_quick tw18246767302416721420 for q by e
name_quick tw16780896233511549754 for q by e
name_quick tw17474340774491768212 for q by e
name_quick tw7333815956957542380 for q by e
name_quick tw7023317993142702724 for q by e
name_quick tw9630888486329369432 for q by e
name_quick tw15185236455405823451 for q by e
name_quick tw14656011866065168412 for q by e
name_quick tw5661169006568783978 for q by e
name_quick tw2478644573777949531 for q by e
name_quick tw7326989173397467343 for q by e
name_quick tw12967196662869772285 for q by e
name_quick tw5313436474693382019 for q by e
name_quick tw12688212493138961821 for q by e
name_quick tw7693713537430435689 for q by e
name_quick tw8596323991503710925 for q by e
name_quick tw12715514233050727581 for q by e
name_quick tw12575937858294047941 for q by e
name_quick tw15413695868289693408 for q by e
name_quick tw4196020552792039132 for q by e
name_quick tw12363466131235865250 for q by e
name_quick tw6658588242703493228 for q by e
name_quick tw4272858936937731657 for q by e
name_quick tw13980573143019218876 for q by e
name_quick tw6901871250450780476 for q by e
name_quick tw6330251603349589488 for q by e
name_quick tw13752924577969095259 for q by e
name_quick tw8764652933453407306 for q by e
name_quick tw1791859705132933091 for q by e
name_quick tw8291094483114308503 for q by e
name_quick tw14436535121157124041 for q by e
name_quick tw7043832934122486864 for q by e
name_quick tw454245089134759198 for q by e
name_quick tw18136897333069696659 for q by e
name_quick tw8292151093761330556 for q by e
name_quick tw4458878203185225283 for q by e
name_quick tw3470675532752891060 for q by e
name_quick tw15584491040873569567 for q by e
name_quick tw10946425617041491103 for q by e
name_quick tw4172026921259752261 for q by e
name_quick tw8236873396506362403 for q by e
name_quick tw6321974761596864455 for q by e
name_quick tw9020954957673665298 for q by e
name_quick tw377967882853775430 for q by e
name_quick tw4044633857582970785 for q by e
name_quick tw15598896838082514426 for q by e
name_quick tw5212195579984817876 for q by e
name_quick tw13685709361117064354 for q by e
name_quick tw13979519138717293859 for q by e
name_quick tw4937655761055710488 for q by e
name_quick tw991922963381954080 for q by e
name_quick tw14113664658673991515 for q by e
name_quick tw5597568064569495339 for q by e
name_quick tw15937396177427397233 for q by e
name_quick tw416069280566431587 for q by e
name_quick tw8159145559662606282 for q by e
name_quick tw8556463690466410964 for q by e
name_quick tw10381485427508391136 for q by e
name_quick tw703351695110624167 for q by e
name_quick tw15118059338503448649 for q by e
name_quick tw10716397091846203884 for q by e
name_quick tw14023136743990963574 for q by e
name_quick tw5718640908950421101 for q by e
name_quick tw9803937330200766026 for q by e
name_quick tw17883118012376834455 for q by e
name_quick tw3526975448839842555 for q by e
name_quick tw624902660702730624 for q by e
name_quick tw15340830522465121731 for q by e
name_quick tw14901582820692230040 for q by e
name_quick tw13269994658935311360 for q by e
name_quick tw13879657860753689901 for q by e
name_quick tw13187519165305620076 for q by e
name_quick tw6290961397981719700 for q by e
name_quick tw9456938142920067577 for q by e
name_quick tw3273693450011236986 for q by e
name_quick tw17946316557455633200 for q by e
name_quick tw18106207470822249995 for q by e
name_quick tw4868823438300237820 for q by e
name_quick tw9517955695480807193 for q by e
name_quick tw14943069817690815644 for q by e
name_quick tw5934547588123724027 for q by e
name_quick tw1564140301951247449 for q by e
name_quick tw6934989041684229775 for q by e
name_quick tw17863950675573604649 for q by e
name_quick tw1693359556749357078 for q by e
name_quick tw11989658103520918965 for q by e
name_quick tw12737492367767793906 for q by e
name_quick tw13299262451907269198 for q by e
name_quick tw6166488918011492376 for q by e
name_quick tw12203179533772591556 for q by e
name_quick tw13282594512573469090 for q by e
name_quick tw16615170832471345496 for q by e
name_quick tw16519260976257414904 for q by e
name_quick tw5685078101622166089 for q by e
name_quick tw15488042012663754398 for q by e
name_quick tw15572273225204994684 for q by e
name_quick tw13503169669639670329 for q by e
name_quick tw14247583189844641788 for q by e
name_quick tw10731698224663210718 for q by e
name_quick tw17488396397772885746 for q by e
name_quick tw12674954447680203237 for q by e
name_quick tw16412539368286555889 for q by e
name_quick tw4318059643786758189 for q by e
name_quick tw12878775479204268654 for q by e
name_quick tw77444701157044480 for q by e
name_quick tw13179853757215927561 for q by e
name_quick tw15510679772132496811 for q by e
name_quick tw15467037886928789535 for q by e
name_quick tw4866885870052177362 for q by e
name_quick tw7447293448367798861 for q by e
name_quick tw11399976061448602261 for q by e
name_quick tw12938918642347176820 for q by e
name_quick tw7498080340302767741 for q by e
name_quick tw15479317950995083123 for q by e
name_quick tw16041527679520588937 for q by e
name_quick tw5982094652799178641 for q by e
name_quick tw7738332481671125765 for q by e
name_quick tw10026696523501736056 for q by e
name_quick tw8358730956879978304 for q by e
name_quick tw3786339312317470237 for q by e
name_quick tw15418205227625525836 for q by e
name_quick tw11877529616343855436 for q by e
name_quick tw8040756022504982932 for q by e
name_quick tw6659949565027053567 for q by e
name_quick tw9504625219223962415 for q by e
name_quick tw16653471475462308291 for q by e
name_quick tw5009717895035554441 for q by e
name_quick tw9509851780222221238 for q by e
name_quick tw6984348446068101813 for q by e
name_quick tw8299095771571116881 for q by e
name_quick tw8527176912356447615 for q by e
name_quick tw14849351123168854482 for q by e
name_quick tw14147582250626340166 for q by e
name_quick tw8577382562571815591 for q by e
name_quick tw13514803027729644390 for q by e
name_quick tw4856796617787746795 for q by e
name_quick tw5684737475395862578 for q by e
name_quick tw10337284474072979448 for q by e
name_quick tw16540132388289848602 for q by e
name_quick tw16585558025285446266 for q by e
name_quick tw8788367680598891152 for q by e
name_quick tw10917630215641274718 for q by e
name_quick tw10843214654908347409 for q by e
name_quick tw16270497145481246732 for q by e
name_quick tw707985195027166575 for q by e
name_quick tw14841124420146361022 for q by e
name_quick tw10925401021562738014 for q by e
name_quick tw15938337045367333766 for q by e
name_quick tw16425069502756269818 for q by e
name_quick tw3180209713179029089 for q by e
name_quick tw18211476948900155186 for q by e
name_quick tw12753881467312356513 for q by e
name_quick tw11568822004671062820 for q by e
name_quick tw17697437943395111840 for q by e
name_quick tw18056709228006382193 for q by e
name_quick tw2415998787917450530 for q by e
name_quick tw3913346456569834140 for q by e
name_quick tw13834460760818924735 for q by e
name_quick tw6832320886796089899 for q by e
name_quick tw4382548655158717098 for q by e
name_quick tw14517813273446219191 for q by e
name_quick tw10006166985768349046 for q by e
name_quick tw12066773705411933135 for q by e
name_quick tw11964199097597342324 for q by e
name_quick tw10024855767649696817 for q by e
end Nz
section
open PySem PySem.W PyProof.Rows
open_top nzhd for PySem.Challenge.rw_nz0100_01
end
open List renaming length_map -> Zqt, length_append -> Zqu, mem_append_right -> Zqv, mem_cons_of_mem -> Zqw, mem_append_left -> Zqx, mem_cons_self -> Zqz, getElem?_eq_getElem -> ZqA, map_append -> ZqB, mem_cons -> ZqD, getD_eq_getElem?_getD -> ZqE, length_cons -> ZqF, nodup_cons -> ZqH, mem_singleton -> ZqI, mem_append -> ZqJ, nodup_append -> ZqK, mem_map_of_mem -> ZqL, size_toArray -> ZqM, append_assoc -> ZqN, mem_map -> ZqO, map_cons -> ZqP, append_nil -> ZqR, cons_append -> ZqT, getElem?_eq_some_iff -> ZqU, map_map -> ZqV, lookup_cons -> ZqW, getElem?_set_ne -> ZqX, length_singleton -> ZqY, getElem?_append_left -> ZqZ, getElem?_map -> Zq0, not_mem_nil -> Zq1, nil_append -> Zq2, dropLast_concat_getLast -> Zq3, all_eq_true -> Zq4, getElem?_eq_none -> Zq5, filter_append -> Zq6, filter_cons -> Zq7, eq_nil_of_length_eq_zero -> Zq9, length_set -> Zra, flatMap_cons -> Zrc, getElem?_set_self -> Zre, toArray -> Zrf, mem_filter -> Zrg, singleton_append -> Zrh, map_congr_left -> Zrk, flatMap_append -> Zrl, length -> Zrn, getElem?_append_right -> Zro, range -> Zrt, filter_eq_self -> Zru, filter_eq_nil_iff -> Zrv, zip_cons_cons -> Zrw, length_filter_le -> Zry, dropLast_concat -> Zrz, map_eq_append_iff -> ZrB, ext_getElem? -> ZrD, mem_of_getElem? -> ZrF, length_erase_le -> ZrG, mem_of_mem_drop -> ZrH, getLast?_eq_none_iff -> ZrI, getElem?_range -> ZrJ, map_set -> ZrK, pairwise_cons -> ZrN, erase_append_right -> ZrO, length_nil -> ZrP, erase_of_not_mem -> ZrT, any_eq_true -> ZrX, length_take -> ZrY, length_drop -> ZrZ, perm_middle -> Zr0, drop_append_of_le_length -> Zr1, mem_flatMap -> Zr2, mem_iff_getElem -> Zr3, of_mem_zip -> Zr6, filter_sublist -> Zr9, getLast?_eq_getElem? -> Zsf, mem_range -> Zsg, nodup_nil -> Zsh, any_eq_false -> Zsj, getLast?_map -> Zsl, filter_congr -> Zsm, getElem?_set -> Zsn, map -> Zss, flatMap_eq_nil_iff -> Zst, mem_reverse -> Zsu, getElem_mem -> Zsv, flatMap_map -> Zsy, filter_map -> ZsB, mem_of_mem_erase -> ZsC, idxOf_cons_self -> ZsE, erase_cons_head -> ZsG, map_eq_cons_iff -> ZsH, map_take -> ZsK, length_range -> ZsM, take_add_one -> ZsN, map_nil -> ZsP, drop_length -> ZsR, take_length -> ZsS, flatMap_def -> ZsT, map_flatMap -> ZsU, find?_cons -> ZsV, range_succ -> ZsW
open Option renaming bind -> Zqy, some_ne_none -> Zrp, isSome_eq_false_iff -> Zsa, isNone_iff_eq_none -> Zsi
open Option.some renaming inj -> ZqC, injEq -> ZsL
open Nat renaming le_of_ble_eq_true -> ZqG, le_refl -> ZqQ, lt_succ_self -> ZqS, lt_irrefl -> Zq8, ne_of_lt -> Zrd, le_trans -> Zrj, zero_le -> Zrq, lt_succ_of_lt -> Zrr, le_of_lt -> Zrs, ne_of_gt -> Zrx, succ_le_of_lt -> ZrA, lt_of_lt_of_le -> ZrC, add_assoc -> ZrL, lt_of_le_of_lt -> ZrM, le_of_eq -> ZrS, add_zero -> ZrV, sub_add_cancel -> Zsb, sub_self -> Zse, le_succ_of_le -> Zsk, add_sub_cancel_left -> Zso, le_succ -> Zsp, lt_of_succ_lt_succ -> Zsz, not_lt -> ZsD, not_le -> ZsX
open And renaming intro -> Zrb
open Bool renaming and_eq_true -> Zri, or_false -> Zr4, or_eq_true -> Zr8, false_eq_true -> Zsc, false_ne_true -> Zsd, true_and -> Zsq, and_true -> Zsr, not_eq_true -> Zsw, eq_iff_iff -> ZsA, or_eq_false_iff -> ZsF
open List.cons renaming injEq -> Zrm, inj -> Zr5
open Int renaming fmod_eq_emod_of_nonneg -> ZrE, toNat_natCast -> ZrR, toNat_of_nonneg -> ZsI, natCast_nonneg -> ZsJ, ediv_one -> ZsO, natCast_emod -> ZsQ
open Array renaming toList_eraseIdxIfInBounds -> ZrQ, toList_inj -> ZrW, length_toList -> Zr7
open List.Perm renaming append_left -> ZrU
open List.Sublist renaming map -> Zsx
namespace Nz
@[elab_as_elim] theorem rE {α : Sort u} {a b : α} {p : α -> Prop} (h : a = b) (x : p b) : p a := h ▸ x
@[elab_as_elim] theorem rS {α : Sort u} {a b : α} {p : α -> Prop} (h : b = a) (x : p b) : p a := h ▸ x
theorem nA {α : Type u} {v : α} {r : Prop} (h : none = some v) : r := nomatch h
theorem nB {α : Type u} {v : α} {r : Prop} (h : some v = none) : r := nomatch h
theorem nC {r : Prop} (h : false = true) : r := nomatch h
theorem nD {r : Prop} (h : true = false) : r := nomatch h
theorem sO {α : Type u} {v w : α} (h : some v = some w) : v = w := ZqC h
theorem o20 {r : Prop} {p0 p1 : Prop} (h : p0 /\ p1) (k : p0 -> p1 -> r) : r := k h.1 h.2
theorem o21 {r : Prop} {α0 : Sort _} {p0 : α0 -> Prop} (h : ∃ x0, p0 x0) (k : ∀ x0, p0 x0 -> r) : r := h.elim k
theorem o30 {r : Prop} {p0 p1 p2 : Prop} (h : p0 /\ p1 /\ p2) (k : p0 -> p1 -> p2 -> r) : r := o20 h fun a t => o20 t (k a)
theorem o31 {r : Prop} {α0 : Sort _} {p0 p1 : α0 -> Prop} (h : ∃ x0, p0 x0 /\ p1 x0) (k : ∀ x0, p0 x0 -> p1 x0 -> r) : r := o21 h fun a t => o20 t (k a)
theorem o32 {r : Prop} {α0 α1 : Sort _} {p0 : α0 -> α1 -> Prop} (h : ∃ x0 x1, p0 x0 x1) (k : ∀ x0 x1, p0 x0 x1 -> r) : r := o21 h fun a t => o21 t (k a)
theorem o40 {r : Prop} {p0 p1 p2 p3 : Prop} (h : p0 /\ p1 /\ p2 /\ p3) (k : p0 -> p1 -> p2 -> p3 -> r) : r := o20 h fun a t => o30 t (k a)
theorem o41 {r : Prop} {α0 : Sort _} {p0 p1 p2 : α0 -> Prop} (h : ∃ x0, p0 x0 /\ p1 x0 /\ p2 x0) (k : ∀ x0, p0 x0 -> p1 x0 -> p2 x0 -> r) : r := o21 h fun a t => o30 t (k a)
theorem o42 {r : Prop} {α0 α1 : Sort _} {p0 p1 : α0 -> α1 -> Prop} (h : ∃ x0 x1, p0 x0 x1 /\ p1 x0 x1) (k : ∀ x0 x1, p0 x0 x1 -> p1 x0 x1 -> r) : r := o21 h fun a t => o31 t (k a)
theorem o43 {r : Prop} {α0 α1 α2 : Sort _} {p0 : α0 -> α1 -> α2 -> Prop} (h : ∃ x0 x1 x2, p0 x0 x1 x2) (k : ∀ x0 x1 x2, p0 x0 x1 x2 -> r) : r := o21 h fun a t => o32 t (k a)
theorem o50 {r : Prop} {p0 p1 p2 p3 p4 : Prop} (h : p0 /\ p1 /\ p2 /\ p3 /\ p4) (k : p0 -> p1 -> p2 -> p3 -> p4 -> r) : r := o20 h fun a t => o40 t (k a)
theorem o51 {r : Prop} {α0 : Sort _} {p0 p1 p2 p3 : α0 -> Prop} (h : ∃ x0, p0 x0 /\ p1 x0 /\ p2 x0 /\ p3 x0) (k : ∀ x0, p0 x0 -> p1 x0 -> p2 x0 -> p3 x0 -> r) : r := o21 h fun a t => o40 t (k a)
theorem o52 {r : Prop} {α0 α1 : Sort _} {p0 p1 p2 : α0 -> α1 -> Prop} (h : ∃ x0 x1, p0 x0 x1 /\ p1 x0 x1 /\ p2 x0 x1) (k : ∀ x0 x1, p0 x0 x1 -> p1 x0 x1 -> p2 x0 x1 -> r) : r := o21 h fun a t => o41 t (k a)
theorem o53 {r : Prop} {α0 α1 α2 : Sort _} {p0 p1 : α0 -> α1 -> α2 -> Prop} (h : ∃ x0 x1 x2, p0 x0 x1 x2 /\ p1 x0 x1 x2) (k : ∀ x0 x1 x2, p0 x0 x1 x2 -> p1 x0 x1 x2 -> r) : r := o21 h fun a t => o42 t (k a)
theorem o60 {r : Prop} {p0 p1 p2 p3 p4 p5 : Prop} (h : p0 /\ p1 /\ p2 /\ p3 /\ p4 /\ p5) (k : p0 -> p1 -> p2 -> p3 -> p4 -> p5 -> r) : r := o20 h fun a t => o50 t (k a)
theorem o61 {r : Prop} {α0 : Sort _} {p0 p1 p2 p3 p4 : α0 -> Prop} (h : ∃ x0, p0 x0 /\ p1 x0 /\ p2 x0 /\ p3 x0 /\ p4 x0) (k : ∀ x0, p0 x0 -> p1 x0 -> p2 x0 -> p3 x0 -> p4 x0 -> r) : r := o21 h fun a t => o50 t (k a)
theorem o62 {r : Prop} {α0 α1 : Sort _} {p0 p1 p2 p3 : α0 -> α1 -> Prop} (h : ∃ x0 x1, p0 x0 x1 /\ p1 x0 x1 /\ p2 x0 x1 /\ p3 x0 x1) (k : ∀ x0 x1, p0 x0 x1 -> p1 x0 x1 -> p2 x0 x1 -> p3 x0 x1 -> r) : r := o21 h fun a t => o51 t (k a)
theorem o63 {r : Prop} {α0 α1 α2 : Sort _} {p0 p1 p2 : α0 -> α1 -> α2 -> Prop} (h : ∃ x0 x1 x2, p0 x0 x1 x2 /\ p1 x0 x1 x2 /\ p2 x0 x1 x2) (k : ∀ x0 x1 x2, p0 x0 x1 x2 -> p1 x0 x1 x2 -> p2 x0 x1 x2 -> r) : r := o21 h fun a t => o52 t (k a)
theorem o64 {r : Prop} {α0 α1 α2 α3 : Sort _} {p0 p1 : α0 -> α1 -> α2 -> α3 -> Prop} (h : ∃ x0 x1 x2 x3, p0 x0 x1 x2 x3 /\ p1 x0 x1 x2 x3) (k : ∀ x0 x1 x2 x3, p0 x0 x1 x2 x3 -> p1 x0 x1 x2 x3 -> r) : r := o21 h fun a t => o53 t (k a)
theorem o70 {r : Prop} {p0 p1 p2 p3 p4 p5 p6 : Prop} (h : p0 /\ p1 /\ p2 /\ p3 /\ p4 /\ p5 /\ p6) (k : p0 -> p1 -> p2 -> p3 -> p4 -> p5 -> p6 -> r) : r := o20 h fun a t => o60 t (k a)
theorem o71 {r : Prop} {α0 : Sort _} {p0 p1 p2 p3 p4 p5 : α0 -> Prop} (h : ∃ x0, p0 x0 /\ p1 x0 /\ p2 x0 /\ p3 x0 /\ p4 x0 /\ p5 x0) (k : ∀ x0, p0 x0 -> p1 x0 -> p2 x0 -> p3 x0 -> p4 x0 -> p5 x0 -> r) : r := o21 h fun a t => o60 t (k a)
theorem o72 {r : Prop} {α0 α1 : Sort _} {p0 p1 p2 p3 p4 : α0 -> α1 -> Prop} (h : ∃ x0 x1, p0 x0 x1 /\ p1 x0 x1 /\ p2 x0 x1 /\ p3 x0 x1 /\ p4 x0 x1) (k : ∀ x0 x1, p0 x0 x1 -> p1 x0 x1 -> p2 x0 x1 -> p3 x0 x1 -> p4 x0 x1 -> r) : r := o21 h fun a t => o61 t (k a)
theorem o73 {r : Prop} {α0 α1 α2 : Sort _} {p0 p1 p2 p3 : α0 -> α1 -> α2 -> Prop} (h : ∃ x0 x1 x2, p0 x0 x1 x2 /\ p1 x0 x1 x2 /\ p2 x0 x1 x2 /\ p3 x0 x1 x2) (k : ∀ x0 x1 x2, p0 x0 x1 x2 -> p1 x0 x1 x2 -> p2 x0 x1 x2 -> p3 x0 x1 x2 -> r) : r := o21 h fun a t => o62 t (k a)
theorem o74 {r : Prop} {α0 α1 α2 α3 : Sort _} {p0 p1 p2 : α0 -> α1 -> α2 -> α3 -> Prop} (h : ∃ x0 x1 x2 x3, p0 x0 x1 x2 x3 /\ p1 x0 x1 x2 x3 /\ p2 x0 x1 x2 x3) (k : ∀ x0 x1 x2 x3, p0 x0 x1 x2 x3 -> p1 x0 x1 x2 x3 -> p2 x0 x1 x2 x3 -> r) : r := o21 h fun a t => o63 t (k a)
theorem o80 {r : Prop} {p0 p1 p2 p3 p4 p5 p6 p7 : Prop} (h : p0 /\ p1 /\ p2 /\ p3 /\ p4 /\ p5 /\ p6 /\ p7) (k : p0 -> p1 -> p2 -> p3 -> p4 -> p5 -> p6 -> p7 -> r) : r := o20 h fun a t => o70 t (k a)
theorem o82 {r : Prop} {α0 α1 : Sort _} {p0 p1 p2 p3 p4 p5 : α0 -> α1 -> Prop} (h : ∃ x0 x1, p0 x0 x1 /\ p1 x0 x1 /\ p2 x0 x1 /\ p3 x0 x1 /\ p4 x0 x1 /\ p5 x0 x1) (k : ∀ x0 x1, p0 x0 x1 -> p1 x0 x1 -> p2 x0 x1 -> p3 x0 x1 -> p4 x0 x1 -> p5 x0 x1 -> r) : r := o21 h fun a t => o71 t (k a)
theorem o83 {r : Prop} {α0 α1 α2 : Sort _} {p0 p1 p2 p3 p4 : α0 -> α1 -> α2 -> Prop} (h : ∃ x0 x1 x2, p0 x0 x1 x2 /\ p1 x0 x1 x2 /\ p2 x0 x1 x2 /\ p3 x0 x1 x2 /\ p4 x0 x1 x2) (k : ∀ x0 x1 x2, p0 x0 x1 x2 -> p1 x0 x1 x2 -> p2 x0 x1 x2 -> p3 x0 x1 x2 -> p4 x0 x1 x2 -> r) : r := o21 h fun a t => o72 t (k a)
theorem o84 {r : Prop} {α0 α1 α2 α3 : Sort _} {p0 p1 p2 p3 : α0 -> α1 -> α2 -> α3 -> Prop} (h : ∃ x0 x1 x2 x3, p0 x0 x1 x2 x3 /\ p1 x0 x1 x2 x3 /\ p2 x0 x1 x2 x3 /\ p3 x0 x1 x2 x3) (k : ∀ x0 x1 x2 x3, p0 x0 x1 x2 x3 -> p1 x0 x1 x2 x3 -> p2 x0 x1 x2 x3 -> p3 x0 x1 x2 x3 -> r) : r := o21 h fun a t => o73 t (k a)
theorem o85 {r : Prop} {α0 α1 α2 α3 α4 : Sort _} {p0 p1 p2 : α0 -> α1 -> α2 -> α3 -> α4 -> Prop} (h : ∃ x0 x1 x2 x3 x4, p0 x0 x1 x2 x3 x4 /\ p1 x0 x1 x2 x3 x4 /\ p2 x0 x1 x2 x3 x4) (k : ∀ x0 x1 x2 x3 x4, p0 x0 x1 x2 x3 x4 -> p1 x0 x1 x2 x3 x4 -> p2 x0 x1 x2 x3 x4 -> r) : r := o21 h fun a t => o74 t (k a)
theorem e31 {α0 : Sort _} {p0 p1 : α0 -> Prop} (x0 : α0) (h0 : p0 x0) (h1 : p1 x0) : ∃ x0, p0 x0 /\ p1 x0 := ⟨x0, h0, h1⟩
theorem e32 {α0 α1 : Sort _} {p0 : α0 -> α1 -> Prop} (x0 : α0) (x1 : α1) (h0 : p0 x0 x1) : ∃ x0 x1, p0 x0 x1 := ⟨x0, x1, h0⟩
theorem e41 {α0 : Sort _} {p0 p1 p2 : α0 -> Prop} (x0 : α0) (h0 : p0 x0) (h1 : p1 x0) (h2 : p2 x0) : ∃ x0, p0 x0 /\ p1 x0 /\ p2 x0 := ⟨x0, h0, h1, h2⟩
theorem e42 {α0 α1 : Sort _} {p0 p1 : α0 -> α1 -> Prop} (x0 : α0) (x1 : α1) (h0 : p0 x0 x1) (h1 : p1 x0 x1) : ∃ x0 x1, p0 x0 x1 /\ p1 x0 x1 := ⟨x0, x1, h0, h1⟩
theorem e51 {α0 : Sort _} {p0 p1 p2 p3 : α0 -> Prop} (x0 : α0) (h0 : p0 x0) (h1 : p1 x0) (h2 : p2 x0) (h3 : p3 x0) : ∃ x0, p0 x0 /\ p1 x0 /\ p2 x0 /\ p3 x0 := ⟨x0, h0, h1, h2, h3⟩
theorem e52 {α0 α1 : Sort _} {p0 p1 p2 : α0 -> α1 -> Prop} (x0 : α0) (x1 : α1) (h0 : p0 x0 x1) (h1 : p1 x0 x1) (h2 : p2 x0 x1) : ∃ x0 x1, p0 x0 x1 /\ p1 x0 x1 /\ p2 x0 x1 := ⟨x0, x1, h0, h1, h2⟩
theorem e53 {α0 α1 α2 : Sort _} {p0 p1 : α0 -> α1 -> α2 -> Prop} (x0 : α0) (x1 : α1) (x2 : α2) (h0 : p0 x0 x1 x2) (h1 : p1 x0 x1 x2) : ∃ x0 x1 x2, p0 x0 x1 x2 /\ p1 x0 x1 x2 := ⟨x0, x1, x2, h0, h1⟩
theorem e61 {α0 : Sort _} {p0 p1 p2 p3 p4 : α0 -> Prop} (x0 : α0) (h0 : p0 x0) (h1 : p1 x0) (h2 : p2 x0) (h3 : p3 x0) (h4 : p4 x0) : ∃ x0, p0 x0 /\ p1 x0 /\ p2 x0 /\ p3 x0 /\ p4 x0 := ⟨x0, h0, h1, h2, h3, h4⟩
theorem e62 {α0 α1 : Sort _} {p0 p1 p2 p3 : α0 -> α1 -> Prop} (x0 : α0) (x1 : α1) (h0 : p0 x0 x1) (h1 : p1 x0 x1) (h2 : p2 x0 x1) (h3 : p3 x0 x1) : ∃ x0 x1, p0 x0 x1 /\ p1 x0 x1 /\ p2 x0 x1 /\ p3 x0 x1 := ⟨x0, x1, h0, h1, h2, h3⟩
theorem e63 {α0 α1 α2 : Sort _} {p0 p1 p2 : α0 -> α1 -> α2 -> Prop} (x0 : α0) (x1 : α1) (x2 : α2) (h0 : p0 x0 x1 x2) (h1 : p1 x0 x1 x2) (h2 : p2 x0 x1 x2) : ∃ x0 x1 x2, p0 x0 x1 x2 /\ p1 x0 x1 x2 /\ p2 x0 x1 x2 := ⟨x0, x1, x2, h0, h1, h2⟩
theorem e64 {α0 α1 α2 α3 : Sort _} {p0 p1 : α0 -> α1 -> α2 -> α3 -> Prop} (x0 : α0) (x1 : α1) (x2 : α2) (x3 : α3) (h0 : p0 x0 x1 x2 x3) (h1 : p1 x0 x1 x2 x3) : ∃ x0 x1 x2 x3, p0 x0 x1 x2 x3 /\ p1 x0 x1 x2 x3 := ⟨x0, x1, x2, x3, h0, h1⟩
theorem e71 {α0 : Sort _} {p0 p1 p2 p3 p4 p5 : α0 -> Prop} (x0 : α0) (h0 : p0 x0) (h1 : p1 x0) (h2 : p2 x0) (h3 : p3 x0) (h4 : p4 x0) (h5 : p5 x0) : ∃ x0, p0 x0 /\ p1 x0 /\ p2 x0 /\ p3 x0 /\ p4 x0 /\ p5 x0 := ⟨x0, h0, h1, h2, h3, h4, h5⟩
theorem e72 {α0 α1 : Sort _} {p0 p1 p2 p3 p4 : α0 -> α1 -> Prop} (x0 : α0) (x1 : α1) (h0 : p0 x0 x1) (h1 : p1 x0 x1) (h2 : p2 x0 x1) (h3 : p3 x0 x1) (h4 : p4 x0 x1) : ∃ x0 x1, p0 x0 x1 /\ p1 x0 x1 /\ p2 x0 x1 /\ p3 x0 x1 /\ p4 x0 x1 := ⟨x0, x1, h0, h1, h2, h3, h4⟩
theorem e73 {α0 α1 α2 : Sort _} {p0 p1 p2 p3 : α0 -> α1 -> α2 -> Prop} (x0 : α0) (x1 : α1) (x2 : α2) (h0 : p0 x0 x1 x2) (h1 : p1 x0 x1 x2) (h2 : p2 x0 x1 x2) (h3 : p3 x0 x1 x2) : ∃ x0 x1 x2, p0 x0 x1 x2 /\ p1 x0 x1 x2 /\ p2 x0 x1 x2 /\ p3 x0 x1 x2 := ⟨x0, x1, x2, h0, h1, h2, h3⟩
theorem e92 {α0 α1 : Sort _} {p0 p1 p2 p3 p4 p5 p6 : α0 -> α1 -> Prop} (x0 : α0) (x1 : α1) (h0 : p0 x0 x1) (h1 : p1 x0 x1) (h2 : p2 x0 x1) (h3 : p3 x0 x1) (h4 : p4 x0 x1) (h5 : p5 x0 x1) (h6 : p6 x0 x1) : ∃ x0 x1, p0 x0 x1 /\ p1 x0 x1 /\ p2 x0 x1 /\ p3 x0 x1 /\ p4 x0 x1 /\ p5 x0 x1 /\ p6 x0 x1 := ⟨x0, x1, h0, h1, h2, h3, h4, h5, h6⟩
theorem e93 {α0 α1 α2 : Sort _} {p0 p1 p2 p3 p4 p5 : α0 -> α1 -> α2 -> Prop} (x0 : α0) (x1 : α1) (x2 : α2) (h0 : p0 x0 x1 x2) (h1 : p1 x0 x1 x2) (h2 : p2 x0 x1 x2) (h3 : p3 x0 x1 x2) (h4 : p4 x0 x1 x2) (h5 : p5 x0 x1 x2) : ∃ x0 x1 x2, p0 x0 x1 x2 /\ p1 x0 x1 x2 /\ p2 x0 x1 x2 /\ p3 x0 x1 x2 /\ p4 x0 x1 x2 /\ p5 x0 x1 x2 := ⟨x0, x1, x2, h0, h1, h2, h3, h4, h5⟩
theorem e94 {α0 α1 α2 α3 : Sort _} {p0 p1 p2 p3 p4 : α0 -> α1 -> α2 -> α3 -> Prop} (x0 : α0) (x1 : α1) (x2 : α2) (x3 : α3) (h0 : p0 x0 x1 x2 x3) (h1 : p1 x0 x1 x2 x3) (h2 : p2 x0 x1 x2 x3) (h3 : p3 x0 x1 x2 x3) (h4 : p4 x0 x1 x2 x3) : ∃ x0 x1 x2 x3, p0 x0 x1 x2 x3 /\ p1 x0 x1 x2 x3 /\ p2 x0 x1 x2 x3 /\ p3 x0 x1 x2 x3 /\ p4 x0 x1 x2 x3 := ⟨x0, x1, x2, x3, h0, h1, h2, h3, h4⟩
theorem e95 {α0 α1 α2 α3 α4 : Sort _} {p0 p1 p2 p3 : α0 -> α1 -> α2 -> α3 -> α4 -> Prop} (x0 : α0) (x1 : α1) (x2 : α2) (x3 : α3) (x4 : α4) (h0 : p0 x0 x1 x2 x3 x4) (h1 : p1 x0 x1 x2 x3 x4) (h2 : p2 x0 x1 x2 x3 x4) (h3 : p3 x0 x1 x2 x3 x4) : ∃ x0 x1 x2 x3 x4, p0 x0 x1 x2 x3 x4 /\ p1 x0 x1 x2 x3 x4 /\ p2 x0 x1 x2 x3 x4 /\ p3 x0 x1 x2 x3 x4 := ⟨x0, x1, x2, x3, x4, h0, h1, h2, h3⟩
theorem dE {p : Prop} [Decidable p] (h : decide p = true) : p := of_decide_eq_true h
theorem Zbg {α : Type u} {P : List α -> Prop} (h0 : P []) (h1 : ∀ x r, P r -> P (x :: r)) : ∀ l, P l := fun l => List.rec h0 h1 l
theorem Zbv {α : Type u} {P : List α -> Prop} (h0 : P []) (h1 : ∀ x r, P r -> P (x :: r)) : ∀ {l}, P l := fun {l} => List.rec h0 h1 l
theorem Zms {P : Nat -> Prop} (h0 : P 0) (h1 : ∀ n, P n -> P (n + 1)) : ∀ n, P n := fun n => Nat.rec h0 h1 n
theorem Zqj {P : Nat -> Prop} (h0 : P 0) (h1 : ∀ n, P n -> P (n + 1)) : ∀ {n}, P n := fun {n} => Nat.rec h0 h1 n
theorem Zd9 {motive : Nat -> Prop} (zero : motive 0) (succ : ∀ n, motive (n + 1)) (n : Nat) : motive n := Nat.rec zero (fun n _ => succ n) n
theorem ZcU {α : Type u} {motive : List α -> Prop} (nil : motive []) (cons : ∀ x r, motive (x :: r)) (l : List α) : motive l := List.rec nil (fun x r _ => cons x r) l
theorem bE {α : Type u} {β : Type v} {x : Option α} {f : α -> Option β} {b : β} {r : Prop} (h : x.bind f = some b) (k : ∀ a, x = some a -> f a = some b -> r) : r := o31 (Option.bind_eq_some_iff.mp h) k
theorem sA {n i : Nat} (h : i < n) : n + 1 - (i + 1) < n + 1 - i := by omega
theorem sB {n i : Nat} (h : i < n) : n - i = n - i - 1 + 1 := (Zsb (Nat.sub_pos_of_lt h)).symm
theorem sC {n i j : Nat} (h : n - i = j + 1) : (n : Int) - 1 - i = j := by omega
theorem sD {n i j : Nat} (h : n - i = j + 1) : n - (i + 1) = j := by omega
theorem sE {n : Nat} (h : 0 < n) : (n : Int) - 1 = ((n - 1 : Nat) : Int) := by omega
theorem cLt (a b : Nat) : ((a : Int) < (b : Int)) ↔ a < b := Int.ofNat_lt
theorem cLe (a b : Nat) : ((a : Int) <= (b : Int)) ↔ a <= b := Int.ofNat_le
theorem cNe (a b : Nat) : ((a : Int) ≠ (b : Int)) ↔ a ≠ b := not_congr Int.ofNat_inj
theorem dgm (a : Int) (n : Nat) (h : (n : Int) ∣ 36) : a % (n : Int) = (((a % 36).toNat % n : Nat) : Int) := by
 rw [ZsQ, ZsI (Int.emod_nonneg _ (by decide)), Int.emod_emod_of_dvd a h]
theorem noM {α : Type u} {P : α -> Prop} : ∀ p ∈ ([] : List α), P p := fun _ h => absurd h Zq1
theorem noH {α : Type u} {x : α} {r : Prop} (h : x ∈ ([] : List α)) : r := absurd h Zq1
theorem dgd (a : Int) : a / 12 % 3 = (((a % 36).toNat / 12 % 3 : Nat) : Int) := by
 have e : a % 36 = a + (-(a / 36) * 3) * 12 := by rw [Int.emod_def]; omega
 rw [ZsQ, Int.natCast_ediv, ZsI (Int.emod_nonneg _ (by decide)), e]
 exact ((congrArg (· % (3 : Int)) (Int.add_mul_ediv_right a (-(a / 36) * 3) (c := 12) (by decide))).trans (Int.add_mul_emod_self_right _ _ _)).symm
theorem sP {j n : Nat} : min j n + (n - j + 1) = n + 1 := by
 rcases Nat.le_total j n with h | h
 · rw [Nat.min_eq_left h, ← ZrL, Nat.add_sub_cancel' h]
 · rw [Nat.min_eq_right h, Nat.sub_eq_zero_of_le h]
theorem sF {x y : Nat} : x + (y + 1) - (x + 1) = y := (Nat.succ_sub_succ_eq_sub (x + y) x).trans (Zso x y)
theorem sL {a b : Nat} (h : a < b) : a - 1 < b := ZrM (Nat.sub_le _ _) h
end Nz
local macro_rules | `(tactic| omega) => `(tactic| lia)
local macro_rules | `(tactic| decide) => `(tactic| exact Nz.dE (Eq.refl true))
namespace Nz
open PySem PySem.W PySem.Calls PyProof.Rows
inductive AV where
 | none
 | bool (b : Bool)
 | int (i : Int)
 | str (x : Str)
 | ref (a : Addr)
 | raw (v : Value)
noncomputable def VR : AV -> Value -> Prop
 | .none, v => v = .none
 | .bool b, v => v = .bool b
 | .int i, v => ∃ t, v = .int i t
 | .str x, v => ∃ t, v = .str x t
 | .ref a, v => v = .ref a
 | .raw u, v => v = u
inductive VRs : List AV -> List Value -> Prop
 | nil : VRs [] []
 | cons {a v as vs} : VR a v -> VRs as vs -> VRs (a :: as) (v :: vs)
noncomputable def OVR : Option AV -> Option Value -> Prop
 | .none, v => v = .none
 | .some a, v => ∃ u, v = some u /\ VR a u
inductive AO where
 | lst (l : List AV)
 | tup (l : List AV)
 | ins (C d : Addr)
 | dic (es : List (Str × AV))
 | dct (es : List (Str × AV))
 | rng (a b c : Int)
 | cel (v : Option AV)
 | nsp (m : List (Str × AV))
structure Glo where
 prog : Program
 w : World
 K : Frag
 p : Program
 loose : List Str
 mean : ExcName -> Option Value
 mg : Str -> Option Value
 mb : Str -> Option Value
 st : Addr -> Option AO
noncomputable def ER (P : Params) (p : Str × AV) (e : DictEntry) : Prop := (∃ t, e.key = .str p.1 t) /\ e.hash = PyData.keyHash P p.1 /\ VR p.2 e.val
inductive ERs (P : Params) : List (Str × AV) -> List DictEntry -> Prop
 | nil : ERs P [] []
 | cons {a v as vs} : ER P a v -> ERs P as vs -> ERs P (a :: as) (v :: vs)
inductive KRs : List (Str × AV) -> List (Str × Value) -> Prop
 | nil : KRs [] []
 | cons {x a v as vs} : VR a v -> KRs as vs -> KRs ((x, a) :: as) ((x, v) :: vs)
noncomputable def OR (G : Glo) : AO -> Obj -> Prop
 | .lst l, o => ∃ vs n, o = listOf (Zrf vs) n /\ VRs l vs
 | .tup l, o => ∃ vs n, o = { cls := .type "tuple", data := .seq (Zrf vs) n } /\ VRs l vs
 | .ins C d, o => o = instObj C d
 | .dic es, o => ∃ des n, o = dictOf des n /\ ERs G.w.params es des
 | .dct es, o => ∃ kvs, o.IsDictOf (strKind G.prog G.w) kvs /\ KRs es kvs
 | .rng a b c, o => ∃ t u v, o = { cls := .type "range", data := .fields #[.int a t, .int b u, .int c v] }
 | .cel v, o => ∃ u, o.data = .cell u /\ OVR v u
 | .nsp m, o => ∃ es ep, ∃ md : Str -> Option Value, o.data = .dict es ep /\ StrKeys es /\ (∀ x, nsFind es x = md x) /\ ∀ x v, m.lookup x = some v -> ∃ u, md x = some u /\ VR v u
noncomputable abbrev Sig := Addr -> Option AO
noncomputable abbrev Loc := List (Str × AV)
noncomputable def Sig.set (σ : Sig) (a : Addr) (o : AO) : Sig := fun b => if b = a then some o else σ b
theorem clN {σ : Sig} {x y : Addr} {a b : AO} {r : Prop} (q : x = y) (e : σ x = some a) (h : σ y = some b) (d : (a.ctorIdx == b.ctorIdx) = false) : r := by
 subst q; have h := sO (e.symm.trans h); subst h; rw [beq_self_eq_true] at d; exact nD d
theorem Sig.set_self {σ : Sig} {a : Addr} {o : AO} : (σ.set a o) a = some o := by unfold Sig.set; exact rE (if_pos rfl) rfl
theorem Sig.set_ne {σ : Sig} {a b : Addr} {o : AO} (h : b ≠ a) : (σ.set a o) b = σ b := by unfold Sig.set; exact rE (if_neg h) rfl
structure Amb where
 A : Around
 A₀ : Around
 base : Heap
 h₀ : Heap
 outer : List Env
 cn : Str
 cs : Scope
 L : Addr
 a : Addr
 ccd : Value
 cl : List (Str × Addr)
noncomputable abbrev Amb.env (Γ : Amb) : Env := envX Γ.cn Γ.cs Γ.L Γ.a Γ.ccd Γ.cl
structure Rm where
 A : Around
 A₀ : Around
 base : Heap
 g : Heap
 outer : List Env
 L : Addr
noncomputable abbrev ofB (qual : Str) (scope : Scope) (f : Addr) (cdv : Value) (r : Rm) : Amb := ⟨r.A, r.A₀, r.base, r.g, r.outer, qual, scope, r.L, f, cdv, []⟩
noncomputable abbrev ofC (qual : Str) (scope : Scope) (f : Addr) (cdv : Value) (r : Rm) : Amb := ⟨r.A, r.A₀, r.base, r.g, r.outer, qual, scope, r.L, f, cdv, cellsFrom (r.L + 1) scope.names []⟩
structure Amb.Ok (G : Glo) (Γ : Amb) : Prop where
 B : Below Γ.A₀ Γ.base Γ.outer Γ.h₀
 X : G.K.In Γ.h₀
 T : Top G.p G.loose G.mean G.mg G.mb Γ.h₀
 fr : Γ.A.frames = some (Γ.env :: Γ.outer)
 kind : Γ.cs.kind = .function
 hd : Γ.A.handled = none
 uni : Γ.A.units + 200 < cLine
 S : ∀ a o, G.st a = some o -> ∃ ob, Γ.h₀.get? a = some ob /\ OR G o ob
structure Amb.Room (Γ : Amb) (d : Nat) : Prop where
 dep : Γ.A.depth + d < recursionLimit
 uni : Γ.A.units + 8 * d + 200 < cLine
noncomputable def LR (m : Loc) (mv : Str -> Option Value) : Prop := ∀ x v, m.lookup x = some v -> ∃ u, mv x = some u /\ VR v u
noncomputable def SR (G : Glo) (σ : Sig) (news : List (Addr × Obj)) : Prop := ∀ a o, σ a = some o -> ∃ ob, (a, ob) ∈ news /\ OR G o ob /\ sysModules < a
noncomputable def R (G : Glo) (Γ : Amb) (σ : Sig) (m : Loc) (h : Heap) : Prop :=
 Γ.Ok G /\ ∃ mv news, Fr Γ.h₀ Γ.L h mv /\ News Γ.h₀ Γ.L h news /\ LR m mv /\ SR G σ news
structure Kp (L : Addr) (σ σ' : Sig) (h h' : Heap) : Prop where
 keep : ∀ b o, b ≠ L -> σ b = none -> h.get? b = some o -> h'.get? b = some o
 new : ∀ b, b ≠ L -> σ' b ≠ none -> σ b ≠ none \/ h.get? b = none
theorem Kp.refl {L : Addr} {σ : Sig} {h : Heap} : Kp L σ σ h h := ⟨fun n_ n_ n_ n_ e => e, fun n_ n_ e => .inl e⟩
theorem Kp.trans {L : Addr} {σ σ₁ σ₂ : Sig} {h h₁ h₂ : Heap} (x : Kp L σ σ₁ h h₁) (y : Kp L σ₁ σ₂ h₁ h₂) : Kp L σ σ₂ h h₂ := by
 have mid : ∀ b o, b ≠ L -> σ b = none -> h.get? b = some o -> σ₁ b = none := fun b o hb e1 e2 => by
  induction q : σ₁ b with
  | none => rfl
  | some _ =>
   rcases x.new b hb (by refine rE q ?_; exact Zrp _) with z | z
   ·exact absurd e1 z
   ·rw [e2] at z; exact nB z
 refine ⟨fun b o hb e1 e2 => y.keep b o hb (mid b o hb e1 e2) (x.keep b o hb e1 e2), fun b hb e => ?_⟩
 rcases y.new b hb e with z | z
 ·exact x.new b hb z
 ·induction q : σ b with
  | some _ => exact .inl (Zrp _)
  | none =>
   induction r : h.get? b with
   | none => exact .inr rfl
   | some o => rw [x.keep b o hb q r] at z; exact nB z
noncomputable def W (G : Glo) (Γ : Amb) {α β : Type} (rel : β -> α -> Prop) (t : Sem α) (Q : β -> Sig -> Loc -> Prop) (σ : Sig) (m : Loc) : Prop :=
 ∀ s, R G Γ σ m s.heap -> wpAny (model G.prog G.w) Γ.A t (fun v s' => (∃ h' tk, s' = { s with heap := h', toks := tk }) /\ ∃ b σ' m', rel b v /\ R G Γ σ' m' s'.heap /\ Kp Γ.L σ σ' s.heap s'.heap /\ Q b σ' m') (fun n_ n_ => False) s
inductive AF where
 | next | brk | cont | ret (v : AV)
noncomputable def FRl : AF -> Flow -> Prop
 | .next, f => f = .next
 | .brk, f => f = .brk
 | .cont, f => f = .cont
 | .ret v, f => ∃ u, f = .ret u /\ VR v u
noncomputable def UR (_ : Unit) (_ : Unit) : Prop := True
section basics
variable {G : Glo} {Γ : Amb} {σ : Sig} {m : Loc}
theorem R.ok {h : Heap} (hR : R G Γ σ m h) : Γ.Ok G := hR.1
theorem R.K {h : Heap} (hR : R G Γ σ m h) : G.K.In h := (by (refine o20 hR fun ok r1 => ?_; clear hR; refine o42 r1 fun n_ n_ F n_ => ?_; clear r1); exact ok.X.keeps F.keep)
theorem Zat {α β : Type} {rel : β -> α -> Prop} {t : Sem α} {Q Q' : β -> Sig -> Loc -> Prop} (h : W G Γ rel t Q σ m) (hQ : ∀ b σ' m', Q b σ' m' -> Q' b σ' m') : W G Γ rel t Q' σ m :=
 fun s hR => wpAny_mono (h s hR) (fun _ _ hp => (by (refine o20 hp fun e r1 => ?_; clear hp; refine o73 r1 fun b σ' m' r q k z => ?_; clear r1); exact ⟨e, b, σ', m', r, q, k, hQ _ _ _ z⟩)) fun n_ n_ x => x
theorem Zaq {α β γ δ : Type} {rel : β -> α -> Prop} {rel' : δ -> γ -> Prop} {t : Sem α} {f : α -> Sem γ} {Q : δ -> Sig -> Loc -> Prop}
  (h : W G Γ rel t (fun b σ' m' => ∀ a, rel b a -> W G Γ rel' (f a) Q σ' m') σ m) : W G Γ rel' (t >>= f) Q σ m :=
 fun s hR => wpAny_bind (wpAny_mono (h s hR) (fun a s' hp => by
  refine o20 hp fun y0 r1 => ?_; clear hp; obtain ⟨h', tk, e⟩ := y0; refine o73 r1 fun b σ' m' r q k z => ?_; clear r1
  subst e
  exact wpAny_mono (z a r _ q) (fun _ _ hp => (by (refine o20 hp fun y0 r1 => ?_; clear hp; obtain ⟨h'', tk', e'⟩ := y0; refine o73 r1 fun bb σ₂ md rg qa ka y => ?_; clear r1); exact ⟨⟨h'', tk', e'⟩, bb, σ₂, md, rg, qa, k.trans ka, y⟩)) fun n_ n_ x => x) fun n_ n_ x => x)
theorem ZaX {α β : Type} {rel : β -> α -> Prop} {a : α} {b : β} {Q : β -> Sig -> Loc -> Prop} (r : rel b a) (h : Q b σ m) : W G Γ rel (pure a) Q σ m :=
 fun s hR => wpAny_pure ⟨⟨s.heap, s.toks, rfl⟩, b, σ, m, r, hR, .refl, h⟩
theorem Zbi {α β : Type} {rel : β -> α -> Prop} {t : Sem α} {Q : β -> Sig -> Loc -> Prop}
  (h : ∀ s, R G Γ σ m s.heap -> ∀ (Q' : α -> Shared -> Prop), (∀ a b h' tk σ' m', rel b a -> R G Γ σ' m' h' -> Kp Γ.L σ σ' s.heap h' -> Q b σ' m' -> Q' a { s with heap := h', toks := tk }) -> wpAny (model G.prog G.w) Γ.A t Q' (fun n_ n_ => False) s) : W G Γ rel t Q σ m :=
 fun s hR => h s hR _ fun a b h' tk σ' m' r q k z => ⟨⟨h', tk, rfl⟩, b, σ', m', r, q, k, z⟩
theorem W.use {α β : Type} {rel : β -> α -> Prop} {t : Sem α} {Q : β -> Sig -> Loc -> Prop} (h : W G Γ rel t Q σ m) {s : Shared} (hR : R G Γ σ m s.heap) {Q' : α -> Shared -> Prop} {E : Value -> Shared -> Prop}
  (k : ∀ a b h' tk σ' m', rel b a -> R G Γ σ' m' h' -> Kp Γ.L σ σ' s.heap h' -> Q b σ' m' -> Q' a { s with heap := h', toks := tk }) : wpAny (model G.prog G.w) Γ.A t Q' E s :=
 wpAny_mono (h s hR) (fun a s' hp => (by (refine o20 hp fun y0 r1 => ?_; clear hp; obtain ⟨h', tk, e⟩ := y0; refine o73 r1 fun b σ' m' r q kp z => ?_; clear r1); subst e; exact k a b h' tk σ' m' r q kp z)) fun n_ n_ x => x.elim
theorem R.weaken {σ' : Sig} {m' : Loc} {h : Heap} (hR : R G Γ σ m h) (hσ : ∀ a o, σ' a = some o -> σ a = some o) (hm : ∀ x v, m'.lookup x = some v -> m.lookup x = some v) : R G Γ σ' m' h :=
 (by (refine o20 hR fun ok r1 => ?_; clear hR; refine o62 r1 fun mv news F N l sr => ?_; clear r1); exact ⟨ok, mv, news, F, N, fun x v e => l x v (hm x v e), fun a o e => sr a o (hσ a o e)⟩)
theorem Zpl {α β : Type} {rel : β -> α -> Prop} {t : Sem α} {Q : β -> Sig -> Loc -> Prop} {m' : Loc} (hm : ∀ x v, m'.lookup x = some v -> m.lookup x = some v)
  (h : W G Γ rel t Q σ m') : W G Γ rel t Q σ m := fun s hR => h s (hR.weaken (fun n_ n_ e => e) hm)
theorem R.get {h : Heap} (hR : R G Γ σ m h) {a : Addr} {o : AO} (e : σ a = some o) : ∃ ob, h.get? a = some ob /\ OR G o ob := by
 refine o20 hR fun n_ r1 => ?_; clear hR; refine o62 r1 fun mv news F N l sr => ?_; clear r1
 refine o41 (sr a o e) fun ob hm ho n_ => ?_
 exact e31 ob ((N _ hm).1) ho
noncomputable def Sees (G : Glo) (σ : Sig) (a : Addr) (o : AO) : Prop := σ a = some o \/ G.st a = some o
theorem R.see {h : Heap} (hR : R G Γ σ m h) {a : Addr} {o : AO} (e : Sees G σ a o) : ∃ ob, h.get? a = some ob /\ OR G o ob := by
 rcases e with e | e
 ·exact hR.get e
 ·refine o20 hR fun ok r1 => ?_; clear hR; refine o62 r1 fun mv news F N l sr => ?_; clear r1
  refine o31 (ok.S a o e) fun ob ho r => ?_
  exact e31 ob (F.keep _ _ ho) r
theorem R.low {h : Heap} (hR : R G Γ σ m h) {a : Addr} {o : AO} (e : σ a = some o) : sysModules < a := by
 refine o20 hR fun n_ r1 => ?_; clear hR; refine o62 r1 fun mv news F N l sr => ?_; clear r1
 exact (sr a o e).choose_spec.2.2
theorem ZoH {news : List (Addr × Obj)} {a b : Addr} {ob ob' : Obj} (hm : (b, ob) ∈ news) (ne : b ≠ a) : (b, ob) ∈ news.map fun p => if p.1 = a then (a, ob') else p :=
 ZqO.mpr ⟨(b, ob), hm, by dsimp only; exact rE (if_neg ne) rfl⟩
theorem Zcs {h : Heap} {mv : Str -> Option Value} (ok : Γ.Ok G) (F : Fr Γ.h₀ Γ.L h mv) : sysModules < h.objs.size := ZrC (modules_low ok.T.nolimit) (Zrj F.above (Zrs F.ns.lt))
theorem R.turn {h h' : Heap} (hR : R G Γ σ m h) {a : Addr} {o o' : AO} {ob' : Obj} (e : σ a = some o) (hs : Heap.SameBut a h h') (ho' : h'.get? a = some ob') (r : OR G o' ob') : R G Γ (σ.set a o') m h' /\ Kp Γ.L σ (σ.set a o') h h' := by
 refine o20 hR fun ok r1 => ?_; clear hR; refine o62 r1 fun mv news F N l sr => ?_; clear r1
 refine o41 (sr a o e) fun ob hm ho lo => ?_
 have z := N _ hm
 refine ⟨⟨ok, mv, news.map fun p => if p.1 = a then (a, ob') else p, F.change hs z.2.1 z.2.2, fun p hp => ?_, l, fun b o1 ec => ?_⟩, fun b o1 hb ec ei => ?_, fun b hb ec => ?_⟩
 ·refine o31 (ZqO.mp hp) fun q hq y2 => ?_; subst y2
  by_cases hqa : q.1 = a
  ·refine rE (if_pos hqa) ?_; exact ⟨ho', z.2⟩
  ·refine rE (if_neg hqa) ?_; exact ⟨(hs.2 _ hqa).trans (N q hq).1, (N q hq).2⟩
 ·by_cases hba : b = a
  ·subst hba
   rw [Sig.set_self] at ec
   obtain rfl := ZqC ec
   exact e41 ob' (ZqO.mpr ⟨(b, ob), hm, by dsimp only; exact rE (if_pos rfl) rfl⟩) r lo
  ·rw [Sig.set_ne hba] at ec
   refine o31 (sr b o1 ec) fun ob1 hm1 ho1 => ?_
   exact e31 ob1 (ZoH hm1 hba) ho1
 ·have : b ≠ a := fun q => by rw [q, e] at ec; exact nB ec
  exact (hs.2 _ this).trans ei
 ·by_cases hba : b = a
  ·subst hba; exact .inl (by refine rE e ?_; exact Zrp _)
  ·rw [Sig.set_ne hba] at ec; exact .inl ec
theorem R.push {h : Heap} (hR : R G Γ σ m h) {o : AO} {ob : Obj} (hf : ob.isFreed = false) (r : OR G o ob) :
  σ h.objs.size = none /\ R G Γ (σ.set h.objs.size o) m (h.push ob) /\ Kp Γ.L σ (σ.set h.objs.size o) h (h.push ob) := by
 refine o20 hR fun ok r1 => ?_; clear hR; refine o62 r1 fun mv news F N l sr => ?_; clear r1
 refine ⟨?_, ⟨ok, mv, (h.objs.size, ob) :: news, F.push ob, N.push F ob hf, l, fun b o1 ec => ?_⟩, fun b o1 n_ n_ e => Heap.get?_push_of_some _ e, fun b n_ ec => ?_⟩
 ·induction q : σ h.objs.size with
  | none => rfl
  | some o1 =>
   refine o31 (sr _ _ q) fun ob1 hm n_ => ?_
   exact absurd (Heap.lt_size (N _ hm).1) (Zq8 _)
 ·by_cases hba : b = h.objs.size
  ·subst hba
   rw [Sig.set_self] at ec
   obtain rfl := ZqC ec
   exact e41 ob (.head _) r (Zcs ok F)
  ·rw [Sig.set_ne hba] at ec
   refine o31 (sr b o1 ec) fun ob1 hm1 ho1 => ?_
   exact e31 ob1 (.tail _ hm1) ho1
 ·by_cases hba : b = h.objs.size
  ·subst hba
   right
   induction q : h.get? h.objs.size with
   | none => rfl
   | some o1 => exact absurd (Heap.lt_size q) (Zq8 _)
  ·rw [Sig.set_ne hba] at ec; exact .inl ec
theorem R.pushed {h : Heap} (hR : R G Γ σ m h) {ob : Obj} (hf : ob.isFreed = false) : R G Γ σ m (h.push ob) /\ Kp Γ.L σ σ h (h.push ob) := by
 refine o20 hR fun ok r1 => ?_; clear hR; refine o62 r1 fun mv news F N l sr => ?_; clear r1
 exact ⟨⟨ok, mv, (h.objs.size, ob) :: news, F.push ob, N.push F ob hf, l, fun b o1 ec => (by (refine o31 (sr b o1 ec) fun ob1 hm1 ho1 => ?_); exact ⟨ob1, .tail _ hm1, ho1⟩)⟩, fun b o1 n_ n_ e => Heap.get?_push_of_some _ e, fun n_ n_ e => .inl e⟩
end basics
end Nz
namespace Nz
open PySem PySem.W PySem.Calls PyProof.Rows
section
variable {G : Glo} {Γ : Amb} {σ : Sig} {m : Loc}
theorem ZeF {t : Sem Value} {av : AV} {Q : AV -> Sig -> Loc -> Prop} (h : ∀ s (Q' : Value -> Shared -> Prop), (∀ v tk, VR av v -> Q' v { s with toks := tk }) -> wpAny (model G.prog G.w) Γ.A t Q' (fun n_ n_ => False) s)
  (hq : Q av σ m) : W G Γ VR t Q σ m := Zbi fun s hR Q' k => h s Q' fun v tk r => k v av s.heap tk σ m r hR .refl hq
theorem ZnP {t : Sem Bool} {b : Bool} {Q : Bool -> Sig -> Loc -> Prop} (h : ∀ s (Q' : Bool -> Shared -> Prop), (∀ tk, Q' b { s with toks := tk }) -> wpAny (model G.prog G.w) Γ.A t Q' (fun n_ n_ => False) s)
  (hq : Q b σ m) : W G Γ Eq t Q σ m := Zbi fun s hR Q' k => h s Q' fun tk => k b b s.heap tk σ m rfl hR .refl hq
theorem ZeX {t : Sem Value} {av : AV} {Q : AV -> Sig -> Loc -> Prop} (h : ∀ s (Q' : Value -> Shared -> Prop), R G Γ σ m s.heap -> (∀ v tk, VR av v -> Q' v { s with toks := tk }) -> wpAny (model G.prog G.w) Γ.A t Q' (fun n_ n_ => False) s)
  (hq : Q av σ m) : W G Γ VR t Q σ m := Zbi fun s hR Q' k => h s Q' hR fun v tk r => k v av s.heap tk σ m r hR .refl hq
theorem Zom {t : Sem Bool} {b : Bool} {Q : Bool -> Sig -> Loc -> Prop} (h : ∀ s (Q' : Bool -> Shared -> Prop), R G Γ σ m s.heap -> (∀ tk, Q' b { s with toks := tk }) -> wpAny (model G.prog G.w) Γ.A t Q' (fun n_ n_ => False) s)
  (hq : Q b σ m) : W G Γ Eq t Q σ m := Zbi fun s hR Q' k => h s Q' hR fun tk => k b b s.heap tk σ m rfl hR .refl hq
theorem Zaw {α β : Type} {rel : β -> α -> Prop} {t : Sem α} {vs : List Value} {Q : β -> Sig -> Loc -> Prop} (h : W G Γ rel t Q σ m) : W G Γ rel (holding vs t) Q σ m :=
 fun s hR => wpAny_holding (h s hR)
theorem ZdY {t : Sem Value} {vs : List Value} {Q : AV -> Sig -> Loc -> Prop} (h : W G Γ VR t Q σ m) : W G Γ VR (operate vs t) Q σ m :=
 fun s hR Γ' p hΓ => by rw [Sem.wp_operate]; exact h s hR Γ' p hΓ
theorem Zl2 {pos : Pos} {Q : Unit -> Sig -> Loc -> Prop} (h : Q () σ m) : W G Γ UR (standAt pos) Q σ m :=
 Zbi fun s hR Q' k => wpAny_standAt (k () () s.heap s.toks σ m trivial hR .refl h)
theorem Ze9 {α β : Type} {rel : β -> α -> Prop} {pos : Pos} {t : Sem α} {Q : β -> Sig -> Loc -> Prop} (h : W G Γ rel t Q σ m) : W G Γ rel (standAt pos >>= fun n_ => t) Q σ m :=
 Zaq (Zl2 fun n_ n_ => h)
theorem Zo4 {i : Int} {k : Nat} {pos : Pos} {env : Env} {Q : AV -> Sig -> Loc -> Prop} (h : Q (.int i) σ m) : W G Γ VR (eval (.Constant (.int i) k pos) env) Q σ m :=
 ZeF (av := .int i) (fun s Q' k => wpAny_mkInt (k _ _ ⟨_, rfl⟩)) h
theorem Zo0 {x : Str} {k : Nat} {pos : Pos} {env : Env} {Q : AV -> Sig -> Loc -> Prop} (h : Q (.str x) σ m) : W G Γ VR (eval (.Constant (.str x) k pos) env) Q σ m :=
 ZeF (av := .str x) (fun s Q' k => wpAny_mkText (k _ _ ⟨_, rfl⟩)) h
theorem Zoq {b : Bool} {k : Nat} {pos : Pos} {env : Env} {Q : AV -> Sig -> Loc -> Prop} (h : Q (.bool b) σ m) : W G Γ VR (eval (.Constant (.bool b) k pos) env) Q σ m := ZaX (b := AV.bool b) rfl h
theorem Zps {k : Nat} {pos : Pos} {env : Env} {Q : AV -> Sig -> Loc -> Prop} (h : Q .none σ m) : W G Γ VR (eval (.Constant .none k pos) env) Q σ m := ZaX (b := AV.none) rfl h
theorem Zpk {x : Str} {pos : Pos} {v : AV} {Q : AV -> Sig -> Loc -> Prop} (hv : m.lookup x = some v) (h : Q v σ m)
  (hx : Γ.env.kindOf x = some .local := by rfl) (hd : (x == ("__debug__" : Str)) = false := by decide) : W G Γ VR (eval (.Name x pos) Γ.env) Q σ m :=
 Zbi fun s hR Q' k => by
  refine o20 hR fun ok r1 => ?_; clear hR; refine o62 r1 fun mv news F N l sr => ?_; clear r1
  refine o31 (l x v hv) fun u hu r => ?_
  exact nameX_L F hu (k u v s.heap s.toks σ m r ⟨ok, mv, news, F, N, l, sr⟩ .refl h) ok.kind hx hd
theorem Zpa {x : Str} {pos : Pos} {v : AV} {c : Addr} {Q : AV -> Sig -> Loc -> Prop} (hc : Γ.cl.lookup x = some c) (hv : σ c = some (.cel (some v))) (h : Q v σ m)
  (hx : Γ.env.kindOf x = some .cell := by rfl) (hd : (x == ("__debug__" : Str)) = false := by decide) : W G Γ VR (eval (.Name x pos) Γ.env) Q σ m :=
 Zbi fun s hR Q' k => by
  have hR' := hR
  refine o20 hR fun ok r1 => ?_; clear hR; refine o62 r1 fun mv news F N l sr => ?_; clear r1
  refine o41 (sr c _ hv) fun ob hm y2 n_ => ?_; (refine o31 y2 fun u hu r2 => ?_; clear y2; refine o31 r2 fun w y1 r => ?_; clear r2; subst y1)
  exact nameX_C N hc hm hu (k w v s.heap s.toks σ m r hR' .refl h) ok.kind hx hd
theorem Zlm {x : Str} {pos : Pos} {a : Addr} {Q : AV -> Sig -> Loc -> Prop} (e : nsIn G.K mainGlobals x = some (some (.ref a))) (h : Q (.ref a) σ m)
  (hx : Γ.env.kindOf x = some .globalImplicit := by rfl) (hd : (x == ("__debug__" : Str)) = false := by decide) : W G Γ VR (eval (.Name x pos) Γ.env) Q σ m :=
 Zbi fun s hR Q' k => by
  have hR' := hR
  refine o20 hR fun ok r1 => ?_; clear hR; refine o62 r1 fun mv news F N l sr => ?_; clear r1
  exact nameX_K F ok.X (topRead_of ok.T) e (k _ (.ref a) s.heap s.toks σ m rfl hR' .refl h) ok.kind hx hd
theorem Zih {x : Str} {pos : Pos} {v : Value} {Q : AV -> Sig -> Loc -> Prop} (e : nsIn G.K mainGlobals x = some none) (hv : bootBuiltins x = some v) (hn : x ≠ "__name__") (h : Q (.raw v) σ m)
  (hx : Γ.env.kindOf x = some .globalImplicit := by rfl) (hd : (x == ("__debug__" : Str)) = false := by decide) : W G Γ VR (eval (.Name x pos) Γ.env) Q σ m :=
 Zbi fun s hR Q' k => by
  have hR' := hR
  refine o20 hR fun ok r1 => ?_; clear hR; refine o62 r1 fun mv news F N l sr => ?_; clear r1
  exact nameX_B F ok.X (topRead_of ok.T) e hv hn (k _ (.raw v) s.heap s.toks σ m rfl hR' .refl h) ok.kind hx hd
noncomputable def put (x : Str) (v : AV) (m : Loc) : Loc := (x, v) :: m
theorem Zj3 (x : Str) (v : AV) (y : Str) (m : Loc) : (put x v m).lookup y = if y = x then some v else m.lookup y := by
 unfold put
 refine rE ZqW ?_
 by_cases h : y = x
 ·subst h; simp
 ·have hb : (y == x) = false := beq_eq_false_iff_ne.mpr h
  simp [hb, h]
theorem LR.put {mv : Str -> Option Value} {x : Str} {v : AV} {u : Value} (l : LR m mv) (r : VR v u) : LR (put x v m) (fun y => if y = x then some u else mv y) := fun y w e => by
 rw [Zj3] at e
 by_cases h : y = x
 ·rw [if_pos h] at e; obtain rfl := ZqC e
  exact e31 u (by simp [h]) r
 ·rw [if_neg h] at e
  refine o31 (l y w e) fun u' hu' r' => ?_
  exact e31 u' (by simp [h, hu']) r'
theorem Kp.of_same {h h' : Heap} (hs : Heap.SameBut Γ.L h h') : Kp Γ.L σ σ h h' := ⟨fun b o hb n_ e => (hs.2 b hb).trans e, fun n_ n_ e => .inl e⟩
theorem Zex {x : Str} {v : AV} {u : Value} {Q : Unit -> Sig -> Loc -> Prop} (r : VR v u) (h : Q () σ (put x v m)) (hx : Γ.env.kindOf x = some .local := by rfl) : W G Γ UR (storeName Γ.env x u) Q σ m :=
 Zbi fun s hR Q' k => by
  refine o20 hR fun ok r1 => ?_; clear hR; refine o62 r1 fun mv news F N l sr => ?_; clear r1
  exact wpAny_storeName_local hx F.ns (fun h' hn hs => k () () h' _ σ _ trivial ⟨ok, _, news, F.set hn hs, N.set hs, l.put r, sr⟩ (.of_same hs) h)
   (by refine (?_ : (Γ.cs.kind == .class || (Γ.cs.kind == .module && Γ.L != mainGlobals)) = false); refine rE ok.kind ?_; rfl)
theorem Zfy {x : Str} {v : AV} {u : Value} {c : Addr} {v0 : Option AV} {Q : Unit -> Sig -> Loc -> Prop} (r : VR v u) (hc : Γ.cl.lookup x = some c) (hv : σ c = some (.cel v0)) (h : Q () (σ.set c (.cel (some v))) m)
  (hx : Γ.env.kindOf x = some .cell := by rfl) : W G Γ UR (storeName Γ.env x u) Q σ m :=
 Zbi fun s hR Q' k => by
  have hR' := hR
  refine o20 hR fun ok r1 => ?_; clear hR; refine o62 r1 fun mv news F N l sr => ?_; clear r1
  refine o41 (sr c _ hv) fun ob hm y2 n_ => ?_; (refine o31 y2 fun w hw r' => ?_; clear y2)
  refine wpAny_storeName_cell ok.kind hx hc ⟨ob, (N _ hm).1, hw⟩ fun h' hv' hs => ?_
  refine o31 hv' fun o' ho' hd' => ?_; clear hv'
  refine o20 (hR'.turn (o' := .cel (some v)) hv hs ho' ⟨some u, hd', u, rfl, r⟩) fun a b => ?_
  exact k () () h' _ _ _ trivial a b h
theorem Zdd {x : Str} {u : Value} {env : Env} {Q : Unit -> Sig -> Loc -> Prop} (h : W G Γ UR (storeName env x u) Q σ m) : W G Γ UR (bindName env x u) Q σ m :=
 fun s hR Γ' q hΓ => by rw [Sem.wp_bindName]; exact h s hR Γ' q hΓ
theorem Zp9 {env : Env} {Q : AF -> Sig -> Loc -> Prop} (h : Q .next σ m) : W G Γ FRl (execs [] env) Q σ m := ZaX (b := AF.next) rfl h
noncomputable def ZbA (G : Glo) (Γ : Amb) (rest : List Stmt) (env : Env) (Q : AF -> Sig -> Loc -> Prop) : AF -> Sig -> Loc -> Prop
 | .next => fun σ m => W G Γ FRl (execs rest env) Q σ m
 | f => Q f
theorem Zan {st : Stmt} {rest : List Stmt} {env : Env} {Q : AF -> Sig -> Loc -> Prop} (h : W G Γ FRl (exec st env) (ZbA G Γ rest env Q) σ m) : W G Γ FRl (execs (st :: rest) env) Q σ m := by
 refine rE (execs_cons _ _ _) ?_
 refine Zaq (Zat h fun b σ' m' z a r => ?_)
 induction b with
 | next => subst r; exact z
 | brk => subst r; exact ZaX (b := AF.brk) rfl z
 | cont => subst r; exact ZaX (b := AF.cont) rfl z
 | ret v => (refine o31 r ?_; clear r; intro u y1 r; subst y1); exact ZaX (b := AF.ret v) ⟨u, rfl, r⟩ z
theorem ZaZ {e : Expr} {pos : Pos} {env : Env} {Q : AF -> Sig -> Loc -> Prop} (h : W G Γ VR (eval e env) (fun v σ' m' => Q (.ret v) σ' m') σ m) : W G Γ FRl (exec (.Return (some e) pos) env) Q σ m := by
 refine rE (exec_Return_some _ _ _) ?_
 exact Ze9 (Zaq (Zat h fun b σ' m' z a r => ZaX (b := AF.ret b) ⟨a, rfl, r⟩ z))
theorem ZlW {pos : Pos} {env : Env} {Q : AF -> Sig -> Loc -> Prop} (h : Q (.ret .none) σ m) : W G Γ FRl (exec (.Return none pos) env) Q σ m := by
 refine rE (exec_Return_none _ _) ?_
 exact Ze9 (ZaX (b := AF.ret .none) ⟨_, rfl, rfl⟩ h)
theorem ZoW {e : Expr} {pos : Pos} {env : Env} {Q : AF -> Sig -> Loc -> Prop} (h : W G Γ VR (eval e env) (fun n_ σ' m' => Q .next σ' m') σ m)
  (hi : interactive env = false := by rfl) (hs : swapsWith e none pos.line env = pure false := by rfl) : W G Γ FRl (exec (.Expr e pos) env) Q σ m :=
 Zbi fun s hR Q' k => wpAny_Expr_any (h.use hR fun a b h' tk σ' m' r hR' kp z => k .next .next h' tk σ' m' rfl hR' kp z) hi hs
theorem Zhg {x : Str} {p pos : Pos} {value : Expr} {Q : AF -> Sig -> Loc -> Prop} (h : W G Γ VR (eval value Γ.env) (fun v σ' m' => ∀ u, VR v u -> W G Γ UR (storeName Γ.env x u) (fun n_ => Q .next) σ' m') σ m)
  (hs : swapsWith value (some (.Name x p)) pos.line Γ.env = pure false := by rfl) : W G Γ FRl (exec (.Assign [.Name x p] value pos) Γ.env) Q σ m := by
 refine rE (exec_Assign_Name _ x p value pos hs) ?_
 exact Ze9 (Zaq (Zat h fun b σ' m' z a r => Ze9 (Zaq (rel := UR) (Zdd (Zat (z a r) fun n_ n_ n_ y n_ n_ => ZaX (b := AF.next) rfl y)))))
theorem Zax {x : Str} {p pos : Pos} {value : Expr} {Q : AF -> Sig -> Loc -> Prop} (h : W G Γ VR (eval value Γ.env) (fun v σ' m' => Q .next σ' (put x v m')) σ m)
  (hs : swapsWith value (some (.Name x p)) pos.line Γ.env = pure false := by rfl) (hx : Γ.env.kindOf x = some .local := by rfl) : W G Γ FRl (exec (.Assign [.Name x p] value pos) Γ.env) Q σ m :=
 Zhg (Zat h fun n_ n_ n_ z n_ r => Zex r z hx) hs
theorem Zqb {x : Str} {p pos : Pos} {op : Operator} {value : Expr} {v0 : AV} {Q : AF -> Sig -> Loc -> Prop} (hv : m.lookup x = some v0)
  (h : W G Γ VR (eval value Γ.env) (fun v σ' m' => ∀ a u, VR v0 a -> VR v u -> W G Γ VR (inplaceOp op a u) (fun w σ'' m'' => Q .next σ'' (put x w m'')) σ' m') σ m)
  (hx : Γ.env.kindOf x = some .local := by rfl) : W G Γ FRl (exec (.AugAssign (.Name x p) op value pos) Γ.env) Q σ m := by
 rw [exec_AugAssign_Name]
 refine Ze9 (Zaq (rel := VR) (Zbi fun s hR Q' k => ?_))
 refine o20 hR fun ok r1 => ?_; clear hR; refine o62 r1 fun mv news F N l sr => ?_; clear r1
 refine o31 (l x v0 hv) fun u hu r => ?_
 refine wpAny_loadName_local ok.kind hx F.ns hu (k u v0 s.heap s.toks σ m r ⟨ok, mv, news, F, N, l, sr⟩ .refl fun a ra => ?_)
 exact Zaq (Zaw (Zat h fun b σ' m' z c rc => Ze9 (Zaq (ZdY (Zat (z a c ra rc) fun d σ'' m'' y e re => Ze9 (Zaq (rel := UR) (Zdd (Zat (Zex (Q := fun n_ => Q .next) re y hx) fun n_ n_ n_ y n_ n_ => ZaX (b := AF.next) rfl y))))))))
theorem Zp6 {test : Expr} {body orelse : List Stmt} {pos : Pos} {env : Env} {Q : AF -> Sig -> Loc -> Prop} (h : W G Γ Eq (isTrue test env (eval test env)) (fun b σ' m' => if b then W G Γ FRl (execs body env) Q σ' m' else W G Γ FRl (execs orelse env) Q σ' m') σ m) :
  W G Γ FRl (exec (.If test body orelse pos) env) Q σ m := by
 rw [exec_If]
 refine Ze9 (Zaq (Zat h fun b σ' m' z a r => ?_))
 subst r
 induction b
 ·exact z
 ·exact z
theorem Zjy {x : Expr} {pos : Pos} {env : Env} {whole : Sem Value} {Q : Bool -> Sig -> Loc -> Prop} (h : W G Γ Eq (isTrue x env (eval x env)) (fun b => Q (!b)) σ m) : W G Γ Eq (isTrue (.UnaryOp .Not x pos) env whole) Q σ m := by
 refine rE (arm_isTrue_UnaryOp _ _ _ _) ?_
 exact Zaq (Zat h fun b n_ n_ z a r => ZaX (b := !b) (by exact rE r rfl) z)
theorem ZbI {l r : Expr} {op : CmpOp} {pos : Pos} {env : Env} {whole : Sem Value} {Q : Bool -> Sig -> Loc -> Prop}
  (h : W G Γ VR (eval l env) (fun x σ₁ mc => W G Γ VR (eval r env) (fun y σ₂ md => ∀ a b, VR x a -> VR y b -> W G Γ VR (compareOp op a b) (fun z σ₃ me => ∃ b, z = .bool b /\ Q b σ₃ me) σ₂ md) σ₁ mc) σ m)
  (hm : behindInMarks op r = false := by with_unfolding_all rfl) : W G Γ Eq (isTrue (.Compare l [op] [r] pos) env whole) Q σ m := by
 rewrite [isTrue_Compare1]; refine rE (markedBehindIn_of_false hm) ?_
 refine Zaq (Zat h fun x σ₁ mc z a ra => Zaq (Zaw (Zat z fun y σ₂ md z b rb => Ze9 (Zaq (ZdY (Zat (z a b ra rb) fun v σ₃ me z c rc => ?_))))))
 refine o31 z ?_; clear z; intro b y1 z; subst y1
 subst rc
 exact Zaw (ZnP (fun s Q' k => wpAny_truthy_bool (k s.toks)) z)
theorem Zjv {e : Expr} {env : Env} {whole : Sem Value} {Q : Bool -> Sig -> Loc -> Prop} (h : W G Γ VR whole (fun v σ' m' => ∀ u, VR v u -> W G Γ Eq (truthy u) Q σ' m') σ m)
  (he : isTrue e env whole = (do let v <- whole; standAt e.pos; holding [v] (truthy v)) := by rfl) : W G Γ Eq (isTrue e env whole) Q σ m := by
 refine rE he ?_
 exact Zaq (Zat h fun v σ' m' z a r => Ze9 (Zaw (z a r)))
theorem ZbO {b : Bool} {u : Value} {Q : Bool -> Sig -> Loc -> Prop} (r : VR (.bool b) u) (h : Q b σ m) : W G Γ Eq (truthy u) Q σ m := by
 subst r
 exact ZnP (fun s Q' k => wpAny_truthy_bool (k s.toks)) h
theorem ZhF {op : BoolOp} {values : List Expr} {pos : Pos} {env : Env} {whole : Sem Value} {Q : Bool -> Sig -> Loc -> Prop} (h : W G Γ Eq (allTrue op values env) Q σ m) : W G Γ Eq (isTrue (.BoolOp op values pos) env whole) Q σ m := by
 rw [arm_isTrue_BoolOp]; exact h
theorem ZmP {env : Env} {Q : Bool -> Sig -> Loc -> Prop} (h : Q true σ m) : W G Γ Eq (allTrue .And [] env) Q σ m := ZaX (b := true) rfl h
theorem Zl5 {env : Env} {Q : Bool -> Sig -> Loc -> Prop} (h : Q false σ m) : W G Γ Eq (allTrue .Or [] env) Q σ m := ZaX (b := false) rfl h
theorem Zln {x : Expr} {rest : List Expr} {env : Env} {Q : Bool -> Sig -> Loc -> Prop} (h : W G Γ Eq (isTrue x env (eval x env)) (fun b σ' m' => if b then W G Γ Eq (allTrue .And rest env) Q σ' m' else Q false σ' m') σ m) :
  W G Γ Eq (allTrue .And (x :: rest) env) Q σ m := by
 refine (?_ : W G Γ Eq (do match BoolOp.And, <- isTrue x env (eval x env) with | .And, false => pure false | .Or, true => pure true | _, _ => allTrue .And rest env) Q σ m)
 refine Zaq (Zat h fun b σ' m' z a r => ?_)
 subst r
 induction b
 ·exact ZaX (b := false) rfl z
 ·exact z
theorem Zg5 {x : Expr} {rest : List Expr} {env : Env} {Q : Bool -> Sig -> Loc -> Prop} (h : W G Γ Eq (isTrue x env (eval x env)) (fun b σ' m' => if b then Q true σ' m' else W G Γ Eq (allTrue .Or rest env) Q σ' m') σ m) :
  W G Γ Eq (allTrue .Or (x :: rest) env) Q σ m := by
 refine (?_ : W G Γ Eq (do match BoolOp.Or, <- isTrue x env (eval x env) with | .And, false => pure false | .Or, true => pure true | _, _ => allTrue .Or rest env) Q σ m)
 refine Zaq (Zat h fun b σ' m' z a r => ?_)
 subst r
 induction b
 ·exact z
 ·exact ZaX (b := true) rfl z
theorem Zns {l r : Expr} {op : Operator} {pos : Pos} {env : Env} {Q : AV -> Sig -> Loc -> Prop}
  (h : W G Γ VR (eval l env) (fun x σ₁ mc => W G Γ VR (eval r env) (fun y σ₂ md => ∀ a b, VR x a -> VR y b -> W G Γ VR (binaryOp op a b) Q σ₂ md) σ₁ mc) σ m) : W G Γ VR (eval (.BinOp l op r pos) env) Q σ m := by
 rw [eval_BinOp]
 exact Zaq (Zat h fun x σ₁ mc z a ra => Zaq (Zaw (Zat z fun y σ₂ md z b rb => Ze9 (ZdY (z a b ra rb)))))
theorem Zkh {l r : Expr} {op : CmpOp} {pos : Pos} {env : Env} {Q : AV -> Sig -> Loc -> Prop}
  (h : W G Γ VR (eval l env) (fun x σ₁ mc => W G Γ VR (eval r env) (fun y σ₂ md => ∀ a b, VR x a -> VR y b -> W G Γ VR (compareOp op a b) Q σ₂ md) σ₁ mc) σ m)
  (hm : behindInMarks op r = false := by with_unfolding_all rfl) : W G Γ VR (eval (.Compare l [op] [r] pos) env) Q σ m := by
 rewrite [eval_Compare1]; refine rE (markedBehindIn_of_false hm) ?_
 exact Zaq (Zat h fun x σ₁ mc z a ra => Zaq (Zaw (Zat z fun y σ₂ md z b rb => Ze9 (ZdY (z a b ra rb)))))
theorem Zqh {x : Expr} {op : UnaryOp} {pos : Pos} {env : Env} {Q : AV -> Sig -> Loc -> Prop} (h : W G Γ VR (eval x env) (fun v σ' m' => ∀ u, VR v u -> W G Γ VR (unaryOp op u) Q σ' m') σ m) : W G Γ VR (eval (.UnaryOp op x pos) env) Q σ m := by
 refine rE (arm_eval_UnaryOp _ _ _ _) ?_
 exact Zaq (Zat h fun v σ' m' z a r => Ze9 (Zaw (z a r)))
theorem Zjr {test body orelse : Expr} {pos : Pos} {env : Env} {Q : AV -> Sig -> Loc -> Prop}
  (h : W G Γ Eq (isTrue test env (eval test env)) (fun b σ' m' => if b then W G Γ VR (eval body env) Q σ' m' else W G Γ VR (eval orelse env) Q σ' m') σ m) : W G Γ VR (eval (.IfExp test body orelse pos) env) Q σ m := by
 rw [arm_eval_IfExp]
 refine Zaq (Zat h fun b σ' m' z a r => ?_)
 subst r
 induction b
 ·exact z
 ·exact z
theorem Zll {op : BoolOp} {x : Expr} {pos : Pos} {env : Env} {Q : AV -> Sig -> Loc -> Prop} (h : W G Γ VR (eval x env) Q σ m) : W G Γ VR (boolOp pos op (evalEach [x] env)) Q σ m := h
theorem Zm4 {op : BoolOp} {values : List Expr} {pos : Pos} {env : Env} {Q : AV -> Sig -> Loc -> Prop} (h : W G Γ VR (boolOp pos op (evalEach values env)) Q σ m) : W G Γ VR (eval (.BoolOp op values pos) env) Q σ m := h
theorem ZoZ {x y : Expr} {rest : List Expr} {pos : Pos} {env : Env} {Q : AV -> Sig -> Loc -> Prop}
  (h : W G Γ VR (eval x env) (fun v σ' m' => ∃ b, v = .bool b /\ if b then W G Γ VR (boolOp pos .And (evalEach (y :: rest) env)) Q σ' m' else Q (.bool false) σ' m') σ m) : W G Γ VR (boolOp pos .And (evalEach (x :: y :: rest) env)) Q σ m := by
 show W G Γ VR (do let v <- eval x env; standAt pos; let t <- holding [v] (truthy v); match BoolOp.And, t with | .And, false | .Or, true => pure v | _, _ => boolOp pos .And (evalEach (y :: rest) env)) Q σ m
 refine Zaq (Zat h fun v σ' m' z a r => Ze9 (Zaq (rel := Eq) (Zaw ?_)))
 refine o31 z ?_; clear z; intro b y1 z; subst y1
 refine ZbO (b := b) r fun t rt => ?_
 subst rt
 induction b
 ·exact ZaX (b := AV.bool false) r z
 ·exact z
theorem Zp8 {x y : Expr} {rest : List Expr} {pos : Pos} {env : Env} {Q : AV -> Sig -> Loc -> Prop}
  (h : W G Γ VR (eval x env) (fun v σ' m' => ∃ b, v = .bool b /\ if b then Q (.bool true) σ' m' else W G Γ VR (boolOp pos .Or (evalEach (y :: rest) env)) Q σ' m') σ m) : W G Γ VR (boolOp pos .Or (evalEach (x :: y :: rest) env)) Q σ m := by
 show W G Γ VR (do let v <- eval x env; standAt pos; let t <- holding [v] (truthy v); match BoolOp.Or, t with | .And, false | .Or, true => pure v | _, _ => boolOp pos .Or (evalEach (y :: rest) env)) Q σ m
 refine Zaq (Zat h fun v σ' m' z a r => Ze9 (Zaq (rel := Eq) (Zaw ?_)))
 refine o31 z ?_; clear z; intro b y1 z; subst y1
 refine ZbO (b := b) r fun t rt => ?_
 subst rt
 induction b
 ·exact z
 ·exact ZaX (b := AV.bool true) r z
noncomputable def WA (G : Glo) (Γ : Amb) (pos : Pos) (args : List Expr) (Q : List AV -> Sig -> Loc -> Prop) (σ : Sig) (m : Loc) : Prop := W G Γ VRs (spliced (backTo pos (starEach args Γ.env))) Q σ m
theorem Zap {pos : Pos} {Q : List AV -> Sig -> Loc -> Prop} (h : Q [] σ m) : WA G Γ pos [] Q σ m := ZaX .nil h
theorem Zac {pos : Pos} {e : Expr} {rest : List Expr} {Q : List AV -> Sig -> Loc -> Prop} (h : W G Γ VR (eval e Γ.env) (fun v σ' m' => WA G Γ pos rest (fun vs => Q (v :: vs)) σ' m') σ m)
  (he : starEach (e :: rest) Γ.env = (false, eval e Γ.env) :: starEach rest Γ.env := by rfl) : WA G Γ pos (e :: rest) Q σ m := by
 unfold WA
 refine rE he ?_
 refine (?_ : W G Γ VRs (spliced ((false, eval e Γ.env) :: backTo pos (starEach rest Γ.env))) Q σ m)
 rw [spliced]
 refine Zaq (Zat h fun v σ' m' z a r => ?_)
 simp only [Zsc, if_false]
 exact Zaq (ZaX (rel := Eq) (b := [a]) rfl fun here e => by
  subst e
  exact Zaq (Zaw (Zat z fun vs σ'' m'' y us rs => ZaX (b := v :: vs) (.cons r rs) y)))
theorem ZaE {elts : List Expr} {k : Nat} {pos : Pos} {Q : AV -> Sig -> Loc -> Prop} (h : WA G Γ pos elts (fun vs σ' m' => vs.length <= sizeLine /\ ∀ a, σ' a = none -> Q (.ref a) (σ'.set a (.tup vs)) m') σ m) : W G Γ VR (eval (.Tuple elts k pos) Γ.env) Q σ m := by
 show W G Γ VR (do standAt pos; newTuple (<- spliced (backTo pos (starEach elts Γ.env)))) Q σ m
 refine Ze9 (Zaq (Zat h fun vs σ' m' z us rs => Zbi fun s hR Q' k => ?_))
 have hl : us.length = vs.length := by clear z; induction rs with | nil => rfl | cons _ _ ih => (refine rE ZqF (rE ZqF ?_); exact rE ih rfl)
 refine o30 (hR.push (o := .tup vs) (ob := { cls := .type "tuple", data := .seq us.toArray }) rfl ⟨us, 0, rfl, rs⟩) fun e hR' kp => ?_
 exact wpAny_newObj_type (k _ (.ref _) _ s.toks _ _ rfl hR' kp (z.2 _ e)) (by refine (?_ : us.toArray.size <= sizeLine); (refine rE ZqM (rE hl ?_)); exact z.1)
theorem Zf1 {elts : List Expr} {pos : Pos} {Q : AV -> Sig -> Loc -> Prop} (h : WA G Γ pos elts (fun vs σ' m' => vs.length <= sizeLine /\ ∀ a, σ' a = none -> Q (.ref a) (σ'.set a (.lst vs)) m') σ m) : W G Γ VR (eval (.List elts pos) Γ.env) Q σ m := by
 show W G Γ VR (do standAt pos; newList (<- spliced (backTo pos (starEach elts Γ.env)))) Q σ m
 refine Ze9 (Zaq (Zat h fun vs σ' m' z us rs => Zbi fun s hR Q' k => ?_))
 have hl : us.length = vs.length := by clear z; induction rs with | nil => rfl | cons _ _ ih => (refine rE ZqF (rE ZqF ?_); exact rE ih rfl)
 refine o30 (hR.push (o := .lst vs) (ob := { cls := .type "list", data := .seq us.toArray }) rfl ⟨us, 0, rfl, rs⟩) fun e hR' kp => ?_
 exact wpAny_newObj_type (k _ (.ref _) _ s.toks _ _ rfl hR' kp (z.2 _ e)) (by refine (?_ : us.toArray.size <= sizeLine); (refine rE ZqM (rE hl ?_)); exact z.1)
end
end Nz
namespace Nz
open PySem PySem.W PySem.Calls PyProof.Rows
theorem VRs.len {l : List AV} {vs : List Value} (h : VRs l vs) : vs.length = l.length := by induction h with | nil => rfl | cons _ _ ih => (refine rE ZqF (rE ZqF ?_); exact rE ih rfl)
theorem VRs.at {l : List AV} {vs : List Value} (h : VRs l vs) {i : Nat} {v : AV} (e : l[i]? = some v) : ∃ u, vs[i]? = some u /\ VR v u := by
 induction h generalizing i with
 | nil => induction i <;> injection e
 | cons r _ ih =>
  induction i using Zd9 with
  | zero => obtain rfl := ZqC e; exact e31 _ rfl r
  | succ i => exact ih e
theorem VRs.append {l l' : List AV} {vs vs' : List Value} (h : VRs l vs) (h' : VRs l' vs') : VRs (l ++ l') (vs ++ vs') := by
 induction h with
 | nil => exact h'
 | cons r _ ih => exact .cons r ih
theorem VRs.take {l : List AV} {vs : List Value} (h : VRs l vs) (i : Nat) : VRs (l.take i) (vs.take i) := by
 induction h generalizing i with
 | nil => induction i <;> exact .nil
 | cons r _ ih =>
  induction i using Zd9 with
  | zero => exact .nil
  | succ i => exact .cons r (ih i)
theorem VRs.drop {l : List AV} {vs : List Value} (h : VRs l vs) (i : Nat) : VRs (l.drop i) (vs.drop i) := by
 induction h generalizing i with
 | nil => induction i <;> exact .nil
 | cons r t ih =>
  induction i using Zd9 with
  | zero => exact .cons r t
  | succ i => exact ih i
theorem VRs.set {l : List AV} {vs : List Value} (h : VRs l vs) (i : Nat) {v : AV} {u : Value} (r : VR v u) : VRs (l.set i v) (vs.set i u) := by
 induction h generalizing i with
 | nil => induction i <;> exact .nil
 | cons r' t ih =>
  induction i using Zd9 with
  | zero => exact .cons r t
  | succ i => exact .cons r' (ih i)
theorem VRs.erase {l : List AV} {vs : List Value} (h : VRs l vs) (i : Nat) : VRs (l.eraseIdx i) (vs.eraseIdx i) := by
 induction h generalizing i with
 | nil => induction i <;> exact .nil
 | cons r t ih =>
  induction i using Zd9 with
  | zero => exact t
  | succ i => exact .cons r (ih i)
section
variable {G : Glo} {Γ : Amb} {σ : Sig} {m : Loc}
theorem R.list {h : Heap} (hR : R G Γ σ m h) {a : Addr} {l : List AV} (e : σ a = some (.lst l)) : ∃ vs n, h.get? a = some (listOf (Zrf vs) n) /\ VRs l vs := by
 refine o31 (hR.get e) fun ob ho r2 => ?_; refine o42 r2 fun vs n y2 r => ?_; clear r2; subst y2
 exact e42 vs n ho r
theorem R.isList {h : Heap} (hR : R G Γ σ m h) {a : Addr} {l : List AV} (e : Sees G σ a (.lst l)) : ∃ vs, h.IsList a (Zrf vs) /\ VRs l vs := by
 refine o31 (hR.see e) fun ob ho r2 => ?_; refine o42 r2 fun vs n y2 r => ?_; clear r2; subst y2
 exact e31 vs ⟨_, ho, rfl, n, rfl⟩ r
theorem R.isTup {h : Heap} (hR : R G Γ σ m h) {a : Addr} {l : List AV} (e : Sees G σ a (.tup l)) : ∃ vs, IsTup h a (Zrf vs) /\ VRs l vs := by
 refine o31 (hR.see e) fun ob ho r2 => ?_; refine o42 r2 fun vs n y2 r => ?_; clear r2; subst y2
 exact e31 vs ⟨_, ho, rfl, n, rfl⟩ r
theorem R.mapSeq {h : Heap} (hR : R G Γ σ m h) {a : Addr} {l l' : List AV} {vs vs' : List Value} {n : Nat} {f : Array Value -> Array Value} (e : σ a = some (.lst l)) (ho : h.get? a = some (listOf (Zrf vs) n)) (hf : f (Zrf vs) = Zrf vs') (r : VRs l' vs') :
  R G Γ (σ.set a (.lst l')) m (h.update a (Obj.mapSeq f)) /\ Kp Γ.L σ (σ.set a (.lst l')) h (h.update a (Obj.mapSeq f)) := by
 have q := PySem.IsL.update ho f
 rw [hf] at q
 exact hR.turn e (Heap.SameBut.update ..) q ⟨vs', _, rfl, r⟩
noncomputable def Zgz : AV -> Bool
 | .raw _ => false
 | _ => true
theorem handed {v : AV} {u : Value} (r : VR v u) (h : Zgz v = true) : handedIn u = true := by
 induction v with
 | raw => injection h
 | int i => (refine o21 r fun t y1 => ?_; clear r; subst y1); rfl
 | str i => (refine o21 r fun t y1 => ?_; clear r; subst y1); rfl
 | none => subst r; rfl
 | bool => subst r; rfl
 | ref => subst r; rfl
theorem ERs.noRef {P : Params} {es : List (Str × AV)} {des : List DictEntry} (h : ERs P es des) : des.any (·.refKey) = false := by
 induction h with
 | nil => rfl
 | @cons p e es des hp t ih =>
  refine o30 hp fun y0 n_ n_ => ?_; clear hp; (refine o21 y0 fun tk hk => ?_; clear y0)
  refine rE List.any_cons (rE ih (rE (Zr4 _) ?_))
  refine (?_ : DictEntry.refKey e = false)
  unfold DictEntry.refKey; exact rE hk rfl
theorem ERs.find {P : Params} {es : List (Str × AV)} {des : List DictEntry} (h : ERs P es des) (x : Str) : match es.lookup x with
  | some v => ∃ e, des.find? (·.key.isStr x) = some e /\ VR v e.val
  | Option.none => des.find? (·.key.isStr x) = Option.none := by
 induction h with
 | nil => rfl
 | @cons p e es des hp t ih =>
  obtain ⟨y, a⟩ := p
  refine o30 hp fun y0 hh hv => ?_; clear hp; (refine o21 y0 fun tk hk => ?_; clear y0)
  dsimp only at hk hh hv
  have hi : e.key.isStr x = (y == x) := by refine rE hk ?_; rfl
  refine rE ZqW (rE ZsV (rE hi ?_))
  by_cases hx : x = y
  ·subst hx
   refine rE (beq_self_eq_true _) ?_
   exact e31 e rfl hv
  ·have b1 : (x == y) = false := beq_eq_false_iff_ne.mpr hx
   have b2 : (y == x) = false := beq_eq_false_iff_ne.mpr (Ne.symm hx)
   refine rE b1 (rE b2 ?_)
   exact ih
theorem ERs.some {P : Params} {es : List (Str × AV)} {des : List DictEntry} (h : ERs P es des) {x : Str} {v : AV} (e : es.lookup x = Option.some v) : ∃ u, getL x des = Option.some (Option.some u) /\ VR v u := by
 have k := h.find x
 rw [e] at k
 refine o31 k fun en h1 h2 => ?_; clear k
 exact e31 en.val (by unfold getL; exact rE h1 rfl) h2
theorem ERs.none {P : Params} {es : List (Str × AV)} {des : List DictEntry} (h : ERs P es des) {x : Str} (e : es.lookup x = Option.none) : getL x des = Option.some Option.none := by
 have k := h.find x
 rw [e] at k
 dsimp only at k
 unfold getL
 refine rE k ?_
 dsimp only
 rw [if_neg (by refine rE h.noRef ?_; exact Zsd)]
structure Field (K : Frag) (C : Addr) (x : Str) : Prop where
 plain : plainGet K C x = true
 has : hasDictIn K C = true
 attr : ∃ a, findIn K (.ref C) x = some a /\ noGet K a = true
theorem R.inst {h : Heap} (hR : R G Γ σ m h) {x C d : Addr} {es : List (Str × AV)} (ex : σ x = some (.ins C d)) (ed : σ d = some (.dic es)) : ∃ des n, h.get? x = some (instObj C d) /\ h.get? d = some (dictOf des n) /\ ERs G.w.params es des := by
 refine o31 (hR.get ex) fun ob ho y2 => ?_; subst y2
 refine o31 (hR.get ed) fun od hd r2 => ?_; refine o42 r2 fun des n y2 r => ?_; clear r2; subst y2
 exact e52 des n ho hd r
noncomputable def Zd3 (σ : Sig) (x : Addr) (name : Str) : Option (Addr × AV) := match σ x with
 | some (.ins C d) => (match σ d with | some (.dic es) => (es.lookup name).map fun v => (C, v) | _ => Option.none)
 | _ => Option.none
theorem ZiJ {x C : Addr} {name : Str} {v : AV} (e : Zd3 σ x name = some (C, v)) : ∃ d es, σ x = some (.ins C d) /\ σ d = some (.dic es) /\ es.lookup name = some v := by
 unfold Zd3 at e
 split at e
 ·rename_i C' d hx
  split at e
  ·rename_i es hd
   induction hl : es.lookup name with
   | none => rw [hl] at e; injection e
   | some u => rw [hl] at e; cases e; exact e52 d es hx hd hl
  ·exact nA e
 ·exact nA e
theorem Zh8 {x C : Addr} {name : Str} {v : AV} {b : Bool} {Q : AV -> Sig -> Loc -> Prop} (e : Zd3 σ x name = some (C, v)) (f : Field G.K C name) (nr : Zgz v = true) (h : Q v σ m) : W G Γ VR (getAttr (.ref x) name b) Q σ m :=
 Zbi fun s hR Q' k => by
  refine o52 (ZiJ e) fun d es ex ed el => ?_
  refine o52 (hR.inst ex ed) fun des n hx hd r => ?_
  refine o31 (r.some el) fun u hu ru => ?_
  refine o31 f.attr fun a ha hn => ?_
  have hR' := hR
  refine o20 hR' fun ok r1 => ?_; clear hR'; refine o62 r1 fun mv news F N l sr => ?_; clear r1
  exact get_own F ok.X ⟨hx, rfl, rfl, hd⟩ f.plain f.has ha hn hu (handed ru nr) (k u v s.heap _ σ m ru hR .refl h)
theorem Zpc {o : Expr} {name : Str} {pos : Pos} {Q : AV -> Sig -> Loc -> Prop}
  (h : W G Γ VR (eval o Γ.env) (fun b σ' m' => ∃ x C v, b = .ref x /\ Zd3 σ' x name = some (C, v) /\ Field G.K C name /\ Zgz v = true /\ Q v σ' m') σ m)
  (he : eval (.Attribute o name pos) Γ.env = (do
   let v <- eval o Γ.env
   standAt pos.atName
   let r <- holding [v] (getAttr v name true)
   letTemporaryGo o v r
   pure r) := by with_unfolding_all rfl) : W G Γ VR (eval (.Attribute o name pos) Γ.env) Q σ m := by
 refine rE he ?_
 refine Zaq (Zat h fun b σ' m' z a r => Ze9 (Zaq (rel := VR) (Zaw ?_)))
 refine o83 z fun x C v y3 e f nr q => ?_; clear z; subst y3
 subst r
 exact Zh8 e f nr fun u ru => Zbi fun s hR Q' k => wpAny_bind (wpAny_letTemporaryGo (wpAny_pure (k u v s.heap s.toks σ' m' ru hR .refl q)))
theorem ZnU {o i : Expr} {pos : Pos} {env : Env} {Q : AV -> Sig -> Loc -> Prop} (h : W G Γ VR (eval o env) (fun x σ₁ mc => W G Γ VR (eval i env) (fun y σ₂ md => ∀ a b, VR x a -> VR y b -> W G Γ VR (subscriptTail o i a b) Q σ₂ md) σ₁ mc) σ m) :
  W G Γ VR (eval (.Subscript o i pos) env) Q σ m := by
 refine rE (eval_Subscript _ _ _) ?_
 exact Zaq (Zat h fun x σ₁ mc z a ra => Zaq (Zaw (Zat z fun y σ₂ md z b rb => Ze9 (z a b ra rb))))
theorem Zh9 {n : Nat} {l : List AV} {vs : List Value} {v : AV} (r : VRs l vs) (hz : l.length <= sizeLine) (e : l[n]? = some v) : (n : Int) < 2 ^ 63 := by
 have : n < l.length := (ZqU.mp e).1
 rw [sizeLine_eq] at hz
 omega
theorem ZkV {o i : Expr} {a : Addr} {l : List AV} {k : Int} {v : AV} {A B : Value} {Q : AV -> Sig -> Loc -> Prop} (n : Nat) (hk : k = n) (e : Sees G σ a (.lst l)) (hz : l.length <= sizeLine) (hv : l[n]? = some v) (ra : VR (.ref a) A) (rb : VR (.int k) B) (h : Q v σ m)
  (hs : ∀ u, subscripted i false (.ref a) (.int k u) = operate [.ref a, .int k u] (getItem (.ref a) (.int k u)) := by intro u; with_unfolding_all rfl) : W G Γ VR (subscriptTail o i A B) Q σ m :=
 Zbi fun s hR Q' kk => by
  subst ra
  refine o21 rb fun u y1 => ?_; clear rb; subst y1
  refine o31 (hR.isList e) fun vs hl r => ?_
  refine o31 (r.at hv) fun w hw rw' => ?_
  subst hk
  exact tail_any hl.typeIs PySem.slot_list_getitem.lookup (wpAny_getItem_list hl (ZsJ n) (Zh9 r hz hv) (by simpa using hw) (kk w v s.heap s.toks σ m rw' hR .refl h)) (hs u)
theorem Zno {o i : Expr} {a : Addr} {l : List AV} {v : AV} {A B : Value} {Q : AV -> Sig -> Loc -> Prop} (e : Sees G σ a (.lst l)) (hz : l.length <= sizeLine) (hv : l.getLast? = some v) (ra : VR (.ref a) A) (rb : VR (.int (-1)) B) (h : Q v σ m)
  (hs : ∀ u, subscripted i false (.ref a) (.int (-1) u) = operate [.ref a, .int (-1) u] (getItem (.ref a) (.int (-1) u)) := by intro u; with_unfolding_all rfl) : W G Γ VR (subscriptTail o i A B) Q σ m :=
 Zbi fun s hR Q' kk => by
  subst ra
  refine o21 rb fun u y1 => ?_; clear rb; subst y1
  refine o31 (hR.isList e) fun vs hl r => ?_
  have hne : 0 < l.length := by cases l with | nil => injection hv | cons _ _ => exact Nat.succ_pos _
  have hv' : l[l.length - 1]? = some v := by refine rS Zsf ?_; exact hv
  refine o31 (r.at hv') fun w hw rw' => ?_
  have hlen := r.len
  refine tail_any hl.typeIs PySem.slot_list_getitem.lookup (wpAny_getItem_list_neg hl (by decide) (by refine rE ZqM ?_; omega) (by decide) ?_ (kk w v s.heap s.toks σ m rw' hR .refl h)) (hs u)
  have : ((-1 : Int) + ((Zrf vs).size : Nat)).toNat = l.length - 1 := by (refine rE ZqM (rE hlen ?_)); omega
  refine rE this ?_; simpa using hw
theorem ZmF {o i : Expr} {a : Addr} {l : List AV} {k : Int} {v : AV} {A B : Value} {Q : AV -> Sig -> Loc -> Prop} (n : Nat) (hk : k = n) (e : Sees G σ a (.tup l)) (hz : l.length <= sizeLine) (hv : l[n]? = some v) (ra : VR (.ref a) A) (rb : VR (.int k) B) (h : Q v σ m)
  (hs : ∀ u, subscripted i false (.ref a) (.int k u) = operate [.ref a, .int k u] (getItem (.ref a) (.int k u)) := by intro u; with_unfolding_all rfl) : W G Γ VR (subscriptTail o i A B) Q σ m :=
 Zbi fun s hR Q' kk => by
  subst ra
  refine o21 rb fun u y1 => ?_; clear rb; subst y1
  refine o31 (hR.isTup e) fun vs hl r => ?_
  refine o31 (r.at hv) fun w hw rw' => ?_
  subst hk
  have hn : n < l.length := (ZqU.mp hv).1
  have hlen := r.len
  have hsm := Zh9 r hz hv
  exact item_tupleT hl (by omega) hsm (j := n) (by
   unfold seqIndex?
   have : ¬ ((n : Int) < 0) := by omega
   simp; omega) hw (kk w v s.heap s.toks σ m rw' hR .refl h) (hs u)
end
end Nz
namespace Nz
open PySem PySem.W PySem.Calls PyProof.Rows
section
variable {M : Model} {A : Around} {E : Value -> Shared -> Prop} {s : Shared}
theorem ZcX {f : Value} {l : List (Bool × Sem Value)} {Q : Args -> Shared -> Prop} (hp : l.any (·.1) = false) (h : wpAny M A (spliced l) (fun vs s' => Q ⟨vs, []⟩ s') E s) : wpAny M A (evalArgs f true l []) Q E s := by
 induction l using ZcU with
 | nil =>
  unfold evalArgs
  refine (?_ : wpAny M A (spliced [] >>= _) Q E s)
  refine wpAny_bind (wpAny_mono h (fun vs s' h' => ?_) fun n_ n_ x => x)
  refine wpAny_holding ?_
  exact wpAny_bind (wpAny_pure (wpAny_bind (wpAny_pure (wpAny_pure h'))))
 | cons p r =>
  obtain ⟨b, x⟩ := p
  induction b with
  | true => injection hp
  | false => exact evalArgs_plain h
end
section
variable {G : Glo} {Γ : Amb} {σ : Sig} {m : Loc}
noncomputable def FC (G : Glo) (Γ : Amb) (f : Value) (vs : List AV) (Q : AV -> Sig -> Loc -> Prop) (σ : Sig) (m : Loc) : Prop := ∀ us, VRs vs us -> W G Γ VR (call f us) Q σ m
theorem FC.mono {f : Value} {vs : List AV} {Q Q' : AV -> Sig -> Loc -> Prop} (h : FC G Γ f vs Q σ m) (k : ∀ v σ' m', Q v σ' m' -> Q' v σ' m') : FC G Γ f vs Q' σ m := fun us r => Zat (h us r) k
noncomputable def Plain (pos : Pos) (args : List Expr) (env : Env) : Bool := (backTo pos (starEach args env)).all fun x => !x.1
theorem Plain.any {pos : Pos} {args : List Expr} {env : Env} (h : Plain pos args env = true) : (backTo pos (starEach args env)).any (·.1) = false := by
 unfold Plain at h
 rw [Zq4] at h
 rw [Zsj]
 intro x hx
 have := h x hx
 induction q : x.1 with
 | false => exact Zsd
 | true => rw [q] at this; injection this
theorem ZlN {pos : Pos} {id : String} {first : List AV} {fs : List Value} {args : List Expr} {Q : AV -> Sig -> Loc -> Prop} (rf : VRs first fs) (h : WA G Γ pos args (fun vs => FC G Γ (.builtin id) (first ++ vs) Q) σ m) (hp : Plain pos args Γ.env = true) :
  W G Γ VR (callWith pos (.builtin id) fs (backTo pos (starEach args Γ.env)) []) Q σ m :=
 Zbi fun s hR Q' k => callWith_builtin (Plain.any hp) (ZcX (Plain.any hp) (h.use hR fun us vs h' tk σ' m' r hR' kp z => (z _ (rf.append r)).use hR' fun a b h'' tk' σ'' m'' r' hR'' kp' q => k a b h'' tk' σ'' m'' r' hR'' (kp.trans kp') q))
theorem ZoS {pos : Pos} {T : String} {args : List Expr} {Q : AV -> Sig -> Loc -> Prop} (h : WA G Γ pos args (fun vs => FC G Γ (.type T) vs Q) σ m) (hp : Plain pos args Γ.env = true) :
  W G Γ VR (callWith pos (.type T) [] (backTo pos (starEach args Γ.env)) []) Q σ m :=
 Zbi fun s hR Q' k => PySem.callWith_type (Plain.any hp) (ZcX (Plain.any hp) (h.use hR fun us vs h' tk σ' m' r hR' kp z => (z _ r).use hR' fun a b h'' tk' σ'' m'' r' hR'' kp' q => k a b h'' tk' σ'' m'' r' hR'' (kp.trans kp') q))
theorem Zml {pos : Pos} {f : Addr} {first : List AV} {fs : List Value} {args : List Expr} {Q : AV -> Sig -> Loc -> Prop} (rf : VRs first fs) (hk : keepIn G.K (.ref f) = true) (h : WA G Γ pos args (fun vs => FC G Γ (.ref f) (first ++ vs) Q) σ m) (hp : Plain pos args Γ.env = true) :
  W G Γ VR (callWith pos (.ref f) fs (backTo pos (starEach args Γ.env)) []) Q σ m :=
 Zbi fun s hR Q' k => callWith_of (by refine rE (Plain.any hp) ?_; rfl) (keeps_K hk) (ZcX (Plain.any hp) (h.use hR fun us vs h' tk σ' m' r hR' kp z => ⟨hR'.K, (z _ (rf.append r)).use hR' fun a b h'' tk' σ'' m'' r' hR'' kp' q => k a b h'' tk' σ'' m'' r' hR'' (kp.trans kp') q⟩))
theorem ZeB {x : Str} {p pos : Pos} {args : List Expr} {Q : AV -> Sig -> Loc -> Prop} (h : W G Γ VR (eval (.Name x p) Γ.env) (fun f σ' m' => ∀ u, VR f u -> W G Γ VR (callWith pos u [] (backTo pos (starEach args Γ.env)) []) Q σ' m') σ m) :
  W G Γ VR (eval (.Call (.Name x p) args [] pos) Γ.env) Q σ m := by
 refine (?_ : W G Γ VR (do callWith pos (<- eval (.Name x p) Γ.env) [] (backTo pos (starEach args Γ.env)) (backToKw pos (keywordEach [] Γ.env))) Q σ m)
 exact Zaq (Zat h fun f σ' m' z a r => z a r)
theorem Zay {x : Str} {p pos : Pos} {args : List Expr} {f : Addr} {Q : AV -> Sig -> Loc -> Prop} (e : nsIn G.K mainGlobals x = some (some (.ref f))) (hk : keepIn G.K (.ref f) = true) (h : WA G Γ pos args (fun vs => FC G Γ (.ref f) vs Q) σ m)
  (hp : Plain pos args Γ.env = true := by rfl) (hx : Γ.env.kindOf x = some .globalImplicit := by rfl) (hd : (x == ("__debug__" : Str)) = false := by decide) : W G Γ VR (eval (.Call (.Name x p) args [] pos) Γ.env) Q σ m :=
 ZeB (Zlm e (fun u r => by subst r; exact Zml (first := []) .nil hk h hp) hx hd)
theorem Zfu {x : Str} {p pos : Pos} {args : List Expr} {id : String} {Q : AV -> Sig -> Loc -> Prop} (e : nsIn G.K mainGlobals x = some none) (hv : bootBuiltins x = some (.builtin id)) (hn : x ≠ "__name__") (h : WA G Γ pos args (fun vs => FC G Γ (.builtin id) vs Q) σ m)
  (hp : Plain pos args Γ.env = true := by rfl) (hx : Γ.env.kindOf x = some .globalImplicit := by rfl) (hd : (x == ("__debug__" : Str)) = false := by decide) : W G Γ VR (eval (.Call (.Name x p) args [] pos) Γ.env) Q σ m :=
 ZeB (Zih e hv hn (fun u r => by subst r; exact ZlN (first := []) .nil h hp) hx hd)
theorem Zce {x : Str} {p pos : Pos} {args : List Expr} {T : String} {Q : AV -> Sig -> Loc -> Prop} (e : nsIn G.K mainGlobals x = some none) (hv : bootBuiltins x = some (.type T)) (hn : x ≠ "__name__") (h : WA G Γ pos args (fun vs => FC G Γ (.type T) vs Q) σ m)
  (hp : Plain pos args Γ.env = true := by rfl) (hx : Γ.env.kindOf x = some .globalImplicit := by rfl) (hd : (x == ("__debug__" : Str)) = false := by decide) : W G Γ VR (eval (.Call (.Name x p) args [] pos) Γ.env) Q σ m :=
 ZeB (Zih e hv hn (fun u r => by subst r; exact ZoS h hp) hx hd)
noncomputable def PR (p : Value × List AV) (q : Value × List Value) : Prop := p.1 = q.1 /\ VRs p.2 q.2
theorem Zmg {o : Expr} {name : Str} {apos pos : Pos} {args : List Expr} {pl : Sem Bool} {Q : AV -> Sig -> Loc -> Prop}
  (h : W G Γ VR (eval o Γ.env) (fun b σ₁ mc => ∀ u, VR b u -> W G Γ PR (getMethod u name pl) (fun p σ₂ md => ∀ q, PR p q -> W G Γ VR (callWith pos q.1 q.2 (backTo pos (starEach args Γ.env)) []) Q σ₂ md) σ₁ mc) σ m)
  (he : eval (.Call (.Attribute o name apos) args [] pos) Γ.env = (do
   let ov <- eval o Γ.env
   standAt apos.atName
   let (f, first) <- holding [ov] (getMethod ov name pl)
   callWith pos f first (backTo pos (starEach args Γ.env)) []) := by rfl) : W G Γ VR (eval (.Call (.Attribute o name apos) args [] pos) Γ.env) Q σ m := by
 refine rE he ?_
 exact Zaq (Zat h fun b σ₁ mc z a r => Ze9 (Zaq (Zaw (Zat (z a r) fun p σ₂ md y q rq => y q rq))))
theorem ZcY {o : Expr} {name : Str} {apos pos : Pos} {args : List Expr} {pl : Sem Bool} {id : String} {Q : AV -> Sig -> Loc -> Prop} (slot : Slot "list" name id) (hty : typeOf (.builtin id) = pure (.type "method_descriptor"))
  (h : W G Γ VR (eval o Γ.env) (fun b σ₁ mc => ∃ a l, b = .ref a /\ σ₁ a = some (.lst l) /\ WA G Γ pos args (fun vs => FC G Γ (.builtin id) (.ref a :: vs) Q) σ₁ mc) σ m)
  (he : eval (.Call (.Attribute o name apos) args [] pos) Γ.env = (do
   let ov <- eval o Γ.env
   standAt apos.atName
   let (f, first) <- holding [ov] (getMethod ov name pl)
   callWith pos f first (backTo pos (starEach args Γ.env)) []) := by rfl) (hp : Plain pos args Γ.env = true := by rfl) : W G Γ VR (eval (.Call (.Attribute o name apos) args [] pos) Γ.env) Q σ m :=
 Zmg (Zat h fun b σ₁ mc z u r => by
  refine o52 z ?_; clear z; intro a l y2 e z; subst y2
  subst r
  exact Zbi fun s hR Q' k => by
   refine o42 (hR.list e) fun vs n ho r => ?_
   exact getMethod_builtin ⟨_, ho, rfl⟩ PySem.F.plainAttrs_list slot hty (fun b e => by (injection e with hq1; subst hq1); exact e31 _ ho rfl)
    (k _ (.builtin id, [.ref a]) s.heap s.toks σ₁ mc ⟨rfl, .cons rfl .nil⟩ hR .refl fun q hp => by
     refine o20 hp fun r1 r2 => ?_; clear hp
     obtain ⟨q1, q2⟩ := q
     dsimp only at r1 r2
     subst r1
     exact ZlN (first := [.ref a]) r2 z hp)) he
structure Meth (K : Frag) (C : Addr) (name : Str) (f : Addr) : Prop where
 plain : plainGet K C name = true
 find : findIn K (.ref C) name = some (some (.ref f))
 fn : isFn K (.ref f) = true
 keep : keepIn K (.ref f) = true
noncomputable def Zgh (σ : Sig) (x : Addr) (name : Str) : Option Addr := match σ x with
 | some (.ins C d) => (match σ d with | some (.dic es) => (match es.lookup name with | some _ => Option.none | Option.none => some C) | _ => Option.none)
 | _ => Option.none
theorem Zji {x C : Addr} {name : Str} (e : Zgh σ x name = some C) : ∃ d es, σ x = some (.ins C d) /\ σ d = some (.dic es) /\ es.lookup name = Option.none := by
 unfold Zgh at e
 split at e
 ·rename_i C' d hx
  split at e
  ·rename_i es hd
   induction hl : es.lookup name with
   | none => rw [hl] at e; obtain rfl := ZqC e; exact e52 d es hx hd hl
   | some u => rw [hl] at e; exact nA e
  ·exact nA e
 ·exact nA e
theorem ZgI {o : Expr} {name : Str} {apos pos : Pos} {args : List Expr} {pl : Sem Bool} {Q : AV -> Sig -> Loc -> Prop}
  (h : W G Γ VR (eval o Γ.env) (fun b σ₁ mc => ∃ x C f, b = .ref x /\ Zgh σ₁ x name = some C /\ Meth G.K C name f /\ WA G Γ pos args (fun vs => FC G Γ (.ref f) (.ref x :: vs) Q) σ₁ mc) σ m)
  (he : eval (.Call (.Attribute o name apos) args [] pos) Γ.env = (do
   let ov <- eval o Γ.env
   standAt apos.atName
   let (f, first) <- holding [ov] (getMethod ov name pl)
   callWith pos f first (backTo pos (starEach args Γ.env)) []) := by rfl) (hp : Plain pos args Γ.env = true := by rfl) : W G Γ VR (eval (.Call (.Attribute o name apos) args [] pos) Γ.env) Q σ m :=
 Zmg (Zat h fun b σ₁ mc z u r => by
  refine o73 z ?_; clear z; intro x C f y3 e M z; subst y3
  subst r
  exact Zbi fun s hR Q' k => by
   refine o52 (Zji e) fun d es ex ed el => ?_
   refine o52 (hR.inst ex ed) fun des n hx hd r => ?_
   have hR' := hR
   refine o20 hR' fun ok r1 => ?_; clear hR'; refine o62 r1 fun mv news F N l sr => ?_; clear r1
   exact method_inst F ok.X ⟨hx, rfl, rfl, hd⟩ M.plain M.find M.fn (r.none el)
    (k _ (.ref f, [.ref x]) s.heap s.toks σ₁ mc ⟨rfl, .cons rfl .nil⟩ hR .refl fun q hp => by
     refine o20 hp fun r1 r2 => ?_; clear hp
     obtain ⟨q1, q2⟩ := q
     dsimp only at r1 r2
     subst r1
     exact Zml (first := [.ref x]) r2 M.keep z hp)) he
theorem Zhx {x : Str} {l l' : List (Str × Value)} : (l ++ l').lookup x = (l.lookup x).or (l'.lookup x) := by
 induction l with
 | nil => rfl
 | cons p r ih =>
  obtain ⟨y, v⟩ := p
  refine rE ZqT (rE ZqW (rE ZqW ?_))
  by_cases h : x == y
  ·simp [h]
  ·simp only [h]; exact ih
theorem Zkr {x : Str} {y : Value} : ∀ {l : List (Str × Value)}, l.lookup x = some y -> (x, y) ∈ l := by
 refine @Zbv _ _ ?_ ?_
 ·intro q
  injection q
 ·intro x0 t ih q
  obtain ⟨z, y'⟩ := x0
  rw [ZqW] at q
  by_cases hz : x = z
  ·subst hz; simp only [beq_self_eq_true] at q; obtain rfl := ZqC q; exact .head _
  ·have : (x == z) = false := beq_eq_false_iff_ne.mpr hz
   simp only [this] at q; exact .tail _ (ih q)
theorem ZnA : ∀ (names : List Str) (vs : List AV) (us : List Value), names.Nodup -> VRs vs us -> LR (names.zip vs) (fun y => (names.zip us).reverse.lookup y) := by
 refine @Zbg _ _ ?_ ?_
 ·exact fun vs us n_ n_ x v e => nomatch e
 ·intro n ns ih0 vs us hn r
  cases r with
  | nil => exact fun x v e => nomatch e
  | @cons v u vs us r rs =>
  intro x w e
  rw [Zrw, ZqW] at e
  rw [ZqH] at hn
  have ih := ih0 vs us hn.2 rs x
  refine rE Zrw (rE List.reverse_cons ?_)
  refine (?_ : ∃ u', ((ns.zip us).reverse ++ [(n, u)]).lookup x = some u' /\ _)
  refine rE Zhx ?_
  by_cases h : x = n
  ·subst h
   simp only [beq_self_eq_true] at e
   obtain rfl := ZqC e
   have : (ns.zip us).reverse.lookup x = none := by
    induction q : (ns.zip us).reverse.lookup x with
    | none => rfl
    | some y =>
     exfalso
     have hm := Zkr q
     exact hn.1 (Zr6 (Zsu.mp hm)).1
   refine rE this ?_
   exact e31 u (by simp) r
  ·have hb : (x == n) = false := beq_eq_false_iff_ne.mpr h
   simp only [hb] at e
   refine o31 (ih w e) fun u' hu r' => ?_
   have hu : (ns.zip us).reverse.lookup x = some u' := hu
   exact e31 u' (by refine rE hu ?_; rfl) r'
noncomputable def Zgj : AF -> AV
 | .ret v => v
 | _ => .none
noncomputable def retV : Flow -> Value
 | .ret v => v
 | _ => .none
theorem Zg0 {b : AF} {fl : Flow} (rb : FRl b fl) : VR (Zgj b) (retV fl) := by
 induction b with
 | ret v => (refine o31 rb fun u y1 ru => ?_; clear rb; subst y1); exact ru
 | next => subst rb; rfl
 | brk => subst rb; rfl
 | cont => subst rb; rfl
theorem ZnN {f : Addr} {d : Nat} {names : List Str} {vs dv : List AV} {ds : List Value} {Q : AV -> Sig -> Loc -> Prop}
  {name qual : Str} {params : Arguments} {body : List Stmt} {scope : Scope} {dV kV doc pm cdv ct oc : Value} {an od : Option Addr} {osl : Array (Option Value)}
  (ho : G.K.lookup f = some ⟨oc, od, .func (fnOf name qual params body scope dV kV doc pm an cdv ct), osl⟩) (hcd : codeIn G.K cdv qual = true) (rm : Γ.Room (d + 1))
  (rd : VRs dv ds) (hb : ∀ us, us.length = vs.length -> ∀ s : Shared, G.K.In s.heap -> BindsTo s (fnOf name qual params body scope dV kV doc pm an cdv ct) ⟨us, []⟩ (names.zip (us ++ ds)))
  (hn : names.Nodup) (hl : (names.all fun x => scope.names.lookup x == some .local) = true)
  (h : ∀ A A₀ base g outer L, (⟨A, A₀, base, g, outer, qual, scope, L, f, cdv, []⟩ : Amb).Room d ->
   W G ⟨A, A₀, base, g, outer, qual, scope, L, f, cdv, []⟩ FRl (execs body (envX qual scope L f cdv [])) (fun fl σ' n_ => Q (Zgj fl) σ' m) σ (names.zip (vs ++ dv)))
  (hco : scope.isCoroutine = false) (hgen : scope.isGenerator = false) (hk : scope.kind = .function) (hcell : (scope.names.all fun x => decide (x.2 ≠ .cell)) = true) : FC G Γ (.ref f) vs Q σ m := fun us r => Zbi fun s hR Q' k => by
 have hR₀ := hR
 refine o20 hR fun ok r1 => ?_; clear hR; refine o62 r1 fun mv news F N l sr => ?_; clear r1
 refine wpAny_call ?_
 have rlen := r.len
 refine o40 (groundX (R := fun r s' => match r with | .ok (.ret v) => Q' v s' | .ok _ => False | .error e => False) ok.B F N ok.fr rfl ok.kind) fun FG BG st lv => ?_
 refine codeAny_mono (R := fun r s' => match r with | .ok (.ret v) => Q' v s' | .ok _ => False | .error e => False) ?_ (fun r s' z => by rcases r with e | (v | _ | _ | _) <;> exact z)
 refine codeAny_call_def (fd := fnOf name qual params body scope dV kV doc pm an cdv ct) (body := body) (binds := names.zip (us ++ ds)) (by have := rm.dep; omega) (hR₀.K _ _ ho) rfl (ok.T.nolimit.keeps F.keep) (codeRec_of hR₀.K hcd) rfl (hb us rlen s hR₀.K)
  (fun x hx => of_decide_eq_true (Zq4.mp hcell x hx)) (fun y hy => ?_) (fun h₁ hns hk1 => ?_) hco hgen hk
 ·have := (Zr6 hy).1
  have := Zq4.mp hl _ this
  simpa using this
 ·have F' : Fr (hideAll s.heap (news.map (·.1))) s.heap.objs.size h₁ (fun y => (names.zip (us ++ ds)).reverse.lookup y) := ⟨hns, fun b o e => hk1 b o (of_hideAll _ e), ZrS (hideAll_size _ _)⟩
  have N' : News (hideAll s.heap (news.map (·.1))) s.heap.objs.size h₁ news := fun p hp => ⟨hk1 _ _ (N p hp).1, Zrd (Heap.lt_size (N p hp).1), hideAll_none _ (ZqL hp)⟩
  have hΓ : (⟨Γ.A.deeper (envX qual scope s.heap.objs.size f cdv []), Γ.A, Γ.base, hideAll s.heap (news.map (·.1)), Γ.env :: Γ.outer, qual, scope, s.heap.objs.size, f, cdv, []⟩ : Amb).Ok G :=
   ⟨BG, ok.X.keeps st, ok.T.keeps st, by refine (?_ : (Γ.A.frames.map _) = _); refine rE ok.fr ?_; rfl, hk, ok.hd, by refine (?_ : Γ.A.units + 3 + 200 < cLine); have := rm.uni; omega, fun a o e => (by (refine o31 (ok.S a o e) fun ob h r => ?_); exact ⟨ob, st _ _ h, r⟩)⟩
  have hRoom : (⟨Γ.A.deeper (envX qual scope s.heap.objs.size f cdv []), Γ.A, Γ.base, hideAll s.heap (news.map (·.1)), Γ.env :: Γ.outer, qual, scope, s.heap.objs.size, f, cdv, []⟩ : Amb).Room d :=
   ⟨by refine (?_ : Γ.A.depth + 1 + d < _); have := rm.dep; omega, by refine (?_ : Γ.A.units + 3 + 8 * d + 200 < _); have := rm.uni; omega⟩
  have hR' : R G ⟨Γ.A.deeper (envX qual scope s.heap.objs.size f cdv []), Γ.A, Γ.base, hideAll s.heap (news.map (·.1)), Γ.env :: Γ.outer, qual, scope, s.heap.objs.size, f, cdv, []⟩ σ (names.zip (vs ++ dv)) h₁ :=
   ⟨hΓ, _, news, F', N', ZnA names _ _ hn (r.append rd), sr⟩
  refine wpAny_mono (h _ _ _ _ _ _ hRoom { s with heap := h₁, toks := s.toks + (names.zip (us ++ ds)).length } hR') (fun fl s' hp => ?_) fun n_ n_ x => x.elim
  refine o20 hp fun y0 r1 => ?_; clear hp; obtain ⟨h', tk, e⟩ := y0; refine o73 r1 fun b σ' m' rb q kp z => ?_; clear r1
  subst e
  refine o20 q fun ok' r1 => ?_; clear q; refine o62 r1 fun mv' news' F'' N'' l' sr' => ?_; clear r1
  refine lv _ _ (leaveK_ F'' N'' fun Fa N2 => ?_)
  have hx := Zg0 rb
  refine k _ _ h' tk σ' m (by induction fl <;> exact hx) ⟨ok, mv, news', Fa, N2, l, sr'⟩ ⟨fun b o hb e1 e2 => ?_, fun b hb e1 => ?_⟩ z
  ·exact kp.keep b o (Zrd (Heap.lt_size e2)) e1 (hk1 b o e2)
  ·by_cases hbL : b = s.heap.objs.size
   ·right
    induction q : s.heap.get? b with
    | none => rfl
    | some o => exact absurd (Heap.lt_size q) (by refine rE hbL ?_; exact Zq8 _)
   ·rcases kp.new b hbL e1 with w | w
    ·exact .inl w
    ·right
     induction q : s.heap.get? b with
     | none => rfl
     | some o => rw [hk1 b o q] at w; exact nB w
end
end Nz
namespace Nz
open PySem PySem.W PySem.Calls PyProof.Rows
section
variable {G : Glo} {Γ : Amb} {σ : Sig} {m : Loc}
noncomputable def ZhD (I : Sig -> Loc -> Prop) (Q : AF -> Sig -> Loc -> Prop) : AF -> Sig -> Loc -> Prop
 | .next => I
 | .cont => I
 | .brk => Q .next
 | .ret v => Q (.ret v)
theorem ZdA {test : Expr} {body : List Stmt} {pos : Pos} {Q : AF -> Sig -> Loc -> Prop} (I : Nat -> Sig -> Loc -> Prop) (n : Nat) (hI : I n σ m)
  (turn : ∀ n σ m, I n σ m -> W G Γ Eq (isTrue test Γ.env (eval test Γ.env)) (fun b σ₁ mc => if b then W G Γ FRl (execs body Γ.env) (ZhD (fun σ₂ md => ∃ k, k < n /\ I k σ₂ md) Q) σ₁ mc else Q .next σ₁ mc) σ m) :
  W G Γ FRl (exec (.While test body [] pos) Γ.env) Q σ m := Zbi fun s hR Q' k => by
 refine wpAny_While (codeAny_whileLoop (fun n s' => ∃ h' tk σ' m', s' = { s with heap := h', toks := tk } /\ R G Γ σ' m' h' /\ Kp Γ.L σ σ' s.heap h' /\ I n σ' m') ?_ n ⟨s.heap, s.toks, σ, m, rfl, hR, .refl, hI⟩)
 rintro n s' ⟨h₁, tk1, σ₁, mc, rfl, hR₁, kp₁, hI1⟩
 refine (turn n σ₁ mc hI1).use (s := { s with heap := h₁, toks := tk1 }) hR₁ fun b b' h₂ tka σ₂ md r hR₂ kp₂ z => ?_
 subst r
 have kp₂ := kp₁.trans kp₂
 induction b' with
 | false => exact wpAny_execs_nil (k .next .next h₂ tka σ₂ md rfl hR₂ kp₂ z)
 | true =>
  refine W.use (s := { s with heap := h₂, toks := tka }) z hR₂ fun f f' h₃ tk3 σ₃ me r hR₃ kp₃ z => ?_
  have kp₃ := kp₂.trans kp₃
  induction f' with
  | next => subst r; (refine o31 z ?_; clear z; intro j hj z); exact e31 j hj ⟨h₃, tk3, σ₃, me, rfl, hR₃, kp₃, z⟩
  | cont => subst r; (refine o31 z ?_; clear z; intro j hj z); exact e31 j hj ⟨h₃, tk3, σ₃, me, rfl, hR₃, kp₃, z⟩
  | brk => subst r; exact k .next .next h₃ tk3 σ₃ me rfl hR₃ kp₃ z
  | ret v => (refine o31 r ?_; clear r; intro u y1 r; subst y1); exact k (.ret u) (.ret v) h₃ tk3 σ₃ me ⟨u, rfl, r⟩ hR₃ kp₃ z
theorem R.ext {h h' : Heap} (hR : R G Γ σ m h) {I : Addr} (hI : σ I = none) (hL : I ≠ Γ.L) (hb : Γ.h₀.get? I = none) (he : Heap.ExtBut I h h') : R G Γ σ m h' := by
 refine o20 hR fun ok r1 => ?_; clear hR; refine o62 r1 fun mv news F N l sr => ?_; clear r1
 refine ⟨ok, mv, news.filter (fun p => decide (p.1 ≠ I)), ⟨F.ns.extBut he (Ne.symm hL), fun b x e => he b x (fun q => by rw [q, hb] at e; exact nA e) (F.keep b x e), F.above⟩, fun p hp => ?_, l, fun a o e => ?_⟩
 ·refine o20 (Zrg.mp hp) fun hp hd => ?_
  exact ⟨he _ _ (of_decide_eq_true hd) (N p hp).1, (N p hp).2⟩
 ·refine o31 (sr a o e) fun ob hm r => ?_
  exact e31 ob (Zrg.mpr ⟨hm, decide_eq_true fun q : a = I => by rw [q, hI] at e; exact nA e⟩) r
structure Steps (G : Glo) (Γ : Amb) (I : Addr) (n : Nat) (item : Nat -> AV) (J : Sig -> Prop) (It : Nat -> Heap -> Prop) : Prop where
 there : ∀ i h, It i h -> ∃ o, h.get? I = some o
 keep : ∀ i h h', It i h -> (∀ o, h.get? I = some o -> h'.get? I = some o) -> It i h'
 next : ∀ i (s₁ : Shared) (Q : Option Value -> Shared -> Prop) σ' m', i < n -> It i s₁.heap -> R G Γ σ' m' s₁.heap -> J σ' ->
  (∀ v h' tk, VR (item i) v -> It (i + 1) h' -> Heap.SameBut I s₁.heap h' -> Q (some v) { s₁ with heap := h', toks := tk }) -> wpAny (model G.prog G.w) Γ.A (pyNext (.ref I)) Q (fun n_ n_ => False) s₁
 stop : ∀ (s₁ : Shared) (Q : Option Value -> Shared -> Prop) σ' m', It n s₁.heap -> R G Γ σ' m' s₁.heap -> J σ' ->
  (∀ h' tk, Heap.ExtBut I s₁.heap h' -> Q none { s₁ with heap := h', toks := tk }) -> wpAny (model G.prog G.w) Γ.A (pyNext (.ref I)) Q (fun n_ n_ => False) s₁
noncomputable def Goes (G : Glo) (Γ : Amb) (x : Value) (n : Nat) (item : Nat -> AV) (J : Sig -> Prop) (σ : Sig) (m : Loc) : Prop :=
 ∀ s (Q : Value -> Shared -> Prop), R G Γ σ m s.heap ->
  (∀ (ob : Obj) (It : Nat -> Heap -> Prop), ob.isFreed = false -> Steps G Γ s.heap.objs.size n item J It -> It 0 (s.heap.push ob) -> Q (.ref s.heap.objs.size) { s with heap := s.heap.push ob }) ->
  wpAny (model G.prog G.w) Γ.A (pyIter x) Q (fun n_ n_ => False) s
theorem Zo6 {x : Str} {px pos : Pos} {iter : Expr} {body : List Stmt} {Q : AF -> Sig -> Loc -> Prop}
  (h : W G Γ VR (eval iter Γ.env) (fun b σ₁ mc => ∃ n item J, ∃ Inv : Nat -> Sig -> Loc -> Prop, (∀ u, VR b u -> Goes G Γ u n item J σ₁ mc) /\ Inv 0 σ₁ mc /\ (∀ i σ' m', Inv i σ' m' -> J σ') /\
   (∀ i σ' m', i < n -> Inv i σ' m' -> W G Γ FRl (execs body Γ.env) (ZhD (Inv (i + 1)) Q) σ' (put x (item i) m')) /\ ∀ σ' m', Inv n σ' m' -> Q .next σ' m') σ m)
  (hx : Γ.env.kindOf x = some .local := by rfl) (hs : ∀ x, foldedSetIterable iter Γ.env x = pure x := by intro n_; rfl) : W G Γ FRl (exec (.For (.Name x px) iter body [] pos) Γ.env) Q σ m := Zbi fun s hR Q' k => by
 refine wpAny_For (h.use hR fun a b h₁ tk1 σ₁ mc r hR₁ kp₁ z => ?_) hs
 refine o84 z fun n item J Inv go h0 hJ r7 => ?_; clear z; refine o20 r7 fun turn done => ?_; clear r7
 refine go a r { s with heap := h₁, toks := tk1 } _ hR₁ fun ob It hf St it0 => ?_
 dsimp only at St it0 ⊢
 have ok := hR.ok
 obtain ⟨hI1, hI2⟩ : σ₁ h₁.objs.size = none /\ h₁.objs.size ≠ Γ.L := by
  refine ⟨?_, ?_⟩
  ·induction q : σ₁ h₁.objs.size with
   | none => rfl
   | some o => (refine o31 (hR₁.get q) fun ob ho n_ => ?_); exact absurd (Heap.lt_size ho) (Zq8 _)
  ·refine o20 hR₁ fun n_ r1 => ?_; clear hR₁; refine o42 r1 fun n_ n_ F n_ => ?_; clear r1
   exact Zrx F.ns.lt
 have hI3 : Γ.h₀.get? h₁.objs.size = none := by (refine o20 hR₁ fun n_ r1 => ?_; clear hR₁; refine o42 r1 fun n_ n_ F n_ => ?_; clear r1); exact F.fresh
 refine o20 (hR₁.pushed hf) fun hR₂ kp₂ => ?_
 generalize hI : h₁.objs.size = I at *
 have hIn : h₁.get? I = none := by
  induction q : h₁.get? I with
  | none => rfl
  | some o => exact absurd (Heap.lt_size q) (by refine rE hI ?_; exact Zq8 _)
 refine codeAny_forLoop (fun k' s' => ∃ i h' tk σ' m', s' = { s with heap := h', toks := tk } /\ i <= n /\ k' = n + 1 - i /\ R G Γ σ' m' h' /\ Kp Γ.L σ₁ σ' h₁ h' /\ σ' I = none /\ It i h' /\ Inv i σ' m') ?_ (n + 1)
  ⟨0, _, tk1, σ₁, mc, rfl, Zrq _, rfl, hR₂, kp₂, hI1, it0, h0⟩
 rintro k' s' ⟨i, h', tk, σ', m', rfl, hi, rfl, hR', kp', hI', hit, hinv⟩
 by_cases hlt : i < n
 ·refine wpAny_mono (E := fun n_ n_ => False) (St.next i { s with heap := h', toks := tk } _ σ' m' hlt hit hR' (hJ _ _ _ hinv) fun v h₂ tka rv hit2 hs₂ => ?_) (fun n_ n_ z => z) fun n_ n_ x => x.elim
  dsimp only
  have hR₃ : R G Γ σ' m' h₂ := hR'.ext hI' hI2 hI3 hs₂.extBut
  have kp₃ : Kp Γ.L σ₁ σ' h₁ h₂ := ⟨fun b o hb e1 e2 => hs₂.extBut b o (fun q => by rw [q, hIn] at e2; exact nA e2) (kp'.keep b o hb e1 e2), kp'.new⟩
  refine wpAny_assign_Name (W.use (s := { s with heap := h₂, toks := tka }) (Zex (Q := fun n_ σ₃ me => σ₃ = σ' /\ me = put x (item i) m') rv ⟨rfl, rfl⟩ hx) hR₃ fun n_ n_ h₃ tk3 σ₃ me n_ hR₄ kp₄ z => ?_)
  refine o20 z fun y0 y1 => ?_; clear z; subst y0; subst y1
  refine o21 (St.there _ _ hit2) fun oI hoI => ?_
  have hoI3 := kp₄.keep I oI hI2 hI' hoI
  refine W.use (s := { s with heap := h₃, toks := tk3 }) (turn i _ _ hlt hinv) hR₄ fun f f' h₅ tk5 σ₅ mh rf hR₅ kp₅ z => ?_
  have kpa := (kp₃.trans kp₄).trans kp₅
  have hoI5 := kp₅.keep I oI hI2 hI' hoI3
  have hI5 : σ₅ I = none := by
   induction q : σ₅ I with
   | none => rfl
   | some o =>
    rcases kp₅.new I hI2 (by refine rE q ?_; exact Zrp _) with w | w
    ·exact absurd hI' w
    ·have w : h₃.get? I = none := w
     rw [hoI3] at w; exact nB w
  have hit5 : It (i + 1) h₅ := St.keep _ _ _ hit2 fun o e => by
   rw [hoI] at e; obtain rfl := ZqC e; exact hoI5
  induction f' with
  | next => subst rf; exact e31 (n + 1 - (i + 1)) (sA hlt) ⟨i + 1, h₅, tk5, σ₅, mh, rfl, hlt, rfl, hR₅, kpa, hI5, hit5, z⟩
  | cont => subst rf; exact e31 (n + 1 - (i + 1)) (sA hlt) ⟨i + 1, h₅, tk5, σ₅, mh, rfl, hlt, rfl, hR₅, kpa, hI5, hit5, z⟩
  | brk => subst rf; exact k .next .next h₅ tk5 σ₅ mh rfl hR₅ (kp₁.trans kpa) z
  | ret v => (refine o31 rf fun u y1 r => ?_; clear rf; subst y1); exact k (.ret u) (.ret v) h₅ tk5 σ₅ mh ⟨u, rfl, r⟩ hR₅ (kp₁.trans kpa) z
 ·have hin : i = n := by omega
  subst hin
  refine wpAny_mono (E := fun n_ n_ => False) (St.stop { s with heap := h', toks := tk } _ σ' m' hit hR' (hJ _ _ _ hinv) fun h₂ tka he => ?_) (fun n_ n_ z => z) fun n_ n_ x => x.elim
  dsimp only
  have hR₃ : R G Γ σ' m' h₂ := hR'.ext hI' hI2 hI3 he
  have kp₃ : Kp Γ.L σ₁ σ' h₁ h₂ := ⟨fun b o hb e1 e2 => he b o (fun q => by rw [q, hIn] at e2; exact nA e2) (kp'.keep b o hb e1 e2), kp'.new⟩
  exact wpAny_execs_nil (k .next .next h₂ tka σ' m' rfl hR₃ (kp₁.trans kp₃) (done _ _ hinv))
theorem Zeb {a : Addr} {l : List AV} {σ₀ : Sig} {m₀ : Loc} (eh : Sees G σ₀ a (.lst l)) : Goes G Γ (.ref a) l.length (fun i => l.getD i .none) (fun σ => Sees G σ a (.lst l)) σ₀ m₀ := fun s Q hR k => by
 refine o31 (hR.isList eh) fun vs hl r => ?_
 refine wpAny_pyIter_list hl (k _ (fun i h => h.IsListIter s.heap.objs.size a i) rfl ⟨fun i h hp => (by (refine o31 hp fun o ho n_ => ?_; clear hp); exact ⟨o, ho⟩), fun i h h' x hk => ?_, fun i s₁ Q' σ' m' hi hit hR' e kk => ?_, fun s₁ Q' σ' m' hit hR' e kk => ?_⟩ ⟨_, Heap.get?_push_size _ rfl, rfl, rfl⟩)
 ·refine o31 x fun o ho r => ?_; clear x; exact e31 o (hk o ho) r
 ·refine o31 (hR'.isList e) fun vs' hl' r' => ?_
  have hv : l[i]? = some (l.getD i .none) := by (refine rE ZqE (rE (ZqA hi) ?_)); rfl
  refine o31 (r'.at hv) fun u hu ru => ?_
  exact wpAny_pyNext_list_item hit hl' (x := u) (by simpa using hu) fun h' hit' hs' => kk u h' s₁.toks ru hit' hs'
 ·refine o31 (hR'.isList e) fun vs' hl' r' => ?_
  exact wpAny_pyNext_list_end hR'.ok.hd hit hl' (by simp [r'.len]) fun h' he => kk h' s₁.toks he
noncomputable def signs (x : Str) : List AV := x.cps.toList.map fun c => .str ⟨#[c]⟩
theorem ZjS {x : Str} {i : Nat} (hi : i < (signs x).length) : ∃ c, x.cps[i]? = some c /\ (signs x).getD i .none = .str ⟨#[c]⟩ := by
 unfold signs at hi ⊢
 rw [Zqt, Zr7] at hi
 refine e31 (x.cps[i]) (by simp [hi]) ?_
 refine rE ZqE (rE Zq0 ?_)
 simp [hi]
theorem Znk {x : Str} {t : Tok} {σ₀ : Sig} {m₀ : Loc} : Goes G Γ (.str x t) (signs x).length (fun i => (signs x).getD i .none) (fun n_ => True) σ₀ m₀ := fun s Q hR k => by
 have hlen : (signs x).length = x.cps.size := by unfold signs; (refine rE (Zqt _) ?_; exact rE Zr7 rfl)
 cases ha : x.cps.all (· < 128)
 ·refine wpAny_pyIter_wide ha (k _ (fun i h => h.IsStrIter s.heap.objs.size "str_iterator" x t i) rfl ⟨fun i h hp => (by (refine o31 hp fun o ho n_ => ?_; clear hp); exact ⟨o, ho⟩), fun i h h' y hk => ?_, fun i s₁ Q' σ' m' hi hit hR' e kk => ?_, fun s₁ Q' σ' m' hit hR' e kk => ?_⟩ ⟨_, Heap.get?_push_size _ rfl, rfl, rfl⟩)
  ·refine o31 y fun o ho r => ?_; clear y; exact e31 o (hk o ho) r
  ·refine o31 (ZjS hi) fun c hc he => ?_
   exact wpAny_pyNext_wide_item hit hc fun h' hit' hs' => kk _ h' _ (by refine rE he ?_; exact ⟨_, rfl⟩) hit' hs'
  ·exact wpAny_pyNext_wide_end hR'.ok.hd hit (by simp [hlen]) fun h' he => kk h' s₁.toks he
 ·refine wpAny_pyIter_ascii ha (k _ (fun i h => h.IsStrIter s.heap.objs.size "str_ascii_iterator" x t i) rfl ⟨fun i h hp => (by (refine o31 hp fun o ho n_ => ?_; clear hp); exact ⟨o, ho⟩), fun i h h' y hk => ?_, fun i s₁ Q' σ' m' hi hit hR' e kk => ?_, fun s₁ Q' σ' m' hit hR' e kk => ?_⟩ ⟨_, Heap.get?_push_size _ rfl, rfl, rfl⟩)
  ·refine o31 y fun o ho r => ?_; clear y; exact e31 o (hk o ho) r
  ·refine o31 (ZjS hi) fun c hc he => ?_
   exact wpAny_pyNext_ascii_item hit hc fun h' hit' hs' => kk _ h' _ (by refine rE he ?_; exact ⟨_, rfl⟩) hit' hs'
  ·exact wpAny_pyNext_ascii_end hR'.ok.hd hit (by simp [hlen]) fun h' he => kk h' s₁.toks he
theorem ZgQ {r : Addr} {a b c : Int} {n : Nat} {σ₀ : Sig} {m₀ : Loc} (eh : σ₀ r = some (.rng a b c)) (hsmall : Builtin.Range.small a b c = true) (hn : Builtin.Range.rangeSize a b c = n) :
  Goes G Γ (.ref r) n (fun i => .int (a + i * c)) (fun n_ => True) σ₀ m₀ := fun s Q hR k => by
 refine o31 (hR.get eh) fun ob ho r2 => ?_; refine o43 r2 fun t u v y3 => ?_; clear r2; subst y3
 refine wpAny_pyIter_range ho hsmall (k _ (fun i h => IsRangeIter h s.heap.objs.size (a + (i : Nat) * c) ((n : Int) - (i : Nat)) c) rfl ⟨fun i h y => ⟨_, y⟩, fun i h h' y hk => hk _ y, fun i s₁ Q' σ' m' hi hit hR' e kk => ?_, fun s₁ Q' σ' m' hit hR' e kk => ?_⟩ ?_)
 ·refine wpAny_pyNext_range_item hit (by omega) fun h' hit' hs' => kk _ h' _ ⟨_, rfl⟩ ?_ hs'
  have e1 : a + ((i + 1 : Nat) : Int) * c = a + (i : Int) * c + c := by push_cast; (refine rE (Int.add_mul _ _ _) (rE (Int.one_mul _) ?_); exact rE (Int.add_assoc _ _ _) rfl)
  have e2 : (n : Int) - ((i + 1 : Nat) : Int) = (n : Int) - (i : Int) - 1 := by push_cast; omega
  refine (?_ : IsRangeIter h' _ (a + ((i + 1 : Nat) : Int) * c) ((n : Int) - ((i + 1 : Nat) : Int)) c)
  refine rE e1 (rE e2 ?_); exact hit'
 ·exact wpAny_pyNext_range_end hR'.ok.hd hit (by omega) fun h' he => kk h' s₁.toks he
 ·have e1 : a + ((0 : Nat) : Int) * c = a := by simp
  have e2 : (n : Int) - ((0 : Nat) : Int) = n := by simp
  refine (?_ : IsRangeIter _ _ (a + ((0 : Nat) : Int) * c) ((n : Int) - ((0 : Nat) : Int)) c)
  refine rE e1 (rE e2 (rS hn ?_))
  exact Heap.get?_push_size _ rfl
theorem ZoT {r : Addr} {n : Nat} {σ₀ : Sig} {m₀ : Loc} (eh : σ₀ r = some (.rng 0 n 1)) (hz : n <= sizeLine) : Goes G Γ (.ref r) n (fun i => .int i) (fun n_ => True) σ₀ m₀ := by
 rw [sizeLine_eq] at hz
 have hn : Builtin.Range.rangeSize 0 n 1 = n := by
  unfold Builtin.Range.rangeSize
  rewrite [if_pos (by decide)]; refine rE (ZsO _) ?_
  split <;> omega
 have z := ZgQ (G := G) (Γ := Γ) (m₀ := m₀) eh (by
  unfold Builtin.Range.small
  refine rE hn ?_
  unfold Builtin.Range.rangeFitsLong
  simp
  omega) hn
 have : (fun i : Nat => AV.int (0 + i * 1)) = fun i : Nat => AV.int i := by funext i; simp
 rw [this] at z; exact z
theorem Zfo {r : Addr} {n : Nat} {σ₀ : Sig} {m₀ : Loc} (eh : σ₀ r = some (.rng ((n : Int) - 1) (-1) (-1))) (hz : n <= sizeLine) : Goes G Γ (.ref r) n (fun i => .int ((n : Int) - 1 - i)) (fun n_ => True) σ₀ m₀ := by
 rw [sizeLine_eq] at hz
 have hn : Builtin.Range.rangeSize ((n : Int) - 1) (-1) (-1) = n := by
  unfold Builtin.Range.rangeSize
  rw [if_neg (by decide)]
  refine (?_ : (if (n : Int) - 1 > -1 then ((n : Int) - 1 - -1 - 1) / 1 + 1 else 0) = _)
  refine rE (ZsO _) ?_
  split <;> omega
 have z := ZgQ (G := G) (Γ := Γ) (m₀ := m₀) eh (by
  unfold Builtin.Range.small
  refine rE hn ?_
  unfold Builtin.Range.rangeFitsLong
  simp
  omega) hn
 have : (fun i : Nat => AV.int ((n : Int) - 1 + i * -1)) = fun i : Nat => AV.int ((n : Int) - 1 - i) := by funext i; congr 1; omega
 rw [this] at z; exact z
theorem ZdU {n : Int} {Q : AV -> Sig -> Loc -> Prop} (h : ∀ r, σ r = none -> Q (.ref r) (σ.set r (.rng 0 n 1)) m) : FC G Γ (.type "range") [.int n] Q σ m := fun us r => Zbi fun s hR Q' k => by
 cases r with
 | cons r rs =>
 cases rs
 refine o21 r fun t y1 => ?_; clear r; subst y1
 refine o30 (hR.push (o := .rng 0 n 1) (ob := { cls := .type "range", data := .fields #[.int 0 s.toks, .int n t, .int 1 (s.toks + 1)] }) rfl ⟨_, _, _, rfl⟩) fun e hR' kp => ?_
 exact call_range_1 (k _ (.ref _) _ _ _ _ rfl hR' kp (h _ e))
theorem Zf5 {a b : Int} {Q : AV -> Sig -> Loc -> Prop} (h : ∀ r, σ r = none -> Q (.ref r) (σ.set r (.rng a b (-1))) m) : FC G Γ (.type "range") [.int a, .int b, .int (-1)] Q σ m := fun us r => Zbi fun s hR Q' k => by
 cases r with
 | cons r rs =>
 cases rs with
 | cons rg rs =>
 cases rs with
 | cons rh rs =>
 cases rs
 refine o21 r fun t y1 => ?_; clear r; subst y1
 refine o21 rg fun u y1 => ?_; clear rg; subst y1
 refine o21 rh fun v y1 => ?_; clear rh; subst y1
 refine o30 (hR.push (o := .rng a b (-1)) (ob := { cls := .type "range", data := .fields #[.int a t, .int b u, .int (-1) v] }) rfl ⟨_, _, _, rfl⟩) fun e hR' kp => ?_
 exact call_range_3 (by decide) (k _ (.ref _) _ _ _ _ rfl hR' kp (h _ e)) (Or.inl (PyProof.noPylong_small (by decide)))
end
end Nz
namespace Nz
open PySem PySem.W PySem.Calls PyProof.Rows
section
variable {G : Glo} {Γ : Amb} {σ : Sig} {m : Loc}
theorem VRs.one {a : AV} {us : List Value} (h : VRs [a] us) : ∃ u, us = [u] /\ VR a u := by cases h with | cons r rs => cases rs; exact e31 _ rfl r
theorem VRs.two {a b : AV} {us : List Value} (h : VRs [a, b] us) : ∃ u v, us = [u, v] /\ VR a u /\ VR b v := by
 cases h with | cons r rs => (refine o31 rs.one fun v y1 r' => ?_; subst y1); exact e52 _ v rfl r r'
theorem VRs.three {a b c : AV} {us : List Value} (h : VRs [a, b, c] us) : ∃ u v w, us = [u, v, w] /\ VR a u /\ VR b v /\ VR c w := by
 cases h with | cons r rs => (refine o52 rs.two fun v w y2 r' r'' => ?_; subst y2); exact e73 _ v w rfl r r' r''
theorem Zbw {a : Addr} {l : List AV} {v : AV} {Q : AV -> Sig -> Loc -> Prop} (e : σ a = some (.lst l)) (hz : l.length <= sizeLine) (h : Q .none (σ.set a (.lst (l ++ [v]))) m) : FC G Γ (.builtin "list.append") [.ref a, v] Q σ m := fun us r => Zbi fun s hR Q' k => by
 refine o52 r.two fun x u y2 rx ru => ?_; subst y2
 subst rx
 refine o42 (hR.list e) fun vs n ho r => ?_
 refine append_at (hsz := by (refine rE ZqM (rE r.len ?_)); exact hz) ho fun h' hs ho' => ?_
 refine o20 (hR.turn (o' := .lst (l ++ [v])) e hs ho' ⟨vs ++ [u], n + 1, by simp, r.append (.cons ru .nil)⟩) fun hR' kp => ?_
 exact k _ .none h' s.toks _ _ rfl hR' kp h
theorem Zpv {a : Addr} {l : List AV} {v : AV} {Q : AV -> Sig -> Loc -> Prop} (e : σ a = some (.lst (l ++ [v]))) (hz : l.length < sizeLine) (h : Q v (σ.set a (.lst l)) m) : FC G Γ (.builtin "list.pop") [.ref a] Q σ m := fun us r => Zbi fun s hR Q' k => by
 refine o31 r.one fun x y1 rx => ?_; subst y1
 subst rx
 refine o42 (hR.list e) fun vs n ho r => ?_
 have hl := r.len
 rw [Zqu] at hl
 have hl : vs.length = l.length + 1 := hl
 refine o31 (r.at (i := l.length) (v := v) (by simp)) fun u hu ru => ?_
 have hsz : (Zrf vs).size <= sizeLine := by (refine rE ZqM (rE hl ?_)); exact hz
 refine call_meets PySem.F.slot_list_pop ⟨_, ho, rfl⟩ PySem.F.entry_list_pop (PySem.F.args_list_pop_1 _) (PySem.MeetsSeq.list_pop_last a _ n u (by (refine rE ZqM (rE hl ?_)); simpa using hu) hsz) ⟨ho, ?_⟩
 refine o20 (hR.mapSeq (l' := l) (vs' := vs.take l.length) (f := fun xs => xs.eraseIdxIfInBounds ((Zrf vs).size - 1)) e ho (by
  apply ZrW.mp
  refine rE ZqM (rE hl ?_)
  simp only [ZrQ]
  refine (?_ : vs.eraseIdx (l.length + 1 - 1) = vs.take l.length)
  refine rE (Nat.add_sub_cancel _ _) ?_
  apply ZrD
  intro i
  rw [List.getElem?_eraseIdx, List.getElem?_take]
  by_cases hi : i < l.length
  ·refine rE (if_pos hi) ?_; exact rE (if_pos hi) rfl
  ·refine rE (if_neg hi) (rE (if_neg hi) ?_)
   exact Zq5 (by omega)) (by have := r.take l.length; simpa using this)) fun hR' kp => ?_
 exact k u v _ s.toks _ _ ru hR' kp h
theorem ZfA {a : Addr} {l : List AV} {j : Nat} {i : Int} {v : AV} {Q : AV -> Sig -> Loc -> Prop} (hi : i = j) (e : σ a = some (.lst l)) (hj : j <= l.length) (hz : l.length <= sizeLine) (h : Q .none (σ.set a (.lst (l.take j ++ v :: l.drop j))) m) :
  FC G Γ (.builtin "list.insert") [.ref a, .int i, v] Q σ m := fun us r => Zbi fun s hR Q' k => by
 refine o73 r.three fun x y u y3 rx ry ru => ?_; subst y3
 subst rx
 refine o21 ry fun t y1 => ?_; clear ry; subst y1
 refine o42 (hR.list e) fun vs n ho r => ?_
 have hl := r.len
 have hf : Builtin.List.listFitsIndex i = true := by
  rw [sizeLine_eq] at hz
  unfold Builtin.List.listFitsIndex
  refine rE (Zri _ _) ?_; rw [decide_eq_true_iff, decide_eq_true_iff]
  omega
 refine call_meets PySem.F.slot_list_insert ⟨_, ho, rfl⟩ PySem.F.entry_list_insert (PySem.F.args_list_insert_3 _ _ _) (PySem.AutoSeq1.list_insert_list_int_val_1 a _ n i t u (fun q => by rw [hf] at q; injection q) (by (refine rE ZqM (rE hl ?_)); exact hz)) ⟨ho, ?_⟩
 refine o20 (hR.mapSeq (l' := l.take j ++ v :: l.drop j) (vs' := vs.take j ++ u :: vs.drop j)
  (f := fun xs => (xs.extract 0 (if i < 0 then (i + (xs.size : Int)).toNat else min i.toNat xs.size)).push u ++ xs.extract (if i < 0 then (i + (xs.size : Int)).toNat else min i.toNat xs.size)) e ho (by
  have hk : (if i < 0 then (i + ((Zrf vs).size : Int)).toNat else min i.toNat (Zrf vs).size) = j := by
   rewrite [if_neg (by omega)]; refine rE ZqM (rE hl ?_); omega
  refine rE hk ?_
  exact kl_ins_eq vs j u) ((r.take j).append (.cons ru (r.drop j)))) fun hR' kp => ?_
 exact k .none .none _ s.toks _ _ rfl hR' kp h
noncomputable def nv (n : Nat) : AV := .int n
theorem VRs.nats {l : List Nat} {vs : List Value} (h : VRs (l.map nv) vs) : ∀ i (hi : i < l.length), ∃ t, vs[i]? = some (.int (l[i] : Int) t) := fun i hi => by
 refine o31 (h.at (i := i) (v := nv l[i]) (by rw [Zq0, ZqA hi]; rfl)) fun u hu r2 => ?_; refine o21 r2 fun t y1 => ?_; clear r2; subst y1
 exact ⟨t, hu⟩
noncomputable def isN (x : Nat) : Value -> Bool
 | .int i _ => i == (x : Int)
 | _ => false
theorem ZeE {l : List Nat} {vs : List Value} (h : VRs (l.map nv) vs) (x : Nat) (t : Tok) : ∀ y, y ∈ Zrf vs -> MeetsSeq.EqGives y (.int (x : Int) t) (isN x y) := by
 intro y hy
 have hy : y ∈ vs := by simpa using hy
 refine o21 (Zr3.mp hy) fun i r1 => ?_; refine o21 r1 fun hi y1 => ?_; clear r1; subst y1
 have hl := h.len
 rw [Zqt] at hl
 refine o21 (h.nats i (by omega)) fun t' ht => ?_
 rw [ZqA hi] at ht
 refine rE (ZqC ht) ?_
 exact MeetsSeq.EqGives.int _ _ _ _
theorem ZeC {l : List Nat} {vs : List Value} (h : VRs (l.map nv) vs) (x i : Nat) (hi : i < vs.length) : isN x vs[i] = (l[i]? == some x) := by
 have hl := h.len
 rw [Zqt] at hl
 refine o21 (h.nats i (by omega)) fun t' ht => ?_
 rw [ZqA hi] at ht
 refine rE (ZqC ht) ?_; rw [ZqA (by omega)]
 refine (?_ : ((l[i] : Int) == (x : Int)) = (some l[i] == some x))
 by_cases e : l[i] = x
 ·refine rE e ?_; simp
 ·have : ¬ (l[i] : Int) = x := by omega
  refine rE (beq_eq_false_iff_ne.mpr this) ?_; rw [beq_eq_false_iff_ne.mpr (fun q => e (ZqC q))]
theorem Zg2 {a : Addr} {l : List Nat} {x : Nat} {A B : Value} {Q : AV -> Sig -> Loc -> Prop} (e : Sees G σ a (.lst (l.map nv))) (ra : VR (.ref a) A) (rb : VR (.int x) B) (h : Q (.bool (decide (x ∈ l))) σ m) : W G Γ VR (compareOp .In B A) Q σ m :=
 Zbi fun s hR Q' k => by
  subst ra
  refine o21 rb fun t y1 => ?_; clear rb; subst y1
  refine o31 (hR.isList e) fun vs hl r => ?_
  refine SeqInW.in_listW (isN x) (ZeE r x t) hl (k _ (.bool (decide (x ∈ l))) s.heap s.toks σ m ?_ hR .refl h)
  refine (?_ : Value.bool _ = Value.bool _)
  congr 1
  rw [ZsA, decide_eq_true_iff, Array.any_eq_true]
  have hlen := r.len
  rw [Zqt] at hlen
  constructor
  ·rintro ⟨i, hi, hx⟩
   rw [ZqM] at hi
   have hx : isN x vs[i] = true := by simpa using hx
   rw [ZeC r x i hi] at hx
   exact ZrF (beq_iff_eq.mp hx)
  ·intro hx
   refine o21 (Zr3.mp hx) fun i r1 => ?_; refine o21 r1 fun hi e => ?_; clear r1
   refine ⟨i, by refine rE ZqM ?_; omega, ?_⟩
   have : isN x vs[i] = true := by (rewrite [ZeC r x i (by omega)]; refine rE (ZqA hi) (rE e ?_)); simp
   simpa using this
theorem Zb4 : ∀ {l : List Nat} {x : Nat}, x ∈ l -> l.idxOf x < l.length /\ l[l.idxOf x]? = some x /\ ∀ i, i < l.idxOf x -> l[i]? ≠ some x := by
 refine @Zbv _ _ ?_ ?_
 ·intro x h
  exact noH h
 ·intro y r ih x h
  by_cases e : y = x
  ·subst e
   refine rE ZsE ?_
   exact ⟨Nat.succ_pos _, rfl, fun i hi => absurd hi (Nat.not_lt_zero _)⟩
  ·have hr : x ∈ r := by
    rcases ZqD.mp h with q | q
    ·exact absurd q.symm e
    ·exact q
   refine o30 (ih hr) fun h1 h2 h3 => ?_
   rw [show (y :: r).idxOf x = r.idxOf x + 1 from by (refine rE List.idxOf_cons (rE (beq_eq_false_iff_ne.mpr e) ?_)); rfl]
   refine ⟨Nat.succ_lt_succ h1, h2, fun i hi => ?_⟩
   induction i using Zd9 with
   | zero => intro q; exact e (ZqC q)
   | succ i => exact h3 i (Zsz hi)
theorem ZcB {α β : Type} (f : α -> β) : ∀ (l : List α) (i : Nat), (l.map f).eraseIdx i = (l.eraseIdx i).map f
 | [], _ => rfl
 | _ :: _, 0 => rfl
 | x :: r, i + 1 => by
  refine (?_ : f x :: (r.map f).eraseIdx i = f x :: (r.eraseIdx i).map f)
  exact rE (ZcB f r i) rfl
theorem ZmL {a : Addr} {l : List Nat} {x : Nat} {Q : AV -> Sig -> Loc -> Prop} (e : σ a = some (.lst (l.map nv))) (hx : x ∈ l) (hz : l.length <= sizeLine) (h : Q (.int (l.idxOf x : Nat)) σ m) : FC G Γ (.builtin "list.index") [.ref a, .int x] Q σ m := fun us r => Zbi fun s hR Q' k => by
 refine o52 r.two fun y u y2 ry r4 => ?_; subst y2; refine o21 r4 fun t y1 => ?_; clear r4; subst y1
 subst ry
 refine o42 (hR.list e) fun vs n ho r => ?_
 have hlen := r.len
 rw [Zqt] at hlen
 refine o30 (Zb4 hx) fun h1 h2 h3 => ?_
 rw [sizeLine_eq] at hz
 refine call_meets PySem.F.slot_list_index ⟨_, ho, rfl⟩ PySem.F.entry_list_index (PySem.F.args_list_index_2 _ _)
  (MeetsSeq.list_index a _ n (.int x t) (isN x) (ZeE r x t) (l.idxOf x) (by refine rE ZqM ?_; omega) (by omega) ?_ (fun i hi hlt => ?_)) ⟨ho, k _ (.int (l.idxOf x : Nat)) s.heap _ σ m ⟨_, rfl⟩ hR .refl h⟩
 ·refine (?_ : isN x vs[l.idxOf x] = true)
  rewrite [ZeC r x _ (by omega)]; refine rE h2 ?_; simp
 ·rw [ZqM] at hi
  refine (?_ : isN x vs[i] = false)
  refine rE (ZeC r x _ hi) ?_
  exact beq_eq_false_iff_ne.mpr (h3 i hlt)
theorem Zgb {a : Addr} {l : List Nat} {x : Nat} {Q : AV -> Sig -> Loc -> Prop} (e : σ a = some (.lst (l.map nv))) (hx : x ∈ l) (hz : l.length <= sizeLine) (h : Q .none (σ.set a (.lst ((l.erase x).map nv))) m) : FC G Γ (.builtin "list.remove") [.ref a, .int x] Q σ m := fun us r => Zbi fun s hR Q' k => by
 refine o52 r.two fun y u y2 ry r4 => ?_; subst y2; refine o21 r4 fun t y1 => ?_; clear r4; subst y1
 subst ry
 refine o42 (hR.list e) fun vs n ho r => ?_
 have hlen := r.len
 rw [Zqt] at hlen
 refine o30 (Zb4 hx) fun h1 h2 h3 => ?_
 refine call_meets PySem.F.slot_list_remove ⟨_, ho, rfl⟩ PySem.F.entry_list_remove (PySem.F.args_list_remove_2 _ _)
  (MeetsSeq.list_remove a _ n (.int x t) (isN x) (ZeE r x t) (l.idxOf x) (by refine rE ZqM ?_; omega) ?_ (fun i hi hlt => ?_) (by (refine rE ZqM (rE hlen ?_)); exact hz)) ⟨ho, ?_⟩
 ·refine (?_ : isN x vs[l.idxOf x] = true)
  rewrite [ZeC r x _ (by omega)]; refine rE h2 ?_; simp
 ·rw [ZqM] at hi
  refine (?_ : isN x vs[i] = false)
  refine rE (ZeC r x _ hi) ?_
  exact beq_eq_false_iff_ne.mpr (h3 i hlt)
 ·refine o20 (hR.mapSeq (l' := (l.erase x).map nv) (vs' := vs.eraseIdx (l.idxOf x)) (f := fun xs => xs.eraseIdxIfInBounds (l.idxOf x)) e ho (by
   apply ZrW.mp
   simp [ZrQ]) (by
   have := r.erase (l.idxOf x)
   rwa [ZcB, <- List.erase_eq_eraseIdx_of_idxOf rfl] at this)) fun hR' kp => ?_
  exact k .none .none _ s.toks _ _ rfl hR' kp h
theorem Zlz {a : Addr} {l : List AV} {i : Int} {j : Nat} {v : AV} {A B C : Value} {Q : Unit -> Sig -> Loc -> Prop} (hi : i = j) (e : σ a = some (.lst l)) (hj : j < l.length) (hz : l.length <= sizeLine) (ra : VR (.ref a) A) (rb : VR (.int i) B) (rc : VR v C)
  (h : Q () (σ.set a (.lst (l.set j v))) m) : W G Γ UR (setItem A B C) Q σ m :=
 Zbi fun s hR Q' k => by
  subst ra
  refine o21 rb fun t y1 => ?_; clear rb; subst y1
  subst hi
  refine o42 (hR.list e) fun vs n ho r => ?_
  have hlen := r.len
  rw [sizeLine_eq] at hz
  refine ki_setAt ho (ZsJ j) (by omega) (by refine rE ZqM ?_; omega) ?_
  refine o20 (hR.mapSeq (l' := l.set j v) (vs' := vs.set j C) (f := fun xs => xs.setIfInBounds (j : Int).toNat C) e ho (by
   apply ZrW.mp
   simp) (r.set j rc)) fun hR' kp => ?_
  exact k () () _ s.toks _ _ trivial hR' kp h
end
end Nz
namespace Nz
open PySem PySem.W PySem.Calls PyProof.Rows
section
variable {G : Glo} {Γ : Amb} {σ : Sig} {m : Loc}
theorem ZoF (a b : Int) : (a == b) = decide (a = b) := by by_cases h : a = b <;> simp [h]
theorem Zoc (a b : Str) : (a == b) = decide (a = b) := by by_cases h : a = b <;> simp [h]
theorem ZnV (a b : Int) : (a != b) = decide (a ≠ b) := by by_cases h : a = b <;> simp [h]
theorem Zol (a b : Str) : (a != b) = decide (a ≠ b) := by by_cases h : a = b <;> simp [h]
noncomputable def opI : CmpOp -> Int -> Int -> Bool
 | .Eq, a, b => decide (a = b)
 | .NotEq, a, b => decide (a ≠ b)
 | .Lt, a, b => decide (a < b)
 | .LtE, a, b => decide (a <= b)
 | .Gt, a, b => decide (a > b)
 | .GtE, a, b => decide (a ≥ b)
 | _, _, _ => false
noncomputable def ZpF : CmpOp -> Bool
 | .Eq | .NotEq | .Lt | .LtE | .Gt | .GtE => true
 | _ => false
theorem Zpq {op : CmpOp} {a b : Int} {A B : Value} {Q : AV -> Sig -> Loc -> Prop} (hop : ZpF op = true) (ra : VR (.int a) A) (rb : VR (.int b) B) (h : Q (.bool (opI op a b)) σ m) : W G Γ VR (compareOp op A B) Q σ m := by
 refine o21 ra fun t y1 => ?_; clear ra; subst y1
 refine o21 rb fun u y1 => ?_; clear rb; subst y1
 refine ZeF (av := .bool (opI op a b)) (fun s Q' k => ?_) h
 have kk := k (.bool (opI op a b)) s.toks rfl
 induction op <;> first | cases hop | skip
 ·exact P.eq_int (by refine rE (ZoF _ _) ?_; exact kk)
 ·exact P.ne_int (by refine rE (ZnV _ _) ?_; exact kk)
 ·exact P.lt_int kk
 ·exact P.le_int kk
 ·exact P.gt_int kk
 ·exact P.ge_int kk
noncomputable def opS : CmpOp -> Str -> Str -> Bool
 | .Eq, a, b => decide (a = b)
 | .NotEq, a, b => decide (a ≠ b)
 | _, _, _ => false
noncomputable def Zpb : CmpOp -> Bool
 | .Eq | .NotEq => true
 | _ => false
theorem ZpO {op : CmpOp} {a b : Str} {A B : Value} {Q : AV -> Sig -> Loc -> Prop} (hop : Zpb op = true) (ra : VR (.str a) A) (rb : VR (.str b) B) (h : Q (.bool (opS op a b)) σ m) : W G Γ VR (compareOp op A B) Q σ m := by
 refine o21 ra fun t y1 => ?_; clear ra; subst y1
 refine o21 rb fun u y1 => ?_; clear rb; subst y1
 refine ZeF (av := .bool (opS op a b)) (fun s Q' k => ?_) h
 have kk := k (.bool (opS op a b)) s.toks rfl
 induction op <;> first | cases hop | skip
 ·exact PyProof.Rows.eq_str (by refine rE (Zoc _ _) ?_; exact kk)
 ·exact PyProof.Rows.ne_str (by refine rE (Zol _ _) ?_; exact kk)
theorem VRs.strs : ∀ {xs : List Str} {vs : List Value}, VRs (xs.map AV.str) vs -> StrsAre vs xs
 | [], _, .nil => .nil
 | x :: xs, _, .cons ⟨t, e⟩ rs => by subst e; exact .cons x t (VRs.strs rs)
theorem Zlh {xs : List Str} {x : Str} : (xs.any (· == x)) = decide (x ∈ xs) := by
 rw [ZsA, ZrX, decide_eq_true_iff]
 constructor
 ·rintro ⟨y, hy, e⟩; refine rS (eq_of_beq e) ?_; exact hy
 ·intro h; exact e31 x h (beq_self_eq_true x)
theorem Zg6 {a : Addr} {xs : List Str} {x : Str} {A B : Value} {Q : AV -> Sig -> Loc -> Prop} (e : Sees G σ a (.tup (xs.map AV.str))) (ra : VR (.ref a) A) (rb : VR (.str x) B) (h : Q (.bool (decide (x ∈ xs))) σ m) : W G Γ VR (compareOp .In B A) Q σ m :=
 ZeX (av := .bool (decide (x ∈ xs))) (fun s Q' hR k => by
  subst ra
  refine o21 rb fun t y1 => ?_; clear rb; subst y1
  refine o31 (hR.isTup e) fun vs hl r => ?_
  exact in_tuple_strs hl (ys := xs) r.strs (by refine rE Zlh ?_; exact k _ s.toks rfl)) h
theorem ZmO {a : Addr} {xs : List Str} {x : Str} {A B : Value} {Q : AV -> Sig -> Loc -> Prop} (e : Sees G σ a (.lst (xs.map AV.str))) (ra : VR (.ref a) A) (rb : VR (.str x) B) (h : Q (.bool (decide (x ∈ xs))) σ m) : W G Γ VR (compareOp .In B A) Q σ m :=
 ZeX (av := .bool (decide (x ∈ xs))) (fun s Q' hR k => by
  subst ra
  refine o21 rb fun t y1 => ?_; clear rb; subst y1
  refine o31 (hR.isList e) fun vs hl r => ?_
  exact in_list_strs hl (ys := xs) r.strs (by refine rE Zlh ?_; exact k _ s.toks rfl)) h
theorem Zjm {a : Addr} {xs : List Str} {x : Str} {A B : Value} {Q : AV -> Sig -> Loc -> Prop} (e : Sees G σ a (.lst (xs.map AV.str))) (ra : VR (.ref a) A) (rb : VR (.str x) B) (h : Q (.bool (!decide (x ∈ xs))) σ m) : W G Γ VR (compareOp .NotIn B A) Q σ m :=
 ZeX (av := .bool (!decide (x ∈ xs))) (fun s Q' hR k => by
  subst ra
  refine o21 rb fun t y1 => ?_; clear rb; subst y1
  refine o31 (hR.isList e) fun vs hl r => ?_
  exact notin_list_strs hl (ys := xs) r.strs (by refine rE Zlh ?_; exact k _ s.toks rfl)) h
theorem Zp3 {a b : Int} {A B : Value} {Q : AV -> Sig -> Loc -> Prop} (ra : VR (.int a) A) (rb : VR (.int b) B) (h : Q (.int (a + b)) σ m) : W G Γ VR (binaryOp .Add A B) Q σ m := by
 refine o21 ra fun t y1 => ?_; clear ra; subst y1
 refine o21 rb fun u y1 => ?_; clear rb; subst y1
 exact ZeF (av := .int (a + b)) (fun s Q' k => P.add_int (k _ _ ⟨_, rfl⟩)) h
theorem Zo3 {a b : Int} {A B : Value} {Q : AV -> Sig -> Loc -> Prop} (ra : VR (.int a) A) (rb : VR (.int b) B) (h : Q (.int (a - b)) σ m) : W G Γ VR (binaryOp .Sub A B) Q σ m := by
 refine o21 ra fun t y1 => ?_; clear ra; subst y1
 refine o21 rb fun u y1 => ?_; clear rb; subst y1
 exact ZeF (av := .int (a - b)) (fun s Q' k => P.sub_int (k _ _ ⟨_, rfl⟩)) h
theorem ZpB {a b : Int} {A B : Value} {Q : AV -> Sig -> Loc -> Prop} (ra : VR (.int a) A) (rb : VR (.int b) B) (h : Q (.int (a + b)) σ m) : W G Γ VR (inplaceOp .Add A B) Q σ m := by
 refine o21 ra fun t y1 => ?_; clear ra; subst y1
 refine o21 rb fun u y1 => ?_; clear rb; subst y1
 exact ZeF (av := .int (a + b)) (fun s Q' k => P.iadd_int (k _ _ ⟨_, rfl⟩)) h
theorem ZpS {a b : Int} {A B : Value} {Q : AV -> Sig -> Loc -> Prop} (ra : VR (.int a) A) (rb : VR (.int b) B) (h : Q (.int (a - b)) σ m) : W G Γ VR (inplaceOp .Sub A B) Q σ m := by
 refine o21 ra fun t y1 => ?_; clear ra; subst y1
 refine o21 rb fun u y1 => ?_; clear rb; subst y1
 exact ZeF (av := .int (a - b)) (fun s Q' k => P.isub_int (k _ _ ⟨_, rfl⟩)) h
theorem ZpQ {a : Int} {A : Value} {Q : AV -> Sig -> Loc -> Prop} (ra : VR (.int a) A) (h : Q (.int (-a)) σ m) : W G Γ VR (unaryOp .USub A) Q σ m := by
 refine o21 ra fun t y1 => ?_; clear ra; subst y1
 exact ZeF (av := .int (-a)) (fun s Q' k => P.neg_int (k _ _ ⟨_, rfl⟩)) h
theorem Zqd {a b : Int} {A B : Value} {Q : AV -> Sig -> Loc -> Prop} (hb : b ≠ 0) (ra : VR (.int a) A) (rb : VR (.int b) B) (h : Q (.int (a.fmod b)) σ m) : W G Γ VR (binaryOp .Mod A B) Q σ m := by
 refine o21 ra fun t y1 => ?_; clear ra; subst y1
 refine o21 rb fun u y1 => ?_; clear rb; subst y1
 exact ZeF (av := .int (a.fmod b)) (fun s Q' k => PyProof.Rows.mod_int' hb (k _ _ ⟨_, rfl⟩)) h
theorem ZpV {a b : Str} {A B : Value} {Q : AV -> Sig -> Loc -> Prop} (ra : VR (.str a) A) (rb : VR (.str b) B) (hz : a.length + b.length <= sizeLine) (h : Q (.str (a ++ b)) σ m) : W G Γ VR (binaryOp .Add A B) Q σ m := by
 refine o21 ra fun t y1 => ?_; clear ra; subst y1
 refine o21 rb fun u y1 => ?_; clear rb; subst y1
 exact ZeF (av := .str (a ++ b)) (fun s Q' k => PyProof.Rows.add_str (fun t' tk => k _ _ ⟨_, rfl⟩) hz) h
theorem Zo7 {a : Addr} {l : List AV} {Q : AV -> Sig -> Loc -> Prop} (e : Sees G σ a (.lst l)) (hz : l.length <= sizeLine) (h : Q (.int l.length) σ m) : FC G Γ (.builtin "len") [.ref a] Q σ m := fun us r => ZeX (av := .int l.length) (fun s Q' hR k => by
  refine o31 r.one fun x y1 rx => ?_; subst y1
  subst rx
  refine o31 (hR.isList e) fun vs hl r => ?_
  have hlen := r.len
  rw [sizeLine_eq] at hz
  exact call_len_list hl (by (refine rE ZqM (rE hlen ?_)); omega) (k _ _ ⟨_, by (refine rE ZqM ?_; exact rE hlen rfl)⟩)) h
theorem Zpw {n : Nat} {Q : AV -> Sig -> Loc -> Prop} (hn : n <= 1114111) (h : Q (.str ⟨#[n]⟩) σ m) : FC G Γ (.builtin "chr") [.int n] Q σ m := fun us r => ZeF (av := .str ⟨#[n]⟩) (fun s Q' k => by
  refine o31 r.one fun x y1 r2 => ?_; subst y1; refine o21 r2 fun t y1 => ?_; clear r2; subst y1
  exact chr_of_range (by omega) (by omega) (k _ _ ⟨s.toks, rfl⟩)) h
theorem Zh6 {a : Addr} {l : List AV} {u : Value} {Q : Bool -> Sig -> Loc -> Prop} (e : Sees G σ a (.lst l)) (hz : l.length <= sizeLine) (r : VR (.ref a) u) (h : Q (!l.isEmpty) σ m) : W G Γ Eq (truthy u) Q σ m := by
 subst r
 refine Zom (b := !l.isEmpty) (fun s Q' hR k => ?_) h
 refine o31 (hR.isList e) fun vs hl r => ?_
 have hlen := r.len
 rw [sizeLine_eq] at hz
 refine wpAny_truthy_list hl (by (refine rE ZqM (rE hlen ?_)); omega) ?_
 have : (Zrf vs).isEmpty = l.isEmpty := by
  induction r <;> rfl
 refine rE this ?_
 exact k _
theorem ZbE {α β : Type} {rel : β -> α -> Prop} {t : Sem α} {Q : β -> Sig -> Loc -> Prop} (h : W G Γ rel t (fun b σ' m' => ∃ σ'' m'', (∀ a o, σ'' a = some o -> σ' a = some o) /\ (∀ x v, m''.lookup x = some v -> m'.lookup x = some v) /\ Q b σ'' m'') σ m) : W G Γ rel t Q σ m := Zbi fun s hR Q' k =>
 h.use hR fun a b h' tk σ' m' r hR' kp hp => by
  refine o52 hp fun σ'' m'' h1 h2 q => ?_; clear hp
  exact k a b h' tk σ'' m'' r (hR'.weaken h1 h2) ⟨kp.keep, fun b hb e => kp.new b hb fun q => by
   induction z : σ'' b with
   | none => exact e z
   | some o => rw [h1 b o z] at q; exact nB q⟩ q
end
end Nz
namespace Nz
open PySem PySem.W PySem.Calls PyProof.Rows
noncomputable def Ev (G : Glo) (Γ : Amb) (σ : Sig) (m : Loc) (e : Expr) (v : AV) : Prop := ∀ Q : AV -> Sig -> Loc -> Prop, Q v σ m -> W G Γ VR (eval e Γ.env) Q σ m
noncomputable def EvT (G : Glo) (Γ : Amb) (σ : Sig) (m : Loc) (e : Expr) (b : Bool) : Prop := ∀ Q : Bool -> Sig -> Loc -> Prop, Q b σ m -> W G Γ Eq (isTrue e Γ.env (eval e Γ.env)) Q σ m
noncomputable def EvF (G : Glo) (Γ : Amb) (σ : Sig) (m : Loc) (f : Value) (vs : List AV) (v : AV) : Prop := ∀ Q : AV -> Sig -> Loc -> Prop, Q v σ m -> FC G Γ f vs Q σ m
noncomputable def EvA (G : Glo) (Γ : Amb) (σ : Sig) (m : Loc) (pos : Pos) (args : List Expr) (vs : List AV) : Prop := ∀ Q : List AV -> Sig -> Loc -> Prop, Q vs σ m -> WA G Γ pos args Q σ m
noncomputable def ZhP (G : Glo) (Γ : Amb) (σ : Sig) (m : Loc) (op : BoolOp) (es : List Expr) (b : Bool) : Prop := ∀ Q : Bool -> Sig -> Loc -> Prop, Q b σ m -> W G Γ Eq (allTrue op es Γ.env) Q σ m
noncomputable def ZoU (G : Glo) (Γ : Amb) (σ : Sig) (m : Loc) (pos : Pos) (op : BoolOp) (es : List Expr) (b : Bool) : Prop := ∀ Q : AV -> Sig -> Loc -> Prop, Q (.bool b) σ m -> W G Γ VR (boolOp pos op (evalEach es Γ.env)) Q σ m
noncomputable def EvC (G : Glo) (Γ : Amb) (σ : Sig) (m : Loc) (op : CmpOp) (x y : AV) (b : Bool) : Prop := ∀ A B (Q : AV -> Sig -> Loc -> Prop), VR x A -> VR y B -> Q (.bool b) σ m -> W G Γ VR (compareOp op A B) Q σ m
noncomputable def EvB (G : Glo) (Γ : Amb) (σ : Sig) (m : Loc) (op : Operator) (x y v : AV) : Prop := ∀ A B (Q : AV -> Sig -> Loc -> Prop), VR x A -> VR y B -> Q v σ m -> W G Γ VR (binaryOp op A B) Q σ m
noncomputable def EvI (G : Glo) (Γ : Amb) (σ : Sig) (m : Loc) (op : Operator) (x y v : AV) : Prop := ∀ A B (Q : AV -> Sig -> Loc -> Prop), VR x A -> VR y B -> Q v σ m -> W G Γ VR (inplaceOp op A B) Q σ m
noncomputable def EvV (G : Glo) (Γ : Amb) (σ : Sig) (m : Loc) (v : AV) (b : Bool) : Prop := ∀ A (Q : Bool -> Sig -> Loc -> Prop), VR v A -> Q b σ m -> W G Γ Eq (truthy A) Q σ m
noncomputable def EvS (G : Glo) (Γ : Amb) (σ : Sig) (m : Loc) (o i : Expr) (x y v : AV) : Prop := ∀ A B (Q : AV -> Sig -> Loc -> Prop), VR x A -> VR y B -> Q v σ m -> W G Γ VR (subscriptTail o i A B) Q σ m
section
variable {G : Glo} {Γ : Amb} {σ : Sig} {m : Loc}
theorem ZaN {x : Str} {pos : Pos} {v : AV} (hv : m.lookup x = some v) (hx : Γ.env.kindOf x = some .local) (hd : (x == ("__debug__" : Str)) = false) : Ev G Γ σ m (.Name x pos) v := fun Q q => Zpk hv q hx hd
theorem Zor {x : Str} {pos : Pos} {v : AV} {c : Addr} (hx : Γ.env.kindOf x = some .cell) (hc : Γ.cl.lookup x = some c) (hv : σ c = some (.cel (some v))) (hd : (x == ("__debug__" : Str)) = false) : Ev G Γ σ m (.Name x pos) v := fun Q q => Zpa hc hv q hx hd
theorem ZcH {i : Int} {k : Nat} {pos : Pos} : Ev G Γ σ m (.Constant (.int i) k pos) (.int i) := fun Q q => Zo4 q
theorem ZeS {i : Str} {k : Nat} {pos : Pos} : Ev G Γ σ m (.Constant (.str i) k pos) (.str i) := fun Q q => Zo0 q
theorem Zov {i : Bool} {k : Nat} {pos : Pos} : Ev G Γ σ m (.Constant (.bool i) k pos) (.bool i) := fun Q q => Zoq q
theorem ZoD {k : Nat} {pos : Pos} : Ev G Γ σ m (.Constant .none k pos) .none := fun Q q => Zps q
theorem Zpy {x : Expr} {pos : Pos} {i : Int} (h : Ev G Γ σ m x (.int i)) : Ev G Γ σ m (.UnaryOp .USub x pos) (.int (-i)) := fun Q q => Zqh (h _ fun u r => ZpQ r q)
theorem ZgA {l r : Expr} {op : Operator} {pos : Pos} {x y v : AV} (hl : Ev G Γ σ m l x) (hr : Ev G Γ σ m r y) (ho : EvB G Γ σ m op x y v) : Ev G Γ σ m (.BinOp l op r pos) v := fun Q q => Zns (hl _ (hr _ fun a b ra rb => ho a b Q ra rb q))
theorem ZlS {l r : Expr} {op : CmpOp} {pos : Pos} {x y : AV} {b : Bool} (hl : Ev G Γ σ m l x) (hr : Ev G Γ σ m r y) (ho : EvC G Γ σ m op x y b) (hm : behindInMarks op r = false) : Ev G Γ σ m (.Compare l [op] [r] pos) (.bool b) :=
 fun Q q => Zkh (hl _ (hr _ fun a b ra rb => ho a b Q ra rb q)) hm
theorem Zn5 {o : Expr} {name : Str} {pos : Pos} {x C : Addr} {v : AV} (ho : Ev G Γ σ m o (.ref x)) (e : Zd3 σ x name = some (C, v)) (f : Field G.K C name) (nr : Zgz v = true)
  (he : eval (.Attribute o name pos) Γ.env = (do
   let v <- eval o Γ.env
   standAt pos.atName
   let r <- holding [v] (getAttr v name true)
   letTemporaryGo o v r
   pure r)) : Ev G Γ σ m (.Attribute o name pos) v := fun Q q => Zpc (ho _ ⟨x, C, v, rfl, e, f, nr, q⟩) he
theorem ZaT {o i : Expr} {pos : Pos} {x y v : AV} (ho : Ev G Γ σ m o x) (hi : Ev G Γ σ m i y) (hs : EvS G Γ σ m o i x y v) : Ev G Γ σ m (.Subscript o i pos) v := fun Q q => ZnU (ho _ (hi _ fun a b ra rb => hs a b Q ra rb q))
theorem Za0 {o i : Expr} {a : Addr} {l : List AV} {n : Nat} {v : AV} (e : Sees G σ a (.lst l)) (hz : l.length <= sizeLine) (hv : l[n]? = some v)
  (hs : ∀ k u, subscripted i false (.ref a) (.int k u) = operate [.ref a, .int k u] (getItem (.ref a) (.int k u)) := by intro k u; with_unfolding_all rfl) : EvS G Γ σ m o i (.ref a) (.int n) v := fun A B Q ra rb q => ZkV n rfl e hz hv ra rb q (hs _)
theorem Zjl {o i : Expr} {a : Addr} {l : List AV} {v : AV} (e : Sees G σ a (.lst l)) (hz : l.length <= sizeLine) (hv : l.getLast? = some v)
  (hs : ∀ k u, subscripted i false (.ref a) (.int k u) = operate [.ref a, .int k u] (getItem (.ref a) (.int k u)) := by intro k u; with_unfolding_all rfl) : EvS G Γ σ m o i (.ref a) (.int (-1)) v := fun A B Q ra rb q => Zno e hz hv ra rb q (hs _)
theorem Zhq {o i : Expr} {a : Addr} {l : List AV} {n : Nat} {v : AV} (e : Sees G σ a (.tup l)) (hz : l.length <= sizeLine) (hv : l[n]? = some v)
  (hs : ∀ k u, subscripted i false (.ref a) (.int k u) = operate [.ref a, .int k u] (getItem (.ref a) (.int k u)) := by intro k u; with_unfolding_all rfl) : EvS G Γ σ m o i (.ref a) (.int n) v := fun A B Q ra rb q => ZmF n rfl e hz hv ra rb q (hs _)
theorem ZdG {op : CmpOp} {a b : Int} (hop : ZpF op = true) : EvC G Γ σ m op (.int a) (.int b) (opI op a b) := fun A B Q ra rb q => Zpq hop ra rb q
theorem Zer {op : CmpOp} {a b : Str} (hop : Zpb op = true) : EvC G Γ σ m op (.str a) (.str b) (opS op a b) := fun A B Q ra rb q => ZpO hop ra rb q
theorem Zew {a : Addr} {l : List Nat} {x : Nat} (e : Sees G σ a (.lst (l.map nv))) : EvC G Γ σ m .In (.int x) (.ref a) (decide (x ∈ l)) := fun A B Q ra rb q => Zg2 e rb ra q
theorem ZoC {a b : Int} : EvB G Γ σ m .Add (.int a) (.int b) (.int (a + b)) := fun A B Q ra rb q => Zp3 ra rb q
theorem Zoe {a b : Int} : EvB G Γ σ m .Sub (.int a) (.int b) (.int (a - b)) := fun A B Q ra rb q => Zo3 ra rb q
theorem Zmx {a b : Str} (hz : a.length + b.length <= sizeLine) : EvB G Γ σ m .Add (.str a) (.str b) (.str (a ++ b)) := fun A B Q ra rb q => ZpV ra rb hz q
theorem ZoE {a b : Int} : EvI G Γ σ m .Add (.int a) (.int b) (.int (a + b)) := fun A B Q ra rb q => ZpB ra rb q
theorem Zn4 {a b : Int} : EvI G Γ σ m .Sub (.int a) (.int b) (.int (a - b)) := fun A B Q ra rb q => ZpS ra rb q
theorem Zdf {b : Bool} : EvV G Γ σ m (.bool b) b := fun A Q r q => ZbO r q
theorem Znw {a : Addr} {l : List AV} (e : Sees G σ a (.lst l)) (hz : l.length <= sizeLine) : EvV G Γ σ m (.ref a) (!l.isEmpty) := fun A Q r q => Zh6 e hz r q
theorem Zgg {x : Expr} {pos : Pos} {b : Bool} (h : EvT G Γ σ m x b) : EvT G Γ σ m (.UnaryOp .Not x pos) (!b) := fun Q q => Zjy (h (fun b => Q (!b)) q)
theorem Zbt {l r : Expr} {op : CmpOp} {pos : Pos} {x y : AV} {b : Bool} (hl : Ev G Γ σ m l x) (hr : Ev G Γ σ m r y) (ho : EvC G Γ σ m op x y b) (hm : behindInMarks op r = false) : EvT G Γ σ m (.Compare l [op] [r] pos) b :=
 fun Q q => ZbI (hl _ (hr _ fun a b ra rb => ho a b _ ra rb ⟨_, rfl, q⟩)) hm
theorem Zeu {e : Expr} {v : AV} {b : Bool} (h : Ev G Γ σ m e v) (hv : EvV G Γ σ m v b) (he : isTrue e Γ.env (eval e Γ.env) = (do let v <- eval e Γ.env; standAt e.pos; holding [v] (truthy v))) : EvT G Γ σ m e b := fun Q q => Zjv (h _ fun u r => hv u Q r q) he
theorem Zbk {op : BoolOp} {values : List Expr} {pos : Pos} {b : Bool} (h : ZhP G Γ σ m op values b) : EvT G Γ σ m (.BoolOp op values pos) b := fun Q q => ZhF (h Q q)
theorem ZbN : ZhP G Γ σ m .And [] true := fun Q q => ZmP q
theorem ZaQ : ZhP G Γ σ m .Or [] false := fun Q q => Zl5 q
theorem ZaA {x : Expr} {rest : List Expr} {a b : Bool} (h : EvT G Γ σ m x a) (k : a = true -> ZhP G Γ σ m .And rest b) : ZhP G Γ σ m .And (x :: rest) (a && b) := fun Q q => Zln (h _ (by
 induction a
 ·exact q
 ·exact k rfl Q q))
theorem ZaD {x : Expr} {rest : List Expr} {a b : Bool} (h : EvT G Γ σ m x a) (k : a = false -> ZhP G Γ σ m .Or rest b) : ZhP G Γ σ m .Or (x :: rest) (a || b) := fun Q q => Zg5 (h _ (by
 induction a
 ·exact k rfl Q q
 ·exact q))
theorem Zli {op : BoolOp} {values : List Expr} {pos : Pos} {b : Bool} (h : ZoU G Γ σ m pos op values b) : Ev G Γ σ m (.BoolOp op values pos) (.bool b) := fun Q q => Zm4 (h Q q)
theorem Zfd {op : BoolOp} {x : Expr} {pos : Pos} {b : Bool} (h : Ev G Γ σ m x (.bool b)) : ZoU G Γ σ m pos op [x] b := fun Q q => Zll (h Q q)
theorem Zc6 {x y : Expr} {rest : List Expr} {pos : Pos} {a b : Bool} (h : Ev G Γ σ m x (.bool a)) (k : a = true -> ZoU G Γ σ m pos .And (y :: rest) b) : ZoU G Γ σ m pos .And (x :: y :: rest) (a && b) := fun Q q => ZoZ (h _ ⟨a, rfl, by
 induction a
 ·exact q
 ·exact k rfl Q q⟩)
theorem Zok {x y : Expr} {rest : List Expr} {pos : Pos} {a b : Bool} (h : Ev G Γ σ m x (.bool a)) (k : a = false -> ZoU G Γ σ m pos .Or (y :: rest) b) : ZoU G Γ σ m pos .Or (x :: y :: rest) (a || b) := fun Q q => Zp8 (h _ ⟨a, rfl, by
 induction a
 ·exact k rfl Q q
 ·exact q⟩)
theorem Zbc {pos : Pos} : EvA G Γ σ m pos [] [] := fun Q q => Zap q
theorem Zas {pos : Pos} {e : Expr} {rest : List Expr} {v : AV} {vs : List AV} (h : Ev G Γ σ m e v) (k : EvA G Γ σ m pos rest vs) (he : starEach (e :: rest) Γ.env = (false, eval e Γ.env) :: starEach rest Γ.env) : EvA G Γ σ m pos (e :: rest) (v :: vs) :=
 fun Q q => Zac (h _ (k _ q)) he
theorem ZjG {l : Expr} {elts : List Expr} {k : Nat} {pos p : Pos} {x : Str} {xs : List Str} (hl : Ev G Γ σ m l (.str x)) (ha : EvA G Γ σ m p elts (xs.map AV.str)) (hz : xs.length <= sizeLine) (hm : behindInMarks .In (.Tuple elts k p) = false) :
  Ev G Γ σ m (.Compare l [.In] [.Tuple elts k p] pos) (.bool (decide (x ∈ xs))) := fun Q q =>
 ZbE (Zkh (hl _ (ZaE (ha _ ⟨by refine rE (Zqt _) ?_; exact hz, fun a ea A B ra rb => Zg6 (xs := xs) (.inl Sig.set_self) rb ra ⟨σ, m, fun b o e => by
  rw [Sig.set_ne (fun q => by rw [q, ea] at e; exact nA e)]; exact e, fun n_ n_ e => e, q⟩⟩))) hm)
theorem ZhR {l : Expr} {elts : List Expr} {k : Nat} {pos p : Pos} {x : Str} {xs : List Str} (hl : Ev G Γ σ m l (.str x)) (ha : EvA G Γ σ m p elts (xs.map AV.str)) (hz : xs.length <= sizeLine) (hm : behindInMarks .In (.Tuple elts k p) = false) :
  EvT G Γ σ m (.Compare l [.In] [.Tuple elts k p] pos) (decide (x ∈ xs)) := fun Q q =>
 ZbE (ZbI (hl _ (ZaE (ha _ ⟨by refine rE (Zqt _) ?_; exact hz, fun a ea A B ra rb => Zg6 (xs := xs) (.inl Sig.set_self) rb ra ⟨_, rfl, σ, m, fun b o e => by
  rw [Sig.set_ne (fun q => by rw [q, ea] at e; exact nA e)]; exact e, fun n_ n_ e => e, q⟩⟩))) hm)
theorem Zcw {x : Str} {p pos : Pos} {args : List Expr} {f : Addr} {vs : List AV} {v : AV} (e : nsIn G.K mainGlobals x = some (some (.ref f))) (hk : keepIn G.K (.ref f) = true) (ha : EvA G Γ σ m pos args vs) (hf : EvF G Γ σ m (.ref f) vs v)
  (hp : Plain pos args Γ.env = true) (hx : Γ.env.kindOf x = some .globalImplicit) (hd : (x == ("__debug__" : Str)) = false) : Ev G Γ σ m (.Call (.Name x p) args [] pos) v := fun Q q => Zay e hk (ha _ (hf Q q)) hp hx hd
theorem ZbC {x : Str} {p pos : Pos} {args : List Expr} {id : String} {vs : List AV} {v : AV} (e : nsIn G.K mainGlobals x = some none) (hv : bootBuiltins x = some (.builtin id)) (hn : x ≠ "__name__") (ha : EvA G Γ σ m pos args vs) (hf : EvF G Γ σ m (.builtin id) vs v)
  (hp : Plain pos args Γ.env = true) (hx : Γ.env.kindOf x = some .globalImplicit) (hd : (x == ("__debug__" : Str)) = false) : Ev G Γ σ m (.Call (.Name x p) args [] pos) v := fun Q q => Zfu e hv hn (ha _ (hf Q q)) hp hx hd
theorem ZoR {o : Expr} {name : Str} {apos pos : Pos} {args : List Expr} {pl : Sem Bool} {x C f : Addr} {vs : List AV} {v : AV} (ho : Ev G Γ σ m o (.ref x)) (e : Zgh σ x name = some C) (M : Meth G.K C name f) (ha : EvA G Γ σ m pos args vs) (hf : EvF G Γ σ m (.ref f) (.ref x :: vs) v)
  (he : eval (.Call (.Attribute o name apos) args [] pos) Γ.env = (do
   let ov <- eval o Γ.env
   standAt apos.atName
   let (f, first) <- holding [ov] (getMethod ov name pl)
   callWith pos f first (backTo pos (starEach args Γ.env)) [])) (hp : Plain pos args Γ.env = true) : Ev G Γ σ m (.Call (.Attribute o name apos) args [] pos) v :=
 fun Q q => ZgI (ho _ ⟨x, C, f, rfl, e, M, ha _ (hf Q q)⟩) he hp
theorem Zhi {o : Expr} {name : Str} {apos pos : Pos} {args : List Expr} {pl : Sem Bool} {id : String} {a : Addr} {l : List AV} {vs : List AV} {v : AV} (slot : Slot "list" name id) (hty : typeOf (.builtin id) = pure (.type "method_descriptor"))
  (ho : Ev G Γ σ m o (.ref a)) (e : σ a = some (.lst l)) (ha : EvA G Γ σ m pos args vs) (hf : EvF G Γ σ m (.builtin id) (.ref a :: vs) v)
  (he : eval (.Call (.Attribute o name apos) args [] pos) Γ.env = (do
   let ov <- eval o Γ.env
   standAt apos.atName
   let (f, first) <- holding [ov] (getMethod ov name pl)
   callWith pos f first (backTo pos (starEach args Γ.env)) [])) (hp : Plain pos args Γ.env = true) : Ev G Γ σ m (.Call (.Attribute o name apos) args [] pos) v :=
 fun Q q => ZcY slot hty (ho _ ⟨a, l, rfl, e, ha _ (hf Q q)⟩) he hp
theorem Zcd {a : Addr} {l : List AV} (e : Sees G σ a (.lst l)) (hz : l.length <= sizeLine) : EvF G Γ σ m (.builtin "len") [.ref a] (.int l.length) := fun Q q => Zo7 e hz q
theorem ZlD {n : Nat} (hn : n <= 1114111) : EvF G Γ σ m (.builtin "chr") [.int n] (.str ⟨#[n]⟩) := fun Q q => Zpw hn q
theorem Zgf {a : Addr} {l : List Nat} {x : Nat} (e : σ a = some (.lst (l.map nv))) (hx : x ∈ l) (hz : l.length <= sizeLine) : EvF G Γ σ m (.builtin "list.index") [.ref a, .int x] (.int (l.idxOf x : Nat)) := fun Q q => ZmL e hx hz q
theorem ZaS {x : Str} {p pos : Pos} {value : Expr} {v : AV} {rest : List Stmt} {Q : AF -> Sig -> Loc -> Prop} (hv : Ev G Γ σ m value v) (h : W G Γ FRl (execs rest Γ.env) Q σ (put x v m))
  (hs : swapsWith value (some (.Name x p)) pos.line Γ.env = pure false) (hx : Γ.env.kindOf x = some .local) : W G Γ FRl (execs (.Assign [.Name x p] value pos :: rest) Γ.env) Q σ m :=
 Zan (Zax (Q := ZbA G Γ rest Γ.env Q) (hv _ h) hs hx)
theorem Zfk {x : Str} {p pos : Pos} {op : Operator} {value : Expr} {v0 v w : AV} {rest : List Stmt} {Q : AF -> Sig -> Loc -> Prop} (h₀ : m.lookup x = some v0) (hv : Ev G Γ σ m value v) (ho : EvI G Γ σ m op v0 v w) (h : W G Γ FRl (execs rest Γ.env) Q σ (put x w m))
  (hx : Γ.env.kindOf x = some .local) : W G Γ FRl (execs (.AugAssign (.Name x p) op value pos :: rest) Γ.env) Q σ m :=
 Zan (Zqb (Q := ZbA G Γ rest Γ.env Q) h₀ (hv _ fun a u ra ru => ho a u _ ra ru h) hx)
theorem ZaI {e : Expr} {pos : Pos} {v : AV} {rest : List Stmt} {Q : AF -> Sig -> Loc -> Prop} (hv : Ev G Γ σ m e v) (h : Q (.ret v) σ m) : W G Γ FRl (execs (.Return (some e) pos :: rest) Γ.env) Q σ m :=
 Zan (ZaZ (Q := ZbA G Γ rest Γ.env Q) (hv _ h))
theorem Zco {pos : Pos} {rest : List Stmt} {Q : AF -> Sig -> Loc -> Prop} (h : Q (.ret .none) σ m) : W G Γ FRl (execs (.Return none pos :: rest) Γ.env) Q σ m := Zan (ZlW (Q := ZbA G Γ rest Γ.env Q) h)
theorem Za8 {test : Expr} {body orelse : List Stmt} {pos : Pos} {b : Bool} {rest : List Stmt} {Q : AF -> Sig -> Loc -> Prop} (ht : EvT G Γ σ m test b)
  (h1 : b = true -> W G Γ FRl (execs body Γ.env) (ZbA G Γ rest Γ.env Q) σ m) (h2 : b = false -> W G Γ FRl (execs orelse Γ.env) (ZbA G Γ rest Γ.env Q) σ m) : W G Γ FRl (execs (.If test body orelse pos :: rest) Γ.env) Q σ m :=
 Zan (Zp6 (Q := ZbA G Γ rest Γ.env Q) (ht _ (by
  induction b
  ·exact h2 rfl
  ·exact h1 rfl)))
theorem Zcm {e : Expr} {pos : Pos} {rest : List Stmt} {Q : AF -> Sig -> Loc -> Prop} (h : W G Γ VR (eval e Γ.env) (fun n_ σ' m' => W G Γ FRl (execs rest Γ.env) Q σ' m') σ m)
  (hi : interactive Γ.env = false) (hs : swapsWith e none pos.line Γ.env = pure false) : W G Γ FRl (execs (.Expr e pos :: rest) Γ.env) Q σ m := Zan (ZoW (Q := ZbA G Γ rest Γ.env Q) h hi hs)
theorem Zah {Q : AF -> Sig -> Loc -> Prop} (h : Q .next σ m) : W G Γ FRl (execs [] Γ.env) Q σ m := Zp9 h
noncomputable def HasL : Loc -> Loc -> Prop
 | [], _ => True
 | (x, v) :: r, m => m.lookup x = some v /\ HasL r m
theorem HasL.sub : ∀ {l m : Loc}, HasL l m -> ∀ x v, l.lookup x = some v -> m.lookup x = some v := by
 refine @Zbv _ _ ?_ ?_
 ·intro n_ n_ n_ n_ e
  exact nomatch e
 ·intro x0 r ih m h x v e
  obtain ⟨y, u⟩ := x0
  rw [ZqW] at e
  by_cases hx : x = y
  ·subst hx; simp only [beq_self_eq_true] at e; obtain rfl := ZqC e; exact h.1
  ·have : (x == y) = false := beq_eq_false_iff_ne.mpr hx
   simp only [this] at e; exact ih h.2 x v e
theorem Zbb {α β : Type} {rel : β -> α -> Prop} {t : Sem α} {Q : β -> Sig -> Loc -> Prop} {l : Loc} (hl : HasL l m) (h : W G Γ rel t Q σ l) : W G Γ rel t Q σ m := Zpl hl.sub h
end
end Nz
namespace Nz
open PySem PySem.W PySem.Calls PyProof.Rows
noncomputable def LIM : Nat := 1000000
theorem ZaK {n : Nat} (h : n <= LIM) : n <= sizeLine := by
 refine rE sizeLine_eq ?_
 have : LIM = 1000000 := rfl
 omega
structure Cfg where
 b : Addr
 bd : Addr
 t : Addr
 td : Addr
 s : Addr
 sd : Addr
 f : Addr
 fd : Addr
 kinds : Addr
 spaces : Addr
 names : Addr
 attrs : Addr
 texts : Addr
 parents : Addr
 children : Addr
 contents : Addr
 sit : Addr
 fit : Addr
 err : Addr
 rules : Addr
 modes : Addr
 owners : Addr
 pending : Addr
structure Wd where
 kinds : List Str
 spaces : List Str
 names : List Str
 lets : List (Option Nat)
 texts : List Str
 parents : List Int
 ch : List (List Nat)
 st : List Nat
 fm : List Nat
 er : Nat
noncomputable def bdict (k : Cfg) : List (Str × AV) := [("rules", .ref k.rules), ("tree", .ref k.t), ("stack", .ref k.s), ("formatting", .ref k.f), ("mode", .str "initial"), ("original", .str ""), ("modes", .ref k.modes),
 ("head", .int (-1)), ("form", .int (-1)), ("owners", .ref k.owners), ("is_frameset_ok", .bool true), ("is_scripting", .bool false), ("is_foster", .bool false), ("context", .int (-1)), ("quirks", .str "no-quirks"),
 ("errors", .ref k.err), ("pending", .ref k.pending), ("wish", .str ""), ("is_skipping", .bool false), ("is_acknowledged", .bool false), ("is_done", .bool false)]
noncomputable def tdict (k : Cfg) : List (Str × AV) := [("kinds", .ref k.kinds), ("spaces", .ref k.spaces), ("names", .ref k.names), ("attrs", .ref k.attrs), ("texts", .ref k.texts), ("parents", .ref k.parents), ("children", .ref k.children), ("contents", .ref k.contents)]
noncomputable def sdict (k : Cfg) : List (Str × AV) := [("tree", .ref k.t), ("items", .ref k.sit)]
noncomputable def fdict (k : Cfg) : List (Str × AV) := [("tree", .ref k.t), ("items", .ref k.fit)]
inductive Sl where
 | kinds | spaces | names | attrs | texts | parents | children | sit | fit | err
 | kid (i : Nat)
 deriving DecidableEq
structure Var where
 kids : List Addr
 ats : List Addr
 errs : List AV
noncomputable def adr (k : Cfg) (z : Var) : Sl -> Addr
 | .kinds => k.kinds
 | .spaces => k.spaces
 | .names => k.names
 | .attrs => k.attrs
 | .texts => k.texts
 | .parents => k.parents
 | .children => k.children
 | .sit => k.sit
 | .fit => k.fit
 | .err => k.err
 | .kid i => z.kids.getD i 0
noncomputable def val (w : Wd) (z : Var) : Sl -> Option (List AV)
 | .kinds => some (w.kinds.map AV.str)
 | .spaces => some (w.spaces.map AV.str)
 | .names => some (w.names.map AV.str)
 | .attrs => some (z.ats.map AV.ref)
 | .texts => some (w.texts.map AV.str)
 | .parents => some (w.parents.map AV.int)
 | .children => some (z.kids.map AV.ref)
 | .sit => some (w.st.map nv)
 | .fit => some (w.fm.map nv)
 | .err => some z.errs
 | .kid i => (w.ch[i]?).map (·.map nv)
noncomputable def Zad (c : Nat) : Str := ⟨#[c]⟩
noncomputable def AttrOk (σ : Sig) (a : Addr) : Option Nat -> Prop
 | none => σ a = some (.lst [])
 | some c => ∃ p, σ a = some (.lst [.ref p]) /\ σ p = some (.tup [.str "n", .str (Zad c)])
theorem AttrOk.mono {σ σ' : Sig} {a : Addr} {c : Option Nat} (h : AttrOk σ a c) (k : ∀ b o, σ b = some o -> σ' b = some o) : AttrOk σ' a c := by
 induction c with
 | none => exact k _ _ h
 | some c => (refine o31 h fun p h1 h2 => ?_; clear h); exact e31 p (k _ _ h1) (k _ _ h2)
structure Fix (k : Cfg) (σ : Sig) : Prop where
 b : σ k.b = some (.ins 579 k.bd)
 bd : σ k.bd = some (.dic (bdict k))
 t : σ k.t = some (.ins 501 k.td)
 td : σ k.td = some (.dic (tdict k))
 s : σ k.s = some (.ins 189 k.sd)
 sd : σ k.sd = some (.dic (sdict k))
 f : σ k.f = some (.ins 377 k.fd)
 fd : σ k.fd = some (.dic (fdict k))
 contents : σ k.contents = some (.dct [])
structure WorldZ (k : Cfg) (z : Var) (σ : Sig) (w : Wd) : Prop where
 fix : Fix k σ
 obj : ∀ sl l, val w z sl = some l -> σ (adr k z sl) = some (.lst l)
 inj : ∀ sl sl' l l', val w z sl = some l -> val w z sl' = some l' -> adr k z sl = adr k z sl' -> sl = sl'
 lk : z.kids.length = w.ch.length
 la : z.ats.length = w.lets.length
 le : z.errs.length = w.er
 att : ∀ (i : Nat) (a : Addr) (c : Option Nat), z.ats[i]? = some a -> w.lets[i]? = some c -> AttrOk σ a c /\ ∀ sl l, val w z sl = some l -> a ≠ adr k z sl
 small : ∀ sl l, val w z sl = some l -> l.length <= LIM
noncomputable def Own (k : Cfg) (z : Var) (w : Wd) (a : Addr) : Prop := (∃ sl l, val w z sl = some l /\ a = adr k z sl) \/ a ∈ z.ats
theorem WorldZ.own {k : Cfg} {z : Var} {σ : Sig} {w : Wd} (h : WorldZ k z σ w) {a : Addr} (o : Own k z w a) : ∃ l, σ a = some (.lst l) := by
 rcases o with ⟨sl, l, hv, rfl⟩ | ha
 ·exact ⟨l, h.obj _ _ hv⟩
 ·refine o21 (Zr3.mp ha) fun i r1 => ?_; refine o21 r1 fun hi y1 => ?_; clear r1; subst y1
  have hl := h.la
  refine o20 (h.att i _ (w.lets[i]'(by omega)) (ZqA hi) (ZqA (by omega))) fun q n_ => ?_
  induction e : w.lets[i]'(by omega) with
  | none => rw [e] at q; exact ⟨_, q⟩
  | some c => rw [e] at q; (refine o31 q ?_; clear q; intro p q n_); exact ⟨_, q⟩
theorem Fix.keep {k : Cfg} {σ : Sig} (h : Fix k σ) {σ' : Sig} (e : ∀ a o, σ a = some o -> (∀ l, o ≠ .lst l) -> σ' a = some o) : Fix k σ' :=
 ⟨e _ _ h.b (fun n_ => nofun), e _ _ h.bd (fun n_ => nofun), e _ _ h.t (fun n_ => nofun), e _ _ h.td (fun n_ => nofun), e _ _ h.s (fun n_ => nofun), e _ _ h.sd (fun n_ => nofun), e _ _ h.f (fun n_ => nofun), e _ _ h.fd (fun n_ => nofun), e _ _ h.contents (fun n_ => nofun)⟩
theorem AttrOk.set {σ : Sig} {a b : Addr} {c : Option Nat} {l l' : List AV} (h : AttrOk σ a c) (hb : σ b = some (.lst l)) (ne : a ≠ b) : AttrOk (σ.set b (.lst l')) a c := by
 induction c with
 | none => refine (?_ : (σ.set b _) a = _); refine rE (Sig.set_ne ne) ?_; exact h
 | some c =>
  refine o31 h fun p h1 h2 => ?_; clear h
  refine e31 p (by refine rE (Sig.set_ne ne) ?_; exact h1) ?_
  rw [Sig.set_ne (fun q => by exact clN q h2 hb rfl)]; exact h2
theorem WorldZ.turn {k : Cfg} {z : Var} {σ : Sig} {w w' : Wd} (h : WorldZ k z σ w) (sl : Sl) {l l' : List AV} (hv : val w z sl = some l)
  (hw : ∀ sl', val w' z sl' = if sl' = sl then some l' else val w z sl') (hz : l'.length <= LIM) (hc : w'.ch.length = w.ch.length) (hl : w'.lets = w.lets) (he : w'.er = w.er) : WorldZ k z (σ.set (adr k z sl) (.lst l')) w' := by
 have ho := h.obj _ _ hv
 have dom : ∀ sl1 l₁, val w' z sl1 = some l₁ -> ∃ lg, val w z sl1 = some lg := fun sl1 l₁ e => by
  rw [hw] at e
  by_cases q : sl1 = sl
  ·subst q; exact ⟨l, hv⟩
  ·rw [if_neg q] at e; exact ⟨_, e⟩
 refine ⟨h.fix.keep fun a o e n => ?_, fun sl1 l₁ e => ?_, fun sl1 sl2 l₁ lg e1 e2 => ?_, by refine rE hc ?_; exact h.lk, by refine rE hl ?_; exact h.la, by refine rE he ?_; exact h.le, fun i a c e1 e2 => ?_, fun sl1 l₁ e => ?_⟩
 ·rw [Sig.set_ne (fun q => by rw [q, ho] at e; obtain rfl := ZqC e; exact n _ rfl)]; exact e
 ·have e0 := e
  rw [hw] at e
  by_cases q : sl1 = sl
  ·subst q
   rw [if_pos rfl] at e; obtain rfl := ZqC e
   exact Sig.set_self
  ·rw [if_neg q] at e
   rw [Sig.set_ne (fun x => q (h.inj _ _ _ _ e hv x))]
   exact h.obj _ _ e
 ·refine o21 (dom _ _ e1) fun n_ d1 => ?_
  refine o21 (dom _ _ e2) fun n_ d2 => ?_
  exact h.inj _ _ _ _ d1 d2
 ·rw [hl] at e2
  refine o20 (h.att i a c e1 e2) fun q1 q2 => ?_
  exact ⟨q1.set ho (q2 _ _ hv), fun sl1 l₁ e => (by (refine o21 (dom _ _ e) fun n_ d => ?_); exact q2 _ _ d)⟩
 ·rw [hw] at e
  by_cases q : sl1 = sl
  ·subst q; rw [if_pos rfl] at e; obtain rfl := ZqC e; exact hz
  ·rw [if_neg q] at e; exact h.small _ _ e
theorem WorldZ.more {k : Cfg} {z : Var} {σ : Sig} {w : Wd} (h : WorldZ k z σ w) {v : AV} (hz : w.er < LIM) : WorldZ k { z with errs := z.errs ++ [v] } (σ.set k.err (.lst (z.errs ++ [v]))) { w with er := w.er + 1 } := by
 have hv : val w z .err = some z.errs := rfl
 have ho := h.obj _ _ hv
 have hval : ∀ sl', val { w with er := w.er + 1 } { z with errs := z.errs ++ [v] } sl' = if sl' = .err then some (z.errs ++ [v]) else val w z sl' := fun sl' => by induction sl' <;> rfl
 have hadr : ∀ sl', adr k { z with errs := z.errs ++ [v] } sl' = adr k z sl' := fun sl' => by induction sl' <;> rfl
 have dom : ∀ sl1 l₁, val { w with er := w.er + 1 } { z with errs := z.errs ++ [v] } sl1 = some l₁ -> ∃ lg, val w z sl1 = some lg := fun sl1 l₁ e => by
  rw [hval] at e
  by_cases q : sl1 = .err
  ·subst q; exact ⟨_, hv⟩
  ·rw [if_neg q] at e; exact ⟨_, e⟩
 refine ⟨h.fix.keep fun a o e n => ?_, fun sl1 l₁ e => ?_, fun sl1 sl2 l₁ lg e1 e2 => ?_, h.lk, h.la, by (refine rE Zqu (rE h.le ?_)); rfl, fun i a c e1 e2 => ?_, fun sl1 l₁ e => ?_⟩
 ·rw [Sig.set_ne (fun q => by rw [q, show k.err = adr k z .err from rfl, ho] at e; obtain rfl := ZqC e; exact n _ rfl)]; exact e
 ·refine rE (hadr _) ?_
  rw [hval] at e
  by_cases q : sl1 = .err
  ·subst q
   rw [if_pos rfl] at e; obtain rfl := ZqC e
   exact Sig.set_self
  ·rw [if_neg q] at e
   rw [Sig.set_ne (b := adr k z sl1) (a := k.err) (fun x => q (h.inj _ _ _ _ e hv x))]
   exact h.obj _ _ e
 ·refine rE (hadr _) (rE (hadr _) ?_)
  refine o21 (dom _ _ e1) fun n_ d1 => ?_
  refine o21 (dom _ _ e2) fun n_ d2 => ?_
  exact h.inj _ _ _ _ d1 d2
 ·refine o20 (h.att i a c e1 e2) fun q1 q2 => ?_
  exact ⟨q1.set ho (q2 _ _ hv), fun sl1 l₁ e => (by (refine o21 (dom _ _ e) fun n_ d => ?_); refine rE (hadr _) ?_; exact q2 _ _ d)⟩
 ·rw [hval] at e
  by_cases q : sl1 = .err
  ·subst q; rw [if_pos rfl] at e; obtain rfl := ZqC e
   refine rE Zqu (rE h.le ?_); exact hz
  ·rw [if_neg q] at e; exact h.small _ _ e
theorem WorldZ.mono {k : Cfg} {z : Var} {σ σ' : Sig} {w : Wd} (h : WorldZ k z σ w) (e : ∀ a o, σ a = some o -> σ' a = some o) : WorldZ k z σ' w :=
 ⟨h.fix.keep fun a o q n_ => e a o q, fun sl l q => e _ _ (h.obj sl l q), h.inj, h.lk, h.la, h.le, fun i a c q1 q2 => (by (refine o20 (h.att i a c q1 q2) fun r1 r2 => ?_); exact ⟨r1.mono e, r2⟩), h.small⟩
theorem Zaa {σ : Sig} {a : Addr} {o : AO} (h : σ a = none) : ∀ b o', σ b = some o' -> (σ.set a o) b = some o' := fun b o' e => by
 rw [Sig.set_ne (fun q => by rw [q, h] at e; exact nA e)]; exact e
theorem WorldZ.other {k : Cfg} {z : Var} {σ : Sig} {w : Wd} (h : WorldZ k z σ w) {a : Addr} {l l' : List AV} (ha : σ a = some (.lst l)) (hn : ¬ Own k z w a) : WorldZ k z (σ.set a (.lst l')) w :=
 ⟨h.fix.keep fun b o e n => by rw [Sig.set_ne (fun q => by rw [q, ha] at e; obtain rfl := ZqC e; exact n _ rfl)]; exact e,
  fun sl l q => by rw [Sig.set_ne (fun x => hn (.inl ⟨sl, l, q, x.symm⟩))]; exact h.obj _ _ q, h.inj, h.lk, h.la, h.le,
  fun i b c q1 q2 => (by (refine o20 (h.att i b c q1 q2) fun r1 r2 => ?_); exact ⟨r1.set ha (fun x => hn (.inr (by refine rS x ?_; exact ZrF q1))), r2⟩), h.small⟩
theorem Zof {l : List Addr} {i : Nat} (h : i < l.length) : l.getD i 0 = l[i] := by (refine rE ZqE (rE (ZqA h) ?_)); rfl
theorem ZoP {w : Wd} {z : Var} {a : Addr} (lk : z.kids.length = w.ch.length) (sl' : Sl) :
  val { w with ch := w.ch ++ [[]] } { z with kids := z.kids ++ [a] } sl' = if sl' = .children then some ((z.kids ++ [a]).map AV.ref) else if sl' = .kid w.ch.length then some [] else val w z sl' := by
 induction sl' with
 | kid i =>
  show (Option.map _ (w.ch ++ [[]])[i]?) = _
  rw [if_neg (by nofun)]
  by_cases q : i = w.ch.length
  ·subst q; (refine rE (if_pos rfl) (rE (Zro (ZqQ _)) ?_)); simp
  ·rw [if_neg (fun x => q (by injection x))]
   show _ = (w.ch[i]?).map _
   by_cases q2 : i < w.ch.length
   ·exact rE (ZqZ q2) rfl
   ·rw [Zq5 (l := w.ch ++ [[]]) (by simp; omega), Zq5 (by omega)]
 | children => rfl
 | kinds | spaces | names | attrs | texts | parents | sit | fit | err => simp; rfl
theorem WorldZ.addKid {k : Cfg} {z : Var} {σ : Sig} {w : Wd} (h : WorldZ k z σ w) {a : Addr} (ha : σ a = none) (hz : w.ch.length < LIM) :
  WorldZ k { z with kids := z.kids ++ [a] } ((σ.set a (.lst [])).set k.children (.lst ((z.kids ++ [a]).map AV.ref))) { w with ch := w.ch ++ [[]] } := by
 have hv : val w z .children = some (z.kids.map AV.ref) := rfl
 have hold := ZoP (a := a) h.lk
 have lk := h.lk
 have hadr : ∀ sl' l', val w z sl' = some l' -> adr k { z with kids := z.kids ++ [a] } sl' = adr k z sl' := fun sl' l' e => by
  induction sl' with
  | kid i =>
   have hi : i < w.ch.length := by
    induction q : w.ch[i]? with
    | none => rw [show val w z (.kid i) = (w.ch[i]?).map _ from rfl, q] at e; injection e
    | some _ => exact (ZqU.mp q).1
   refine (?_ : (z.kids ++ [a]).getD i 0 = z.kids.getD i 0)
   refine rE ZqE (rE ZqE ?_); rw [ZqZ (by omega)]
  | kinds | spaces | names | attrs | texts | parents | sit | fit | err | children => rfl
 have hnew : adr k { z with kids := z.kids ++ [a] } (.kid w.ch.length) = a := by
  refine (?_ : (z.kids ++ [a]).getD w.ch.length 0 = a)
  refine rS lk (rE ZqE (rE (Zro (ZqQ _)) ?_)); simp
 have ho := h.obj _ _ hv
 have hca : k.children ≠ a := fun q => by rw [show adr k z .children = k.children from rfl, q, ha] at ho; exact nA ho
 have fresh : ∀ sl l, val w z sl = some l -> adr k z sl ≠ a := fun sl l e q => by
  have := h.obj _ _ e; rw [q, ha] at this; exact nA this
 have cases3 : ∀ sl1 l₁, val { w with ch := w.ch ++ [[]] } { z with kids := z.kids ++ [a] } sl1 = some l₁ -> (∃ lg, val w z sl1 = some lg /\ sl1 ≠ .kid w.ch.length) \/ (sl1 = .kid w.ch.length /\ l₁ = []) := fun sl1 l₁ e => by
  rw [hold] at e
  by_cases q : sl1 = .children
  ·subst q; exact .inl ⟨_, hv, by nofun⟩
  ·rw [if_neg q] at e
   by_cases q2 : sl1 = .kid w.ch.length
   ·rw [if_pos q2] at e; obtain rfl := ZqC e; exact .inr ⟨q2, rfl⟩
   ·rw [if_neg q2] at e; exact .inl ⟨_, e, q2⟩
 refine ⟨h.fix.keep fun b o e n => ?_, fun sl1 l₁ e => ?_, fun sl1 sl2 l₁ lg e1 e2 x => ?_, by simp [lk], h.la, h.le, fun i b c e1 e2 => ?_, fun sl1 l₁ e => ?_⟩
 ·rw [Sig.set_ne (fun q => by rw [q, show k.children = adr k z .children from rfl, ho] at e; (replace e := sO e; subst e); exact n _ rfl), Sig.set_ne (fun q => by rw [q, ha] at e; exact nA e)]; exact e
 ·have e0 := e
  rw [hold] at e
  by_cases q : sl1 = .children
  ·subst q
   rw [if_pos rfl] at e; obtain rfl := ZqC e
   exact Sig.set_self
  ·rw [if_neg q] at e
   by_cases q2 : sl1 = .kid w.ch.length
   ·subst q2
    rw [if_pos rfl] at e; obtain rfl := ZqC e
    refine rE hnew (rE (Sig.set_ne (Ne.symm hca)) ?_)
    exact Sig.set_self
   ·rw [if_neg q2] at e
    refine rE (hadr _ _ e) ?_; rewrite [Sig.set_ne (b := adr k z sl1) (a := k.children) (fun x => q (h.inj _ _ _ _ e hv x))]; refine rE (Sig.set_ne (fresh _ _ e)) ?_
    exact h.obj _ _ e
 ·rcases cases3 _ _ e1 with ⟨_, d1, n1⟩ | ⟨rfl, _⟩
  ·rcases cases3 _ _ e2 with ⟨_, d2, n2⟩ | ⟨rfl, _⟩
   ·rw [hadr _ _ d1, hadr _ _ d2] at x
    exact h.inj _ _ _ _ d1 d2 x
   ·rw [hadr _ _ d1, hnew] at x
    exact absurd x (fresh _ _ d1)
  ·rcases cases3 _ _ e2 with ⟨_, d2, n2⟩ | ⟨rfl, _⟩
   ·rw [hadr _ _ d2, hnew] at x
    exact absurd x.symm (fresh _ _ d2)
   ·rfl
 ·refine o20 (h.att i b c e1 e2) fun q1 q2 => ?_
  have q1' : AttrOk (σ.set a (.lst [])) b c := q1.mono (Zaa ha)
  refine ⟨q1'.set (b := k.children) (by refine rE (Sig.set_ne hca) ?_; exact ho) (q2 _ _ hv), fun sl1 l₁ e => ?_⟩
  rcases cases3 _ _ e with ⟨_, d, n⟩ | ⟨rfl, _⟩
  ·refine rE (hadr _ _ d) ?_; exact q2 _ _ d
  ·refine rE hnew ?_
   intro x
   subst x
   refine o21 (h.own (.inr (ZrF e1))) fun l hl => ?_
   rw [ha] at hl; exact nA hl
 ·rw [hold] at e
  by_cases q : sl1 = .children
  ·subst q; rw [if_pos rfl] at e; obtain rfl := ZqC e; simp [lk]; omega
  ·rw [if_neg q] at e
   by_cases q2 : sl1 = .kid w.ch.length
   ·rw [if_pos q2] at e; obtain rfl := ZqC e; exact Zrq _
   ·rw [if_neg q2] at e; exact h.small _ _ e
theorem WorldZ.addAttr {k : Cfg} {z : Var} {σ : Sig} {w : Wd} (h : WorldZ k z σ w) {a : Addr} {lv : List AV} {c : Option Nat} (ha : σ a = none) (hc : AttrOk (σ.set a (.lst lv)) a c) (hz : w.lets.length < LIM) :
  WorldZ k { z with ats := z.ats ++ [a] } ((σ.set a (.lst lv)).set k.attrs (.lst ((z.ats ++ [a]).map AV.ref))) { w with lets := w.lets ++ [c] } := by
 have hv : val w z .attrs = some (z.ats.map AV.ref) := rfl
 have hval : ∀ sl', val { w with lets := w.lets ++ [c] } { z with ats := z.ats ++ [a] } sl' = if sl' = .attrs then some ((z.ats ++ [a]).map AV.ref) else val w z sl' := fun sl' => by induction sl' <;> rfl
 have hadr : ∀ sl', adr k { z with ats := z.ats ++ [a] } sl' = adr k z sl' := fun sl' => by induction sl' <;> rfl
 have la := h.la
 have ho := h.obj _ _ hv
 have hca : k.attrs ≠ a := fun q => by rw [show adr k z .attrs = k.attrs from rfl, q, ha] at ho; exact nA ho
 have fresh : ∀ sl l, val w z sl = some l -> adr k z sl ≠ a := fun sl l e q => by
  have := h.obj _ _ e; rw [q, ha] at this; exact nA this
 have dom : ∀ sl1 l₁, val { w with lets := w.lets ++ [c] } { z with ats := z.ats ++ [a] } sl1 = some l₁ -> ∃ lg, val w z sl1 = some lg := fun sl1 l₁ e => by
  rw [hval] at e
  by_cases q : sl1 = .attrs
  ·subst q; exact ⟨_, hv⟩
  ·rw [if_neg q] at e; exact ⟨_, e⟩
 refine ⟨h.fix.keep fun b o e n => ?_, fun sl1 l₁ e => ?_, fun sl1 sl2 l₁ lg e1 e2 => ?_, h.lk, by simp [la], h.le, fun i b c' e1 e2 => ?_, fun sl1 l₁ e => ?_⟩
 ·rw [Sig.set_ne (fun q => by rw [q, show k.attrs = adr k z .attrs from rfl, ho] at e; (replace e := sO e; subst e); exact n _ rfl), Sig.set_ne (fun q => by rw [q, ha] at e; exact nA e)]; exact e
 ·refine rE (hadr _) ?_
  rw [hval] at e
  by_cases q : sl1 = .attrs
  ·subst q
   rw [if_pos rfl] at e; obtain rfl := ZqC e
   exact Sig.set_self
  ·rw [if_neg q] at e
   rewrite [Sig.set_ne (b := adr k z sl1) (a := k.attrs) (fun x => q (h.inj _ _ _ _ e hv x))]; refine rE (Sig.set_ne (fresh _ _ e)) ?_
   exact h.obj _ _ e
 ·refine rE (hadr _) (rE (hadr _) ?_)
  refine o21 (dom _ _ e1) fun n_ d1 => ?_
  refine o21 (dom _ _ e2) fun n_ d2 => ?_
  exact h.inj _ _ _ _ d1 d2
 ·by_cases q : i < w.lets.length
  ·have e1 : (z.ats ++ [a])[i]? = some b := e1
   have e2 : (w.lets ++ [c])[i]? = some c' := e2
   rw [ZqZ (by omega)] at e1
   rw [ZqZ q] at e2
   refine o20 (h.att i b c' e1 e2) fun q1 q2 => ?_
   have q1' : AttrOk (σ.set a (.lst lv)) b c' := q1.mono (Zaa ha)
   exact ⟨q1'.set (b := k.attrs) (by refine rE (Sig.set_ne hca) ?_; exact ho) (q2 _ _ hv), fun sl1 l₁ e => (by (refine o21 (dom _ _ e) fun n_ d => ?_); refine rE (hadr _) ?_; exact q2 _ _ d)⟩
  ·have e1 : (z.ats ++ [a])[i]? = some b := e1
   have e2 : (w.lets ++ [c])[i]? = some c' := e2
   rw [Zro (by omega)] at e1 e2
   have hi : i = w.lets.length := by
    have := (ZqU.mp e2).1
    simp at this; omega
   subst hi
   rw [la] at e1
   simp at e1 e2
   subst e1; subst e2
   exact ⟨hc.set (b := k.attrs) (by refine rE (Sig.set_ne hca) ?_; exact ho) (Ne.symm hca), fun sl1 l₁ e => (by (refine o21 (dom _ _ e) fun n_ d => ?_); refine rE (hadr _) ?_; exact Ne.symm (fresh _ _ d))⟩
 ·rw [hval] at e
  by_cases q : sl1 = .attrs
  ·subst q; rw [if_pos rfl] at e; obtain rfl := ZqC e; simp [la]; omega
  ·rw [if_neg q] at e; exact h.small _ _ e
structure Ext (k : Cfg) (z : Var) (w : Wd) (σ : Sig) (z' : Var) (w' : Wd) (σ' : Sig) : Prop where
 keep : ∀ a o, σ a = some o -> ¬ Own k z w a -> σ' a = some o
 new : ∀ a, Own k z' w' a -> Own k z w a \/ σ a = none
theorem Ext.refl {k : Cfg} {z : Var} {w : Wd} {σ : Sig} : Ext k z w σ z w σ := ⟨fun n_ n_ e n_ => e, fun n_ h => .inl h⟩
theorem Ext.trans {k : Cfg} {z za zb : Var} {w w₁ w₂ : Wd} {σ σ₁ σ₂ : Sig} (x : Ext k z w σ za w₁ σ₁) (y : Ext k za w₁ σ₁ zb w₂ σ₂) : Ext k z w σ zb w₂ σ₂ := by
 have mid : ∀ a o, σ a = some o -> ¬ Own k z w a -> ¬ Own k za w₁ a := fun a o e n q => by
  rcases x.new a q with r | r
  ·exact n r
  ·rw [e] at r; exact nB r
 refine ⟨fun a o e n => y.keep a o (x.keep a o e n) (mid a o e n), fun a q => ?_⟩
 rcases y.new a q with r | r
 ·exact x.new a r
 ·induction e : σ a with
  | none => exact .inr rfl
  | some o =>
   by_cases n : Own k z w a
   ·exact .inl n
   ·rw [x.keep a o e n] at r; exact nB r
theorem Ext.more {k : Cfg} {z : Var} {w : Wd} {σ σ' : Sig} (e : ∀ a o, σ a = some o -> σ' a = some o) : Ext k z w σ z w σ' := ⟨fun a o q n_ => e a o q, fun n_ h => .inl h⟩
end Nz
namespace Nz
open PySem PySem.W PySem.Calls PyProof.Rows
theorem Zqs {us : List Value} {n : Nat} (h : us.length = n + 1) : ∃ a r, us = a :: r /\ r.length = n := by
 induction us using ZcU with
 | nil => injection h
 | cons a r => exact e42 a r rfl (Nat.succ.inj h)
theorem Zql {P : List Value -> Shared -> Prop} {K : Shared -> Prop} {n : Nat} (hn : n = 0) (h : ∀ s, K s -> P [] s) : ∀ us : List Value, us.length = n -> ∀ s, K s -> P us s := fun us hl => by
 subst hn; refine rE (Zq9 hl) ?_; exact h
theorem ZnZ {P : List Value -> Shared -> Prop} {K : Shared -> Prop} {m : Nat} (h : ∀ a, ∀ us : List Value, us.length = m -> ∀ s, K s -> P (a :: us) s) : ∀ us : List Value, us.length = m + 1 -> ∀ s, K s -> P us s := fun us hl => by
 refine o42 (Zqs hl) fun a r e l => ?_; subst e; exact h a r l
theorem Zqo {P : List Value -> Shared -> Prop} {K : Shared -> Prop} {n : Nat} (hn : n = 1) (h : ∀ a s, K s -> P [a] s) : ∀ us : List Value, us.length = n -> ∀ s, K s -> P us s := by subst hn; exact ZnZ fun a => Zql rfl (h a)
theorem Zqn {P : List Value -> Shared -> Prop} {K : Shared -> Prop} {n : Nat} (hn : n = 2) (h : ∀ a b s, K s -> P [a, b] s) : ∀ us : List Value, us.length = n -> ∀ s, K s -> P us s := by subst hn; exact ZnZ fun a => Zqo rfl (h a)
theorem Zqf {P : List Value -> Shared -> Prop} {K : Shared -> Prop} {n : Nat} (hn : n = 3) (h : ∀ a b c s, K s -> P [a, b, c] s) : ∀ us : List Value, us.length = n -> ∀ s, K s -> P us s := by subst hn; exact ZnZ fun a => Zqn rfl (h a)
theorem Zqi {P : List Value -> Shared -> Prop} {K : Shared -> Prop} {n : Nat} (hn : n = 4) (h : ∀ a b c d s, K s -> P [a, b, c, d] s) : ∀ us : List Value, us.length = n -> ∀ s, K s -> P us s := by subst hn; exact ZnZ fun a => Zqf rfl (h a)
theorem Zqk {P : List Value -> Shared -> Prop} {K : Shared -> Prop} {n : Nat} (hn : n = 5) (h : ∀ a b c d e s, K s -> P [a, b, c, d, e] s) : ∀ us : List Value, us.length = n -> ∀ s, K s -> P us s := by subst hn; exact ZnZ fun a => Zqi rfl (h a)
theorem Zqe {P : List Value -> Shared -> Prop} {K : Shared -> Prop} {n : Nat} (hn : n = 6) (h : ∀ a b c d e f s, K s -> P [a, b, c, d, e, f] s) : ∀ us : List Value, us.length = n -> ∀ s, K s -> P us s := by subst hn; exact ZnZ fun a => Zqk rfl (h a)
theorem Zqp {P : List Value -> Shared -> Prop} {K : Shared -> Prop} {n : Nat} (hn : n = 7) (h : ∀ a b c d e f g s, K s -> P [a, b, c, d, e, f, g] s) : ∀ us : List Value, us.length = n -> ∀ s, K s -> P us s := by subst hn; exact ZnZ fun a => Zqe rfl (h a)
inductive ArgsAre : List Arg -> List Str -> Prop
 | nil : ArgsAre [] []
 | cons {as xs x an p} : ArgsAre as xs -> ArgsAre (⟨x, an, p⟩ :: as) (x :: xs)
section
variable {G : Glo} {Γ : Amb} {σ : Sig} {m : Loc}
theorem ZhA {f : Addr} {d : Nat} {names : List Str} {vs dv : List AV} {ds : List Value} {Q : AV -> Sig -> Loc -> Prop}
  {name qual : Str} {params : Arguments} {body : List Stmt} {scope : Scope} {dV kV doc pm cdv ct oc : Value} {an od : Option Addr} {osl : Array (Option Value)}
  (ho : G.K.lookup f = some ⟨oc, od, .func (fnOf name qual params body scope dV kV doc pm an cdv ct), osl⟩) (hnm : ArgsAre params.args names) (hcd : codeIn G.K cdv qual = true) (rm : Γ.Room (d + 1))
  (rd : VRs dv ds) (hb : ∀ us, us.length = vs.length -> ∀ s : Shared, G.K.In s.heap -> BindsTo s (fnOf name qual params body scope dV kV doc pm an cdv ct) ⟨us, []⟩ (names.zip (us ++ ds)))
  (hn : names.Nodup) (hl : (names.all fun x => scope.names.lookup x == some .local) = true)
  (hco : scope.isCoroutine = false) (hgen : scope.isGenerator = false) (hk : scope.kind = .function) (hcell : (scope.names.all fun x => decide (x.2 ≠ .cell)) = true)
  (h : ∀ r : Rm, (ofB qual scope f cdv r).Room d ->
   W G (ofB qual scope f cdv r) FRl (execs body (Amb.env (ofB qual scope f cdv r))) (fun fl σ' n_ => Q (Zgj fl) σ' m) σ (names.zip (vs ++ dv))) : FC G Γ (.ref f) vs Q σ m :=
 ZnN ho hcd rm rd hb hn hl (fun A A₀ base g outer L => h ⟨A, A₀, base, g, outer, L⟩) hco hgen hk hcell
theorem Zmq {f : Addr} {d : Nat} {names : List Str} {vs dv : List AV} {ds : List Value} {v : AV}
  {name qual : Str} {params : Arguments} {body : List Stmt} {scope : Scope} {dV kV doc pm cdv ct oc : Value} {an od : Option Addr} {osl : Array (Option Value)}
  (ho : G.K.lookup f = some ⟨oc, od, .func (fnOf name qual params body scope dV kV doc pm an cdv ct), osl⟩) (hnm : ArgsAre params.args names) (hcd : codeIn G.K cdv qual = true) (rm : Γ.Room (d + 1))
  (rd : VRs dv ds) (hb : ∀ us, us.length = vs.length -> ∀ s : Shared, G.K.In s.heap -> BindsTo s (fnOf name qual params body scope dV kV doc pm an cdv ct) ⟨us, []⟩ (names.zip (us ++ ds)))
  (hn : names.Nodup) (hl : (names.all fun x => scope.names.lookup x == some .local) = true)
  (hco : scope.isCoroutine = false) (hgen : scope.isGenerator = false) (hk : scope.kind = .function) (hcell : (scope.names.all fun x => decide (x.2 ≠ .cell)) = true)
  (h : ∀ r : Rm, (ofB qual scope f cdv r).Room d ->
   W G (ofB qual scope f cdv r) FRl (execs body (Amb.env (ofB qual scope f cdv r))) (fun fl σ' n_ => Zgj fl = v /\ ∀ a o, σ a = some o -> σ' a = some o) σ (names.zip (vs ++ dv))) : EvF G Γ σ m (.ref f) vs v := fun Q q us r =>
 ZbE (Zat (ZnN (Q := fun v' σ' m' => v' = v /\ m' = m /\ ∀ a o, σ a = some o -> σ' a = some o) ho hcd rm rd hb hn hl (fun A A₀ base g outer L hr => Zat (h ⟨A, A₀, base, g, outer, L⟩ hr) fun b σ' m' hp => (by (refine o20 hp fun e1 e2 => ?_; clear hp); exact ⟨e1, rfl, e2⟩)) hco hgen hk hcell us r) fun b σ' m' hp => by
  refine o30 hp fun e1 e2 e3 => ?_; clear hp
  subst e1; subst e2
  exact e52 σ m' e3 (fun n_ n_ e => e) q)
end
structure Is (G : Glo) : Prop where
 k : G.K = nzhd.heap_39 G.w.params
 s73 : G.st 73 = some (.tup [])
 s403 : G.st 403 = some (.tup [])
 s412 : G.st 412 = some (.tup [])
theorem Is.lk {G : Glo} (hK : Is G) {f : Addr} {o : Obj} (h : (nzhd.heap_39 G.w.params).lookup f = some o) : G.K.lookup f = some o := by refine rE hK.k ?_; exact h
theorem Is.cd {G : Glo} (hK : Is G) {c : Value} {q : Str} (h : codeIn (nzhd.heap_39 G.w.params) c q = true) : codeIn G.K c q = true := by refine rE hK.k ?_; exact h
theorem Is.ns {G : Glo} (hK : Is G) {x : Str} {v : Option Value} (h : nsIn (nzhd.heap_39 G.w.params) mainGlobals x = some v) : nsIn G.K mainGlobals x = some v := by refine rE hK.k ?_; exact h
theorem Is.keep {G : Glo} (hK : Is G) {v : Value} (h : keepIn (nzhd.heap_39 G.w.params) v = true) : keepIn G.K v = true := by refine rE hK.k ?_; exact h
theorem Is.inn {G : Glo} (hK : Is G) {h : Heap} (X : G.K.In h) : (nzhd.heap_39 G.w.params).In h := by rw [hK.k] at X; exact X
theorem Is.field {G : Glo} (hK : Is G) {C : Addr} {x : Str} (h1 : plainGet (nzhd.heap_39 G.w.params) C x = true) (h2 : hasDictIn (nzhd.heap_39 G.w.params) C = true) (h3 : findIn (nzhd.heap_39 G.w.params) (.ref C) x = some none) (h4 : noGet (nzhd.heap_39 G.w.params) none = true) : Field G.K C x := by
 refine rE hK.k ?_; exact ⟨h1, h2, none, h3, h4⟩
theorem Is.meth {G : Glo} (hK : Is G) {C f : Addr} {x : Str} (h1 : plainGet (nzhd.heap_39 G.w.params) C x = true) (h2 : findIn (nzhd.heap_39 G.w.params) (.ref C) x = some (some (.ref f))) (h3 : isFn (nzhd.heap_39 G.w.params) (.ref f) = true) (h4 : keepIn (nzhd.heap_39 G.w.params) (.ref f) = true) : Meth G.K C x f := by
 refine rE hK.k ?_; exact ⟨h1, h2, h3, h4⟩
end Nz
namespace Nz
open PySem PySem.W PySem.Calls PyProof.Rows
section
variable {G : Glo} {Γ : Amb} {σ : Sig} {m : Loc}
theorem R.adopt {h : Heap} (hR : R G Γ σ m h) {a : Addr} {o : AO} {ob : Obj} (ha : h.get? a = some ob) (hL : a ≠ Γ.L) (hb : Γ.h₀.get? a = none) (lo : sysModules < a) (r : OR G o ob) : R G Γ (σ.set a o) m h := by
 refine o20 hR fun ok r1 => ?_; clear hR; refine o62 r1 fun mv news F N l sr => ?_; clear r1
 refine ⟨ok, mv, (a, ob) :: news, F, fun p hp => ?_, l, fun b o1 ec => ?_⟩
 ·rcases ZqD.mp hp with rfl | hp
  ·exact ⟨ha, hL, hb⟩
  ·exact N p hp
 ·by_cases hba : b = a
  ·subst hba
   rw [Sig.set_self] at ec
   obtain rfl := ZqC ec
   exact e41 ob (.head _) r lo
  ·rw [Sig.set_ne hba] at ec
   refine o31 (sr b o1 ec) fun ob1 hm1 ho1 => ?_
   exact e31 ob1 (.tail _ hm1) ho1
theorem R.ns {h : Heap} (hR : R G Γ σ m h) {a : Addr} {l : Loc} (e : σ a = some (.nsp l)) : ∃ md, h.Ns a md /\ LR l md := by
 refine o31 (hR.get e) fun ob ho r2 => ?_; refine o73 r2 fun es ep md hd hk hf r => ?_; clear r2
 exact e31 md ⟨ob, es, ep, ho, hd, hk, hf⟩ r
theorem R.out {h : Heap} (hR : R G Γ σ m h) : σ h.objs.size = none /\ h.objs.size ≠ Γ.L /\ Γ.h₀.get? h.objs.size = none /\ sysModules < h.objs.size := by
 refine ⟨?_, ?_, ?_, ?_⟩
 ·induction q : σ h.objs.size with
  | none => rfl
  | some o => (refine o31 (hR.get q) fun ob ho n_ => ?_); exact absurd (Heap.lt_size ho) (Zq8 _)
 ·refine o20 hR fun n_ r1 => ?_; clear hR; refine o42 r1 fun n_ n_ F n_ => ?_; clear r1; exact Zrx F.ns.lt
 ·refine o20 hR fun n_ r1 => ?_; clear hR; refine o42 r1 fun n_ n_ F n_ => ?_; clear r1; exact F.fresh
 ·refine o20 hR fun ok r1 => ?_; clear hR; refine o42 r1 fun n_ n_ F n_ => ?_; clear r1; exact Zcs ok F
noncomputable def EvE (G : Glo) (Γ : Amb) (σ : Sig) (m : Loc) (ε : Env) (e : Expr) (v : AV) : Prop := ∀ Q : AV -> Sig -> Loc -> Prop, Q v σ m -> W G Γ VR (eval e ε) Q σ m
noncomputable def ETE (G : Glo) (Γ : Amb) (σ : Sig) (m : Loc) (ε : Env) (e : Expr) (b : Bool) : Prop := ∀ Q : Bool -> Sig -> Loc -> Prop, Q b σ m -> W G Γ Eq (isTrue e ε (eval e ε)) Q σ m
noncomputable def EAE (G : Glo) (Γ : Amb) (σ : Sig) (m : Loc) (ε : Env) (op : BoolOp) (es : List Expr) (b : Bool) : Prop := ∀ Q : Bool -> Sig -> Loc -> Prop, Q b σ m -> W G Γ Eq (allTrue op es ε) Q σ m
theorem ZbT {ε : Env} {x : Str} {pos : Pos} {v : AV} {C : Addr} {l : Loc} (hC : σ C = some (.nsp l)) (hv : l.lookup x = some v) (hL : ε.locals = C) (hk : ε.scope.kind = .function) (hx : ε.kindOf x = some .local) (hd : (x == ("__debug__" : Str)) = false) : EvE G Γ σ m ε (.Name x pos) v := fun Q q =>
 Zbi fun s hR Q' k => by
  refine o31 (hR.ns hC) fun md hns r => ?_
  refine o31 (r x v hv) fun u hu ru => ?_
  subst hL
  exact wpAny_Name (wpAny_loadName_local hk hx hns hu (k u v s.heap s.toks σ m ru hR .refl q)) hd
theorem ZbV {ε : Env} {x : Str} {pos : Pos} {v : AV} {c : Addr} (hc : ε.cells.lookup x = some c) (hv : σ c = some (.cel (some v))) (hk : ε.scope.kind = .function) (hx : ε.kindOf x = some .cell) (hd : (x == ("__debug__" : Str)) = false) : EvE G Γ σ m ε (.Name x pos) v := fun Q q =>
 Zbi fun s hR Q' k => by
  refine o31 (hR.get hv) fun ob ho r2 => ?_; refine o31 r2 ?_; clear r2; intro u hu r2; refine o31 r2 fun w y1 r => ?_; clear r2; subst y1
  exact wpAny_Name (wpAny_loadName_cell hk hx hc ⟨ob, ho, hu⟩ (k w v s.heap s.toks σ m r hR .refl q)) hd
theorem Zej {ε : Env} {i : Int} {k : Nat} {pos : Pos} : EvE G Γ σ m ε (.Constant (.int i) k pos) (.int i) := fun Q q => Zo4 q
theorem ZbR {ε : Env} {o i : Expr} {pos : Pos} {x y v : AV} (ho : EvE G Γ σ m ε o x) (hi : EvE G Γ σ m ε i y) (hs : EvS G Γ σ m o i x y v) : EvE G Γ σ m ε (.Subscript o i pos) v := fun Q q => ZnU (ho _ (hi _ fun a b ra rb => hs a b Q ra rb q))
theorem ZpH {ε : Env} {x : Expr} {pos : Pos} {i : Int} (h : EvE G Γ σ m ε x (.int i)) : EvE G Γ σ m ε (.UnaryOp .USub x pos) (.int (-i)) := fun Q q => Zqh (h _ fun u r => ZpQ r q)
theorem Zm2 {ε : Env} {o : Expr} {name : Str} {pos : Pos} {x C : Addr} {v : AV} (ho : EvE G Γ σ m ε o (.ref x)) (e : Zd3 σ x name = some (C, v)) (f : Field G.K C name) (nr : Zgz v = true)
  (he : eval (.Attribute o name pos) ε = (do
   let v <- eval o ε
   standAt pos.atName
   let r <- holding [v] (getAttr v name true)
   letTemporaryGo o v r
   pure r)) : EvE G Γ σ m ε (.Attribute o name pos) v := fun Q q => by
 refine rE he ?_
 refine Zaq (ho _ fun a r => Ze9 (Zaq (rel := VR) (Zaw ?_)))
 subst r
 exact Zh8 e f nr fun u ru => Zbi fun s hR Q' k => wpAny_bind (wpAny_letTemporaryGo (wpAny_pure (k u v s.heap s.toks σ m ru hR .refl q)))
theorem ZiP {ε : Env} {l r : Expr} {op : CmpOp} {pos : Pos} {x y : AV} {b : Bool} (hl : EvE G Γ σ m ε l x) (hr : EvE G Γ σ m ε r y) (ho : EvC G Γ σ m op x y b) (hm : behindInMarks op r = false) : ETE G Γ σ m ε (.Compare l [op] [r] pos) b :=
 fun Q q => ZbI (hl _ (hr _ fun a b ra rb => ho a b _ ra rb ⟨_, rfl, q⟩)) hm
theorem ZnJ {ε : Env} {op : BoolOp} {values : List Expr} {pos : Pos} {b : Bool} (h : EAE G Γ σ m ε op values b) : ETE G Γ σ m ε (.BoolOp op values pos) b := fun Q q => ZhF (h Q q)
theorem Zmb {ε : Env} : EAE G Γ σ m ε .Or [] false := fun Q q => Zl5 q
theorem ZlU {ε : Env} {x : Expr} {rest : List Expr} {a b : Bool} (h : ETE G Γ σ m ε x a) (k : a = false -> EAE G Γ σ m ε .Or rest b) : EAE G Γ σ m ε .Or (x :: rest) (a || b) := fun Q q => Zg5 (h _ (by
 induction a
 ·exact k rfl Q q
 ·exact q))
noncomputable def estrs : List Expr -> List Str
 | [] => []
 | .Constant (.str x) _ _ :: r => x :: estrs r
 | _ :: r => estrs r
noncomputable def ZfY : List Expr -> Bool
 | [] => true
 | .Constant (.str _) _ _ :: r => ZfY r
 | _ => false
theorem ZnX {ε : Env} {pos : Pos} : ∀ {es : List Expr} {Q : List AV -> Sig -> Loc -> Prop}, ZfY es = true -> Q ((estrs es).map AV.str) σ m -> W G Γ VRs (spliced (backTo pos (starEach es ε))) Q σ m := by
 refine @Zbv _ _ ?_ ?_
 ·intro Q n_ q
  exact ZaX .nil q
 ·intro e r ih Q h q
  unfold ZfY at h
  split at h
  ·rename_i q; injection q
  ·rename_i x kd p r' z
   (injection z with hq1 hq2; subst hq1; subst hq2)
   refine (?_ : W G Γ VRs (spliced ((false, eval (.Constant (.str x) kd p) ε) :: backTo pos (starEach r ε))) Q σ m)
   rw [spliced]
   refine Zaq (Zo0 fun a ra => ?_)
   simp only [Zsc, if_false]
   exact Zaq (ZaX (rel := Eq) (b := [a]) rfl fun here e => by
    subst e
    exact Zaq (Zaw (ih (Q := fun vs σ' m' => ∀ us, VRs vs us -> W G Γ VRs (pure ([a] ++ us)) Q σ' m') h fun us rs => ZaX (b := AV.str x :: (estrs r).map AV.str) (.cons ra rs) q)))
  ·exact nC h
theorem ZmG {ε : Env} {elts : List Expr} {k : Nat} {pos : Pos} {Q : AV -> Sig -> Loc -> Prop} (ha : ZfY elts = true) (hz : (estrs elts).length <= sizeLine) (h : ∀ a, σ a = none -> Q (.ref a) (σ.set a (.tup ((estrs elts).map AV.str))) m) : W G Γ VR (eval (.Tuple elts k pos) ε) Q σ m := by
 show W G Γ VR (do standAt pos; newTuple (<- spliced (backTo pos (starEach elts ε)))) Q σ m
 refine Ze9 (Zaq (ZnX ha fun us rs => Zbi fun s hR Q' k => ?_))
 have hl : us.length = (estrs elts).length := by have := rs.len; rwa [Zqt] at this
 refine o30 (hR.push (o := .tup ((estrs elts).map AV.str)) (ob := { cls := .type "tuple", data := .seq us.toArray }) rfl ⟨us, 0, rfl, rs⟩) fun e hR' kp => ?_
 exact wpAny_newObj_type (k _ (.ref _) _ s.toks _ _ rfl hR' kp (h _ e)) (by refine (?_ : us.toArray.size <= sizeLine); (refine rE ZqM (rE hl ?_)); exact hz)
theorem ZnR {ε : Env} {l : Expr} {elts : List Expr} {k : Nat} {pos p : Pos} {x : Str} (hl : EvE G Γ σ m ε l (.str x)) (ha : ZfY elts = true) (hz : (estrs elts).length <= sizeLine) (hm : behindInMarks .In (.Tuple elts k p) = false) :
  ETE G Γ σ m ε (.Compare l [.In] [.Tuple elts k p] pos) (decide (x ∈ estrs elts)) := fun Q q =>
 ZbE (ZbI (hl _ (ZmG ha hz fun a ea A B ra rb => Zg6 (xs := estrs elts) (.inl Sig.set_self) rb ra ⟨_, rfl, σ, m, fun b o e => by
  rw [Sig.set_ne (fun q => by rw [q, ea] at e; exact nA e)]; exact e, fun n_ n_ e => e, q⟩)) hm)
noncomputable def Zng (G : Glo) (Γ : Amb) (x : Value) (n : Nat) (item : Nat -> AV) (J : Sig -> Prop) (σ : Sig) (m : Loc) : Prop :=
 ∀ s (Q : Value -> Shared -> Prop), R G Γ σ m s.heap ->
  (∀ (ob : Obj) (It : Nat -> Heap -> Prop), ob.isFreed = false -> Steps G Γ s.heap.objs.size n item J It -> (∀ i (s' : Shared) (Q' : Value -> Shared -> Prop) (E : Value -> Shared -> Prop), It i s'.heap -> Q' (.ref s.heap.objs.size) s' -> wpAny (model G.prog G.w) Γ.A (pyIter (.ref s.heap.objs.size)) Q' E s') ->
   It 0 (s.heap.push ob) -> Q (.ref s.heap.objs.size) { s with heap := s.heap.push ob }) ->
  wpAny (model G.prog G.w) Γ.A (pyIter x) Q (fun n_ n_ => False) s
theorem Zdh {a : Addr} {l : List AV} {σ₀ : Sig} {m₀ : Loc} (eh : Sees G σ₀ a (.lst l)) : Zng G Γ (.ref a) l.length (fun i => l.getD i .none) (fun σ => Sees G σ a (.lst l)) σ₀ m₀ := fun s Q hR k => by
 refine o31 (hR.isList eh) fun vs hl r => ?_
 refine wpAny_pyIter_list hl (k _ (fun i h => h.IsListIter s.heap.objs.size a i) rfl ⟨fun i h hp => (by (refine o31 hp fun o ho n_ => ?_; clear hp); exact ⟨o, ho⟩), fun i h h' x hk => ?_, fun i s₁ Q' σ' m' hi hit hR' e kk => ?_, fun s₁ Q' σ' m' hit hR' e kk => ?_⟩ (fun i s' Q' E hit hQ => wpAny_pyIter_listiter hit hQ) ⟨_, Heap.get?_push_size _ rfl, rfl, rfl⟩)
 ·refine o31 x fun o ho r => ?_; clear x; exact e31 o (hk o ho) r
 ·refine o31 (hR'.isList e) fun vs' hl' r' => ?_
  have hv : l[i]? = some (l.getD i .none) := by (refine rE ZqE (rE (ZqA hi) ?_)); rfl
  refine o31 (r'.at hv) fun u hu ru => ?_
  exact wpAny_pyNext_list_item hit hl' (x := u) (by simpa using hu) fun h' hit' hs' => kk u h' s₁.toks ru hit' hs'
 ·refine o31 (hR'.isList e) fun vs' hl' r' => ?_
  exact wpAny_pyNext_list_end hR'.ok.hd hit hl' (by simp [r'.len]) fun h' he => kk h' s₁.toks he
theorem Zhu {r : Addr} {n : Nat} {σ₀ : Sig} {m₀ : Loc} (eh : σ₀ r = some (.rng 0 n 1)) (hz : n <= sizeLine) : Zng G Γ (.ref r) n (fun i => .int i) (fun n_ => True) σ₀ m₀ := fun s Q hR k => by
 rw [sizeLine_eq] at hz
 have hn : Builtin.Range.rangeSize 0 n 1 = n := by
  unfold Builtin.Range.rangeSize
  rewrite [if_pos (by decide)]; refine rE (ZsO _) ?_
  split <;> omega
 have hsmall : Builtin.Range.small 0 n 1 = true := by
  unfold Builtin.Range.small
  refine rE hn ?_
  unfold Builtin.Range.rangeFitsLong
  simp
  omega
 refine o31 (hR.get eh) fun ob ho r2 => ?_; refine o43 r2 fun t u v y3 => ?_; clear r2; subst y3
 refine wpAny_pyIter_range ho hsmall (k _ (fun i h => IsRangeIter h s.heap.objs.size ((i : Nat) : Int) ((n : Int) - (i : Nat)) 1) rfl ⟨fun i h y => ⟨_, y⟩, fun i h h' y hk => hk _ y, fun i s₁ Q' σ' m' hi hit hR' e kk => ?_, fun s₁ Q' σ' m' hit hR' e kk => ?_⟩ (fun i s' Q' E hit hQ => wpAny_pyIter_rangeiter hit hQ) ?_)
 ·refine wpAny_pyNext_range_item hit (by omega) fun h' hit' hs' => kk _ h' _ ⟨_, rfl⟩ ?_ hs'
  have e1 : ((i + 1 : Nat) : Int) = (i : Int) + 1 := by omega
  have e2 : (n : Int) - ((i + 1 : Nat) : Int) = (n : Int) - (i : Int) - 1 := by omega
  refine (?_ : IsRangeIter h' _ ((i + 1 : Nat) : Int) ((n : Int) - ((i + 1 : Nat) : Int)) 1)
  refine rE e2 (rE e1 ?_); exact hit'
 ·exact wpAny_pyNext_range_end hR'.ok.hd hit (by omega) fun h' he => kk h' s₁.toks he
 ·have e2 : (n : Int) - ((0 : Nat) : Int) = n := by simp
  refine (?_ : IsRangeIter _ _ ((0 : Nat) : Int) ((n : Int) - ((0 : Nat) : Int)) 1)
  refine rE e2 ?_
  refine rE hn ?_
  exact Heap.get?_push_size _ rfl
end
end Nz
namespace Nz
open PySem PySem.W PySem.Calls PyProof.Rows
noncomputable def outs (t : Nat -> Bool) (v : Nat -> AV) : Nat -> List AV
 | 0 => []
 | i + 1 => if t i then outs t v i ++ [v i] else outs t v i
theorem ZmH (t : Nat -> Bool) (v : Nat -> AV) : ∀ i, (outs t v i).length <= i := by
 refine @Zms _ ?_ ?_
 ·exact ZqQ _
 ·intro i ih
  have := ih
  unfold outs
  split
  ·refine rE Zqu ?_; exact Nat.succ_le_succ this
  ·exact Zsk this
structure Turns (G : Glo) (Γ : Amb) (x : Str) (ifs : List Expr) (elt : Expr) (ε : Addr -> Env) (n : Nat) (item : Nat -> AV) (t : Nat -> Bool) (v : Nat -> AV) (σ : Sig) (m : Loc) : Prop where
 test : ∀ i C σ', i < n -> (∀ a o, σ a = some o -> σ' a = some o) -> σ' C = some (.nsp [(x, item i)]) -> (ifs = [] /\ t i = true) \/ ∃ c, ifs = [c] /\ ETE G Γ σ' m (ε C) c (t i)
 val : ∀ i C σ', i < n -> t i = true -> (∀ a o, σ a = some o -> σ' a = some o) -> σ' C = some (.nsp [(x, item i)]) -> EvE G Γ σ' m (ε C) elt (v i)
section
variable {G : Glo} {Γ : Amb} {σ : Sig} {m : Loc}
theorem R.keepK {h h' : Heap} (hR : R G Γ σ m h) (hk : ∀ b o, h.get? b = some o -> h'.get? b = some o) : R G Γ σ m h' /\ Kp Γ.L σ σ h h' := by
 refine o20 hR fun ok r1 => ?_; clear hR; refine o62 r1 fun mv news F N l sr => ?_; clear r1
 have hne : h.objs.size ≠ Γ.L := Zrx F.ns.lt
 exact ⟨⟨ok, mv, news, ⟨F.ns.extBut (show Heap.ExtBut h.objs.size h h' from fun b o n_ e => hk b o e) (Ne.symm hne), fun b o e => hk b o (F.keep b o e), F.above⟩, fun p hp => ⟨hk _ _ (N p hp).1, (N p hp).2⟩, l, sr⟩, fun b o n_ n_ e => hk b o e, fun n_ n_ e => .inl e⟩
theorem Zk7 {elt iter : Expr} {x : Str} {px : Pos} {ifs : List Expr} {scope : Scope} {cl : List (Str × Addr)} {pos : Pos} {s₂ : Shared} {h₁ : Heap} {I : Addr} {n : Nat} {item : Nat -> AV} {J : Sig -> Prop} {It : Nat -> Heap -> Prop} {t : Nat -> Bool} {v : Nat -> AV} {RR : Value -> Addr -> Result -> Shared -> Prop} {E : Value -> Shared -> Prop}
  (hcell : ∀ y ∈ scope.names, y.2 ≠ .cell) (hkind : scope.kind = .function) (hx : scope.names.lookup x = some .local)
  (hR : R G Γ σ m s₂.heap) (kp₀ : Kp Γ.L σ σ h₁ s₂.heap) (hI1 : h₁.get? I = none) (hIσ : σ I = none) (hIL : I ≠ Γ.L) (hI0 : Γ.h₀.get? I = none) (hIlt : I < s₂.heap.objs.size) (hz : n <= sizeLine)
  (h12 : ∀ b o, h₁.get? b = some o -> s₂.heap.get? b = some o)
  (St : Steps G Γ I n item J It) (self : ∀ i (s' : Shared) (Q' : Value -> Shared -> Prop) (E : Value -> Shared -> Prop), It i s'.heap -> Q' (.ref I) s' -> wpAny (model G.prog G.w) Γ.A (pyIter (.ref I)) Q' E s')
  (it0 : It 0 s₂.heap) (hJ : ∀ σ', (∀ a o, σ a = some o -> σ' a = some o) -> J σ') (T : Turns G Γ x ifs elt (fun C => compEnvC scope cl C Γ.env) n item t v σ m)
  (hRR : ∀ D C h tk m', R G Γ (σ.set D (.lst (outs t v n))) m h -> Kp Γ.L σ (σ.set D (.lst (outs t v n))) h₁ h -> h.Ns C m' -> C ≠ D -> C ≠ Γ.L -> Γ.h₀.get? C = none -> σ C = none -> σ D = none -> h₁.get? C = none -> RR (.ref D) C (.ok .next) { s₂ with heap := h, toks := tk }) :
  wpAny (model G.prog G.w) Γ.A (newList []) (fun acc sb => wpAny (model G.prog G.w) Γ.A (newFunctionEnv scope Γ.env.globals cl [] Γ.env.qual none .none (some Γ.env)) (fun cenv sg =>
   codeAny (model G.prog G.w) Γ.A (.compStart (.ListComp elt [⟨.Name x px, iter, ifs, 0⟩] scope pos) 0 (.ref I) acc { cenv with scope := relabel scope Γ.env }) (RR acc cenv.locals) sg) E sb) E s₂ := by
 refine o30 (hR.push (o := .lst []) (ob := { cls := .type "list", data := .seq ([] : List Value).toArray }) rfl ⟨[], 0, rfl, .nil⟩) fun hD hR₂ kpD => ?_
 have hDh : h₁.get? s₂.heap.objs.size = none := by
  induction q : h₁.get? s₂.heap.objs.size with
  | none => rfl
  | some o => exact absurd (Heap.lt_size (h12 _ _ q)) (Zq8 _)
 have hDI : I ≠ s₂.heap.objs.size := Zrd hIlt
 have hDsz : (s₂.heap.push { cls := .type "list", data := .seq ([] : List Value).toArray }).objs.size = s₂.heap.objs.size + 1 := Heap.size_push ..
 refine wpAny_newObj_type (wpAny_newFunctionEnv hcell (by intro y hy; simp at hy) (fun h₃ hns3 hsb₃ => ?_) hkind)
 dsimp only at hns3 hsb₃ ⊢
 generalize hDe : s₂.heap.objs.size = D at *
 generalize hH : s₂.heap.push { cls := .type "list", dict := none, data := .seq ([] : List Value).toArray } = H at *
 refine o40 hR₂.out fun hC hCL hC0 hCs => ?_
 have hCI : I ≠ H.objs.size := by refine rE hDsz ?_; exact Zrd (Zrr hIlt)
 have hCD : H.objs.size ≠ D := by refine rE hDsz ?_; exact Nat.succ_ne_self _
 have hCσ : σ H.objs.size = none := by rw [Sig.set_ne hCD] at hC; exact hC
 have hCh : h₁.get? H.objs.size = none := by
  induction q : h₁.get? H.objs.size with
  | none => rfl
  | some o => have := Heap.lt_size (h12 _ _ q); rw [hDe, hDsz] at this; exact absurd this (ZsD.mpr (Zsp _))
 have old3 : ∀ b o, H.get? b = some o -> h₃.get? b = some o := fun b o e => hsb₃.extBut b o (Zrd (Heap.lt_size e)) (Heap.get?_push_of_some _ e)
 have oldS : ∀ b o, s₂.heap.get? b = some o -> h₃.get? b = some o := fun b o e => old3 b o (hH ▸ Heap.get?_push_of_some _ e)
 refine o20 (hR₂.keepK old3) fun hR₃ kp₃ => ?_
 generalize H.objs.size = C at *
 have it3 : It 0 h₃ := St.keep _ _ _ it0 fun o e => oldS _ _ e
 have loop : ∀ sb : Shared, sb = { s₂ with heap := h₃, toks := s₂.toks + ([] : List (Str × Value)).length } ->
   codeAny (model G.prog G.w) Γ.A (.compLoop (.ListComp elt [⟨.Name x px, iter, ifs, 0⟩] scope pos) 0 (.ref I) (.ref D) (compEnvC scope cl C Γ.env)) (RR (.ref D) C) sb := by
  rintro sb rfl
  refine codeAny_compLoop_tests
   (fun k s' => ∃ h' tk i m', s' = { s₂ with heap := h', toks := tk } /\ i <= n /\ k = n + 1 - i /\ R G Γ (σ.set D (.lst (outs t v i))) m h' /\ Kp Γ.L σ (σ.set D (.lst (outs t v i))) h₁ h' /\ It i h' /\ h'.Ns C m') ?_ (n + 1)
   ⟨h₃, _, 0, _, rfl, Zrq _, rfl, hR₃, (kp₀.trans kpD).trans kp₃, it3, hns3⟩
  rintro k s' ⟨h', tk, i, m', rfl, hi, rfl, hR', kp', hit, hns⟩
  have hI' : (σ.set D (.lst (outs t v i))) I = none := by refine rE (Sig.set_ne hDI) ?_; exact hIσ
  have hC' : (σ.set D (.lst (outs t v i))) C = none := by refine rE (Sig.set_ne hCD) ?_; exact hCσ
  have up : ∀ a o, σ a = some o -> (σ.set D (.lst (outs t v i))) a = some o := fun a o e => by rw [Sig.set_ne (fun q => by rw [q, hD] at e; exact nA e)]; exact e
  by_cases hlt : i < n
  ·refine wpAny_mono (E := fun n_ n_ => False) (St.next i { s₂ with heap := h', toks := tk } _ _ _ hlt hit hR' (hJ _ up) fun u h₄ tk4 ru hit4 hs₄ => ?_) (fun n_ n_ z => z) fun n_ n_ x => x.elim
   dsimp only
   have hR₄ := hR'.ext hI' hIL hI0 hs₄.extBut
   have hns4 : h₄.Ns C m' := hns.extBut hs₄.extBut (Ne.symm hCI)
   refine wpAny_assign_Name (wpAny_storeName_local (lookup_relabel_local hx) hns4 (fun h₅ hn5 hs₅ => ?_) (by simp [compEnvC, relabel, hkind]))
   replace hs₅ : Heap.SameBut C h₄ h₅ := hs₅
   have hR₅ := hR₄.ext hC' hCL hC0 hs₅.extBut
   refine o21 (St.there _ _ hit4) fun oI hoI => ?_
   have hit5 : It (i + 1) h₅ := St.keep _ _ _ hit4 fun o e => hs₅.extBut _ _ hCI e
   have hoI5 : h₅.get? I = some oI := hs₅.extBut _ _ hCI hoI
   refine o73 hn5 fun obC esC epC hoC hdC hkC hfC => ?_; clear hn5
   have hR6 : R G Γ ((σ.set D (.lst (outs t v i))).set C (.nsp [(x, item i)])) m h₅ := hR₅.adopt hoC hCL hC0 hCs ⟨esC, epC, _, hdC, hkC, hfC, fun y w e => by
    rw [ZqW] at e
    by_cases hy : y = x
    ·subst hy; simp only [beq_self_eq_true] at e; obtain rfl := ZqC e
     exact e31 u (by simp) ru
    ·have : (y == x) = false := beq_eq_false_iff_ne.mpr hy
     simp only [this] at e; injection e⟩
   have upa : ∀ a o, σ a = some o -> ((σ.set D (.lst (outs t v i))).set C (.nsp [(x, item i)])) a = some o := fun a o e => by rw [Sig.set_ne (fun q => by rw [q, hCσ] at e; exact nA e)]; exact up a o e
   have base5 : ∀ b o, b ≠ Γ.L -> σ b = none -> h₁.get? b = some o -> h₅.get? b = some o := fun b o hb e1 e2 =>
    hs₅.extBut b o (fun q => by rw [q, hCh] at e2; exact nA e2) (hs₄.extBut b o (fun q => by rw [q, hI1] at e2; exact nA e2) (kp'.keep b o hb e1 e2))
   -- after whatever is quiet
   have quiet : ∀ h₆, Kp Γ.L ((σ.set D (.lst (outs t v i))).set C (.nsp [(x, item i)])) ((σ.set D (.lst (outs t v i))).set C (.nsp [(x, item i)])) h₅ h₆ -> h₆.get? I = some oI /\ ∀ b o, b ≠ Γ.L -> σ b = none -> h₁.get? b = some o -> h₆.get? b = some o := fun h₆ kp => by
    refine ⟨kp.keep _ _ hIL (by refine rE (Sig.set_ne hCI) ?_; exact hI') hoI5, fun b o hb e1 e2 => kp.keep b o hb ?_ (base5 b o hb e1 e2)⟩
    rw [Sig.set_ne (fun q => by rw [q, hCh] at e2; exact nA e2), Sig.set_ne (fun q => by rw [q, hDh] at e2; exact nA e2)]; exact e1
   have kpOf : ∀ j h₆, (∀ b o, b ≠ Γ.L -> σ b = none -> h₁.get? b = some o -> h₆.get? b = some o) -> Kp Γ.L σ (σ.set D (.lst (outs t v j))) h₁ h₆ := fun j h₆ q => ⟨q, fun b hb e => by
    by_cases hbD : b = D
    ·exact .inr (by refine rE hbD ?_; exact hDh)
    ·rw [Sig.set_ne hbD] at e; exact .inl e⟩
   have tests : ∀ (Q' : Bool -> Shared -> Prop) (E' : Value -> Shared -> Prop), (∀ h₆ tk6, R G Γ ((σ.set D (.lst (outs t v i))).set C (.nsp [(x, item i)])) m h₆ -> h₆.get? I = some oI -> (∀ b o, b ≠ Γ.L -> σ b = none -> h₁.get? b = some o -> h₆.get? b = some o) -> Q' (t i) { s₂ with heap := h₆, toks := tk6 }) ->
     wpAny (model G.prog G.w) Γ.A (forIn ifs true fun c r => if r = true then do let ok <- isTrue c (compEnvC scope cl C Γ.env) (eval c (compEnvC scope cl C Γ.env)); pure (ForInStep.yield ok) else pure (ForInStep.yield r)) Q' E' { s₂ with heap := h₅, toks := tk4 + 1 } := fun Q' E' kk => by
    rcases T.test i C _ hlt upa Sig.set_self with ⟨hif, ht⟩ | ⟨c, hif, ht⟩
    ·subst hif
     refine wpAny_tests_nil ?_
     refine rS ht ?_
     exact kk h₅ _ hR6 hoI5 base5
    ·subst hif
     refine wpAny_tests_one (W.use (s := { s₂ with heap := h₅, toks := tk4 + 1 }) (ht (fun b σ' m' => b = t i /\ σ' = (σ.set D (.lst (outs t v i))).set C (.nsp [(x, item i)]) /\ m' = m) ⟨rfl, rfl, rfl⟩) hR6 fun a b h₆ tk6 σ6 ml r hR₇ kp₇ z => ?_)
     refine o30 z fun e1 e2 e3 => ?_; clear z
     subst r; subst e1; subst e2; subst e3
     refine o20 (quiet h₆ kp₇) fun q1 q2 => ?_
     exact kk h₆ tk6 hR₇ q1 q2
   refine tests _ _ fun h₆ tk6 hR6 hoI6 base6 => ?_
   have hlast : ∀ h₇ tk7, R G Γ ((σ.set D (.lst (outs t v (i + 1)))).set C (.nsp [(x, item i)])) m h₇ -> h₇.get? I = some oI -> (∀ b o, b ≠ Γ.L -> σ b = none -> h₁.get? b = some o -> h₇.get? b = some o) -> ∃ mm, mm < n + 1 - i /\ ∃ h' tk i' m', ({ s₂ with heap := h₇, toks := tk7 } : Shared) = { s₂ with heap := h', toks := tk } /\ i' <= n /\ mm = n + 1 - i' /\ R G Γ (σ.set D (.lst (outs t v i'))) m h' /\ Kp Γ.L σ (σ.set D (.lst (outs t v i'))) h₁ h' /\ It i' h' /\ h'.Ns C m' := fun h₇ tk7 hR₇ hoI7 base7 => by
    refine o31 (hR₇.ns Sig.set_self) fun md hn7 n_ => ?_
    refine e31 (n + 1 - (i + 1)) (sA hlt) ⟨h₇, tk7, i + 1, md, rfl, hlt, rfl, hR₇.weaken (fun a o e => ?_) (fun n_ n_ e => e), kpOf _ _ base7, St.keep _ _ _ hit5 fun o e => ?_, hn7⟩
    ·rw [Sig.set_ne (fun q => ?_)]
     ·exact e
     ·subst q
      rw [Sig.set_ne hCD, hCσ] at e; exact nA e
    ·rw [hoI5] at e; obtain rfl := ZqC e; exact hoI7
   induction hti : t i with
   | false =>
    rw [if_neg (by decide)]
    refine hlast h₆ tk6 ?_ hoI6 base6
    rw [show outs t v (i + 1) = outs t v i from by refine (?_ : (if t i = true then _ else _) = _); refine rE hti ?_; rfl]
    exact hR6
   | true =>
    refine rE (if_pos rfl) ?_
    refine W.use (s := { s₂ with heap := h₆, toks := tk6 }) (T.val i C _ hlt hti upa Sig.set_self (fun b σ' m' => b = v i /\ σ' = (σ.set D (.lst (outs t v i))).set C (.nsp [(x, item i)]) /\ m' = m) ⟨rfl, rfl, rfl⟩) hR6 fun a b h₇ tk7 σ₇ mj r hR₇ kp₇ z => ?_
    refine o30 z fun e1 e2 e3 => ?_; clear z
    subst e1; subst e2; subst e3
    have hoI7 : h₇.get? I = some oI := kp₇.keep _ _ hIL (by refine rE (Sig.set_ne hCI) ?_; exact hI') hoI6
    have base7 : ∀ b o, b ≠ Γ.L -> σ b = none -> h₁.get? b = some o -> h₇.get? b = some o := fun b o hb e1 e2 => by
     refine kp₇.keep b o hb ?_ (base6 b o hb e1 e2)
     rw [Sig.set_ne (fun q => by rw [q, hCh] at e2; exact nA e2), Sig.set_ne (fun q => by rw [q, hDh] at e2; exact nA e2)]; exact e1
    have hDl : ((σ.set D (.lst (outs t v i))).set C (.nsp [(x, item i)])) D = some (.lst (outs t v i)) := by refine rE (Sig.set_ne (Ne.symm hCD)) ?_; exact Sig.set_self
    refine W.use (s := { s₂ with heap := h₇, toks := tk7 }) (Zbw (Q := fun n_ σ' m' => σ' = ((σ.set D (.lst (outs t v i))).set C (.nsp [(x, item i)])).set D (.lst (outs t v i ++ [v i])) /\ m' = mj) hDl (Zrj (ZmH t v i) (Zrj hi hz)) ⟨rfl, rfl⟩ _ (.cons rfl (.cons r .nil))) hR₇ fun a' b' hN tk8 σ₈ mn rk hR₈ kp₈ z => ?_
    refine o20 z fun e2 e3 => ?_; clear z
    subst e2; subst e3
    refine hlast hN tk8 ?_ (kp₈.keep _ _ hIL (by refine rE (Sig.set_ne hCI) ?_; exact hI') hoI7) fun b o hb e1 e2 => ?_
    ·refine hR₈.weaken (fun a o e => ?_) fun n_ n_ e => e
     rw [show outs t v (i + 1) = outs t v i ++ [v i] from by refine (?_ : (if t i = true then _ else _) = _); refine rE hti ?_; rfl] at e
     by_cases haD : a = D
     ·subst haD
      refine rE Sig.set_self ?_
      rw [Sig.set_ne (Ne.symm hCD), Sig.set_self] at e; exact e
     ·refine rE (Sig.set_ne haD) ?_
      by_cases haC : a = C
      ·subst haC; rw [Sig.set_self] at e ⊢; exact e
      ·rw [Sig.set_ne haC] at e ⊢
       rw [Sig.set_ne haD] at e ⊢; exact e
    ·refine kp₈.keep b o hb ?_ (base7 b o hb e1 e2)
     rw [Sig.set_ne (fun q => by rw [q, hCh] at e2; exact nA e2), Sig.set_ne (fun q => by rw [q, hDh] at e2; exact nA e2)]; exact e1
  ·obtain rfl : i = n := by omega
   refine wpAny_mono (E := fun n_ n_ => False) (St.stop { s₂ with heap := h', toks := tk } _ _ _ hit hR' (hJ _ up) fun h₄ tk4 he => ?_) (fun n_ n_ z => z) fun n_ n_ x => x.elim
   dsimp only
   have hR₄ := hR'.ext hI' hIL hI0 he
   refine hRR D C h₄ tk4 m' hR₄ ⟨fun b o hb e1 e2 => he b o (fun q => by rw [q, hI1] at e2; exact nA e2) (kp'.keep b o hb e1 e2), kp'.new⟩ (hns.extBut he (Ne.symm hCI)) hCD hCL hC0 hCσ hD hCh
 exact codeAny_compStart_list (loop _ rfl) (self 0 _ _ _ it3 (loop _ rfl))
end
end Nz
namespace Nz
open PySem PySem.W PySem.Calls PyProof.Rows
section
variable {G : Glo} {Γ : Amb} {σ : Sig} {m : Loc}
theorem Ziq {elt iter : Expr} {x : Str} {px : Pos} {ifs : List Expr} {scope : Scope} {cl : List (Str × Addr)} {pos : Pos} {Q : AV -> Sig -> Loc -> Prop}
  (h : W G Γ VR (eval iter Γ.env) (fun b σ₁ mc => ∃ n item J t v, (∀ u, VR b u -> Zng G Γ u n item J σ₁ mc) /\ n <= sizeLine /\ (∀ σ', (∀ a o, σ₁ a = some o -> σ' a = some o) -> J σ') /\
   Turns G Γ x ifs elt (fun C => compEnvC scope cl C Γ.env) n item t v σ₁ mc /\ ∀ D, σ₁ D = none -> Q (.ref D) (σ₁.set D (.lst (outs t v n))) mc) σ m)
  (hclos : closureFor scope Γ.env = pure cl) (hcell : ∀ y ∈ scope.names, y.2 ≠ .cell) (hkind : scope.kind = .function) (hnames : ∀ y ∈ scope.names, y.2 = .local -> scope.names.lookup y.1 = some .local) (hx : scope.names.lookup x = some .local)
  (hs : ∀ x, foldedSetIterable iter Γ.env x = pure x) : W G Γ VR (eval (.ListComp elt [⟨.Name x px, iter, ifs, 0⟩] scope pos) Γ.env) Q σ m := Zbi fun s hR Q' k => by
 refine rE (eval_ListComp _ _ _ _) ?_
 refine wpAny_comprehension_free (use := none) rfl hs hclos hkind hnames (h.use hR fun b av h₁ tk1 σ₁ mc r hR₁ kp₁ z => ?_)
 refine o85 z fun n item J t v go hz r7 => ?_; clear z; refine o30 r7 fun hJ T fin => ?_; clear r7
 refine go b r { s with heap := h₁, toks := tk1 } _ hR₁ fun ob It hf St self it0 => ?_
 refine o40 hR₁.out fun hIσ hIL hI0 n_ => ?_
 refine o20 (hR₁.pushed hf) fun hR₂ kp₂ => ?_
 have hI1 : h₁.get? h₁.objs.size = none := by
  induction q : h₁.get? h₁.objs.size with
  | none => rfl
  | some o => exact absurd (Heap.lt_size q) (Zq8 _)
 refine Zk7 (RR := fun acc C => compPost (model G.prog G.w) Γ.A (fun n_ n_ => False) none Q' acc C) hcell hkind hx hR₂ kp₂ hI1 hIσ hIL hI0 (by refine (?_ : h₁.objs.size < (h₁.push ob).objs.size); refine rE (Heap.size_push _ _) ?_; exact ZqS _) hz (fun b o e => Heap.get?_push_of_some _ e) St self it0 hJ T ?_
 intro D C h' tk' m' hR₃ kp₃ hns hCD hCL hC0 hCσ hDσ hCh
 refine e31 m' hns (fun h'' hs'' => ?_)
 have hC3 : (σ₁.set D (.lst (outs t v n))) C = none := by refine rE (Sig.set_ne hCD) ?_; exact hCσ
 have hR₄ := hR₃.ext hC3 hCL hC0 hs''.extBut
 refine k _ (.ref D) h'' tk' _ _ rfl hR₄ (kp₁.trans ⟨fun b o hb e1 e2 => hs''.extBut b o (fun q => by rw [q, hCh] at e2; exact nA e2) (kp₃.keep b o hb e1 e2), kp₃.new⟩) (fin D hDσ)
theorem Zj0 {elt iter : Expr} {x y : Str} {px py : Pos} {ifs : List Expr} {scope : Scope} {cl : List (Str × Addr)} {pos spos : Pos} {Q : AF -> Sig -> Loc -> Prop}
  (h : W G Γ VR (eval iter Γ.env) (fun b σ₁ mc => ∃ n item J t v, (∀ u, VR b u -> Zng G Γ u n item J σ₁ mc) /\ n <= sizeLine /\ (∀ σ', (∀ a o, σ₁ a = some o -> σ' a = some o) -> J σ') /\
   Turns G Γ x ifs elt (fun C => compEnvC scope cl C Γ.env) n item t v σ₁ mc /\ ∀ D, σ₁ D = none -> W G Γ UR (storeName Γ.env y (.ref D)) (fun n_ => Q .next) (σ₁.set D (.lst (outs t v n))) mc) σ m)
  (hsw : swapsWith (.ListComp elt [⟨.Name x px, iter, ifs, 0⟩] scope pos) (some (.Name y py)) spos.line Γ.env = pure true)
  (hclos : closureFor scope Γ.env = pure cl) (hcell : ∀ y ∈ scope.names, y.2 ≠ .cell) (hkind : scope.kind = .function) (hnames : ∀ y ∈ scope.names, y.2 = .local -> scope.names.lookup y.1 = some .local) (hx : scope.names.lookup x = some .local)
  (hs : ∀ x, foldedSetIterable iter Γ.env x = pure x) : W G Γ FRl (exec (.Assign [.Name y py] (.ListComp elt [⟨.Name x px, iter, ifs, 0⟩] scope pos) spos) Γ.env) Q σ m := Zbi fun s hR Q' k => by
 refine rE (exec_Assign_Name_used _ _ _ _ hsw) ?_
 refine wpAny_bind (wpAny_standAt (wpAny_bind ?_))
 refine (?_ : wpAny _ _ (do let _ <- comprehension (.ListComp elt [⟨.Name x px, iter, ifs, 0⟩] scope pos) scope Γ.env _ (newList []) false (eval iter Γ.env) (some (assign (.Name y py) Γ.env))) _ _ s)
 refine wpAny_bind (wpAny_mono (wpAny_comprehension_free (use := some (assign (.Name y py) Γ.env)) (Q := fun n_ s' => Q' .next s') rfl hs hclos hkind hnames (h.use hR fun b av h₁ tk1 σ₁ mc r hR₁ kp₁ z => ?_)) (fun n_ s' hq => wpAny_pure (wpAny_pure hq)) fun n_ n_ e => e)
 refine o85 z fun n item J t v go hz r7 => ?_; clear z; refine o30 r7 fun hJ T fin => ?_; clear r7
 refine go b r { s with heap := h₁, toks := tk1 } _ hR₁ fun ob It hf St self it0 => ?_
 refine o40 hR₁.out fun hIσ hIL hI0 n_ => ?_
 refine o20 (hR₁.pushed hf) fun hR₂ kp₂ => ?_
 have hI1 : h₁.get? h₁.objs.size = none := by
  induction q : h₁.get? h₁.objs.size with
  | none => rfl
  | some o => exact absurd (Heap.lt_size q) (Zq8 _)
 refine Zk7 (RR := fun acc C => compPost (model G.prog G.w) Γ.A (fun n_ n_ => False) (some (assign (.Name y py) Γ.env)) (fun n_ s' => Q' .next s') acc C) hcell hkind hx hR₂ kp₂ hI1 hIσ hIL hI0 (by refine (?_ : h₁.objs.size < (h₁.push ob).objs.size); refine rE (Heap.size_push _ _) ?_; exact ZqS _) hz (fun b o e => Heap.get?_push_of_some _ e) St self it0 hJ T ?_
 intro D C h' tk' m' hR₃ kp₃ hns hCD hCL hC0 hCσ hDσ hCh
 have hC3 : (σ₁.set D (.lst (outs t v n))) C = none := by refine rE (Sig.set_ne hCD) ?_; exact hCσ
 refine (?_ : wpAny _ _ (assign (.Name y py) Γ.env (.ref D)) _ _ _)
 refine W.use (G := G) (s := { s with heap := h', toks := tk' }) (Ze9 (Zdd (fin D hDσ))) hR₃ fun n_ n_ h₄ tk4 σ₄ mi n_ hR₄ kp₄ hq => ?_
 refine o73 hns fun oC esC epC hoC hdC hkC hfC => ?_; clear hns
 have hoC4 := kp₄.keep C oC hCL hC3 hoC
 have hC4 : σ₄ C = none := by
  induction q : σ₄ C with
  | none => rfl
  | some o =>
   rcases kp₄.new C hCL (by refine rE q ?_; exact Zrp _) with w | w
   ·exact absurd hC3 w
   ·have w : h'.get? C = none := w
    rw [hoC] at w; exact nB w
 refine e31 m' ⟨oC, esC, epC, hoC4, hdC, hkC, hfC⟩ (fun h'' hs'' => ?_)
 have hR₅ := hR₄.ext hC4 hCL hC0 hs''.extBut
 refine k _ .next h'' tk4 _ _ rfl hR₅ (kp₁.trans ⟨fun b o hb e1 e2 => hs''.extBut b o (fun q => by rw [q, hCh] at e2; exact nA e2) ((kp₃.trans kp₄).keep b o hb e1 e2), (kp₃.trans kp₄).new⟩) hq
theorem ZlP {kd : Str -> Option NameKind} : ∀ {bs : List (Str × Value)} {mv : Str -> Option Value} {x : Str}, (∀ p ∈ bs, p.1 ≠ x) -> bindL kd bs mv x = mv x := by
 refine @Zbv _ _ ?_ ?_
 ·intro n_ n_ n_
  exact rfl
 ·intro x0 r ih mv x h
  obtain ⟨n, v⟩ := x0
  unfold bindL
  refine rE (ih fun p hp => h p (.tail _ hp)) ?_
  have : n ≠ x := h (n, v) (.head _)
  split
  ·exact if_neg (Ne.symm this)
  ·rfl
theorem Zim {kd : Str -> Option NameKind} : ∀ {bs : List (Str × Value)} {mv : Str -> Option Value} {x : Str}, (∀ p ∈ bs, p.1 ≠ x) -> bindC kd bs mv x = mv x := by
 refine @Zbv _ _ ?_ ?_
 ·intro n_ n_ n_
  exact rfl
 ·intro x0 r ih mv x h
  obtain ⟨n, v⟩ := x0
  unfold bindC
  refine rE (ih fun p hp => h p (.tail _ hp)) ?_
  have : n ≠ x := h (n, v) (.head _)
  split
  ·rfl
  ·exact if_neg (Ne.symm this)
theorem ZiB {α : Type} {ns : List Str} {vs : List α} {p : Str × α} (h : p ∈ ns.zip vs) : p.1 ∈ ns := (Zr6 h).1
theorem ZmN {kd : Str -> Option NameKind} : ∀ {names : List Str} {vs : List AV} {us : List Value} {mv : Str -> Option Value} {x : Str} {v : AV}, names.Nodup -> VRs vs us -> (names.zip vs).lookup x = some v -> kd x = some .local -> ∃ u, bindL kd (names.zip us) mv x = some u /\ VR v u := by
 refine @Zbv _ _ ?_ ?_
 ·exact fun n_ n_ e n_ => nomatch e
 ·intro n ns ih0 vs us mv x w hn r e hk
  cases r with
  | nil => exact nomatch e
  | @cons v u vs us r rs =>
  rw [ZqH] at hn
  rw [Zrw] at e ⊢
  rw [ZqW] at e
  unfold bindL
  by_cases h : x = n
  ·subst h
   simp only [beq_self_eq_true] at e
   obtain rfl := ZqC e
   refine rE (if_pos hk) ?_; rw [ZlP fun p hp (q : p.1 = x) => hn.1 (by refine rS q ?_; exact ZiB hp)]
   exact e31 u (by simp) r
  ·have hb : (x == n) = false := beq_eq_false_iff_ne.mpr h
   simp only [hb] at e
   exact ih0 hn.2 rs e hk
theorem Znm {kd : Str -> Option NameKind} : ∀ {names : List Str} {vs : List AV} {us : List Value} {mv : Str -> Option Value} {x : Str} {v : AV}, names.Nodup -> VRs vs us -> (names.zip vs).lookup x = some v -> kd x = some .cell -> ∃ u, bindC kd (names.zip us) mv x = some u /\ VR v u := by
 refine @Zbv _ _ ?_ ?_
 ·exact fun n_ n_ e n_ => nomatch e
 ·intro n ns ih0 vs us mv x w hn r e hk
  cases r with
  | nil => exact nomatch e
  | @cons v u vs us r rs =>
  rw [ZqH] at hn
  rw [Zrw] at e ⊢
  rw [ZqW] at e
  unfold bindC
  by_cases h : x = n
  ·subst h
   simp only [beq_self_eq_true] at e
   obtain rfl := ZqC e
   rw [if_neg (by refine rE hk ?_; nofun), Zim fun p hp (q : p.1 = x) => hn.1 (by refine rS q ?_; exact ZiB hp)]
   exact e31 u (by simp) r
  ·have hb : (x == n) = false := beq_eq_false_iff_ne.mpr h
   simp only [hb] at e
   exact ih0 hn.2 rs e hk
theorem Zfs : ∀ {names : List Str} {vs : List AV} {us : List Value} {x : Str}, VRs vs us -> (names.zip vs).lookup x = none -> ∀ p ∈ names.zip us, p.1 ≠ x := by
 refine @Zbv _ _ ?_ ?_
 ·exact fun n_ n_ p hp => noH hp
 ·intro n ns ih0 vs us x r e p hp
  cases r with
  | nil => exact noH hp
  | @cons v u vs us r rs =>
  rw [Zrw, ZqW] at e
  by_cases h : x = n
  ·subst h; simp at e
  ·have hb : (x == n) = false := beq_eq_false_iff_ne.mpr h
   simp only [hb] at e
   rw [Zrw] at hp
   rcases ZqD.mp hp with rfl | hp
   ·exact Ne.symm h
   ·exact ih0 rs e p hp
theorem ZlE {kd : Str -> Option NameKind} {names : List Str} {vs : List AV} {us : List Value} {x : Str} (hn : names.Nodup) (r : VRs vs us) (hk : kd x = some .cell) : OVR ((names.zip vs).lookup x) (bindC kd (names.zip us) (fun n_ => none) x) := by
 induction e : (names.zip vs).lookup x with
 | none => exact Zim (Zfs r e)
 | some v => exact Znm hn r e hk
theorem Zhe {p : Str -> Bool} {x : Str} {v : AV} : ∀ {l : List (Str × AV)}, (l.filter fun q => p q.1).lookup x = some v -> l.lookup x = some v /\ p x = true := by
 refine @Zbv _ _ ?_ ?_
 ·intro e
  exact nomatch e
 ·intro x0 r ih e
  obtain ⟨y, u⟩ := x0
  rw [Zq7] at e
  by_cases hy : p y = true
  ·rw [if_pos hy, ZqW] at e
   refine rE ZqW ?_
   by_cases h : x = y
   ·subst h; simp only [beq_self_eq_true] at e ⊢; exact ⟨e, hy⟩
   ·have hb : (x == y) = false := beq_eq_false_iff_ne.mpr h
    simp only [hb] at e ⊢
    exact ih e
  ·rw [if_neg hy] at e
   refine o20 (ih e) fun e1 e2 => ?_
   refine ⟨?_, e2⟩
   refine rE ZqW ?_
   have : x ≠ y := fun q => hy (q ▸ e2)
   have hb : (x == y) = false := beq_eq_false_iff_ne.mpr this
   simp only [hb]; exact e1
theorem Zib : ∀ {names : List (Str × NameKind)} {k lo : Nat} {acc : List (Str × Addr)}, (∀ p ∈ acc, lo <= p.2) -> lo <= k -> ∀ p ∈ cellsFrom k names acc, lo <= p.2 := by
 refine @Zbv _ _ ?_ ?_
 ·intro n_ n_ n_ ha n_ p hp
  exact ha p hp
 ·intro x0 r ih k lo acc ha hk p hp
  obtain ⟨n, kd⟩ := x0
  unfold cellsFrom at hp
  split at hp
  ·exact ih (fun q hq => by
    rcases ZqD.mp hq with rfl | hq
    ·exact hk
    ·exact ha q hq) (Zsk hk) p hp
  ·exact ih ha hk p hp
theorem Zgt : ∀ {names : List (Str × NameKind)} {k : Nat} {acc : List (Str × Addr)} {p : Str × Addr}, p ∈ cellsFrom k names acc -> p ∈ acc \/ (p.1, NameKind.cell) ∈ names := by
 refine @Zbv _ _ ?_ ?_
 ·intro n_ n_ p hp
  exact .inl hp
 ·intro x0 r ih k acc p hp
  obtain ⟨n, kd⟩ := x0
  unfold cellsFrom at hp
  split at hp
  ·rename_i hk
   rcases ih hp with h | h
   ·rcases ZqD.mp h with rfl | h
    ·right; refine rE (eq_of_beq hk) ?_; exact .head _
    ·exact .inl h
   ·exact .inr (.tail _ h)
  ·rcases ih hp with h | h
   ·exact .inl h
   ·exact .inr (.tail _ h)
noncomputable def ZcW (σ : Sig) (f : Str -> Option AV) : List (Str × Addr) -> Sig
 | [] => σ
 | (n, c) :: r => (ZcW σ f r).set c (.cel (f n))
theorem Zj8 {news cells : List (Addr × Obj)} {cm : Str -> Option Value} {f : Str -> Option AV} {cs : List (Str × Addr)} (sr : SR G σ news) (X : CellsAre cm cs cells) (hf : ∀ p ∈ cs, OVR (f p.1) (cm p.1)) (lo : ∀ p ∈ cs, sysModules < p.2) : SR G (ZcW σ f cs) (cells ++ news) := by
 induction X with
 | nil => exact sr
 | @cons n c o cs cells hd X ih =>
  intro a ob e
  have ih := ih (fun p hp => hf p (.tail _ hp)) (fun p hp => lo p (.tail _ hp))
  have e : ((ZcW σ f cs).set c (.cel (f n))) a = some ob := e
  by_cases hac : a = c
  ·subst hac
   rw [Sig.set_self] at e
   obtain rfl := ZqC e
   exact e41 o (.head _) ⟨_, hd, hf (n, a) (.head _)⟩ (lo (n, a) (.head _))
  ·rw [Sig.set_ne hac] at e
   refine o41 (ih a ob e) fun ob' hm r l => ?_
   exact e41 ob' (.tail _ hm) r l
theorem ZeN {f : Str -> Option AV} : ∀ {cs : List (Str × Addr)} {b : Addr}, ZcW σ f cs b ≠ none -> σ b ≠ none \/ ∃ p ∈ cs, p.2 = b := by
 refine @Zbv _ _ ?_ ?_
 ·intro b h
  exact .inl h
 ·intro x0 r ih b h
  obtain ⟨n, c⟩ := x0
  by_cases hb : b = c
  ·exact .inr ⟨(n, c), .head _, hb.symm⟩
  ·have h : ((ZcW σ f r).set c (.cel (f n))) b ≠ none := h
   rw [Sig.set_ne hb] at h
   rcases ih h with w | ⟨p, hp, w⟩
   ·exact .inl w
   ·exact .inr ⟨p, .tail _ hp, w⟩
theorem ZhK {f : Addr} {d : Nat} {names : List Str} {vs dv : List AV} {ds : List Value} {Q : AV -> Sig -> Loc -> Prop}
  {name qual : Str} {params : Arguments} {body : List Stmt} {scope : Scope} {dV kV doc pm cdv ct oc : Value} {an od : Option Addr} {osl : Array (Option Value)}
  (ho : G.K.lookup f = some ⟨oc, od, .func (fnOf name qual params body scope dV kV doc pm an cdv ct), osl⟩) (hcd : codeIn G.K cdv qual = true) (rm : Γ.Room (d + 1))
  (rd : VRs dv ds) (hb : ∀ us, us.length = vs.length -> ∀ s : Shared, G.K.In s.heap -> BindsTo s (fnOf name qual params body scope dV kV doc pm an cdv ct) ⟨us, []⟩ (names.zip (us ++ ds)))
  (hn : names.Nodup) (hl : ∀ n x, x ∈ names -> scope.names.lookup x = some .local \/ (scope.names.lookup x = some .cell /\ ((cellsFrom n scope.names []).lookup x).isSome = true))
  (hnd : ((cellsFrom 0 scope.names []).map (·.1)).Nodup) (hcl : ∀ x, (x, NameKind.cell) ∈ scope.names -> scope.names.lookup x = some .cell)
  (hco : scope.isCoroutine = false) (hgen : scope.isGenerator = false) (hk : scope.kind = .function)
  (h : ∀ r : Rm, (ofC qual scope f cdv r).Room d -> (∀ a, r.L < a -> σ a = none) ->
   W G (ofC qual scope f cdv r) FRl (execs body (Amb.env (ofC qual scope f cdv r))) (fun fl σ' n_ => Q (Zgj fl) σ' m)
    (ZcW σ (fun x => (names.zip (vs ++ dv)).lookup x) (cellsFrom (r.L + 1) scope.names [])) ((names.zip (vs ++ dv)).filter fun p => scope.names.lookup p.1 == some .local)) : FC G Γ (.ref f) vs Q σ m := fun us r => Zbi fun s hR Q' k => by
 have hR₀ := hR
 refine o20 hR fun ok r1 => ?_; clear hR; refine o62 r1 fun mv news F N l sr => ?_; clear r1
 refine wpAny_call ?_
 have rlen := r.len
 refine o40 (groundX (R := fun r s' => match r with | .ok (.ret v) => Q' v s' | .ok _ => False | .error e => False) ok.B F N ok.fr rfl ok.kind) fun FG BG st lv => ?_
 refine codeAny_mono (R := fun r s' => match r with | .ok (.ret v) => Q' v s' | .ok _ => False | .error e => False) ?_ (fun r s' z => by rcases r with e | (v | _ | _ | _) <;> exact z)
 refine codeAny_call_function (by have := rm.dep; omega) (hR₀.K _ _ ho) rfl hco hgen rfl (codeRec_of hR₀.K hcd) (hb us rlen s hR₀.K _ _ _ _ ?_)
 refine wpAny_newFunctionEnv_cells hk (fun y hy => hl _ _ (ZiB hy)) fun env' he s' x => ?_
 subst he
 refine ⟨(ok.T.nolimit.keeps F.keep).keeps x.toInCall.keep, codeAny_func ?_⟩
 refine o42 x.done fun h₁ tk y2 n_ => ?_; subst y2
 have hk1 : ∀ b o, s.heap.get? b = some o -> h₁.get? b = some o := x.toInCall.keep
 refine o31 (Cl.news (h₀ := s.heap) (ZqQ _) fun n c hm => ⟨x.cell n c (lookup_of_mem_nodup (cellsFrom_names scope.names 0 (s.heap.objs.size + 1) [] [] rfl ▸ hnd) hm), x.above n c hm⟩) fun cells NC X => ?_
 have F' : Fr (hideAll s.heap (news.map (·.1))) s.heap.objs.size h₁ (bindL (envOfC qual scope s.heap.objs.size f cdv).kindOf (names.zip (us ++ ds)) fun n_ => none) := ⟨x.toInCall.ns, fun b o e => hk1 b o (of_hideAll _ e), ZrS (hideAll_size _ _)⟩
 have N' : News (hideAll s.heap (news.map (·.1))) s.heap.objs.size h₁ (cells ++ news) := fun p hp => by
  rcases ZqJ.mp hp with hp | hp
  ·refine ⟨(NC p hp).1, (NC p hp).2.1, ?_⟩
   induction q : (hideAll s.heap (news.map (·.1))).get? p.1 with
   | none => rfl
   | some o => have := of_hideAll _ q; rw [(NC p hp).2.2] at this; exact nA this
  ·exact ⟨hk1 _ _ (N p hp).1, Zrd (Heap.lt_size (N p hp).1), hideAll_none _ (ZqL hp)⟩
 have hΓ : (⟨Γ.A.deeper (envX qual scope s.heap.objs.size f cdv (cellsFrom (s.heap.objs.size + 1) scope.names [])), Γ.A, Γ.base, hideAll s.heap (news.map (·.1)), Γ.env :: Γ.outer, qual, scope, s.heap.objs.size, f, cdv, cellsFrom (s.heap.objs.size + 1) scope.names []⟩ : Amb).Ok G :=
  ⟨BG, ok.X.keeps st, ok.T.keeps st, by refine (?_ : (Γ.A.frames.map _) = _); refine rE ok.fr ?_; rfl, hk, ok.hd, by refine (?_ : Γ.A.units + 3 + 200 < cLine); have := rm.uni; omega, fun a o e => (by (refine o31 (ok.S a o e) fun ob h r => ?_); exact ⟨ob, st _ _ h, r⟩)⟩
 have hRoom : (⟨Γ.A.deeper (envX qual scope s.heap.objs.size f cdv (cellsFrom (s.heap.objs.size + 1) scope.names [])), Γ.A, Γ.base, hideAll s.heap (news.map (·.1)), Γ.env :: Γ.outer, qual, scope, s.heap.objs.size, f, cdv, cellsFrom (s.heap.objs.size + 1) scope.names []⟩ : Amb).Room d :=
  ⟨by refine (?_ : Γ.A.depth + 1 + d < _); have := rm.dep; omega, by refine (?_ : Γ.A.units + 3 + 8 * d + 200 < _); have := rm.uni; omega⟩
 have hsL : sysModules < s.heap.objs.size := ZrC (modules_low hΓ.T.nolimit) F'.above
 have rr := r.append rd
 have ge : ∀ p ∈ cellsFrom (s.heap.objs.size + 1) scope.names [], s.heap.objs.size < p.2 := fun p hp => Zib (acc := []) (by intro q hq; cases hq) (ZqQ _) p hp
 have hR' : R G ⟨Γ.A.deeper (envX qual scope s.heap.objs.size f cdv (cellsFrom (s.heap.objs.size + 1) scope.names [])), Γ.A, Γ.base, hideAll s.heap (news.map (·.1)), Γ.env :: Γ.outer, qual, scope, s.heap.objs.size, f, cdv, cellsFrom (s.heap.objs.size + 1) scope.names []⟩ (ZcW σ (fun x => (names.zip (vs ++ dv)).lookup x) (cellsFrom (s.heap.objs.size + 1) scope.names [])) ((names.zip (vs ++ dv)).filter fun p => scope.names.lookup p.1 == some .local) h₁ := by
  refine ⟨hΓ, _, _, F', N', fun x v e => ?_, Zj8 sr X (fun p hp => ZlE hn rr ?_) fun p hp => Nat.lt_trans hsL (ge p hp)⟩
  ·refine o20 (Zhe (p := fun x => scope.names.lookup x == some .local) e) fun e1 e2 => ?_
   exact ZmN hn rr e1 (eq_of_beq e2)
  ·rcases Zgt hp with q | q
   ·cases q
   ·exact hcl _ q
 have hlow : ∀ a o, σ a = some o -> a < s.heap.objs.size := fun a o q => by
  refine o31 (sr a o q) fun ob hm n_ => ?_
  exact Heap.lt_size (N _ hm).1
 have hnone : ∀ a, s.heap.objs.size < a -> σ a = none := fun a ha => by
  induction q : σ a with
  | none => rfl
  | some o => exact absurd (hlow a o q) (ZsD.mpr (Zrs ha))
 refine wpAny_mono (h ⟨_, _, _, _, _, _⟩ hRoom hnone { s with heap := h₁, toks := tk } hR') (fun fl s' hh => ?_) fun n_ n_ x => x.elim
 refine o20 hh fun y0 r1 => ?_; clear hh; (refine o32 y0 fun h' tk' e => ?_; clear y0); refine o73 r1 fun b σ' m' rb q kp z => ?_; clear r1
 subst e
 refine o20 q fun ok' r1 => ?_; clear q; refine o62 r1 fun mv' news' F'' N'' l' sr' => ?_; clear r1
 refine lv _ _ (leaveK_ F'' N'' fun Fa N2 => ?_)
 have hx := Zg0 rb
 refine k _ _ h' tk' σ' m (by induction fl <;> exact hx) ⟨ok, mv, news', Fa, N2, l, sr'⟩ ⟨fun b o hb e1 e2 => ?_, fun b hb e1 => ?_⟩ z
 ·refine kp.keep b o (Zrd (Heap.lt_size e2)) ?_ (hk1 b o e2)
  induction q : ZcW σ (fun x => (names.zip (vs ++ dv)).lookup x) (cellsFrom (s.heap.objs.size + 1) scope.names []) b with
  | none => rfl
  | some _ =>
   rcases ZeN (by refine rE q ?_; exact Zrp _) with w | ⟨p, hp, w⟩
   ·exact absurd e1 w
   ·have := ge p hp
    rw [w] at this
    exact absurd (Heap.lt_size e2) (ZsD.mpr (Zrs this))
 ·by_cases hbL : b = s.heap.objs.size
  ·right
   induction q : s.heap.get? b with
   | none => rfl
   | some o => exact absurd (Heap.lt_size q) (by refine rE hbL ?_; exact Zq8 _)
  ·rcases kp.new b hbL e1 with w | w
   ·rcases ZeN w with w | ⟨p, hp, w⟩
    ·exact .inl w
    ·right
     have := ge p hp
     rw [w] at this
     induction q : s.heap.get? b with
     | none => rfl
     | some o => exact absurd (Heap.lt_size q) (ZsD.mpr (Zrs this))
   ·right
    induction q : s.heap.get? b with
    | none => rfl
    | some o => rw [hk1 b o q] at w; exact nB w
end
end Nz
namespace Nz
open PySem PySem.W PySem.Calls PyProof.Rows PyProof.V PySem.Spec
mutual
inductive AD (G : Glo) (σ : Sig) : AV -> PyData -> Prop
 | int (i : Int) : AD G σ (.int i) (.int i)
 | str (x : Str) : AD G σ (.str x) (.str x)
 | lst {a : Addr} {l : List AV} {ds : List PyData} : Sees G σ a (.lst l) -> ADs G σ l ds -> AD G σ (.ref a) (.list ds)
 | tup {a : Addr} {l : List AV} {ds : List PyData} : Sees G σ a (.tup l) -> ADs G σ l ds -> AD G σ (.ref a) (.tuple ds)
inductive ADs (G : Glo) (σ : Sig) : List AV -> List PyData -> Prop
 | nil : ADs G σ [] []
 | cons {v : AV} {vs : List AV} {d : PyData} {ds : List PyData} : AD G σ v d -> ADs G σ vs ds -> ADs G σ (v :: vs) (d :: ds)
end
section
variable {G : Glo} {Γ : Amb} {σ : Sig} {m : Loc}
theorem AD.both {P : AV -> PyData -> Prop} {Q : List AV -> List PyData -> Prop} (h1 : ∀ i, P (.int i) (.int i)) (h2 : ∀ x, P (.str x) (.str x)) (h3 : ∀ {a l ds}, Sees G σ a (.lst l) -> Q l ds -> P (.ref a) (.list ds)) (h4 : ∀ {a l ds}, Sees G σ a (.tup l) -> Q l ds -> P (.ref a) (.tuple ds))
  (h5 : Q [] []) (h6 : ∀ {v vs d ds}, P v d -> Q vs ds -> Q (v :: vs) (d :: ds)) : (∀ {v d}, AD G σ v d -> P v d) /\ (∀ {vs ds}, ADs G σ vs ds -> Q vs ds) :=
 ⟨fun h => AD.rec (motive_1 := fun v d n_ => P v d) (motive_2 := fun v d n_ => Q v d) h1 h2 (fun s n_ q => h3 s q) (fun s n_ q => h4 s q) h5 (fun n_ n_ p q => h6 p q) h,
  fun h => ADs.rec (motive_1 := fun v d n_ => P v d) (motive_2 := fun v d n_ => Q v d) h1 h2 (fun s n_ q => h3 s q) (fun s n_ q => h4 s q) h5 (fun n_ n_ p q => h6 p q) h⟩
theorem AD.readsB {h : Heap} (hR : R G Γ σ m h) : (∀ {v d}, AD G σ v d -> ∀ u, VR v u -> ∃ as, Reads h u d as) /\ (∀ {vs ds}, ADs G σ vs ds -> ∀ us, VRs vs us -> ∃ as, ReadsAll h us ds as) := by
 refine AD.both (fun i u r => ?_) (fun x u r => ?_) (fun s q u r => ?_) (fun s q u r => ?_) (fun us r => ?_) (fun d q us r => ?_)
 ·(refine o21 r fun t y1 => ?_; clear r; subst y1); exact ⟨_, .int i t⟩
 ·(refine o21 r fun t y1 => ?_; clear r; subst y1); exact ⟨_, .str x t⟩
 ·subst r
  refine o31 (hR.see s) fun ob ho r2 => ?_; refine o42 r2 fun vs n y2 rv => ?_; clear r2; subst y2
  refine o21 (q _ rv) fun as p => ?_
  exact ⟨_, reads_list_at ho rfl rfl (by simpa using p)⟩
 ·subst r
  refine o31 (hR.see s) fun ob ho r2 => ?_; refine o42 r2 fun vs n y2 rv => ?_; clear r2; subst y2
  refine o21 (q _ rv) fun as p => ?_
  exact ⟨_, reads_tuple_at ho rfl rfl (by simpa using p)⟩
 ·cases r; exact ⟨_, .nil⟩
 ·cases r with | cons r rs =>
  refine o21 (d _ r) fun as p1 => ?_
  refine o21 (q _ rs) fun bs p2 => ?_
  exact ⟨_, .cons p1 p2⟩
theorem AD.reads {h : Heap} (hR : R G Γ σ m h) {v : AV} {d : PyData} {u : Value} (x : AD G σ v d) (r : VR v u) : ∃ as, Reads h u d as := (AD.readsB hR).1 x u r
theorem ADs.reads {h : Heap} (hR : R G Γ σ m h) {vs : List AV} {ds : List PyData} {us : List Value} (x : ADs G σ vs ds) (r : VRs vs us) : ∃ as, ReadsAll h us ds as := (AD.readsB hR).2 x us r
theorem AD.monoB {σ' : Sig} (k : ∀ b o, σ b = some o -> σ' b = some o) : (∀ {v d}, AD G σ v d -> AD G σ' v d) /\ (∀ {vs ds}, ADs G σ vs ds -> ADs G σ' vs ds) :=
 AD.both .int .str (fun s q => .lst (by rcases s with s | s; exact .inl (k _ _ s); exact .inr s) q) (fun s q => .tup (by rcases s with s | s; exact .inl (k _ _ s); exact .inr s) q) .nil .cons
theorem AD.mono {σ' : Sig} (k : ∀ b o, σ b = some o -> σ' b = some o) {v : AV} {d : PyData} (x : AD G σ v d) : AD G σ' v d := (AD.monoB k).1 x
theorem ADs.mono {σ' : Sig} (k : ∀ b o, σ b = some o -> σ' b = some o) {vs : List AV} {ds : List PyData} (x : ADs G σ vs ds) : ADs G σ' vs ds := (AD.monoB k).2 x
theorem ADs.nats : ∀ (l : List Nat), ADs G σ (l.map nv) (l.map fun (n : Nat) => PyData.int n) := by
 refine @Zbg _ _ ?_ ?_
 ·exact .nil
 ·intro i r ih
  exact .cons (.int i) (ih)
theorem ADs.strs : ∀ (l : List Str), ADs G σ (l.map AV.str) (l.map PyData.str) := by
 refine @Zbg _ _ ?_ ?_
 ·exact .nil
 ·intro i r ih
  exact .cons (.str i) (ih)
theorem Zk3 {x y : AV} {d e : PyData} {A B : Value} {Q : AV -> Sig -> Loc -> Prop} (hx : AD G σ x d) (hy : AD G σ y e) (sd : SeqAt.shaped d = true) (se : SeqAt.shaped e = true) (ra : VR x A) (rb : VR y B) (h : Q (.bool (PyData.eqv d e)) σ m) : W G Γ VR (compareOp .Eq A B) Q σ m :=
 ZeX (av := .bool (PyData.eqv d e)) (fun s Q' hR k => by
  refine o21 (AD.reads hR hx ra) fun as p => ?_
  refine o21 (AD.reads hR hy rb) fun bs q => ?_
  exact eq_dataH p q sd se (by have := hR.ok.uni; omega) (k _ s.toks rfl)) h
theorem ZkB {x y : AV} {d e : PyData} {A B : Value} {Q : AV -> Sig -> Loc -> Prop} (hx : AD G σ x d) (hy : AD G σ y e) (sd : SeqAt.shaped d = true) (se : SeqAt.shaped e = true) (ra : VR x A) (rb : VR y B) (h : Q (.bool (!PyData.eqv d e)) σ m) : W G Γ VR (compareOp .NotEq A B) Q σ m :=
 ZeX (av := .bool (!PyData.eqv d e)) (fun s Q' hR k => by
  refine o21 (AD.reads hR hx ra) fun as p => ?_
  refine o21 (AD.reads hR hy rb) fun bs q => ?_
  exact ne_dataH p q sd se (by have := hR.ok.uni; omega) (k _ s.toks rfl)) h
theorem Zn2 {x y : AV} {d e : PyData} (hx : AD G σ x d) (hy : AD G σ y e) (sd : SeqAt.shaped d = true) (se : SeqAt.shaped e = true) : EvC G Γ σ m .NotEq x y (!PyData.eqv d e) := fun A B Q ra rb q => ZkB hx hy sd se ra rb q
end
theorem ZjP : ∀ (l l' : List Int), PyData.eqvAll (l.map PyData.int) (l'.map PyData.int) = decide (l = l')
 | [], [] => rfl
 | [], _ :: _ => rfl
 | _ :: _, [] => rfl
 | a :: r, b :: r' => by
  refine rE ZqP (rE ZqP ?_); rewrite [PyData.eqvAll, PyData.eqv]; refine rE (ZjP r r') ?_
  by_cases h : a = b <;> by_cases h' : r = r' <;> simp [h, h']
theorem Zd7 (l l' : List Nat) : PyData.eqv (.list (l.map fun (n : Nat) => PyData.int n)) (.list (l'.map fun (n : Nat) => PyData.int n)) = decide (l = l') := by
 have e := ZjP (l.map fun (n : Nat) => (n : Int)) (l'.map fun (n : Nat) => (n : Int))
 rw [ZqV, ZqV] at e
 refine (?_ : PyData.eqvAll _ _ = _)
 refine rE (show (l.map fun (n : Nat) => PyData.int n) = l.map (PyData.int ∘ fun (n : Nat) => (n : Int)) from rfl) ?_; refine rE (show (l'.map fun (n : Nat) => PyData.int n) = l'.map (PyData.int ∘ fun (n : Nat) => (n : Int)) from rfl) ?_; refine rE e ?_
 have inj : ∀ (l l' : List Nat), l.map (fun (n : Nat) => (n : Int)) = l'.map (fun (n : Nat) => (n : Int)) ↔ l = l' := fun l => by
  induction l with
  | nil => intro l'; induction l' <;> simp
  | cons a r ih => intro l'; induction l' using ZcU with
   | nil => simp
   | cons b r' => simp only [ZqP, Zrm, ih r']; exact and_congr_left fun n_ => by omega
 exact decide_eq_decide.mpr (inj l l')
theorem Zed : ∀ (l l' : List Str), PyData.eqvAll (l.map PyData.str) (l'.map PyData.str) = decide (l = l')
 | [], [] => rfl
 | [], _ :: _ => rfl
 | _ :: _, [] => rfl
 | a :: r, b :: r' => by
  refine rE ZqP (rE ZqP ?_); rewrite [PyData.eqvAll, PyData.eqv]; refine rE (Zed r r') ?_
  by_cases h : a = b <;> by_cases h' : r = r' <;> simp [h, h']
theorem ZaP (l : List Nat) : SeqAt.shaped (.list (l.map fun (n : Nat) => PyData.int n)) = true := by
 have h : ∀ l : List Nat, PyData.canLayAll0 (l.map fun (n : Nat) => PyData.int n) = true /\ PyData.depthAll (l.map fun (n : Nat) => PyData.int n) = 0 := fun l => by
  induction l with
  | nil => exact ⟨rfl, rfl⟩
  | cons a r ih => simp [PyData.canLayAll0, PyData.canLay0, PyData.depthAll, PyData.depth, ih]
 unfold SeqAt.shaped
 simp [PyData.canLay0, PyData.depth, h]
theorem ZaY (l : List Str) (hl : l.all PyData.strOk = true) : SeqAt.shaped (.list (l.map PyData.str)) = true := by
 unfold SeqAt.shaped
 simp [PyData.canLay0, PyData.depth, canLayAll_strs', depthAll_strs']
 simpa using hl
section
variable {G : Glo} {Γ : Amb} {σ : Sig} {m : Loc}
theorem R.adoptNew {h h' : Heap} (hR : R G Γ σ m h) (hk : ∀ b o, h.get? b = some o -> h'.get? b = some o) {a : Addr} {o : AO} {ob : Obj} (hge : h.objs.size <= a) (ha : h'.get? a = some ob) (r : OR G o ob) :
  σ a = none /\ R G Γ (σ.set a o) m h' /\ Kp Γ.L σ (σ.set a o) h h' := by
 refine o20 (hR.keepK hk) fun hR' kp => ?_
 have hn : h.get? a = none := by
  induction q : h.get? a with
  | none => rfl
  | some o1 => exact absurd (Heap.lt_size q) (ZsD.mpr hge)
 have e : σ a = none := by
  induction q : σ a with
  | none => rfl
  | some o1 => (refine o31 (hR.get q) fun ob1 h1 n_ => ?_); rw [hn] at h1; exact nA h1
 refine o40 hR.out fun n_ hoL n_ hs => ?_
 have hL : a ≠ Γ.L := by
  refine o20 hR fun n_ r1 => ?_; clear hR; refine o42 r1 fun n_ n_ F n_ => ?_; clear r1
  exact Zrx (ZrC F.ns.lt hge)
 have h0 : Γ.h₀.get? a = none := by
  refine o20 hR fun n_ r1 => ?_; clear hR; refine o42 r1 fun n_ n_ F n_ => ?_; clear r1
  induction q : Γ.h₀.get? a with
  | none => rfl
  | some o1 => have := F.keep _ _ q; rw [hn] at this; exact nA this
 refine ⟨e, hR'.adopt ha hL h0 (ZrC hs hge) r, kp.keep, fun b hb ec => ?_⟩
 by_cases hba : b = a
 ·subst hba; exact .inr hn
 ·rw [Sig.set_ne hba] at ec; exact .inl ec
theorem ZhS {a : Addr} {xs : List Str} {Q : AV -> Sig -> Loc -> Prop} (e : Sees G σ a (.lst (xs.map AV.str))) (h64 : xs.length < 64) (h : ∀ r ys, σ r = none -> ys.Perm xs -> sortedS ys = true -> Q (.ref r) (σ.set r (.lst (ys.map AV.str))) m) : FC G Γ (.builtin "sorted") [.ref a] Q σ m := fun us r => Zbi fun s hR Q' k => by
 refine o31 r.one fun x y1 rx => ?_; subst y1
 subst rx
 refine o31 (hR.isList e) fun vs hl r => ?_
 refine sorted_strs hl r.strs (by (refine rE r.len (rE (Zqt _) ?_)); exact h64) fun out ss hs hp ho => ?_
 refine o21 (sortedAll_at s.heap vs out) fun ee he => ?_
 have sv : ∀ {ys : List Str} {ws : List Value}, StrsAre ws ys -> VRs (ys.map AV.str) ws := fun h => by
  induction h with
  | nil => exact .nil
  | cons x t _ ih => exact .cons ⟨t, rfl⟩ ih
 refine o30 (hR.adoptNew (fun n_ n_ => sortedAll_old) (o := .lst (ss.map AV.str)) (Zsp _) he ⟨out.toList, ee, by simp [seqObj], sv hs⟩) fun e1 hR' kp => ?_
 exact k _ (.ref _) _ _ _ _ rfl hR' kp (h _ ss e1 hp ho)
theorem Zlg {a b : Addr} {l l' : List AV} {A B : Value} {Q : AV -> Sig -> Loc -> Prop} (e : Sees G σ a (.lst l)) (e' : Sees G σ b (.lst l')) (hz : l.length + l'.length <= sizeLine) (ra : VR (.ref a) A) (rb : VR (.ref b) B)
  (h : ∀ r, σ r = none -> Q (.ref r) (σ.set r (.lst (l ++ l'))) m) : W G Γ VR (binaryOp .Add A B) Q σ m := Zbi fun s hR Q' k => by
 subst ra; subst rb
 refine o31 (hR.see e) fun ob ho r2 => ?_; refine o42 r2 fun vs n y2 r => ?_; clear r2; subst y2
 refine o31 (hR.see e') fun ob' ho' r2 => ?_; refine o42 r2 fun vs' n' y2 r' => ?_; clear r2; subst y2
 refine o30 (hR.push (o := .lst (l ++ l')) (ob := { cls := .type "list", data := .seq (vs.toArray ++ vs'.toArray) }) rfl ⟨vs ++ vs', 0, by simp, r.append r'⟩) fun e1 hR' kp => ?_
 exact P.add_list ho ho' (k _ (.ref _) _ _ _ _ rfl hR' kp (h _ e1)) (by simp only [ZqM, r.len, r'.len]; exact hz)
theorem ZpN {o e : Expr} {p pos : Pos} {ε : Env} {a : Addr} {l : List AV} {j : Nat} {Q : AV -> Sig -> Loc -> Prop}
  (h : W G Γ VR (eval o ε) (fun x σ₁ mc => W G Γ VR (eval e ε) (fun y σ₂ md => x = .ref a /\ y = .int j /\ Sees G σ₂ a (.lst l) /\ j <= l.length /\ l.length <= sizeLine /\ ∀ r, σ₂ r = none -> Q (.ref r) (σ₂.set r (.lst (l.take j))) md) σ₁ mc) σ m)
  (ht : ∀ u r, letTemporaryGo o u r = pure ()) : W G Γ VR (eval (.Subscript o (.Slice none (some e) none p) pos) ε) Q σ m := Zbi fun s hR Q' k => by
 refine wpAny_Subscript_list_slice (h.use hR fun x xa h₁ tk1 σ₁ mc rx hR₁ kp₁ z => ?_) ht
 refine rE (evalPart_none _) ?_
 refine wpAny_pure ?_
 refine W.use (s := { s with heap := h₁, toks := tk1 }) z hR₁ fun y ya h₂ tka σ₂ md ry hR₂ kp₂ z => ?_
 refine o60 z fun y0 y1 hs hj hz q => ?_; clear z; subst y0; subst y1
 subst rx
 refine o21 ry fun t y1 => ?_; clear ry; subst y1
 refine o31 (hR₂.isList hs) fun vs hl r => ?_
 have hlen := r.len
 refine e94 a vs.toArray none (some (j : Int)) rfl hl (by (refine rE ZqM (rE hlen ?_)); exact hz) (.none) ⟨.int _ _, ?_⟩
 refine o20 (hR₂.pushed (ob := { cls := .type "slice", data := .fields #[.none, .int (j : Int) t, .none] }) rfl) fun hR₃ kp₃ => ?_
 have hp : slicePick vs.toArray none (some (j : Int)) none = (vs.take j).toArray := by rw [slicePick_upto _ _ (by (refine rE ZqM (rE hlen ?_)); exact hj)]
 refine o30 (hR₃.push (o := .lst (l.take j)) (ob := { cls := .type "list", data := .seq (slicePick vs.toArray none (some (j : Int)) none) }) rfl ⟨vs.take j, 0, by exact rE hp rfl, r.take j⟩) fun e1 hR₄ kp₄ => ?_
 rw [Heap.size_push] at e1 hR₄ kp₄
 exact k _ (.ref _) _ _ _ _ rfl hR₄ (((kp₁.trans kp₂).trans kp₃).trans kp₄) (q _ e1)
theorem Zjd {pos : Pos} {ε : Env} {Q : AV -> Sig -> Loc -> Prop} (h : ∀ d, σ d = none -> Q (.ref d) (σ.set d (.dct [])) m) : W G Γ VR (eval (.Dict [] [] pos) ε) Q σ m := Zbi fun s hR Q' k => by
 have hd : ({ cls := .type "dict", data := .dict #[] } : Obj).IsDictOf (strKind G.prog G.w) [] := by
  refine o31 (Heap.dictOf_iff.mp (Heap.DictOf.new (knd := strKind G.prog G.w) s.heap)) fun o ho hd => ?_
  rw [Heap.get?_push_size _ rfl] at ho
  exact (ZqC ho) ▸ hd
 refine o30 (hR.push (o := .dct []) (ob := { cls := .type "dict", data := .dict #[] }) rfl ⟨[], hd, .nil⟩) fun e1 hR' kp => ?_
 exact wpAny_Dict_empty (k _ (.ref _) _ _ _ _ rfl hR' kp (h _ e1))
theorem KRs.val {es : List (Str × AV)} {kvs : List (Str × Value)} (h : KRs es kvs) (x : Str) : match es.lookup x with
  | some v => ∃ u, valueAt kvs x = some u /\ VR v u
  | none => valueAt kvs x = none := by
 induction h with
 | nil => rfl
 | @cons y a v as vs r _ ih =>
  refine rE ZqW ?_
  unfold valueAt at ih ⊢
  refine rE ZsV ?_
  by_cases hx : x = y
  ·subst hx
   refine rE (beq_self_eq_true _) ?_
   simp only [decide_true]
   exact e31 v rfl r
  ·have b1 : (x == y) = false := beq_eq_false_iff_ne.mpr hx
   have b2 : decide (y = x) = false := decide_eq_false (Ne.symm hx)
   refine rE b1 ?_
   simp only [b2]
   exact ih
theorem KRs.len {es : List (Str × AV)} {kvs : List (Str × Value)} (h : KRs es kvs) : kvs.length = es.length := by induction h with | nil => rfl | cons _ _ ih => (refine rE ZqF (rE ZqF ?_); exact rE ih rfl)
theorem KRs.snoc {es : List (Str × AV)} {kvs : List (Str × Value)} (h : KRs es kvs) {x : Str} {a : AV} {v : Value} (r : VR a v) : KRs (es ++ [(x, a)]) (kvs ++ [(x, v)]) := by induction h with | nil => exact .cons r .nil | cons q _ ih => exact .cons q ih
theorem R.dct {h : Heap} (hR : R G Γ σ m h) {d : Addr} {es : List (Str × AV)} (e : σ d = some (.dct es)) : ∃ kvs, h.DictOf (strKind G.prog G.w) d kvs /\ KRs es kvs /\ (d == sysModules) = false := by
 refine o31 (hR.get e) fun ob ho r2 => ?_; refine o31 r2 fun kvs hd r => ?_; clear r2
 exact e41 kvs (Heap.dictOf_iff.mpr ⟨ob, ho, hd⟩) r (beq_eq_false_iff_ne.mpr (Zrx (hR.low e)))
theorem Zm9 {d : Addr} {es : List (Str × AV)} {x : Str} {A B : Value} {Q : AV -> Sig -> Loc -> Prop} (e : σ d = some (.dct es)) (ra : VR (.ref d) A) (rb : VR (.str x) B) (h : Q (.bool (es.lookup x).isSome) σ m) : W G Γ VR (compareOp .In B A) Q σ m :=
 ZeX (av := .bool (es.lookup x).isSome) (fun s Q' hR k => by
  subst ra
  refine o21 rb fun t y1 => ?_; clear rb; subst y1
  refine o41 (hR.dct e) fun kvs hm r lo => ?_
  refine wpAny_in_of (strKind_is _ _ x t) lo hm.mapOf (k _ _ ?_)
  refine (?_ : Value.bool _ = Value.bool _)
  have := r.val x
  induction q : es.lookup x with
  | none => rw [q] at this; refine rE this ?_; rfl
  | some v => rw [q] at this; (refine o31 this fun u hu n_ => ?_; clear this); refine rE hu ?_; rfl) h
theorem Zkg {d : Addr} {es : List (Str × AV)} {x : Str} (e : σ d = some (.dct es)) : EvC G Γ σ m .In (.str x) (.ref d) (es.lookup x).isSome := fun A B Q ra rb q => Zm9 e rb ra q
theorem ZjQ {o i : Expr} {d : Addr} {es : List (Str × AV)} {x : Str} {v : AV} (e : σ d = some (.dct es)) (hv : es.lookup x = some v)
  (hs : ∀ (k : Str) u, subscripted i false (.ref d) (.str k u) = operate [.ref d, .str k u] (getItem (.ref d) (.str k u))) : EvS G Γ σ m o i (.ref d) (.str x) v := fun A B Q ra rb q => Zbi fun s hR Q' kk => by
 subst ra
 refine o21 rb fun t y1 => ?_; clear rb; subst y1
 refine o41 (hR.dct e) fun kvs hm r lo => ?_
 have := r.val x
 rw [hv] at this
 refine o31 this fun u hu ru => ?_; clear this
 exact tail_any hm.mapOf.typeIs PySem.slot_dict_getitem.lookup (wpAny_getItem_of (strKind_is _ _ x t) hm.mapOf hu (kk u v s.heap _ σ m ru hR .refl q)) (hs _ _)
theorem Zmd {d : Addr} {es : List (Str × AV)} {x : Str} {v : AV} {A B C : Value} {Q : Unit -> Sig -> Loc -> Prop} (e : σ d = some (.dct es)) (hn : es.lookup x = none) (hz : es.length <= sizeLine) (ra : VR (.ref d) A) (rb : VR (.str x) B) (rc : VR v C)
  (h : Q () (σ.set d (.dct (es ++ [(x, v)]))) m) : W G Γ UR (setItem A B C) Q σ m := Zbi fun s hR Q' k => by
 subst ra
 refine o21 rb fun t y1 => ?_; clear rb; subst y1
 refine o41 (hR.dct e) fun kvs hm r lo => ?_
 have hv := r.val x
 rw [hn] at hv
 refine wpAny_setItem_pairs (hsz := by refine rE r.len ?_; exact hz) (strKind_is _ _ x t) hm fun h' hm' hs => ?_
 refine o31 (Heap.dictOf_iff.mp hm') fun o' ho' hd' => ?_
 rw [stored_absent hv] at hd'
 refine o20 (hR.turn (o' := .dct (es ++ [(x, v)])) e hs ho' ⟨_, hd', r.snoc rc⟩) fun hR' kp => ?_
 exact k () () h' _ _ _ trivial hR' kp h
end
end Nz
namespace Nz
open PySem PySem.W PySem.Calls PyProof.Rows
section
variable {prog : Program} {w : World} {A : Around} {E : Value -> Shared -> Prop} {s : Shared}
theorem ZeA {K : Type} [DecidableEq K] {knd : PySem.KeyKind prog w K} {d : Addr} {kvs : List (K × Value)} {ep : Nat} {R : Result -> Shared -> Prop} (hh : A.handled = none) (lo : (d == sysModules) = false) (hm : s.heap.DictAt knd d kvs ep) (hn : kvs.length <= sizeLine)
  (hQ : ∀ h' tk acc' c', (∀ b o, s.heap.get? b = some o -> h'.get? b = some o) -> h'.get? s.heap.objs.size = some { cls := .type "list", dict := none, data := .seq acc' c', slots := #[] } -> ItemsOf (fun i v => ∃ k x, kvs[i]? = some (k, x) /\ knd.is k v = true) acc' kvs.length -> R (.ok (.ret (.ref s.heap.objs.size))) { s with heap := h', toks := tk }) :
  codeAny (model prog w) A (.builtin "proto.collect" ⟨[.ref d], []⟩) R s := by
 have hd := hm.lt_size
 refine codeAny_builtin PySem.F.entry_proto_collect ?_
 refine rE (Around.under_plainId PySem.F.plain_proto_collect _) ?_
 refine (?_ : wpAny _ A.in1 (newList [] >>= fun l => again (.builtin "list.__iadd__" ⟨[l, .ref d], []⟩)) _ _ s)
 refine wpAny_bind (wpAny_newObj_type ?_)
 refine wpAny_pure ⟨plainId_quiet PySem.F.plain_list_iadd _, codeAny_builtin PySem.F.entry_list_iadd ?_⟩
 refine rE (Around.under_plainId PySem.F.plain_list_iadd _) ?_
 refine (?_ : wpAny _ A.in1 (Builtin.List.listExtendWith (.ref s.heap.objs.size) (.ref d) (.ref s.heap.objs.size)) _ _ _)
 exact kdl_extend (s := { s with heap := s.heap.push { cls := .type "list", data := .seq ([] : List Value).toArray } }) (kdl_dict (knd := knd) (kvs := kvs) (ep := ep) lo) hh (hm.push _) s.heap.objs.size (Zrx hd) (Zrx hd) (.ref s.heap.objs.size) _ (Heap.get?_push_size _ rfl)
  (fun h' tk acc' c' hk hS' hacc => hQ h' tk acc' c' (fun b o e => hk b o (Zrd (Heap.lt_size e)) (Heap.get?_push_of_some _ e)) hS' hacc) hn
theorem ZhX {K : Type} [DecidableEq K] {knd : PySem.KeyKind prog w K} {d : Addr} {kvs : List (K × Value)} {ep : Nat} {Q : List Value -> Shared -> Prop} (hh : A.handled = none) (lo : (d == sysModules) = false) (hm : s.heap.DictAt knd d kvs ep) (hn : kvs.length <= sizeLine)
  (hQ : ∀ h' tk (vs : List Value), s.heap.objs.size < h'.objs.size -> (∀ b o, s.heap.get? b = some o -> h'.get? b = some o) -> vs.length = kvs.length -> (∀ (j : Nat) v, vs[j]? = some v -> ∃ k x, kvs[j]? = some (k, x) /\ knd.is k v = true) -> Q vs { s with heap := h', toks := tk }) : wpAny (model prog w) A (collect (.ref d)) Q E s := by
 unfold collect
 refine wpAny_bind (wpAny_runValue (ZeA (by exact hh) lo hm hn fun h' tk acc' c' keep hS' hacc => ?_))
 refine (?_ : wpAny _ A (load s.heap.objs.size >>= _) _ _ _)
 refine wpAny_bind (wpAny_load hS' ?_)
 exact wpAny_pure (hQ h' tk acc'.toList (Heap.lt_size hS') keep (by refine rE Zr7 ?_; exact hacc.1) fun j v e => hacc.2 j v (by refine rS Array.getElem?_toList ?_; exact e))
theorem Zi2 {d : Addr} {kvs : List (Str × Value)} {ep : Nat} {Q : Value -> Shared -> Prop} (hh : A.handled = none) (lo : (d == sysModules) = false) (hm : s.heap.DictAt (strKind prog w) d kvs ep) (h64 : kvs.length < 64)
  (h : ∀ h' tk a (out : Array Value) (ys : List Str) (n : Nat), (∀ b o, s.heap.get? b = some o -> h'.get? b = some o) -> s.heap.objs.size <= a -> h'.get? a = some (seqObj "list" out n) -> StrsAre out.toList ys -> ys.Perm (kvs.map (·.1)) -> sortedS ys = true -> Q (.ref a) { s with heap := h', toks := tk }) :
  wpAny (model prog w) A (call (.builtin "sorted") [.ref d]) Q E s := by
 refine Calls.call_function_entry kind_sorted plain_sorted entry_sorted (args_sorted1 _) ?_
 unfold Builtin.«sorted»
 refine wpAny_bind (m := checkCount "sorted" 1 1 _) (wpAny_pure ?_)
 refine wpAny_bind (ZhX (by exact hh) lo hm (by refine rE sizeLine_eq ?_; omega) fun h₁ tk vs le keep hl hv => ?_)
 have hS : StrsAre vs (kvs.map (·.1)) := by
  clear h keep hm h64
  induction kvs generalizing vs with
  | nil => induction vs using ZcU with
   | nil => exact .nil
   | cons _ _ => simp at hl
  | cons p r ih => induction vs using ZcU with
   | nil => simp at hl
   | cons v vs =>
    refine o42 (hv 0 v rfl) fun k x e hk => ?_
    simp only [List.getElem?_cons_zero, ZsL] at e
    subst e
    refine o21 (Value.isStrOf_shape hk) fun t y1 => ?_; subst y1
    exact .cons _ t (ih vs (by simpa using hl) fun j u hu => by simpa using hv (j + 1) u (by simpa using hu))
 have h64' : vs.length < 64 := by refine rE hl ?_; exact h64
 refine wpAny_bind (wpAny_newList ?_)
 have hoL : (h₁.push (seqObj "list" vs.toArray 0)).get? h₁.objs.size = some (seqObj "list" vs.toArray 0) := Heap.get?_push_size _ rfl
 refine wpAny_bind (wpAny_holding (wpAny_call_entry slot_list_sort ⟨_, hoL, rfl⟩ entry_list_sort (list_sort_treeK PyProof.Rows.strKind_oneLt hoL hS.keysOf (fun v1 v2 rest e => keyKind_strs (by refine rS e ?_; exact hS)) h64' fun st' a1 a2 => ⟨_, rfl, ?_⟩) (args_list_sort _)))
 refine wpAny_pure ⟨_, rfl, ?_⟩
 refine o41 (sorted_out_str hS a1 a2) fun ys h1 h2 h3 => ?_
 refine o21 (sortedHeap_at (out := (arrOf st').map (·.2)) hoL) fun n hn => ?_
 refine h _ tk h₁.objs.size _ ys n (fun b o e => ?_) (Zrs le) hn h1 h2 h3
 have hb := keep _ _ e
 have hlt := Heap.lt_size hb
 rw [sortedHeap_old (Zrd hlt) (by refine rE (size_push' _ _) ?_; exact Zrr hlt)]
 exact Heap.get?_push_of_some _ hb
end
section
variable {G : Glo} {Γ : Amb} {σ : Sig} {m : Loc}
theorem KRs.keys {es : List (Str × AV)} {kvs : List (Str × Value)} (h : KRs es kvs) : kvs.map (·.1) = es.map (·.1) := by
 induction h with
 | nil => rfl
 | cons q _ ih => (refine rE ZqP (rE ZqP ?_); exact rE ih rfl)
theorem ZgH {d : Addr} {es : List (Str × AV)} {Q : AV -> Sig -> Loc -> Prop} (e : σ d = some (.dct es)) (h64 : es.length < 64) (h : ∀ r ys, σ r = none -> ys.Perm (es.map (·.1)) -> sortedS ys = true -> Q (.ref r) (σ.set r (.lst (ys.map AV.str))) m) : FC G Γ (.builtin "sorted") [.ref d] Q σ m := fun us r => Zbi fun s hR Q' k => by
 refine o31 r.one fun x y1 rx => ?_; subst y1
 subst rx
 refine o41 (hR.dct e) fun kvs hm r lo => ?_
 refine o21 hm.dictAt fun ep hat => ?_
 refine Zi2 hR.ok.hd lo hat (by refine rE r.len ?_; exact h64) fun h' tk a out ys n keep le ha hs hp ho => ?_
 have sv : ∀ {ys : List Str} {ws : List Value}, StrsAre ws ys -> VRs (ys.map AV.str) ws := fun h => by
  induction h with
  | nil => exact .nil
  | cons x t _ ih => exact .cons ⟨t, rfl⟩ ih
 refine o30 (hR.adoptNew keep (o := .lst (ys.map AV.str)) le ha ⟨out.toList, n, by simp [seqObj], sv hs⟩) fun e1 hR' kp => ?_
 exact k _ (.ref _) _ _ _ _ rfl hR' kp (h _ ys e1 (by refine rS r.keys ?_; exact hp) ho)
end
end Nz
namespace Nz
open PySem PySem.W PySem.Calls PyProof.Rows
section
variable {G : Glo} {Γ : Amb} {σ : Sig} {m : Loc}
noncomputable def CC (G : Glo) (Γ : Amb) (f : Value) (vs : List AV) (Q : AV -> Sig -> Loc -> Prop) (σ : Sig) (m : Loc) : Prop := ∀ us, VRs vs us -> ∀ (s : Shared) (Rr : Result -> Shared -> Prop), R G Γ σ m s.heap ->
 (∀ a b h' tk σ' m', VR a b -> R G Γ σ' m' h' -> Kp Γ.L σ σ' s.heap h' -> Q a σ' m' -> Rr (.ok (.ret b)) { s with heap := h', toks := tk }) -> codeAny (model G.prog G.w) Γ.A (.call f ⟨us, []⟩) Rr s
theorem ZjO {f : Addr} {d : Nat} {names : List Str} {vs dv : List AV} {ds : List Value} {Q : AV -> Sig -> Loc -> Prop}
  {name qual : Str} {params : Arguments} {body : List Stmt} {scope : Scope} {dV kV doc pm cdv ct oc : Value} {an od : Option Addr} {osl : Array (Option Value)}
  (ho : G.K.lookup f = some ⟨oc, od, .func (fnOf name qual params body scope dV kV doc pm an cdv ct), osl⟩) (hcd : codeIn G.K cdv qual = true) (rm : Γ.Room (d + 1))
  (rd : VRs dv ds) (hb : ∀ us, us.length = vs.length -> ∀ s : Shared, G.K.In s.heap -> BindsTo s (fnOf name qual params body scope dV kV doc pm an cdv ct) ⟨us, []⟩ (names.zip (us ++ ds)))
  (hn : names.Nodup) (hl : (names.all fun x => scope.names.lookup x == some .local) = true)
  (hco : scope.isCoroutine = false) (hgen : scope.isGenerator = false) (hk : scope.kind = .function) (hcell : (scope.names.all fun x => decide (x.2 ≠ .cell)) = true)
  (h : ∀ r : Rm, (ofB qual scope f cdv r).Room d ->
   W G (ofB qual scope f cdv r) FRl (execs body (Amb.env (ofB qual scope f cdv r))) (fun fl σ' n_ => Q (Zgj fl) σ' m) σ (names.zip (vs ++ dv))) : CC G Γ (.ref f) vs Q σ m := fun us r s Rr hR k => by
 have hR₀ := hR
 refine o20 hR fun ok r1 => ?_; clear hR; refine o62 r1 fun mv news F N l sr => ?_; clear r1
 have rlen := r.len
 refine o40 (groundX (R := Rr) ok.B F N ok.fr rfl ok.kind) fun FG BG st lv => ?_
 refine codeAny_call_def (fd := fnOf name qual params body scope dV kV doc pm an cdv ct) (body := body) (binds := names.zip (us ++ ds)) (by have := rm.dep; omega) (hR₀.K _ _ ho) rfl (ok.T.nolimit.keeps F.keep) (codeRec_of hR₀.K hcd) rfl (hb us rlen s hR₀.K)
  (fun x hx => of_decide_eq_true (Zq4.mp hcell x hx)) (fun y hy => ?_) (fun h₁ hns hk1 => ?_) hco hgen hk
 ·have := (Zr6 hy).1
  have := Zq4.mp hl _ this
  simpa using this
 ·have F' : Fr (hideAll s.heap (news.map (·.1))) s.heap.objs.size h₁ (fun y => (names.zip (us ++ ds)).reverse.lookup y) := ⟨hns, fun b o e => hk1 b o (of_hideAll _ e), ZrS (hideAll_size _ _)⟩
  have N' : News (hideAll s.heap (news.map (·.1))) s.heap.objs.size h₁ news := fun p hp => ⟨hk1 _ _ (N p hp).1, Zrd (Heap.lt_size (N p hp).1), hideAll_none _ (ZqL hp)⟩
  have hΓ : (⟨Γ.A.deeper (envX qual scope s.heap.objs.size f cdv []), Γ.A, Γ.base, hideAll s.heap (news.map (·.1)), Γ.env :: Γ.outer, qual, scope, s.heap.objs.size, f, cdv, []⟩ : Amb).Ok G :=
   ⟨BG, ok.X.keeps st, ok.T.keeps st, by refine (?_ : (Γ.A.frames.map _) = _); refine rE ok.fr ?_; rfl, hk, ok.hd, by refine (?_ : Γ.A.units + 3 + 200 < cLine); have := rm.uni; omega, fun a o e => (by (refine o31 (ok.S a o e) fun ob h r => ?_); exact ⟨ob, st _ _ h, r⟩)⟩
  have hRoom : (⟨Γ.A.deeper (envX qual scope s.heap.objs.size f cdv []), Γ.A, Γ.base, hideAll s.heap (news.map (·.1)), Γ.env :: Γ.outer, qual, scope, s.heap.objs.size, f, cdv, []⟩ : Amb).Room d :=
   ⟨by refine (?_ : Γ.A.depth + 1 + d < _); have := rm.dep; omega, by refine (?_ : Γ.A.units + 3 + 8 * d + 200 < _); have := rm.uni; omega⟩
  have hR' : R G ⟨Γ.A.deeper (envX qual scope s.heap.objs.size f cdv []), Γ.A, Γ.base, hideAll s.heap (news.map (·.1)), Γ.env :: Γ.outer, qual, scope, s.heap.objs.size, f, cdv, []⟩ σ (names.zip (vs ++ dv)) h₁ :=
   ⟨hΓ, _, news, F', N', ZnA names _ _ hn (r.append rd), sr⟩
  refine wpAny_mono (h ⟨_, _, _, _, _, _⟩ hRoom { s with heap := h₁, toks := s.toks + (names.zip (us ++ ds)).length } hR') (fun fl s' hp => ?_) fun n_ n_ x => x.elim
  refine o20 hp fun y0 r1 => ?_; clear hp; obtain ⟨h', tk, e⟩ := y0; refine o73 r1 fun b σ' m' rb q kp z => ?_; clear r1
  subst e
  refine o20 q fun ok' r1 => ?_; clear q; refine o62 r1 fun mv' news' F'' N'' l' sr' => ?_; clear r1
  refine lv _ _ (leaveK_ F'' N'' fun Fa N2 => ?_)
  have hx := Zg0 rb
  refine k _ _ h' tk σ' m (by induction fl <;> exact hx) ⟨ok, mv, news', Fa, N2, l, sr'⟩ ⟨fun b o hb e1 e2 => ?_, fun b hb e1 => ?_⟩ z
  ·exact kp.keep b o (Zrd (Heap.lt_size e2)) e1 (hk1 b o e2)
  ·by_cases hbL : b = s.heap.objs.size
   ·right
    induction q : s.heap.get? b with
    | none => rfl
    | some o => exact absurd (Heap.lt_size q) (by refine rE hbL ?_; exact Zq8 _)
   ·rcases kp.new b hbL e1 with w | w
    ·exact .inl w
    ·right
     induction q : s.heap.get? b with
     | none => rfl
     | some o => rw [hk1 b o q] at w; exact nB w
noncomputable def Amb.tc (Γ : Amb) : Amb := { Γ with A := { Γ.A with depth := Γ.A.depth + 1, units := Γ.A.units + 1 } }
theorem R.tc {h : Heap} (hR : R G Γ σ m h) (rm : Γ.Room 1) : R G Γ.tc σ m h := by
 refine o20 hR fun ok r => ?_; clear hR
 exact ⟨⟨ok.B, ok.X, ok.T, ok.fr, ok.kind, ok.hd, by refine (?_ : Γ.A.units + 1 + 200 < cLine); have := rm.uni; omega, ok.S⟩, r⟩
theorem R.out1 {h : Heap} (ok : Γ.Ok G) (hR : R G Γ.tc σ m h) : R G Γ σ m h := ⟨ok, hR.2⟩
theorem Amb.Room.tc {d : Nat} (rm : Γ.Room (d + 1)) : Γ.tc.Room d := ⟨by refine (?_ : Γ.A.depth + 1 + d < _); have := rm.dep; omega, by refine (?_ : Γ.A.units + 1 + 8 * d + 200 < _); have := rm.uni; omega⟩
theorem Zmw {A : Around} {C : Addr} {us : List Value} : A.under (.builtin "type.__call__" ⟨.ref C :: us, []⟩) = { A with depth := A.depth + 1, units := A.units + 1 } := rfl
theorem ZjF {C fI : Addr} {vs : List AV} {Q : AV -> Sig -> Loc -> Prop} (rm : Γ.Room 1) (hm : makesIn G.K C = true) (hi : findIn G.K (.ref C) "__init__" = some (some (.ref fI))) (hf : isFn G.K (.ref fI) = true)
  (h : ∀ x d, σ d = none -> (σ.set d (.dic [])) x = none -> CC G Γ.tc (.ref fI) (.ref x :: vs) (fun v σ' m' => v = .none /\ Q (.ref x) σ' m') ((σ.set d (.dic [])).set x (.ins C d)) m) : FC G Γ (.ref C) vs Q σ m := fun us r => Zbi fun s hR Q' k => by
 have hR₀ := hR
 refine o30 (hR.push (o := .dic []) (ob := dictOf [] 0) rfl ⟨[], 0, rfl, .nil⟩) fun e1 hR1 kp1 => ?_
 refine o30 (hR1.push (o := .ins C s.heap.objs.size) (ob := instObj C s.heap.objs.size) rfl rfl) fun e2 hR2 kp2 => ?_
 have hsz : (s.heap.push (dictOf [] 0)).objs.size = s.heap.objs.size + 1 := Heap.size_push ..
 rw [hsz] at e2 hR2 kp2
 have X := hR₀.K
 obtain ⟨hh, g, dr, t, os⟩ := s
 refine wpAny_call (make_core (makes_of X hm) (looks_findIn X hi) (fun self => bind_fn X self (beq_iff_eq.mp hf)) (.inl rfl) ?_)
 refine rE Zmw ?_
 refine h _ _ e1 e2 (.ref _ :: us) (.cons rfl r) _ _ (hR2.tc rm) fun a b h' tk σ' m' rb q kp z => ?_
 refine o20 z ?_; clear z; intro y0 z; subst y0
 subst rb
 exact ⟨rfl, k (.ref _) (.ref _) h' tk σ' m' rfl (q.out1 hR₀.1) ((kp1.trans kp2).trans kp) z⟩
open Classical in
theorem ZkQ {x C d : Addr} {es : List (Str × AV)} {name : Str} {v : AV} {A V : Value} {Q : Unit -> Sig -> Loc -> Prop} (hx1 : σ x = some (.ins C d)) (hd1 : σ d = some (.dic es)) (hn : es.lookup name = none) (hz : es.length < 900)
  (hs : findIn G.K (.ref C) "__setattr__" = some (some (.builtin "object.__setattr__"))) (hp : plainOver G.K C = true) (ht : takerIn G.K C name = some none) (hh : hasDictIn G.K C = true)
  (ra : VR (.ref x) A) (rv : VR v V) (h : Q () (σ.set d (.dic (es ++ [(name, v)]))) m) : W G Γ UR (setAttr A name V) Q σ m := Zbi fun s hR Q' k => by
 subst ra
 have hR₀ := hR
 refine o31 (hR.get hx1) fun ox hox hx => ?_
 subst hx
 refine o31 (hR.get hd1) fun od hod r2 => ?_; refine o42 r2 fun des n y2 rd => ?_; clear r2; subst y2
 refine o20 hR fun ok r1 => ?_; clear hR; refine o62 r1 fun mv news F N l sr => ?_; clear r1
 refine o41 (sr d _ hd1) fun ob hob hod' hlo => ?_
 have hNd := N _ hob
 obtain rfl : ob = dictOf des n := ZqC (hNd.1.symm.trans hod)
 let big := (Zrt s.heap.objs.size).filterMap fun b => match s.heap.get? b with | some o => if b ≠ Γ.L /\ Γ.h₀.get? b = none /\ b ≠ d then some (b, o) else none | none => none
 have mem : ∀ b o, (b, o) ∈ big ↔ s.heap.get? b = some o /\ b ≠ Γ.L /\ Γ.h₀.get? b = none /\ b ≠ d := fun b o => by
  rw [List.mem_filterMap]
  constructor
  ·rintro ⟨c, hc, e⟩
   split at e
   ·rename_i o' ho'
    split at e
    ·rename_i q; cases e; exact ⟨ho', q⟩
    ·exact nA e
   ·exact nA e
  ·rintro ⟨h1, h2⟩
   refine e31 b (Zsg.mpr (Heap.lt_size h1)) ?_
   refine rE h1 ?_; dsimp only; exact rE (if_pos h2) rfl
 have NB : News Γ.h₀ Γ.L s.heap ((d, dictOf des n) :: big) := fun p hp => by
  rcases ZqD.mp hp with rfl | hp
  ·exact hNd
  ·refine o40 ((mem p.1 p.2).mp hp) fun a b c n_ => ?_; exact ⟨a, b, c⟩
 have I : InstAt s.heap x (instObj C d) C (some (dictOf des n)) := ⟨hox, rfl, rfl, hod⟩
 have hl := rd.none hn
 have len : ∀ {es : List (Str × AV)} {des : List DictEntry}, ERs G.w.params es des -> des.length = es.length := fun h => by
  induction h with
  | nil => rfl
  | cons _ _ ih => (refine rE ZqF (rE ZqF ?_); exact rE ih rfl)
 have any0 : des.any (·.key.isStr name) = false := by
  unfold getL at hl
  split at hl
  ·cases hl
  ·rename_i q
   rw [List.find?_eq_none] at q
   rw [Zsj]; exact q
 have put0 : ∀ {des : List DictEntry} {h : Int} {key v : Value}, des.any (·.key.isStr name) = false -> putL name h key v des = des ++ [⟨h, key, v⟩] := by
  intro des h key v
  induction des with
  | nil => intro n_; rfl
  | cons e r ih =>
   intro q
   rw [List.any_cons, ZsF] at q
   rewrite [putL]; refine rE q.1 ?_
   simp only [Zsc, if_false]
   refine rE (ih q.2) ?_; rfl
 refine set_dict (es' := des ++ [⟨PyData.keyHash G.w.params name, .str name (s.toks + 1), V⟩]) (n' := n + 1) F ok.X NB I rfl hs hp ht hh (by refine rE hl ?_; rfl) (by refine rE (put0 any0) ?_; unfold putN; refine rE any0 ?_; rfl) (.head fun p hp => ((mem p.1 p.2).mp hp).2.2.2) (by (refine rE Zqu (rE (len rd) ?_)); simp; omega) fun h' F' N' => ?_
 have snoc : ∀ {es : List (Str × AV)} {des : List DictEntry} {p : Str × AV} {q : DictEntry}, ERs G.w.params es des -> ER G.w.params p q -> ERs G.w.params (es ++ [p]) (des ++ [q]) := fun h q => by
  induction h with
  | nil => exact .cons q .nil
  | cons r _ ih => exact .cons r ih
 refine k () () h' _ _ _ trivial ⟨ok, mv, _, F', N', l, fun a o e => ?_⟩ ⟨fun b o hb e1 e2 => ?_, fun b hb e => ?_⟩ h
 ·by_cases q : a = d
  ·subst q
   rw [Sig.set_self] at e
   obtain rfl := ZqC e
   exact e41 _ (.head _) ⟨_, _, rfl, snoc rd ⟨⟨_, rfl⟩, rfl, rv⟩⟩ hlo
  ·rw [Sig.set_ne q] at e
   refine o41 (sr a o e) fun ob hm ho lo => ?_
   have := N _ hm
   exact e41 ob (.tail _ ((mem a ob).mpr ⟨this.1, this.2.1, this.2.2, q⟩)) ho lo
 ·induction q : Γ.h₀.get? b with
  | some o' =>
   have := F.keep _ _ q
   rw [e2] at this
   obtain rfl := ZqC this
   exact F'.keep _ _ q
  | none =>
   have hbd : b ≠ d := fun q => by rw [q, hd1] at e1; exact nB e1
   exact (N' (b, o) (.tail _ ((mem b o).mpr ⟨e2, hb, q, hbd⟩))).1
 ·by_cases q : b = d
  ·subst q; exact .inl (by refine rE hd1 ?_; exact Zrp _)
  ·rw [Sig.set_ne q] at e; exact .inl e
end
end Nz
namespace Nz
open PySem PySem.W PySem.Calls PyProof.Rows
section
variable {prog : Program} {w : World} {A : Around} {E : Value -> Shared -> Prop} {s : Shared}
theorem Zj2 {value : Expr} {lower upper : Option Expr} {p : Pos} {o i : Value} {T id : String} {Q : Value -> Shared -> Prop} (hT : s.TypeIs o T) (hl : typeLookup (.type T) "__getitem__" = pure (some (.builtin id)))
  (h : wpAny (model prog w) A (getItem o i) Q E s) : wpAny (model prog w) A (subscriptTail value (.Slice lower upper none p) o i) Q E s := by
 have fin : wpAny (model prog w) A (operate [i, o] (getItem o i)) (fun r sb => wpAny (model prog w) A (letTemporaryGo value o r >>= fun n_ => pure r) Q E sb) E s :=
  wpAny_operating (wpAny_mono h (fun r sb h₃ => wpAny_bind (wpAny_letTemporaryGo (wpAny_pure h₃))) fun n_ n_ x => x)
 unfold subscriptTail
 refine wpAny_bind ?_
 refine rE (getitemInPython_of_ne hT.not_modules) ?_
 refine wpAny_bind (wpAny_specialOf hT hl ?_)
 exact wpAny_pure (wpAny_bind fin)
end
section
variable {G : Glo} {Γ : Amb} {σ : Sig} {m : Loc}
theorem ZoM {o e : Expr} {p pos : Pos} {ε : Env} {a : Addr} {l : List AV} {j : Nat} {Q : AV -> Sig -> Loc -> Prop}
  (h : W G Γ VR (eval o ε) (fun x σ₁ mc => W G Γ VR (eval e ε) (fun y σ₂ md => x = .ref a /\ y = .int j /\ Sees G σ₂ a (.lst l) /\ j <= l.length /\ l.length <= sizeLine /\ ∀ r, σ₂ r = none -> Q (.ref r) (σ₂.set r (.lst (l.take j))) md) σ₁ mc) σ m) :
  W G Γ VR (eval (.Subscript o (.Slice none (some e) none p) pos) ε) Q σ m := Zbi fun s hR Q' k => by
 refine Subscript_ (h.use hR fun x xa h₁ tk1 σ₁ mc rx hR₁ kp₁ z => wpAny_Slice ?_)
 refine rE (evalPart_none _) ?_
 refine wpAny_pure ?_
 refine W.use (s := { s with heap := h₁, toks := tk1 }) z hR₁ fun y ya h₂ tka σ₂ md ry hR₂ kp₂ z => ?_
 refine o60 z fun y0 y1 hs hj hz q => ?_; clear z; subst y0; subst y1
 subst rx
 refine o21 ry fun t y1 => ?_; clear ry; subst y1
 refine o31 (hR₂.isList hs) fun vs hl r => ?_
 have hlen := r.len
 refine wpAny_pure (Zj2 (T := "list") (hl.push _).typeIs list_getitem_lookup (wpAny_getItem_list_slice (hl.push _) (Heap.IsSliceOf.new ..) .none (.int (j : Int) t) .none (by simp) ?_ (by (refine rE ZqM (rE hlen ?_)); exact hz)))
 refine o20 (hR₂.pushed (ob := { cls := .type "slice", data := .fields #[.none, .int (j : Int) t, .none] }) rfl) fun hR₃ kp₃ => ?_
 have hp : slicePick vs.toArray none (some (j : Int)) none = (vs.take j).toArray := by rw [slicePick_upto _ _ (by (refine rE ZqM (rE hlen ?_)); exact hj)]
 refine o30 (hR₃.push (o := .lst (l.take j)) (ob := { cls := .type "list", data := .seq (slicePick vs.toArray none (some (j : Int)) none) }) rfl ⟨vs.take j, 0, by exact rE hp rfl, r.take j⟩) fun e1 hR₄ kp₄ => ?_
 exact k _ (.ref _) _ _ _ _ rfl hR₄ (((kp₁.trans kp₂).trans kp₃).trans kp₄) (q _ e1)
end
end Nz
namespace Nz
open PySem PySem.W PySem.Calls PyProof.Rows
section
variable {G : Glo}
theorem Zav (P : Params) : noGet (nzhd.heap_39 P) none = true := by kernel_rfl
theorem Zbl (P : Params) : hasDictIn (nzhd.heap_39 P) 579 = true := by kernel_rfl
theorem Zcg (hK : Is G) : Field G.K 579 "tree" := hK.field (by kernel_rfl) (Zbl _) (by kernel_rfl) (Zav _)
theorem Zf9 (hK : Is G) : Field G.K 579 "stack" := hK.field (by kernel_rfl) (Zbl _) (by kernel_rfl) (Zav _)
theorem Zdm (hK : Is G) : Field G.K 579 "formatting" := hK.field (by kernel_rfl) (Zbl _) (by kernel_rfl) (Zav _)
theorem Zgn (hK : Is G) : Field G.K 579 "mode" := hK.field (by kernel_rfl) (Zbl _) (by kernel_rfl) (Zav _)
theorem ZdI (hK : Is G) : Field G.K 579 "is_foster" := hK.field (by kernel_rfl) (Zbl _) (by kernel_rfl) (Zav _)
theorem Ze5 (hK : Is G) : Field G.K 579 "errors" := hK.field (by kernel_rfl) (Zbl _) (by kernel_rfl) (Zav _)
theorem ZfM (hK : Is G) : Meth G.K 579 "error" 534 := hK.meth (by kernel_rfl) (by kernel_rfl) (by kernel_rfl) (by kernel_rfl)
theorem ZbL (P : Params) : hasDictIn (nzhd.heap_39 P) 501 = true := by kernel_rfl
theorem ZeR (hK : Is G) : Field G.K 501 "kinds" := hK.field (by kernel_rfl) (ZbL _) (by kernel_rfl) (Zav _)
theorem Zd5 (hK : Is G) : Field G.K 501 "spaces" := hK.field (by kernel_rfl) (ZbL _) (by kernel_rfl) (Zav _)
theorem ZeM (hK : Is G) : Field G.K 501 "names" := hK.field (by kernel_rfl) (ZbL _) (by kernel_rfl) (Zav _)
theorem ZeI (hK : Is G) : Field G.K 501 "attrs" := hK.field (by kernel_rfl) (ZbL _) (by kernel_rfl) (Zav _)
theorem ZeZ (hK : Is G) : Field G.K 501 "texts" := hK.field (by kernel_rfl) (ZbL _) (by kernel_rfl) (Zav _)
theorem Zds (hK : Is G) : Field G.K 501 "parents" := hK.field (by kernel_rfl) (ZbL _) (by kernel_rfl) (Zav _)
theorem ZcO (hK : Is G) : Field G.K 501 "children" := hK.field (by kernel_rfl) (ZbL _) (by kernel_rfl) (Zav _)
theorem ZfW (hK : Is G) : Field G.K 501 "contents" := hK.field (by kernel_rfl) (ZbL _) (by kernel_rfl) (Zav _)
theorem ZgT (hK : Is G) : Meth G.K 501 "add" 411 := hK.meth (by kernel_rfl) (by kernel_rfl) (by kernel_rfl) (by kernel_rfl)
theorem Zgp (hK : Is G) : Meth G.K 501 "element" 420 := hK.meth (by kernel_rfl) (by kernel_rfl) (by kernel_rfl) (by kernel_rfl)
theorem ZiD (hK : Is G) : Meth G.K 501 "text" 427 := hK.meth (by kernel_rfl) (by kernel_rfl) (by kernel_rfl) (by kernel_rfl)
theorem Zg3 (hK : Is G) : Meth G.K 501 "insert" 449 := hK.meth (by kernel_rfl) (by kernel_rfl) (by kernel_rfl) (by kernel_rfl)
theorem ZhJ (hK : Is G) : Meth G.K 501 "append" 456 := hK.meth (by kernel_rfl) (by kernel_rfl) (by kernel_rfl) (by kernel_rfl)
theorem ZhH (hK : Is G) : Meth G.K 501 "remove" 463 := hK.meth (by kernel_rfl) (by kernel_rfl) (by kernel_rfl) (by kernel_rfl)
theorem Zdk (hK : Is G) : Meth G.K 501 "move_children" 470 := hK.meth (by kernel_rfl) (by kernel_rfl) (by kernel_rfl) (by kernel_rfl)
theorem Zis (hK : Is G) : Meth G.K 501 "place" 477 := hK.meth (by kernel_rfl) (by kernel_rfl) (by kernel_rfl) (by kernel_rfl)
theorem ZiE (hK : Is G) : Meth G.K 501 "last" 484 := hK.meth (by kernel_rfl) (by kernel_rfl) (by kernel_rfl) (by kernel_rfl)
theorem Zix (hK : Is G) : Meth G.K 501 "value" 491 := hK.meth (by kernel_rfl) (by kernel_rfl) (by kernel_rfl) (by kernel_rfl)
theorem Zgr (hK : Is G) : Meth G.K 501 "is_html" 498 := hK.meth (by kernel_rfl) (by kernel_rfl) (by kernel_rfl) (by kernel_rfl)
theorem Zdo (P : Params) : hasDictIn (nzhd.heap_39 P) 189 = true := by kernel_rfl
theorem Ze3 (hK : Is G) : Field G.K 189 "tree" := hK.field (by kernel_rfl) (Zdo _) (by kernel_rfl) (Zav _)
theorem Zep (hK : Is G) : Field G.K 189 "items" := hK.field (by kernel_rfl) (Zdo _) (by kernel_rfl) (Zav _)
theorem Ze7 (hK : Is G) : Meth G.K 189 "push" 109 := hK.meth (by kernel_rfl) (by kernel_rfl) (by kernel_rfl) (by kernel_rfl)
theorem ZfO (hK : Is G) : Meth G.K 189 "pop" 116 := hK.meth (by kernel_rfl) (by kernel_rfl) (by kernel_rfl) (by kernel_rfl)
theorem ZdE (hK : Is G) : Meth G.K 189 "current" 123 := hK.meth (by kernel_rfl) (by kernel_rfl) (by kernel_rfl) (by kernel_rfl)
theorem Ze6 (hK : Is G) : Meth G.K 189 "many" 130 := hK.meth (by kernel_rfl) (by kernel_rfl) (by kernel_rfl) (by kernel_rfl)
theorem ZfL (hK : Is G) : Meth G.K 189 "has" 137 := hK.meth (by kernel_rfl) (by kernel_rfl) (by kernel_rfl) (by kernel_rfl)
theorem ZdL (hK : Is G) : Meth G.K 189 "remove" 144 := hK.meth (by kernel_rfl) (by kernel_rfl) (by kernel_rfl) (by kernel_rfl)
theorem Zeh (hK : Is G) : Meth G.K 189 "place" 151 := hK.meth (by kernel_rfl) (by kernel_rfl) (by kernel_rfl) (by kernel_rfl)
theorem ZdW (hK : Is G) : Meth G.K 189 "put_at" 158 := hK.meth (by kernel_rfl) (by kernel_rfl) (by kernel_rfl) (by kernel_rfl)
theorem Ze8 (hK : Is G) : Meth G.K 189 "name" 165 := hK.meth (by kernel_rfl) (by kernel_rfl) (by kernel_rfl) (by kernel_rfl)
theorem ZcM (hK : Is G) : Meth G.K 189 "pop_until" 179 := hK.meth (by kernel_rfl) (by kernel_rfl) (by kernel_rfl) (by kernel_rfl)
theorem Zc0 (P : Params) : hasDictIn (nzhd.heap_39 P) 377 = true := by kernel_rfl
theorem Zev (hK : Is G) : Field G.K 377 "tree" := hK.field (by kernel_rfl) (Zc0 _) (by kernel_rfl) (Zav _)
theorem ZdV (hK : Is G) : Field G.K 377 "items" := hK.field (by kernel_rfl) (Zc0 _) (by kernel_rfl) (Zav _)
theorem Zel (hK : Is G) : Meth G.K 377 "push" 318 := hK.meth (by kernel_rfl) (by kernel_rfl) (by kernel_rfl) (by kernel_rfl)
theorem ZeD (hK : Is G) : Meth G.K 377 "find" 339 := hK.meth (by kernel_rfl) (by kernel_rfl) (by kernel_rfl) (by kernel_rfl)
theorem Zfa (hK : Is G) : Meth G.K 377 "has" 346 := hK.meth (by kernel_rfl) (by kernel_rfl) (by kernel_rfl) (by kernel_rfl)
theorem Zd6 (hK : Is G) : Meth G.K 377 "place" 353 := hK.meth (by kernel_rfl) (by kernel_rfl) (by kernel_rfl) (by kernel_rfl)
theorem Zdx (hK : Is G) : Meth G.K 377 "remove" 360 := hK.meth (by kernel_rfl) (by kernel_rfl) (by kernel_rfl) (by kernel_rfl)
theorem Zdl (hK : Is G) : Meth G.K 377 "replace" 367 := hK.meth (by kernel_rfl) (by kernel_rfl) (by kernel_rfl) (by kernel_rfl)
theorem ZdH (hK : Is G) : Meth G.K 377 "put_at" 374 := hK.meth (by kernel_rfl) (by kernel_rfl) (by kernel_rfl) (by kernel_rfl)
theorem Zir (hK : Is G) : nsIn G.K mainGlobals "is_special" = some (some (.ref 28)) := hK.ns (by kernel_rfl)
theorem Ziw (hK : Is G) : keepIn G.K (.ref 28) = true := hK.keep (by kernel_rfl)
theorem ZfS (hK : Is G) : nsIn G.K mainGlobals "is_table_part" = some (some (.ref 35)) := hK.ns (by kernel_rfl)
theorem ZfB (hK : Is G) : keepIn G.K (.ref 35) = true := hK.keep (by kernel_rfl)
theorem Zc4 (hK : Is G) : nsIn G.K mainGlobals "implied_names" = some (some (.ref 42)) := hK.ns (by kernel_rfl)
theorem ZcQ (hK : Is G) : keepIn G.K (.ref 42) = true := hK.keep (by kernel_rfl)
theorem Zgx (hK : Is G) : nsIn G.K mainGlobals "foster_place" = some (some (.ref 49)) := hK.ns (by kernel_rfl)
theorem Zgv (hK : Is G) : keepIn G.K (.ref 49) = true := hK.keep (by kernel_rfl)
theorem ZcE (hK : Is G) : nsIn G.K mainGlobals "place_for" = some (some (.ref 57)) := hK.ns (by kernel_rfl)
theorem Zcv (hK : Is G) : keepIn G.K (.ref 57) = true := hK.keep (by kernel_rfl)
theorem Zd1 (hK : Is G) : nsIn G.K mainGlobals "insert_sign" = some (some (.ref 64)) := hK.ns (by kernel_rfl)
theorem ZdR (hK : Is G) : keepIn G.K (.ref 64) = true := hK.keep (by kernel_rfl)
theorem ZjB (hK : Is G) : nsIn G.K mainGlobals "make" = some (some (.ref 72)) := hK.ns (by kernel_rfl)
theorem ZjY (hK : Is G) : keepIn G.K (.ref 72) = true := hK.keep (by kernel_rfl)
theorem Za4 (hK : Is G) : nsIn G.K mainGlobals "insert_element" = some (some (.ref 81)) := hK.ns (by kernel_rfl)
theorem Za6 (hK : Is G) : keepIn G.K (.ref 81) = true := hK.keep (by kernel_rfl)
theorem Zct (hK : Is G) : nsIn G.K mainGlobals "reconstruct" = some (some (.ref 88)) := hK.ns (by kernel_rfl)
theorem Zcy (hK : Is G) : keepIn G.K (.ref 88) = true := hK.keep (by kernel_rfl)
theorem Zg4 (hK : Is G) : nsIn G.K mainGlobals "stops_scope" = some (some (.ref 200)) := hK.ns (by kernel_rfl)
theorem ZhE (hK : Is G) : keepIn G.K (.ref 200) = true := hK.keep (by kernel_rfl)
theorem Zgk (hK : Is G) : nsIn G.K mainGlobals "node_in_scope" = some (some (.ref 208)) := hK.ns (by kernel_rfl)
theorem Zfq (hK : Is G) : keepIn G.K (.ref 208) = true := hK.keep (by kernel_rfl)
theorem Zea (hK : Is G) : nsIn G.K mainGlobals "pop_implied" = some (some (.ref 216)) := hK.ns (by kernel_rfl)
theorem ZdZ (hK : Is G) : keepIn G.K (.ref 216) = true := hK.keep (by kernel_rfl)
theorem Zdi (hK : Is G) : nsIn G.K mainGlobals "pop_with" = some (some (.ref 223)) := hK.ns (by kernel_rfl)
theorem Zda (hK : Is G) : keepIn G.K (.ref 223) = true := hK.keep (by kernel_rfl)
theorem ZcV (hK : Is G) : nsIn G.K mainGlobals "any_other_end" = some (some (.ref 230)) := hK.ns (by kernel_rfl)
theorem ZcS (hK : Is G) : keepIn G.K (.ref 230) = true := hK.keep (by kernel_rfl)
theorem ZcI (hK : Is G) : nsIn G.K mainGlobals "furthest_block" = some (some (.ref 237)) := hK.ns (by kernel_rfl)
theorem ZcG (hK : Is G) : keepIn G.K (.ref 237) = true := hK.keep (by kernel_rfl)
theorem Zdt (hK : Is G) : nsIn G.K mainGlobals "find_subject" = some (some (.ref 244)) := hK.ns (by kernel_rfl)
theorem Zdq (hK : Is G) : keepIn G.K (.ref 244) = true := hK.keep (by kernel_rfl)
theorem ZeQ (hK : Is G) : nsIn G.K mainGlobals "inner_loop" = some (some (.ref 251)) := hK.ns (by kernel_rfl)
theorem ZeY (hK : Is G) : keepIn G.K (.ref 251) = true := hK.keep (by kernel_rfl)
theorem Zgd (hK : Is G) : nsIn G.K mainGlobals "move_last" = some (some (.ref 258)) := hK.ns (by kernel_rfl)
theorem ZfN (hK : Is G) : keepIn G.K (.ref 258) = true := hK.keep (by kernel_rfl)
theorem ZkH (hK : Is G) : nsIn G.K mainGlobals "adopt" = some (some (.ref 265)) := hK.ns (by kernel_rfl)
theorem ZkL (hK : Is G) : keepIn G.K (.ref 265) = true := hK.keep (by kernel_rfl)
theorem Zmc (hK : Is G) : nsIn G.K mainGlobals "alike" = some (some (.ref 388)) := hK.ns (by kernel_rfl)
theorem Zle (hK : Is G) : keepIn G.K (.ref 388) = true := hK.keep (by kernel_rfl)
theorem Zjk (hK : Is G) : nsIn G.K mainGlobals "above" = some (some (.ref 512)) := hK.ns (by kernel_rfl)
theorem Zju (hK : Is G) : keepIn G.K (.ref 512) = true := hK.keep (by kernel_rfl)
theorem Zfr (hK : Is G) : nsIn G.K mainGlobals "_law_digit" = some (some (.ref 590)) := hK.ns (by kernel_rfl)
theorem Zf4 (hK : Is G) : keepIn G.K (.ref 590) = true := hK.keep (by kernel_rfl)
theorem ZcJ (hK : Is G) : nsIn G.K mainGlobals "_law_up_to_last" = some (some (.ref 595)) := hK.ns (by kernel_rfl)
theorem ZcK (hK : Is G) : keepIn G.K (.ref 595) = true := hK.keep (by kernel_rfl)
theorem Zb7 (hK : Is G) : nsIn G.K mainGlobals "_law_without_last" = some (some (.ref 600)) := hK.ns (by kernel_rfl)
theorem Zb5 (hK : Is G) : keepIn G.K (.ref 600) = true := hK.keep (by kernel_rfl)
theorem Zgi (hK : Is G) : nsIn G.K mainGlobals "_law_start" = some (some (.ref 607)) := hK.ns (by kernel_rfl)
theorem Zfz (hK : Is G) : keepIn G.K (.ref 607) = true := hK.keep (by kernel_rfl)
theorem ZhZ (hK : Is G) : nsIn G.K mainGlobals "_law_end" = some (some (.ref 612)) := hK.ns (by kernel_rfl)
theorem ZhM (hK : Is G) : keepIn G.K (.ref 612) = true := hK.keep (by kernel_rfl)
theorem Zek (hK : Is G) : nsIn G.K mainGlobals "_law_sign" = some (some (.ref 617)) := hK.ns (by kernel_rfl)
theorem Zet (hK : Is G) : keepIn G.K (.ref 617) = true := hK.keep (by kernel_rfl)
theorem ZdM (hK : Is G) : nsIn G.K mainGlobals "_law_is_told" = some (some (.ref 624)) := hK.ns (by kernel_rfl)
theorem ZdP (hK : Is G) : keepIn G.K (.ref 624) = true := hK.keep (by kernel_rfl)
theorem Zeo (hK : Is G) : nsIn G.K mainGlobals "_law_read" = some (some (.ref 631)) := hK.ns (by kernel_rfl)
theorem Zem (hK : Is G) : keepIn G.K (.ref 631) = true := hK.keep (by kernel_rfl)
theorem Zbu (hK : Is G) : nsIn G.K mainGlobals "_law_letters" = some (some (.ref 636)) := hK.ns (by kernel_rfl)
theorem Zbr (hK : Is G) : keepIn G.K (.ref 636) = true := hK.keep (by kernel_rfl)
theorem Zch (hK : Is G) : nsIn G.K mainGlobals "_law_all_come_up" = some (some (.ref 641)) := hK.ns (by kernel_rfl)
theorem Zcq (hK : Is G) : keepIn G.K (.ref 641) = true := hK.keep (by kernel_rfl)
theorem ZeK (hK : Is G) : nsIn G.K mainGlobals "_law_is_way" = some (some (.ref 648)) := hK.ns (by kernel_rfl)
theorem ZeW (hK : Is G) : keepIn G.K (.ref 648) = true := hK.keep (by kernel_rfl)
theorem Zje (hK : Is G) : nsIn G.K mainGlobals "OpenStack" = some (some (.ref 189)) := hK.ns (by kernel_rfl)
theorem ZhW (hK : Is G) : nsIn G.K mainGlobals "Formatting" = some (some (.ref 377)) := hK.ns (by kernel_rfl)
theorem Zpo (hK : Is G) : nsIn G.K mainGlobals "Tree" = some (some (.ref 501)) := hK.ns (by kernel_rfl)
theorem Zmf (hK : Is G) : nsIn G.K mainGlobals "Builder" = some (some (.ref 579)) := hK.ns (by kernel_rfl)
theorem Zhy (hK : Is G) : nsIn G.K mainGlobals "len" = some none := hK.ns (by kernel_rfl)
theorem Zdu (hK : Is G) : nsIn G.K mainGlobals "range" = some none := hK.ns (by kernel_rfl)
theorem ZnC (hK : Is G) : nsIn G.K mainGlobals "list" = some none := hK.ns (by kernel_rfl)
theorem ZnY (hK : Is G) : nsIn G.K mainGlobals "tuple" = some none := hK.ns (by kernel_rfl)
theorem Zfh (hK : Is G) : nsIn G.K mainGlobals "sorted" = some none := hK.ns (by kernel_rfl)
theorem Zpe (hK : Is G) : nsIn G.K mainGlobals "chr" = some none := hK.ns (by kernel_rfl)
end
end Nz
namespace Nz
open PySem PySem.W PySem.Calls PyProof.Rows
inductive Tag where
 | html | body | b | i | a | div | p | span
noncomputable def Tag.str : Tag -> Str
 | .html => "html"
 | .body => "body"
 | .b => "b"
 | .i => "i"
 | .a => "a"
 | .div => "div"
 | .p => "p"
 | .span => "span"
set_option genInjectivity true in
inductive Nd where
 | doc
 | el (t : Tag) (c : Option Nat)
 | tx
noncomputable def Nd.kind : Nd -> Str
 | .doc => "document"
 | .el _ _ => "element"
 | .tx => "text"
noncomputable def Nd.space : Nd -> Str
 | .el _ _ => "html"
 | _ => ""
noncomputable def Nd.name : Nd -> Str
 | .el t _ => t.str
 | _ => ""
noncomputable def Nd.let : Nd -> Option Nat
 | .el _ c => c
 | _ => none
structure PW where
 nd : List Nd
 tx : List (List Nat)
 pa : List Int
 ch : List (List Nat)
 st : List Nat
 fm : List Nat
 er : Nat
noncomputable def txt (l : List Nat) : Str := ⟨l.toArray⟩
noncomputable def mk (w : PW) : Wd := ⟨w.nd.map Nd.kind, w.nd.map Nd.space, w.nd.map Nd.name, w.nd.map Nd.let, w.tx.map txt, w.pa, w.ch, w.st, w.fm, w.er⟩
noncomputable abbrev Zab (k : Cfg) (z : Var) (σ : Sig) (w : PW) : Prop := WorldZ k z σ (mk w)
noncomputable abbrev Zcr (k : Cfg) (z : Var) (w : PW) (σ : Sig) (z' : Var) (w' : PW) (σ' : Sig) : Prop := Ext k z (mk w) σ z' (mk w') σ'
noncomputable def ZbB (G : Glo) (σ : Sig) (x : Addr) (name : Str) (v : AV) : Prop := ∃ C, Zd3 σ x name = some (C, v) /\ Field G.K C name /\ Zgz v = true
noncomputable def Zbh (G : Glo) (σ : Sig) (x : Addr) (name : Str) (f : Addr) : Prop := ∃ C, Zgh σ x name = some C /\ Meth G.K C name f
section
variable {G : Glo} {Γ : Amb} {σ : Sig} {m : Loc} {k : Cfg} {z : Var} {w : Wd}
theorem Zao {x C d : Addr} {es : List (Str × AV)} {name : Str} {v : AV} (h1 : σ x = some (.ins C d)) (h2 : σ d = some (.dic es)) (h3 : es.lookup name = some v) : Zd3 σ x name = some (C, v) := by
 unfold Zd3; refine rE h1 ?_; dsimp only; refine rE h2 ?_; dsimp only; refine rE h3 ?_; rfl
theorem Zam {x C d : Addr} {es : List (Str × AV)} {name : Str} (h1 : σ x = some (.ins C d)) (h2 : σ d = some (.dic es)) (h3 : es.lookup name = none) : Zgh σ x name = some C := by
 unfold Zgh; refine rE h1 ?_; dsimp only; refine rE h2 ?_; dsimp only; exact rE h3 rfl
theorem Zho {o : Expr} {name : Str} {pos : Pos} {x : Addr} {v : AV} (ho : Ev G Γ σ m o (.ref x)) (f : ZbB G σ x name v)
  (he : eval (.Attribute o name pos) Γ.env = (do
   let v <- eval o Γ.env
   standAt pos.atName
   let r <- holding [v] (getAttr v name true)
   letTemporaryGo o v r
   pure r)) : Ev G Γ σ m (.Attribute o name pos) v := (by (refine o41 f fun C a b c => ?_; clear f); exact Zn5 ho a b c he)
theorem ZhI {o : Expr} {name : Str} {apos pos : Pos} {args : List Expr} {pl : Sem Bool} {x f : Addr} {vs : List AV} {v : AV} (ho : Ev G Γ σ m o (.ref x)) (M : Zbh G σ x name f) (ha : EvA G Γ σ m pos args vs) (hf : EvF G Γ σ m (.ref f) (.ref x :: vs) v)
  (he : eval (.Call (.Attribute o name apos) args [] pos) Γ.env = (do
   let ov <- eval o Γ.env
   standAt apos.atName
   let (f, first) <- holding [ov] (getMethod ov name pl)
   callWith pos f first (backTo pos (starEach args Γ.env)) [])) (hp : Plain pos args Γ.env = true) : Ev G Γ σ m (.Call (.Attribute o name apos) args [] pos) v :=
 (by (refine o31 M fun C a b => ?_; clear M); exact ZoR ho a b ha hf he hp)
theorem Zlo (hK : Is G) (h : WorldZ k z σ w) : ZbB G σ k.b "tree" (.ref k.t) := ⟨579, Zao h.fix.b h.fix.bd (by kernel_rfl), Zcg hK, rfl⟩
theorem Zj6 (hK : Is G) (h : WorldZ k z σ w) : ZbB G σ k.b "stack" (.ref k.s) := ⟨579, Zao h.fix.b h.fix.bd (by kernel_rfl), Zf9 hK, rfl⟩
theorem Zfm (hK : Is G) (h : WorldZ k z σ w) : ZbB G σ k.b "formatting" (.ref k.f) := ⟨579, Zao h.fix.b h.fix.bd (by kernel_rfl), Zdm hK, rfl⟩
theorem Zmp (hK : Is G) (h : WorldZ k z σ w) : ZbB G σ k.b "mode" (.str "initial") := ⟨579, Zao h.fix.b h.fix.bd (by kernel_rfl), Zgn hK, rfl⟩
theorem Zgs (hK : Is G) (h : WorldZ k z σ w) : ZbB G σ k.b "is_foster" (.bool false) := ⟨579, Zao h.fix.b h.fix.bd (by kernel_rfl), ZdI hK, rfl⟩
theorem Zjb (hK : Is G) (h : WorldZ k z σ w) : ZbB G σ k.b "errors" (.ref k.err) := ⟨579, Zao h.fix.b h.fix.bd (by kernel_rfl), Ze5 hK, rfl⟩
theorem Zkf (hK : Is G) (h : WorldZ k z σ w) : Zbh G σ k.b "error" 534 := ⟨579, Zam h.fix.b h.fix.bd (by kernel_rfl), ZfM hK⟩
theorem Zkn (hK : Is G) (h : WorldZ k z σ w) : ZbB G σ k.t "kinds" (.ref k.kinds) := ⟨501, Zao h.fix.t h.fix.td (by kernel_rfl), ZeR hK, rfl⟩
theorem Zi4 (hK : Is G) (h : WorldZ k z σ w) : ZbB G σ k.t "spaces" (.ref k.spaces) := ⟨501, Zao h.fix.t h.fix.td (by kernel_rfl), Zd5 hK, rfl⟩
theorem Zei (hK : Is G) (h : WorldZ k z σ w) : ZbB G σ k.t "names" (.ref k.names) := ⟨501, Zao h.fix.t h.fix.td (by kernel_rfl), ZeM hK, rfl⟩
theorem ZgP (hK : Is G) (h : WorldZ k z σ w) : ZbB G σ k.t "attrs" (.ref k.attrs) := ⟨501, Zao h.fix.t h.fix.td (by kernel_rfl), ZeI hK, rfl⟩
theorem Zks (hK : Is G) (h : WorldZ k z σ w) : ZbB G σ k.t "texts" (.ref k.texts) := ⟨501, Zao h.fix.t h.fix.td (by kernel_rfl), ZeZ hK, rfl⟩
theorem ZhO (hK : Is G) (h : WorldZ k z σ w) : ZbB G σ k.t "parents" (.ref k.parents) := ⟨501, Zao h.fix.t h.fix.td (by kernel_rfl), Zds hK, rfl⟩
theorem ZhG (hK : Is G) (h : WorldZ k z σ w) : ZbB G σ k.t "children" (.ref k.children) := ⟨501, Zao h.fix.t h.fix.td (by kernel_rfl), ZcO hK, rfl⟩
theorem Zhb (hK : Is G) (h : WorldZ k z σ w) : ZbB G σ k.t "contents" (.ref k.contents) := ⟨501, Zao h.fix.t h.fix.td (by kernel_rfl), ZfW hK, rfl⟩
theorem ZjL (hK : Is G) (h : WorldZ k z σ w) : Zbh G σ k.t "add" 411 := ⟨501, Zam h.fix.t h.fix.td (by kernel_rfl), ZgT hK⟩
theorem Zh2 (hK : Is G) (h : WorldZ k z σ w) : Zbh G σ k.t "element" 420 := ⟨501, Zam h.fix.t h.fix.td (by kernel_rfl), Zgp hK⟩
theorem Zlj (hK : Is G) (h : WorldZ k z σ w) : Zbh G σ k.t "text" 427 := ⟨501, Zam h.fix.t h.fix.td (by kernel_rfl), ZiD hK⟩
theorem ZfQ (hK : Is G) (h : WorldZ k z σ w) : Zbh G σ k.t "insert" 449 := ⟨501, Zam h.fix.t h.fix.td (by kernel_rfl), Zg3 hK⟩
theorem Zjo (hK : Is G) (h : WorldZ k z σ w) : Zbh G σ k.t "append" 456 := ⟨501, Zam h.fix.t h.fix.td (by kernel_rfl), ZhJ hK⟩
theorem ZiO (hK : Is G) (h : WorldZ k z σ w) : Zbh G σ k.t "remove" 463 := ⟨501, Zam h.fix.t h.fix.td (by kernel_rfl), ZhH hK⟩
theorem ZdT (hK : Is G) (h : WorldZ k z σ w) : Zbh G σ k.t "move_children" 470 := ⟨501, Zam h.fix.t h.fix.td (by kernel_rfl), Zdk hK⟩
theorem Zky (hK : Is G) (h : WorldZ k z σ w) : Zbh G σ k.t "place" 477 := ⟨501, Zam h.fix.t h.fix.td (by kernel_rfl), Zis hK⟩
theorem Zlk (hK : Is G) (h : WorldZ k z σ w) : Zbh G σ k.t "last" 484 := ⟨501, Zam h.fix.t h.fix.td (by kernel_rfl), ZiE hK⟩
theorem Zko (hK : Is G) (h : WorldZ k z σ w) : Zbh G σ k.t "value" 491 := ⟨501, Zam h.fix.t h.fix.td (by kernel_rfl), Zix hK⟩
theorem Zik (hK : Is G) (h : WorldZ k z σ w) : Zbh G σ k.t "is_html" 498 := ⟨501, Zam h.fix.t h.fix.td (by kernel_rfl), Zgr hK⟩
theorem Zlw (hK : Is G) (h : WorldZ k z σ w) : ZbB G σ k.s "tree" (.ref k.t) := ⟨189, Zao h.fix.s h.fix.sd (by kernel_rfl), Ze3 hK, rfl⟩
theorem Zkm (hK : Is G) (h : WorldZ k z σ w) : ZbB G σ k.s "items" (.ref k.sit) := ⟨189, Zao h.fix.s h.fix.sd (by kernel_rfl), Zep hK, rfl⟩
theorem ZlI (hK : Is G) (h : WorldZ k z σ w) : Zbh G σ k.s "push" 109 := ⟨189, Zam h.fix.s h.fix.sd (by kernel_rfl), Ze7 hK⟩
theorem ZmA (hK : Is G) (h : WorldZ k z σ w) : Zbh G σ k.s "pop" 116 := ⟨189, Zam h.fix.s h.fix.sd (by kernel_rfl), ZfO hK⟩
theorem Zh7 (hK : Is G) (h : WorldZ k z σ w) : Zbh G σ k.s "current" 123 := ⟨189, Zam h.fix.s h.fix.sd (by kernel_rfl), ZdE hK⟩
theorem Zmk (hK : Is G) (h : WorldZ k z σ w) : Zbh G σ k.s "many" 130 := ⟨189, Zam h.fix.s h.fix.sd (by kernel_rfl), Ze6 hK⟩
theorem Znv (hK : Is G) (h : WorldZ k z σ w) : Zbh G σ k.s "has" 137 := ⟨189, Zam h.fix.s h.fix.sd (by kernel_rfl), ZfL hK⟩
theorem Zjc (hK : Is G) (h : WorldZ k z σ w) : Zbh G σ k.s "remove" 144 := ⟨189, Zam h.fix.s h.fix.sd (by kernel_rfl), ZdL hK⟩
theorem Zkj (hK : Is G) (h : WorldZ k z σ w) : Zbh G σ k.s "place" 151 := ⟨189, Zam h.fix.s h.fix.sd (by kernel_rfl), Zeh hK⟩
theorem Zjg (hK : Is G) (h : WorldZ k z σ w) : Zbh G σ k.s "put_at" 158 := ⟨189, Zam h.fix.s h.fix.sd (by kernel_rfl), ZdW hK⟩
theorem ZlJ (hK : Is G) (h : WorldZ k z σ w) : Zbh G σ k.s "name" 165 := ⟨189, Zam h.fix.s h.fix.sd (by kernel_rfl), Ze8 hK⟩
theorem Zdr (hK : Is G) (h : WorldZ k z σ w) : Zbh G σ k.s "pop_until" 179 := ⟨189, Zam h.fix.s h.fix.sd (by kernel_rfl), ZcM hK⟩
theorem Zlr (hK : Is G) (h : WorldZ k z σ w) : ZbB G σ k.f "tree" (.ref k.t) := ⟨377, Zao h.fix.f h.fix.fd (by kernel_rfl), Zev hK, rfl⟩
theorem Zj9 (hK : Is G) (h : WorldZ k z σ w) : ZbB G σ k.f "items" (.ref k.fit) := ⟨377, Zao h.fix.f h.fix.fd (by kernel_rfl), ZdV hK, rfl⟩
theorem ZlK (hK : Is G) (h : WorldZ k z σ w) : Zbh G σ k.f "push" 318 := ⟨377, Zam h.fix.f h.fix.fd (by kernel_rfl), Zel hK⟩
theorem Zk4 (hK : Is G) (h : WorldZ k z σ w) : Zbh G σ k.f "find" 339 := ⟨377, Zam h.fix.f h.fix.fd (by kernel_rfl), ZeD hK⟩
theorem Znf (hK : Is G) (h : WorldZ k z σ w) : Zbh G σ k.f "has" 346 := ⟨377, Zam h.fix.f h.fix.fd (by kernel_rfl), Zfa hK⟩
theorem Zkc (hK : Is G) (h : WorldZ k z σ w) : Zbh G σ k.f "place" 353 := ⟨377, Zam h.fix.f h.fix.fd (by kernel_rfl), Zd6 hK⟩
theorem Zi9 (hK : Is G) (h : WorldZ k z σ w) : Zbh G σ k.f "remove" 360 := ⟨377, Zam h.fix.f h.fix.fd (by kernel_rfl), Zdx hK⟩
theorem Zh0 (hK : Is G) (h : WorldZ k z σ w) : Zbh G σ k.f "replace" 367 := ⟨377, Zam h.fix.f h.fix.fd (by kernel_rfl), Zdl hK⟩
theorem ZiR (hK : Is G) (h : WorldZ k z σ w) : Zbh G σ k.f "put_at" 374 := ⟨377, Zam h.fix.f h.fix.fd (by kernel_rfl), ZdH hK⟩
theorem WorldZ.see (h : WorldZ k z σ w) (sl : Sl) {l : List AV} (hv : val w z sl = some l) : Sees G σ (adr k z sl) (.lst l) := .inl (h.obj _ _ hv)
theorem WorldZ.le' (h : WorldZ k z σ w) (sl : Sl) {l : List AV} (hv : val w z sl = some l) : l.length <= sizeLine := ZaK (h.small _ _ hv)
theorem Zbm {α β : Type} {l : List α} {n : Nat} {x : α} (f : α -> β) (h : l[n]? = some x) : (l.map f)[n]? = some (f x) := by (refine rE Zq0 (rE h ?_)); rfl
variable {o i : Expr} {n : Nat}
end
section
variable {G : Glo} {Γ : Amb} {σ : Sig} {m : Loc} {k : Cfg} {z : Var} {w : PW} {o i : Expr} {n : Nat}
theorem ZoQ (h : Zab k z σ w) {d : Nd} (hv : w.nd[n]? = some d) (hs : ∀ k' u, subscripted i false (.ref k.kinds) (.int k' u) = operate [.ref k.kinds, .int k' u] (getItem (.ref k.kinds) (.int k' u))) : EvS G Γ σ m o i (.ref k.kinds) (.int n) (.str d.kind) := Za0 (h.see .kinds rfl) (h.le' .kinds rfl) (Zbm _ (Zbm _ hv)) hs
theorem ZmC (h : Zab k z σ w) {d : Nd} (hv : w.nd[n]? = some d) (hs : ∀ k' u, subscripted i false (.ref k.spaces) (.int k' u) = operate [.ref k.spaces, .int k' u] (getItem (.ref k.spaces) (.int k' u))) : EvS G Γ σ m o i (.ref k.spaces) (.int n) (.str d.space) := Za0 (h.see .spaces rfl) (h.le' .spaces rfl) (Zbm _ (Zbm _ hv)) hs
theorem Zi7 (h : Zab k z σ w) {d : Nd} (hv : w.nd[n]? = some d) (hs : ∀ k' u, subscripted i false (.ref k.names) (.int k' u) = operate [.ref k.names, .int k' u] (getItem (.ref k.names) (.int k' u))) : EvS G Γ σ m o i (.ref k.names) (.int n) (.str d.name) := Za0 (h.see .names rfl) (h.le' .names rfl) (Zbm _ (Zbm _ hv)) hs
theorem Zot (h : Zab k z σ w) {d : List Nat} (hv : w.tx[n]? = some d) (hs : ∀ k' u, subscripted i false (.ref k.texts) (.int k' u) = operate [.ref k.texts, .int k' u] (getItem (.ref k.texts) (.int k' u))) : EvS G Γ σ m o i (.ref k.texts) (.int n) (.str (txt d)) := Za0 (h.see .texts rfl) (h.le' .texts rfl) (Zbm _ (Zbm _ hv)) hs
theorem Zk9 (h : Zab k z σ w) {d : Int} (hv : w.pa[n]? = some d) (hs : ∀ k' u, subscripted i false (.ref k.parents) (.int k' u) = operate [.ref k.parents, .int k' u] (getItem (.ref k.parents) (.int k' u))) : EvS G Γ σ m o i (.ref k.parents) (.int n) (.int d) := Za0 (h.see .parents rfl) (h.le' .parents rfl) (Zbm _ hv) hs
theorem Zn9 (h : Zab k z σ w) {d : Nat} (hv : w.st[n]? = some d) (hs : ∀ k' u, subscripted i false (.ref k.sit) (.int k' u) = operate [.ref k.sit, .int k' u] (getItem (.ref k.sit) (.int k' u))) : EvS G Γ σ m o i (.ref k.sit) (.int n) (.int d) := Za0 (h.see .sit rfl) (h.le' .sit rfl) (Zbm nv hv) hs
theorem ZpE (h : Zab k z σ w) {d : Nat} (hv : w.fm[n]? = some d) (hs : ∀ k' u, subscripted i false (.ref k.fit) (.int k' u) = operate [.ref k.fit, .int k' u] (getItem (.ref k.fit) (.int k' u))) : EvS G Γ σ m o i (.ref k.fit) (.int n) (.int d) := Za0 (h.see .fit rfl) (h.le' .fit rfl) (Zbm nv hv) hs
theorem ZoY (h : Zab k z σ w) {l : List Nat} (hv : w.ch[n]? = some l) : (z.kids.map AV.ref)[n]? = some (.ref (adr k z (.kid n))) := by
 have lk := h.lk
 have : n < w.ch.length := (ZqU.mp hv).1
 have lk : z.kids.length = w.ch.length := lk
 refine rE Zq0 ?_; rw [ZqA (by omega)]
 refine (?_ : some (AV.ref _) = some (AV.ref (z.kids.getD n 0)))
 rw [Zof (by omega)]
theorem ZgO (h : Zab k z σ w) {d : List Nat} (hv : w.ch[n]? = some d) (hs : ∀ k' u, subscripted i false (.ref k.children) (.int k' u) = operate [.ref k.children, .int k' u] (getItem (.ref k.children) (.int k' u))) : EvS G Γ σ m o i (.ref k.children) (.int n) (.ref (adr k z (.kid n))) :=
 Za0 (h.see .children rfl) (h.le' .children rfl) (ZoY h hv) hs
theorem ZbY {l : List Nat} (hv : w.ch[n]? = some l) : val (mk w) z (.kid n) = some (l.map nv) := by show (w.ch[n]?).map _ = _; refine rE hv ?_; rfl
theorem Zoj (h : Zab k z σ w) {d : Nd} (hv : w.nd[n]? = some d) (hs : ∀ k' u, subscripted i false (.ref k.attrs) (.int k' u) = operate [.ref k.attrs, .int k' u] (getItem (.ref k.attrs) (.int k' u))) : ∃ a, AttrOk σ a d.let /\ EvS G Γ σ m o i (.ref k.attrs) (.int n) (.ref a) := by
 have la := h.la
 have : n < w.nd.length := (ZqU.mp hv).1
 have la : z.ats.length = (w.nd.map Nd.let).length := la
 rw [Zqt] at la
 have e : z.ats[n]? = some (z.ats[n]'(by omega)) := ZqA (by omega)
 have q := h.att n _ _ e (Zbm Nd.let hv)
 exact e31 _ q.1 (Za0 (h.see .attrs rfl) (h.le' .attrs rfl) (Zbm AV.ref e) hs)
theorem Zp2 (h : Zab k z σ w) {j : Nat} {l : List Nat} {c : Nat} (hv : w.ch[n]? = some l) (hc : l[j]? = some c) (hs : ∀ k' u, subscripted i false (.ref (adr k z (.kid n))) (.int k' u) = operate [.ref (adr k z (.kid n)), .int k' u] (getItem (.ref (adr k z (.kid n))) (.int k' u))) :
  EvS G Γ σ m o i (.ref (adr k z (.kid n))) (.int j) (.int c) := Za0 (h.see (.kid n) (ZbY hv)) (h.le' (.kid n) (ZbY hv)) (Zbm nv hc) hs
theorem ZkW (h : Zab k z σ w) {l : List Nat} {c : Nat} (hv : w.ch[n]? = some l) (hc : l.getLast? = some c) (hs : ∀ k' u, subscripted i false (.ref (adr k z (.kid n))) (.int k' u) = operate [.ref (adr k z (.kid n)), .int k' u] (getItem (.ref (adr k z (.kid n))) (.int k' u))) :
  EvS G Γ σ m o i (.ref (adr k z (.kid n))) (.int (-1)) (.int c) := Zjl (h.see (.kid n) (ZbY hv)) (h.le' (.kid n) (ZbY hv)) (by (refine rE Zsl (rE hc ?_)); rfl) hs
theorem ZlO (h : Zab k z σ w) : EvF G Γ σ m (.builtin "len") [.ref k.kinds] (.int (w.nd.length : Nat)) := by
 have := Zcd (Γ := Γ) (m := m) (h.see (G := G) .kinds rfl) (h.le' .kinds rfl)
 simpa [mk, adr] using this
theorem Zoa (h : Zab k z σ w) : EvF G Γ σ m (.builtin "len") [.ref k.sit] (.int (w.st.length : Nat)) := by
 have := Zcd (Γ := Γ) (m := m) (h.see (G := G) .sit rfl) (h.le' .sit rfl)
 simpa [mk, adr] using this
theorem Zow (h : Zab k z σ w) : EvF G Γ σ m (.builtin "len") [.ref k.fit] (.int (w.fm.length : Nat)) := by
 have := Zcd (Γ := Γ) (m := m) (h.see (G := G) .fit rfl) (h.le' .fit rfl)
 simpa [mk, adr] using this
theorem ZoI (h : Zab k z σ w) {l : List Nat} (hv : w.ch[n]? = some l) : EvF G Γ σ m (.builtin "len") [.ref (adr k z (.kid n))] (.int (l.length : Nat)) := by
 have := Zcd (Γ := Γ) (m := m) (h.see (G := G) (.kid n) (ZbY hv)) (h.le' (.kid n) (ZbY hv))
 simpa using this
theorem ZoV {x : Nat} (h : Zab k z σ w) : EvC G Γ σ m .In (.int x) (.ref k.sit) (decide (x ∈ w.st)) := Zew (h.see .sit rfl)
theorem Zpf {x : Nat} (h : Zab k z σ w) : EvC G Γ σ m .In (.int x) (.ref k.fit) (decide (x ∈ w.fm)) := Zew (h.see .fit rfl)
theorem ZpA (h : Zab k z σ w) {l : List Nat} (hv : w.ch[n]? = some l) : EvV G Γ σ m (.ref (adr k z (.kid n))) (!l.isEmpty) := by
 have := Znw (Γ := Γ) (m := m) (h.see (G := G) (.kid n) (ZbY hv)) (h.le' (.kid n) (ZbY hv))
 simpa using this
noncomputable def EvW (G : Glo) (Γ : Amb) (σ : Sig) (m : Loc) (k : Cfg) (z : Var) (w : PW) (f : Value) (vs : List AV) (v : AV) (w' : PW) : Prop :=
 ∀ Q : AV -> Sig -> Loc -> Prop, (∀ z' σ', Zab k z' σ' w' -> Zcr k z w σ z' w' σ' -> Q v σ' m) -> FC G Γ f vs Q σ m
noncomputable def EvX (G : Glo) (Γ : Amb) (σ : Sig) (m : Loc) (k : Cfg) (z : Var) (w : PW) (e : Expr) (v : AV) (w' : PW) : Prop :=
 ∀ Q : AV -> Sig -> Loc -> Prop, (∀ z' σ', Zab k z' σ' w' -> Zcr k z w σ z' w' σ' -> Q v σ' m) -> W G Γ VR (eval e Γ.env) Q σ m
theorem ZaU {x : Str} {p pos : Pos} {args : List Expr} {f : Addr} {vs : List AV} {v : AV} {w' : PW} (e : nsIn G.K mainGlobals x = some (some (.ref f))) (hk : keepIn G.K (.ref f) = true) (ha : EvA G Γ σ m pos args vs) (hf : EvW G Γ σ m k z w (.ref f) vs v w')
  (hp : Plain pos args Γ.env = true) (hx : Γ.env.kindOf x = some .globalImplicit) (hd : (x == ("__debug__" : Str)) = false) : EvX G Γ σ m k z w (.Call (.Name x p) args [] pos) v w' := fun Q q => Zay e hk (ha _ (hf Q q)) hp hx hd
theorem Zak {o : Expr} {name : Str} {apos pos : Pos} {args : List Expr} {pl : Sem Bool} {x f : Addr} {vs : List AV} {v : AV} {w' : PW} (ho : Ev G Γ σ m o (.ref x)) (M : Zbh G σ x name f) (ha : EvA G Γ σ m pos args vs) (hf : EvW G Γ σ m k z w (.ref f) (.ref x :: vs) v w')
  (he : eval (.Call (.Attribute o name apos) args [] pos) Γ.env = (do
   let ov <- eval o Γ.env
   standAt apos.atName
   let (f, first) <- holding [ov] (getMethod ov name pl)
   callWith pos f first (backTo pos (starEach args Γ.env)) [])) (hp : Plain pos args Γ.env = true) : EvX G Γ σ m k z w (.Call (.Attribute o name apos) args [] pos) v w' :=
 fun Q q => (by (refine o31 M fun C a b => ?_; clear M); exact ZgI (ho _ ⟨x, C, f, rfl, a, b, ha _ (hf Q q)⟩) he hp)
theorem Zbf {o : Expr} {name : Str} {apos pos : Pos} {args : List Expr} {pl : Sem Bool} {id : String} {a : Addr} {l : List AV} {vs : List AV} {v : AV} {w' : PW} (slot : Slot "list" name id) (hty : typeOf (.builtin id) = pure (.type "method_descriptor"))
  (ho : Ev G Γ σ m o (.ref a)) (e : σ a = some (.lst l)) (ha : EvA G Γ σ m pos args vs) (hf : EvW G Γ σ m k z w (.builtin id) (.ref a :: vs) v w')
  (he : eval (.Call (.Attribute o name apos) args [] pos) Γ.env = (do
   let ov <- eval o Γ.env
   standAt apos.atName
   let (f, first) <- holding [ov] (getMethod ov name pl)
   callWith pos f first (backTo pos (starEach args Γ.env)) [])) (hp : Plain pos args Γ.env = true) : EvX G Γ σ m k z w (.Call (.Attribute o name apos) args [] pos) v w' :=
 fun Q q => ZcY slot hty (ho _ ⟨a, l, rfl, e, ha _ (hf Q q)⟩) he hp
theorem Zal {e : Expr} {pos : Pos} {v : AV} {w' : PW} {rest : List Stmt} {Q : AF -> Sig -> Loc -> Prop} (he : EvX G Γ σ m k z w e v w') (h : ∀ z' σ', Zab k z' σ' w' -> Zcr k z w σ z' w' σ' -> W G Γ FRl (execs rest Γ.env) Q σ' m)
  (hi : interactive Γ.env = false) (hs : swapsWith e none pos.line Γ.env = pure false) : W G Γ FRl (execs (.Expr e pos :: rest) Γ.env) Q σ m := Zcm (he _ h) hi hs
theorem Zcn {x : Str} {p pos : Pos} {value : Expr} {v : AV} {w' : PW} {rest : List Stmt} {Q : AF -> Sig -> Loc -> Prop} (hv : EvX G Γ σ m k z w value v w') (h : ∀ z' σ', Zab k z' σ' w' -> Zcr k z w σ z' w' σ' -> W G Γ FRl (execs rest Γ.env) Q σ' (put x v m))
  (hs : swapsWith value (some (.Name x p)) pos.line Γ.env = pure false) (hx : Γ.env.kindOf x = some .local) : W G Γ FRl (execs (.Assign [.Name x p] value pos :: rest) Γ.env) Q σ m :=
 Zan (Zax (Q := ZbA G Γ rest Γ.env Q) (hv _ h) hs hx)
theorem Zin {e : Expr} {pos : Pos} {v : AV} {w' : PW} {rest : List Stmt} {Q : AF -> Sig -> Loc -> Prop} (hv : EvX G Γ σ m k z w e v w') (h : ∀ z' σ', Zab k z' σ' w' -> Zcr k z w σ z' w' σ' -> Q (.ret v) σ' m) : W G Γ FRl (execs (.Return (some e) pos :: rest) Γ.env) Q σ m :=
 Zan (ZaZ (Q := ZbA G Γ rest Γ.env Q) (hv _ h))
noncomputable def Zp7 (k : Cfg) (z : Var) (w : PW) (σ : Sig) (v : AV) (w' : PW) : AF -> Sig -> Loc -> Prop := fun fl σ' n_ => Zgj fl = v /\ ∃ z', Zab k z' σ' w' /\ Zcr k z w σ z' w' σ'
theorem ZfV {f : Addr} {d : Nat} {names : List Str} {vs dv : List AV} {ds : List Value} {v : AV} {w' : PW}
  {name qual : Str} {params : Arguments} {body : List Stmt} {scope : Scope} {dV kV doc pm cdv ct oc : Value} {an od : Option Addr} {osl : Array (Option Value)}
  (ho : G.K.lookup f = some ⟨oc, od, .func (fnOf name qual params body scope dV kV doc pm an cdv ct), osl⟩) (hnm : ArgsAre params.args names) (hcd : codeIn G.K cdv qual = true) (rm : Γ.Room (d + 1))
  (rd : VRs dv ds) (hb : ∀ us, us.length = vs.length -> ∀ s : Shared, G.K.In s.heap -> BindsTo s (fnOf name qual params body scope dV kV doc pm an cdv ct) ⟨us, []⟩ (names.zip (us ++ ds)))
  (hn : names.Nodup) (hl : (names.all fun x => scope.names.lookup x == some .local) = true)
  (hco : scope.isCoroutine = false) (hgen : scope.isGenerator = false) (hk : scope.kind = .function) (hcell : (scope.names.all fun x => decide (x.2 ≠ .cell)) = true)
  (h : ∀ r : Rm, (ofB qual scope f cdv r).Room d ->
   W G (ofB qual scope f cdv r) FRl (execs body (Amb.env (ofB qual scope f cdv r))) (Zp7 k z w σ v w') σ (names.zip (vs ++ dv))) : EvW G Γ σ m k z w (.ref f) vs v w' := fun Q q us r =>
 ZhA ho hnm hcd rm rd hb hn hl hco hgen hk hcell (fun r hr => Zat (h r hr) fun b σ' m' hp => (by (refine o20 hp fun e1 r1 => ?_; clear hp; refine o31 r1 fun z' e2 e3 => ?_; clear r1); refine rE e1 ?_; exact q z' σ' e2 e3)) us r
theorem WorldZ.turnX {w w' : Wd} (h : WorldZ k z σ w) (sl : Sl) {l l' : List AV} (hv : val w z sl = some l)
  (hw : ∀ sl', val w' z sl' = if sl' = sl then some l' else val w z sl') (hz : l'.length <= LIM) (hc : w'.ch.length = w.ch.length) (hl : w'.lets = w.lets) (he : w'.er = w.er) :
  WorldZ k z (σ.set (adr k z sl) (.lst l')) w' /\ Ext k z w σ z w' (σ.set (adr k z sl) (.lst l')) := by
 refine ⟨h.turn sl hv hw hz hc hl he, fun a o e n => ?_, fun a q => .inl ?_⟩
 ·rw [Sig.set_ne (fun q => n (.inl ⟨sl, l, hv, q⟩))]; exact e
 ·rcases q with ⟨sl', l'', e, rfl⟩ | q
  ·rw [hw] at e
   by_cases c : sl' = sl
   ·subst c; exact .inl ⟨_, _, hv, rfl⟩
   ·rw [if_neg c] at e; exact .inl ⟨_, _, e, rfl⟩
  ·exact .inr q
theorem Zfx (h : Zab k z σ w) {l : List Nat} (hz : l.length <= LIM) : Zab k z (σ.set (adr k z .sit) (.lst (l.map nv))) { w with st := l } /\ Zcr k z w σ z { w with st := l } (σ.set (adr k z .sit) (.lst (l.map nv))) :=
 WorldZ.turnX h .sit rfl (fun sl' => by induction sl' <;> rfl) (by refine rE (Zqt _) ?_; exact hz) rfl rfl rfl
theorem ZfC (h : Zab k z σ w) {l : List Nat} (hz : l.length <= LIM) : Zab k z (σ.set (adr k z .fit) (.lst (l.map nv))) { w with fm := l } /\ Zcr k z w σ z { w with fm := l } (σ.set (adr k z .fit) (.lst (l.map nv))) :=
 WorldZ.turnX h .fit rfl (fun sl' => by induction sl' <;> rfl) (by refine rE (Zqt _) ?_; exact hz) rfl rfl rfl
theorem Zmh (h : Zab k z σ w) {l : List Int} (hz : l.length <= LIM) : Zab k z (σ.set (adr k z .parents) (.lst (l.map AV.int))) { w with pa := l } /\ Zcr k z w σ z { w with pa := l } (σ.set (adr k z .parents) (.lst (l.map AV.int))) :=
 WorldZ.turnX h .parents rfl (fun sl' => by induction sl' <;> rfl) (by refine rE (Zqt _) ?_; exact hz) rfl rfl rfl
theorem Zox (h : Zab k z σ w) {l : List (List Nat)} (hz : l.length <= LIM) : Zab k z (σ.set (adr k z .texts) (.lst ((l.map txt).map AV.str))) { w with tx := l } /\ Zcr k z w σ z { w with tx := l } (σ.set (adr k z .texts) (.lst ((l.map txt).map AV.str))) :=
 WorldZ.turnX h .texts rfl (fun sl' => by induction sl' <;> rfl) (by (refine rE (Zqt _) (rE (Zqt _) ?_)); exact hz) rfl rfl rfl
theorem Zme (h : Zab k z σ w) {d l : List Nat} (hv : w.ch[n]? = some d) (hz : l.length <= LIM) : Zab k z (σ.set (adr k z (.kid n)) (.lst (l.map nv))) { w with ch := w.ch.set n l } /\ Zcr k z w σ z { w with ch := w.ch.set n l } (σ.set (adr k z (.kid n)) (.lst (l.map nv))) :=
 WorldZ.turnX h (.kid n) (ZbY hv) (fun sl' => by
  induction sl' with
  | kid j =>
   show ((w.ch.set n l)[j]?).map _ = if Sl.kid j = Sl.kid n then _ else (w.ch[j]?).map _
   by_cases q : j = n
   ·subst q
    refine rE (if_pos rfl) (rE (Zre (ZqU.mp hv).1) ?_); rfl
   ·rewrite [if_neg (fun x => q (by injection x))]; exact rE (ZqX (Ne.symm q)) rfl
  | kinds | spaces | names | attrs | texts | parents | sit | fit | err | children => rfl) (by refine rE (Zqt _) ?_; exact hz) (Zra ..) rfl rfl
theorem Zob (h : Zab k z σ w) {v : AV} (hz : w.er < LIM) : Zab k { z with errs := z.errs ++ [v] } (σ.set k.err (.lst (z.errs ++ [v]))) { w with er := w.er + 1 } /\ Zcr k z w σ { z with errs := z.errs ++ [v] } { w with er := w.er + 1 } (σ.set k.err (.lst (z.errs ++ [v]))) := by
 refine ⟨WorldZ.more h hz, fun a o e n => ?_, fun a q => .inl ?_⟩
 ·rw [Sig.set_ne (b := a) (a := k.err) (fun q => n (.inl ⟨.err, _, rfl, q⟩))]; exact e
 ·rcases q with ⟨sl', l'', e, rfl⟩ | q
  ·cases sl' with
   | err => exact .inl ⟨.err, _, rfl, rfl⟩
   | kid i => exact .inl ⟨.kid i, _, e, rfl⟩
   | kinds => exact .inl ⟨.kinds, _, rfl, rfl⟩
   | spaces => exact .inl ⟨.spaces, _, rfl, rfl⟩
   | names => exact .inl ⟨.names, _, rfl, rfl⟩
   | attrs => exact .inl ⟨.attrs, _, rfl, rfl⟩
   | texts => exact .inl ⟨.texts, _, rfl, rfl⟩
   | parents => exact .inl ⟨.parents, _, rfl, rfl⟩
   | children => exact .inl ⟨.children, _, rfl, rfl⟩
   | sit => exact .inl ⟨.sit, _, rfl, rfl⟩
   | fit => exact .inl ⟨.fit, _, rfl, rfl⟩
  ·exact .inr q
theorem Amb.Room.le {a b : Nat} (h : Γ.Room a) (e : b <= a) : Γ.Room b := ⟨ZrM (Nat.add_le_add_left e _) h.dep, by have := h.uni; omega⟩
theorem Zcf {e : Expr} {v v' : AV} (h : Ev G Γ σ m e v) (q : v = v') : Ev G Γ σ m e v' := q ▸ h
theorem Zai {e : Expr} {v v' : Bool} (h : EvT G Γ σ m e v) (q : v = v') : EvT G Γ σ m e v' := q ▸ h
end
end Nz
namespace Nz
open PySem PySem.W PySem.Calls PyProof.Rows
noncomputable def Nd.special : Nd -> Bool
 | .el .html _ => true
 | .el .body _ => true
 | .el .div _ => true
 | .el .p _ => true
 | _ => false
noncomputable def Nd.isTag (t : Tag) : Nd -> Bool
 | .el u _ => decide (u.str = t.str)
 | _ => false
noncomputable def cur (st : List Nat) : Int := match st.getLast? with | none => -1 | some n => n
noncomputable def placeOf (l : List Nat) (n : Nat) : Int := if n ∈ l then (l.idxOf n : Nat) else -1
noncomputable def Zkt (w : PW) (n : Nat) : Option PW := if w.st.length < LIM then some { w with st := w.st ++ [n] } else none
noncomputable def Ziz (w : PW) : Option PW := if w.er < LIM then some { w with er := w.er + 1 } else none
noncomputable def Zgm (w : PW) (d : Nd) (t : List Nat) : Option (Nat × PW) :=
 if w.nd.length < LIM /\ w.tx.length < LIM /\ w.pa.length < LIM /\ w.ch.length < LIM then some (w.nd.length, { w with nd := w.nd ++ [d], tx := w.tx ++ [t], pa := w.pa ++ [-1], ch := w.ch ++ [[]] }) else none
noncomputable def Zbj (w : PW) : Nat -> Nat -> Option (List Nat)
 | 0, _ => none
 | f + 1, n => match w.pa[n]? with
  | none => none
  | some p => if p = -1 then some [] else if p < 0 then none else (Zbj w f p.toNat).map (p.toNat :: ·)
noncomputable def ZbQ (w : PW) (n : Nat) : Option PW := match w.pa[n]? with
 | none => none
 | some p => if p = -1 then some w else if p < 0 then none else match w.ch[p.toNat]? with
  | none => none
  | some l => if n ∈ l then some { w with ch := w.ch.set p.toNat (l.erase n), pa := w.pa.set n (-1) } else none
noncomputable def Za7 (w : PW) (p n : Nat) : Option PW :=
 if n = p then none else (Zbj w 1000 p).bind fun ab => if n ∈ ab then none else (ZbQ w n).bind fun w₁ => (w₁.ch[p]?).bind fun l =>
  if l.length < LIM /\ n < w₁.pa.length then some { w₁ with ch := w₁.ch.set p (l ++ [n]), pa := w₁.pa.set n p } else none
noncomputable def Zck (w : PW) (p : Nat) : List Nat -> Option PW
 | [] => some w
 | n :: r => (Za7 w p n).bind fun w₁ => Zck w₁ p r
noncomputable def Zk6 (w : PW) (here there : Nat) : Option PW := (Zbj w 1000 there).bind fun ab => if here ∈ ab then none else (w.ch[here]?).bind fun l => Zck w there l
noncomputable def ZbU (w : PW) (p c : Nat) : Option PW := (Zgm w .tx [c]).bind fun r => Za7 r.2 p r.1
noncomputable def Zey (w : PW) (c : Nat) : Option PW := (w.st.getLast?).bind fun n => (w.nd[n]?).bind fun d => match d with
 | .el _ _ => (w.ch[n]?).bind fun l => match l.getLast? with
  | none => ZbU w n c
  | some a => (w.nd[a]?).bind fun da => match da with
   | .tx => (w.tx[a]?).bind fun t => if t.length < LIM then some { w with tx := w.tx.set a (t ++ [c]) } else none
   | _ => ZbU w n c
 | _ => none
noncomputable def elM (w : PW) (t : Tag) (c : Option Nat) : Option (Nat × PW) := (w.st.getLast?).bind fun p => (Zgm w (.el t c) []).bind fun r => (Za7 r.2 p r.1).bind fun w₂ => (Zkt w₂ r.1).bind fun wa => some (r.1, wa)
noncomputable def ZfI (w : PW) : Nat -> Option Nat
 | 0 => some 0
 | j + 1 => (w.fm[j]?).bind fun x => if x ∈ w.st then some (j + 1) else ZfI w j
noncomputable def Zid : Nat -> Nat -> PW -> Option PW
 | 0, _, w => some w
 | f + 1, at_, w => (w.fm[at_]?).bind fun old => (w.nd[old]?).bind fun d => match d with
  | .el t c => (elM w t c).bind fun r => if at_ < r.2.fm.length then Zid f (at_ + 1) { r.2 with fm := r.2.fm.set at_ r.1 } else none
  | _ => none
noncomputable def Zkw (w : PW) : Option PW := (ZfI w w.fm.length).bind fun j => Zid (w.fm.length - j) j w
noncomputable def Zmt : Nat -> List Nat -> Nat -> Option (List Nat)
 | 0, _, _ => none
 | f + 1, st, n => (st.getLast?).bind fun x => if x = n then some st.dropLast else Zmt f st.dropLast n
noncomputable def Zde (t : Tag) : Nat -> PW -> Option PW
 | 0, _ => none
 | f + 1, w => (w.st.getLast?).bind fun n => (w.nd[n]?).bind fun d => if d.isTag .p && !d.isTag t then Zde t f { w with st := w.st.dropLast } else some w
noncomputable def ZjE (w : PW) (t : Tag) : Nat -> Option PW
 | 0 => some w
 | j + 1 => (w.st[j]?).bind fun n => (w.nd[n]?).bind fun d =>
  if d.isTag t then (Zde t (w.st.length + 1) w).bind fun w₁ => (w₁.st.getLast?).bind fun c => (if c ≠ n then Ziz w₁ else some w₁).bind fun w₂ => (Zmt w₂.st.length w₂.st n).bind fun st => some { w₂ with st := st }
  else if d.special then Ziz w else ZjE w t j
noncomputable def ZkY (w : PW) : Nat -> Nat -> Option (Option Nat)
 | 0, _ => some none
 | f + 1, at_ => (w.st[at_]?).bind fun b => (w.nd[b]?).bind fun d => if d.special then some (some b) else ZkY w f (at_ + 1)
noncomputable def Ze2 (w : PW) (t : Tag) : Nat -> Option (Option Nat)
 | 0 => some none
 | j + 1 => (w.fm[j]?).bind fun x => (w.nd[x]?).bind fun d => if d.isTag t then some (some x) else Ze2 w t j
noncomputable def ZdX (w : PW) (n : Nat) : Nat -> Option Bool
 | 0 => some false
 | j + 1 => (w.st[j]?).bind fun x => if x = n then some true else (w.nd[x]?).bind fun d => if d.isTag .html then some false else ZdX w n j
noncomputable def ZiK (w : PW) (t : Tag) : Option (Option Nat × PW) := (Ze2 w t w.fm.length).bind fun r => match r with
 | none => (ZjE w t w.st.length).bind fun w' => some (none, w')
 | some s => if s ∈ w.st then (ZdX w s w.st.length).bind fun sc => if sc then (if cur w.st ≠ s then Ziz w else some w).bind fun w₁ => some (some s, w₁) else (Ziz w).bind fun w₁ => some (none, w₁)
  else (Ziz w).bind fun w₁ => some (none, { w₁ with fm := w₁.fm.erase s })
noncomputable def ZcF (s b : Nat) : Nat -> Nat -> PW -> Nat -> Int -> Option (PW × Nat × Int)
 | j, k, w, last, mark => (w.st[j]?).bind fun x => if x = s then some (w, last, mark) else match j with
  | 0 => none
  | j' + 1 =>
   if x ∈ w.fm then (if 3 <= k then none else (w.nd[x]?).bind fun d => match d with
    | .el t c => (Zgm w (.el t c) []).bind fun r =>
     (Za7 { r.2 with fm := r.2.fm.set (r.2.fm.idxOf x) r.1, st := r.2.st.set (j' + 1) r.1 } r.1 last).bind fun w₂ =>
     ZcF s b j' (k + 1) w₂ r.1 (if last = b then (w.fm.idxOf x : Nat) + 1 else mark)
    | _ => none)
   else ZcF s b j' (k + 1) { w with st := w.st.erase x } last mark
noncomputable def putAt (l : List Nat) (j n : Nat) : List Nat := l.take j ++ n :: l.drop j
noncomputable def ZcN (w : PW) (s b : Nat) : Option PW :=
 if s ∈ w.st /\ 0 < w.st.idxOf s /\ b ∈ w.st /\ 0 < w.st.idxOf b then (w.st[w.st.idxOf s - 1]?).bind fun com => (ZcF s b (w.st.idxOf b - 1) 0 w b (placeOf w.fm s)).bind fun r =>
  (Za7 r.1 com r.2.1).bind fun w₂ => (w₂.nd[s]?).bind fun d => match d with
  | .el t c => (Zgm w₂ (.el t c) []).bind fun q => (Zk6 q.2 b q.1).bind fun wb => (Za7 wb b q.1).bind fun w₅ =>
   (if placeOf w₅.fm s < r.2.2 then some (r.2.2 - 1) else some r.2.2).bind fun mark =>
   if 0 <= mark /\ mark.toNat <= (w₅.fm.erase s).length /\ (w₅.fm.erase s).length < LIM /\ b ∈ w₅.st.erase s /\ (w₅.st.erase s).length < LIM then
    some { w₅ with fm := putAt (w₅.fm.erase s) mark.toNat q.1, st := putAt (w₅.st.erase s) ((w₅.st.erase s).idxOf b + 1) q.1 } else none
  | _ => none
 else none
noncomputable def Zcc (t : Tag) : Nat -> PW -> Option PW
 | 0, w => some w
 | f + 1, w => (ZiK w t).bind fun r => match r.1 with
  | none => some r.2
  | some s => if s ∈ r.2.st then (ZkY r.2 (r.2.st.length - (r.2.st.idxOf s + 1)) (r.2.st.idxOf s + 1)).bind fun q => match q with
   | none => (Zmt r.2.st.length r.2.st s).bind fun st => some { r.2 with st := st, fm := r.2.fm.erase s }
   | some b => (ZcN r.2 s b).bind fun w' => Zcc t f w'
   else none
noncomputable def ZdS (w : PW) (t : Tag) : Option PW := (w.st.getLast?).bind fun n => (w.nd[n]?).bind fun d => if d.isTag t && !decide (n ∈ w.fm) then some { w with st := w.st.dropLast } else Zcc t 8 w
noncomputable def ZeT (t : Tag) : Nat -> PW -> Option PW
 | 0, w => some w
 | f + 1, w => (w.st.getLast?).bind fun n => (w.nd[n]?).bind fun d => if d.isTag t then some { w with st := w.st.dropLast } else ZeT t f { w with st := w.st.dropLast }
noncomputable def ZkS (w : PW) (n : Nat) : Option Nat := (w.nd[n]?).bind Nd.let
noncomputable def Znp (w : PW) (n : Nat) : Option PW := (ZkS w n).bind fun c => if w.fm.length < LIM /\ (w.fm.all fun x => match ZkS w x with | some c' => c' != c | none => false) = true then some { w with fm := w.fm ++ [n] } else none
end Nz
namespace Nz
open PySem
structure LS where
 w : PW
 fs : List (Tag × Nat)
 bs : List (Tag × Nat)
 sp : Nat
 tags : List (Nat × Tag)
 told : List (Nat × List Nat × List Nat)
noncomputable def Tag.isF : Tag -> Bool
 | .b | .i | .a => true
 | _ => false
noncomputable def Tag.isB : Tag -> Bool
 | .div | .p => true
 | _ => false
noncomputable def ZdK (d : Nat) : Tag := match d % 6 with
 | 0 => .b
 | 1 => .i
 | 2 => .a
 | 3 => .div
 | 4 => .p
 | _ => .span
noncomputable def Za3 (l : List Nat) : List Nat := l.mergeSort
noncomputable def ZeJ (s : LS) (t : Tag) (c : Nat) : Option LS :=
 if (s.tags.lookup c).isSome || decide (LIM <= s.tags.length) || decide (LIM <= s.bs.length) || decide (LIM <= s.fs.length) then none else
 if t.isB then
  if 5 <= s.bs.length then some s else (elM s.w t (some c)).bind fun r => some { s with w := r.2, tags := s.tags ++ [(c, t)], bs := s.bs ++ [(t, c)] }
 else if 4 <= s.fs.length + s.sp then some s
 else (Zkw s.w).bind fun w₁ => (elM w₁ t (some c)).bind fun r =>
  if t.isF then (Znp r.2 r.1).bind fun w₂ => some { s with w := w₂, tags := s.tags ++ [(c, t)], fs := s.fs ++ [(t, c)] }
  else some { s with w := r.2, tags := s.tags ++ [(c, t)], sp := s.sp + 1 }
noncomputable def Zau (l : List (Tag × Nat)) (t : Tag) : List Nat := (Zrt l.length).filter fun i => decide ((l[i]?).map (fun p => p.1.str) = some t.str)
noncomputable def upTo (l : List (Tag × Nat)) (t : Tag) : List (Tag × Nat) := match (Zau l t).getLast? with
 | none => l
 | some k => l.take k
noncomputable def without (l : List (Tag × Nat)) (t : Tag) : List (Tag × Nat) := match (Zau l t).getLast? with
 | none => l
 | some k => l.eraseIdx k
noncomputable def ZnH (s : LS) (t : Tag) : Option LS :=
 if t.isB then
  if s.bs.any (fun q => decide (q.1.str = t.str)) then (ZeT t s.w.st.length s.w).bind fun w' => some { s with w := w', bs := upTo s.bs t } else some s
 else (ZdS s.w t).bind fun w' => some { s with w := w', fs := without s.fs t }
noncomputable def okL (l : List Nat) : Bool := l.all fun c => decide (c < 128)
noncomputable def Zf6 (s : LS) (c : Nat) : Option LS := if okL (s.bs.map (·.2)) && okL (s.fs.map (·.2)) && decide (s.fs.length < 64) && decide (s.told.length < LIM) then (Zkw s.w).bind fun w₁ => (Zey w₁ c).bind fun w₂ => some { s with w := w₂, told := s.told ++ [(c, s.bs.map (·.2), Za3 (s.fs.map (·.2)))] } else none
noncomputable def Zmz (s : LS) (k d : Nat) : Option LS :=
 (if d % 12 < 6 then ZeJ s (ZdK d) (97 + k) else ZnH s (ZdK d)).bind fun s₁ => if d / 12 % 3 ≠ 1 then Zf6 s₁ (65 + k) else some s₁
noncomputable def Zm8 (w : PW) (n : Nat) (tags : List (Nat × Tag)) : Option Bool := (w.nd[n]?).bind fun d => match d with
 | .el t (some c) => if c < 128 then some (decide ((tags.lookup c).map Tag.str = some t.str)) else none
 | _ => some false
noncomputable abbrev Ent := Nat × List Nat × List Nat
noncomputable def ZfR (w : PW) (tags : List (Nat × Tag)) (n : Nat) (bs fs : List Nat) (rd : Nat -> List Nat -> List Nat -> List Nat -> List Ent -> Option (Bool × List Nat × List Ent)) : List Nat -> Bool -> List Nat -> List Ent -> Option (Bool × List Nat × List Ent)
 | [], _, seen, out => some (true, seen, out)
 | c :: r, ahead, seen, out => (w.pa[c]?).bind fun p => if p ≠ n \/ c ∈ seen then some (false, seen, out) else
  if 64 <= fs.length \/ 64 <= bs.length \/ LIM <= seen.length then none else
  (w.nd[c]?).bind fun d => match d with
  | .tx => (w.tx[c]?).bind fun t => (w.ch[c]?).bind fun l => if ahead || t.isEmpty || !l.isEmpty then some (false, seen, out) else
   if LIM < out.length + t.length then none else
   ZfR w tags n bs fs rd r true (seen ++ [c]) (out ++ t.map fun s => (s, bs, Za3 fs))
  | .el tg lt => (Zm8 w c tags).bind fun ok => if !ok then some (false, seen, out) else match lt with
   | none => none
   | some x => (rd c (if tg.isB then bs ++ [x] else bs) (if tg.isF then fs ++ [x] else fs) (seen ++ [c]) out).bind fun q => if q.1 then ZfR w tags n bs fs rd r false q.2.1 q.2.2 else some (false, q.2)
  | .doc => none
noncomputable def Zhr (w : PW) (tags : List (Nat × Tag)) : Nat -> Nat -> List Nat -> List Nat -> List Nat -> List Ent -> Option (Bool × List Nat × List Ent)
 | 0, _, _, _, _, _ => none
 | f + 1, n, bs, fs, seen, out => (w.ch[n]?).bind fun l => ZfR w tags n bs fs (Zhr w tags f) l false seen out
noncomputable def ZaB (w : PW) (xs : List Str) : List Nat -> Option (List Nat)
 | [] => some []
 | n :: r => (w.nd[n]?).bind fun d => (ZaB w xs r).bind fun ls => if d.name ∈ xs then (match d with
  | .el _ (some c) => if c < 128 then some (c :: ls) else none
  | _ => none) else some ls
noncomputable def Zjt (w : PW) (xs : List Str) : List Nat -> Option (List Nat)
 | [] => some []
 | n :: r => (w.nd[n]?).bind fun d => (Zjt w xs r).bind fun ls => some (if d.name ∈ xs then n :: ls else ls)
noncomputable def allN : List Str := ["b", "i", "a", "div", "p", "span"]
noncomputable def plainN : List Str := ["div", "p", "span"]
noncomputable def fN : List Str := ["b", "i", "a"]
noncomputable def bN : List Str := ["div", "p"]
noncomputable def Zf7 (tags : List (Nat × Tag)) : List Nat := (Za3 (tags.map (·.1))).filter fun c => match tags.lookup c with
 | some t => decide (t.str ∈ plainN)
 | none => false
noncomputable def okE (e : Ent) : Bool := decide (e.1 < 128) && okL e.2.1 && okL e.2.2
noncomputable def Zbd : List Nat -> List Nat -> List Nat
 | acc, [] => acc
 | acc, x :: r => Zbd (if x ∈ acc then acc else acc ++ [x]) r
noncomputable def Znt (w : PW) : Nat -> List Nat -> Bool
 | _, [] => true
 | a, n :: r => (match w.pa[n]?, w.ch[a]? with | some p, some l => decide (p = a) && decide (l.getLast? = some n) | _, _ => false) && Znt w n r
noncomputable def ZeO : PW := ⟨[.doc], [[]], [-1], [[]], [], [], 0⟩
noncomputable def initM : Option (Nat × Nat × PW) := (Zgm ZeO (.el .html none) []).bind fun r => (Za7 r.2 0 r.1).bind fun w₁ => (Zkt w₁ r.1).bind fun w₂ => (elM w₂ .body none).bind fun q => some (r.1, q.1, q.2)
noncomputable def Zig : Nat -> Nat -> LS -> (Nat -> Nat) -> Option LS
 | 0, _, s, _ => some s
 | f + 1, k, s, d => (Zmz s k (d k)).bind fun s' => Zig f (k + 1) s' d
noncomputable def Zh1 (root body : Nat) (s : LS) (q : Bool × List Nat × List Ent) : Option Bool :=
 if q.1 = true /\ s.w.ch[0]? = some [root] /\ s.w.ch[root]? = some [body] /\ q.2.2 = s.told /\ s.told.all okE = true /\ s.tags.length < 64 /\ okL (s.tags.map (·.1)) = true /\ okL (s.fs.map (·.2)) = true /\ okL (s.bs.map (·.2)) = true /\ q.2.1.length <= LIM /\ s.fs.length <= LIM /\ s.bs.length <= LIM /\ s.told.length <= LIM then
  (ZaB s.w allN q.2.1).bind fun la => (ZaB s.w plainN q.2.1).bind fun lp => (Zjt s.w fN s.w.st).bind fun ff => (ZaB s.w fN s.w.fm).bind fun lf => (ZaB s.w bN s.w.st).bind fun lb =>
   some (decide (Zbd [] la = Za3 (s.tags.map (·.1))) && decide (lp = Zf7 s.tags) && Znt s.w 0 s.w.st && decide (s.w.st.take 2 = [root, body]) && decide (s.w.fm = ff) && decide (lf = s.fs.map (·.2)) && decide (lb = s.bs.map (·.2)))
 else some false
noncomputable def ZpY (d : Nat -> Nat) : Option Bool := initM.bind fun r => (Zig 16 0 ⟨r.2.2, [], [], 0, [], []⟩ d).bind fun s => (Zf6 s 81).bind fun s =>
 (Zhr s.w s.tags 40 r.2.1 [] [] [] []).bind fun q => Zh1 r.1 r.2.1 s q
end Nz
namespace Nz
open PySem PySem.W PySem.Calls PyProof.Rows
theorem zl {a : Nat} (h : decide (a <= 16777216) = true) : a <= sizeLine := rE sizeLine_eq (of_decide_eq_true h)
open Lean in
def wkT (w : String) : MacroM (TSyntax `tactic) :=
 match w with
 | "." => `(tactic| assumption)
 | "w" => `(tactic| with_reducible assumption)
 | "r" => `(tactic| rfl)
 | "d" => `(tactic| decide)
 | "k" => `(tactic| kernel_rfl)
 | "C" => `(tactic| repeat constructor)
 | "I" => `(tactic| intros)
 | "u" => `(tactic| with_unfolding_all rfl)
 | "_" => `(tactic| intro n_)
 | w => `(tactic| walk_at $(Syntax.mkStrLit w):str)
open Lean in
def wkX (w : String) : MacroM Term := if w == "?" then `(?_) else do `(by $(← wkT w):tactic)
open Lean in
def wkL (l : List String) : MacroM (Array (TSyntax `tactic)) := l.toArray.mapM wkT
open Lean in
def wkA (a : String) : MacroM (TSyntax `tactic) := do
 let l := a.splitOn " "
 let n := l.headD ""
 if n.startsWith "&" then
  let as ← ((l.drop 1).filter (· != "_")).toArray.mapM wkX
  let ts ← wkL (l.filter (· == "_"))
  `(tactic| (refine $(mkIdent (n.drop 1).toString.toName) $as*; $[$ts:tactic]*))
 else if n.startsWith "*" then `(tactic| (with_reducible apply $(mkIdent (n.drop 1).toString.toName)) <;> assumption)
 else
  let t ← if n.startsWith "!" then wkT (n.drop 1).toString else `(tactic| with_reducible apply $(mkIdent n.toName))
  let ts ← wkL (l.drop 1)
  `(tactic| ($t:tactic; $[$ts:tactic]*))
open Lean in
def wk (s : String) : MacroM (TSyntax `tactic) := do
 let as ← (s.splitOn "|").toArray.mapM wkA
 `(tactic| first $[| $as:tactic]*)
open Lean in
def wkM (s : String) : MacroM (TSyntax `tactic) := match s with
 | "evs" => wk "Zpt . . . _ _ u|Zpg . . . _ _ u|ZoQ . . _ _ u|ZmC . . _ _ u|Zi7 . . _ _ u|Zot . . _ _ u|Zk9 . . _ _ u|Zn9 . . _ _ u|ZpE . . _ _ u|ZgO . . _ _ u|ZkW . . . _ _ u|Zp2 . . . _ _ u"
 | "evb" => wk "ZoC|Zoe|Zmx ad"
 | "ad" => wk "!.|!d"
 | "evi" => wk "ZoE|Zn4"
 | "evc" => wk "Zjx .|!w|ZdG r|Zer r|ZoV .|Zpf ."
 | "evv" => wk "!w|Zdf|ZpA . ."
 | "evf" => wk "Zfi . .|Znx . . rm .|Zkq . . rm .|ZmB . . rm .|ZmW . . rm .|Zg7 . rm|ZlA . . rm .|Zh5 . . rm .|Zlt . . rm|Zos . . rm|ZkC . . rm . .|Zi5 . . rm|Zk2 . . rm|Zj4 . . rm|Zg8 . . rm|!w|ZlO .|Zoa .|Zow .|ZoI . ."
 | "strs" => wk "ZdQ r"
 | "eva" => wk "!w|Zbc|Zas ev eva r"
 | "ev" => wk "ZpC ev k zl u|!w|ZaN r r d|Zor r r . d|ZcH|ZeS|Zov|ZoD|Zho ev attr u|ZaT ev ev evs|Zpy ev|ZgA ev ev evb|ZjG ev strs d u|ZlS ev ev evc u|Zli evbo|ZhI ev meth eva evf r r|Zcw glob kept eva evf r r d|ZbC blen r d eva evf r r d"
 | "evbo" => wk "Zfd ev|Zc6 ev _ evbo|Zok ev _ evbo"
 | "evall" => wk "ZbN|ZaQ|ZaA evt _ evall|ZaD evt _ evall"
 | "evt" => wk "Zo5 ev k zl u|!w|Zgg evt|ZhR ev strs d u|Zbt ev ev evc u|Zbk evall|Zeu ev evv r"
 | "attr" => wk "Znd . .|Zmn . .|Znj . .|Zm0 . .|ZmQ . .|Zkk . .|Zjq . .|*Zlo|*Zj6|*Zfm|*Zmp|*Zgs|*Zjb|*Zkn|*Zi4|*Zei|*ZgP|*Zks|*ZhO|*ZhG|*Zhb|*Zlw|*Zkm|*Zlr|*Zj9"
 | "meth" => wk "*Zkf|*ZjL|*Zh2|*Zlj|*ZfQ|*Zjo|*ZiO|*ZdT|*Zky|*Zlk|*Zko|*Zik|*ZlI|*ZmA|*Zh7|*Zmk|*Znv|*Zjc|*Zkj|*Zjg|*ZlJ|*Zdr|*ZlK|*Zk4|*Znf|*Zkc|*Zi9|*Zh0|*ZiR"
 | "glob" => wk "*Zir|*ZfS|*Zc4|*Zgx|*ZcE|*Zd1|*ZjB|*Za4|*Zct|*Zg4|*Zgk|*Zea|*Zdi|*ZcV|*ZcI|*Zdt|*ZeQ|*Zgd|*ZkH|*Zmc|*Zjk|*Zfr|*ZcJ|*Zb7|*Zgi|*ZhZ|*Zek|*ZdM|*Zeo|*Zbu|*Zch|*ZeK"
 | "kept" => wk "*Ziw|*ZfB|*ZcQ|*Zgv|*Zcv|*ZdR|*ZjY|*Za6|*Zcy|*ZhE|*Zfq|*ZdZ|*Zda|*ZcS|*ZcG|*Zdq|*ZeY|*ZfN|*ZkL|*Zle|*Zju|*Zf4|*ZcK|*Zb5|*Zfz|*ZhM|*Zet|*ZdP|*Zem|*Zbr|*Zcq|*ZeW"
 | "binds" => wk "Zql r I be|Zqo r I be|Zqn r I be|Zqf r I be|Zqi r I be|Zqk r I be|Zqe r I be|Zqp r I be"
 | "be" => wk "&BindsTo.of_eq r|&binds_K inn r r r r r"
 | "inn" => wk "&Is.inn . ."
 | "zl" => wk "&zl k"
 | "blen" => wk "Zhy ."
 | "bindsAt" => wk "&Zqa lk r binds"
 | "lk" => wk "&Is.lk . r"
 | "cd" => wk "&Is.cd . r"
 | "rl" => wk "&Amb.Room.le . rr"
 | "rr" => wk "Nat.le_refl"
 | "rm" => wk "&Amb.Room.le . d"
 | "defV" => wk "&Zmq lk C cd rl C binds d r r r r r ? _ _"
 | "defW" => wk "&ZfV lk C cd rl C binds d r r r r r ? _ _"
 | "defF" => wk "&ZhA lk C cd rl C binds d r r r r r ? _ _"
 | "asg" => wk "&ZaS ev ? r r"
 | "if" => wk "&Za8 evt ? ?"
 | "ret" => wk "&ZaI ev ?"
 | "aug" => wk "&Zfk r ev evi ? r"
 | "u" => wkT "u"
 | "mem" => `(tactic| repeat (first | exact List.Mem.head _ | apply List.Mem.tail))
 | _ => Lean.Macro.throwUnsupported
local macro_rules | `(tactic| walk_at $s:str) => wkM s.getString
section
variable {G : Glo} {Γ : Amb} {σ : Sig} {m : Loc} {k : Cfg} {z : Var} {w : PW}
theorem ZcD {v v' : AV} (e : v' = v) : Zgj (.ret v') = v /\ ∀ a o, σ a = some o -> σ a = some o := ⟨e, fun n_ n_ x => x⟩
theorem Zb6 {a b : Int} : opI .Eq a b = decide (a = b) := rfl
theorem Zbp {a b : Int} : opI .NotEq a b = decide (a ≠ b) := rfl
theorem Zgc {a b : Int} : opI .Lt a b = decide (a < b) := rfl
theorem ZkP {a b : Int} : opI .Gt a b = decide (a > b) := rfl
theorem ZlV {a b : Int} : opI .GtE a b = decide (a ≥ b) := rfl
theorem Zg8 (hK : Is G) (h : Zab k z σ w) (rm : Γ.Room 1) : EvF G Γ σ m (.ref 123) [.ref k.s] (.int (cur w.st)) := by
 walk_at "defV"
 walk_at "if" <;> intro hb
 ·have e : w.st = [] := by simpa [opI] using hb
  walk_at "ret"
  exact ZcD (by refine rE e ?_; rfl)
 ·refine Zah ?_
  have hne : w.st.length ≠ 0 := by simpa [opI] using hb
  obtain ⟨x, hx⟩ : ∃ x, w.st[w.st.length - 1]? = some x := ⟨w.st[w.st.length - 1]'(by omega), ZqA (by omega)⟩
  have hc : (w.st.length : Int) - 1 = ((w.st.length - 1 : Nat) : Int) := sE (by omega)
  refine ZaI (v := .int x) ?_ ?_
  ·with_reducible apply ZaT
   ·walk_at "ev"
   ·refine Zcf (v := .int ((w.st.length : Int) - 1)) (by walk_at "ev") (v' := .int ((w.st.length - 1 : Nat) : Int)) (by exact rE hc rfl)
   ·walk_at "evs"
  ·refine ZcD ?_
   rw [<- Zsf] at hx
   rewrite [cur]; exact rE hx rfl
theorem Zj4 (hK : Is G) (h : Zab k z σ w) (rm : Γ.Room 1) : EvF G Γ σ m (.ref 130) [.ref k.s] (.int (w.st.length : Nat)) := by
 walk_at "defV"
 walk_at "ret"
 exact ZcD rfl
theorem Zk2 {n : Nat} (hK : Is G) (h : Zab k z σ w) (rm : Γ.Room 1) : EvF G Γ σ m (.ref 137) [.ref k.s, .int n] (.bool (decide (n ∈ w.st))) := by
 walk_at "defV"
 walk_at "ret"
 exact ZcD rfl
theorem ZbH {l : List Nat} {n : Nat} (h : n ∈ l) : placeOf l n = (l.idxOf n : Nat) := if_pos h
theorem ZdF {l : List Nat} {n : Nat} (h : ¬ n ∈ l) : placeOf l n = -1 := if_neg h
theorem Zi5 {n : Nat} (hK : Is G) (h : Zab k z σ w) (rm : Γ.Room 1) : EvF G Γ σ m (.ref 151) [.ref k.s, .int n] (.int (placeOf w.st n)) := by
 walk_at "defV"
 walk_at "if" <;> intro hb
 ·have hn : n ∈ w.st := by simpa using hb
  refine ZaI (v := .int (w.st.idxOf n : Nat)) ?_ (ZcD (by exact rE (ZbH hn) rfl))
  refine Zhi PySem.F.slot_list_index PySem.F.type_list_index (by walk_at "ev") (show σ k.sit = some (.lst (w.st.map nv)) from h.obj .sit _ rfl) (by walk_at "eva") (Zgf (show σ k.sit = some (.lst (w.st.map nv)) from h.obj .sit _ rfl) hn ?_) (by rfl) (by rfl)
  have := h.le' .sit rfl
  simpa [mk] using this
 ·have hn : ¬ n ∈ w.st := by simpa using hb
  refine Zah ?_
  walk_at "ret"
  exact ZcD (by exact rE (ZdF hn) rfl)
theorem Zby {st : List Nat} {n : Nat} (e : st.getLast? = some n) : cur st = n := by (rewrite [cur]; exact rE e rfl)
theorem Zn3 (d : Nd) : (if d.space = "html" then d.name else ("" : Str)) = d.name := by
 induction d with
 | el t c => exact if_pos rfl
 | doc => exact ite_self _
 | tx => exact ite_self _
theorem ZkC {n : Nat} {d : Nd} (hK : Is G) (h : Zab k z σ w) (rm : Γ.Room 2) (hn : w.st.getLast? = some n) (hd : w.nd[n]? = some d) : EvF G Γ σ m (.ref 165) [.ref k.s] (.str d.name) := by
 walk_at "defV"
 refine ZaS (v := .int n) (Zcf (v := .int (cur w.st)) (by walk_at "ev") (by exact rE (Zby hn) rfl)) ?_ (by rfl) (by rfl)
 walk_at "if" <;> intro hb
 ·walk_at "ret"
  refine ZcD ?_
  have : d.space ≠ "html" := by
   intro e
   rw [Zb6, decide_eq_false (by omega), Bool.false_or, Zr4, show opS .NotEq d.space "html" = decide (d.space ≠ "html") from rfl] at hb
   exact of_decide_eq_true hb e
  refine rS (Zn3 d) ?_; exact rE (if_neg this) rfl
 ·refine Zah ?_
  walk_at "ret"
  exact ZcD rfl
theorem Zos {n : Nat} (hK : Is G) (h : Zab k z σ w) (rm : Γ.Room 1) : EvF G Γ σ m (.ref 346) [.ref k.f, .int n] (.bool (decide (n ∈ w.fm))) := by
 walk_at "defV"
 walk_at "ret"
 exact ZcD rfl
theorem Zlt {n : Nat} (hK : Is G) (h : Zab k z σ w) (rm : Γ.Room 1) : EvF G Γ σ m (.ref 353) [.ref k.f, .int n] (.int (placeOf w.fm n)) := by
 walk_at "defV"
 walk_at "if" <;> intro hb
 ·have hn : n ∈ w.fm := by simpa using hb
  refine ZaI (v := .int (w.fm.idxOf n : Nat)) ?_ (ZcD (by exact rE (ZbH hn) rfl))
  refine Zhi PySem.F.slot_list_index PySem.F.type_list_index (by walk_at "ev") (show σ k.fit = some (.lst (w.fm.map nv)) from h.obj .fit _ rfl) (by walk_at "eva") (Zgf (show σ k.fit = some (.lst (w.fm.map nv)) from h.obj .fit _ rfl) hn ?_) (by rfl) (by rfl)
  have := h.le' .fit rfl
  simpa [mk] using this
 ·have hn : ¬ n ∈ w.fm := by simpa using hb
  refine Zah ?_
  walk_at "ret"
  exact ZcD (by exact rE (ZdF hn) rfl)
theorem Zh5 {n : Nat} {d : Nd} {t : Tag} (hK : Is G) (h : Zab k z σ w) (rm : Γ.Room 1) (hd : w.nd[n]? = some d) : EvF G Γ σ m (.ref 498) [.ref k.t, .int n, .str t.str] (.bool (d.isTag t)) := by
 walk_at "defV"
 walk_at "ret"
 refine ZcD ?_
 congr 1
 refine rE Zbp ?_; rewrite [decide_eq_true (by omega)]; refine rE (Zsq _) ?_
 induction d with
 | el u c => refine (?_ : (decide (("html" : Str) = "html") && decide (u.str = t.str)) = _); (refine rE (decide_eq_true rfl) (rE (Zsq _) ?_)); rfl
 | doc => rfl
 | tx => rfl
theorem ZlA {n : Nat} {l : List Nat} (hK : Is G) (h : Zab k z σ w) (rm : Γ.Room 1) (hv : w.ch[n]? = some l) : EvF G Γ σ m (.ref 484) [.ref k.t, .int n] (.int (cur l)) := by
 walk_at "defV"
 walk_at "if" <;> intro hb
 ·walk_at "ret"
  have e : l = [] := by simpa using hb
  exact ZcD (by refine rE e ?_; rfl)
 ·refine Zah ?_
  obtain ⟨c, hc⟩ : ∃ c, l.getLast? = some c := by
   induction e : l.getLast? with
   | some c => exact ⟨c, rfl⟩
   | none => rw [ZrI] at e; rw [e] at hb; injection hb
  walk_at "ret"
  exact ZcD (by exact rE (Zby hc) rfl)
end
section
variable {G : Glo} {Γ : Amb} {σ : Sig} {m : Loc} {k : Cfg} {z : Var} {w : PW}
theorem ZfX {o i value : Expr} {p' pos : Pos} {Q : AF -> Sig -> Loc -> Prop}
  (h : W G Γ VR (eval value Γ.env) (fun v σ₁ mc => W G Γ VR (eval o Γ.env) (fun x σ₂ md => W G Γ VR (eval i Γ.env) (fun y σ₃ me => ∀ A B C, VR x A -> VR y B -> VR v C -> W G Γ UR (setItem A B C) (fun n_ => Q .next) σ₃ me) σ₂ md) σ₁ mc) σ m)
  (hs : swapsWith value (some (.Subscript o i p')) pos.line Γ.env = pure false) : W G Γ FRl (exec (.Assign [.Subscript o i p'] value pos) Γ.env) Q σ m := Zbi fun s hR Q' kk => by
 refine wpAny_Assign_Subscript (h.use hR fun v va h₁ tk1 σ₁ mc rv hR₁ kp₁ za => ?_) hs
 refine W.use (s := { s with heap := h₁, toks := tk1 }) za hR₁ fun x xa h₂ tka σ₂ md rx hR₂ kp₂ zb => ?_
 refine W.use (s := { s with heap := h₂, toks := tka }) zb hR₂ fun y ya h₃ tk3 σ₃ me ry hR₃ kp₃ zc => ?_
 refine W.use (s := { s with heap := h₃, toks := tk3 }) (zc x y v rx ry rv) hR₃ fun u ua h₄ tk4 σ₄ mi ru hR₄ kp₄ zd => ?_
 exact kk .next .next h₄ tk4 σ₄ mi rfl hR₄ (((kp₁.trans kp₂).trans kp₃).trans kp₄) zd
theorem Zkd {o i value : Expr} {p' pos : Pos} {rest : List Stmt} {Q : AF -> Sig -> Loc -> Prop}
  (h : W G Γ VR (eval value Γ.env) (fun v σ₁ mc => ∃ a l, ∃ j : Nat, Ev G Γ σ₁ mc o (.ref a) /\ Ev G Γ σ₁ mc i (.int j) /\ σ₁ a = some (.lst l) /\ j < l.length /\ l.length <= sizeLine /\ W G Γ FRl (execs rest Γ.env) Q (σ₁.set a (.lst (l.set j v))) mc) σ m)
  (hs : swapsWith value (some (.Subscript o i p')) pos.line Γ.env = pure false) : W G Γ FRl (execs (.Assign [.Subscript o i p'] value pos :: rest) Γ.env) Q σ m :=
 Zan (ZfX (Q := ZbA G Γ rest Γ.env Q) (Zat h fun v σ₁ mc hp => (by (refine o83 hp fun a l j h1 h2 h3 h4 r7 => ?_; clear hp; refine o20 r7 fun h5 h6 => ?_; clear r7); exact h1 _ (h2 _ fun A B C rA rB rC => Zlz rfl h3 h4 h5 rA rB rC h6))) hs)
theorem Zpj (h : Zab k z σ w) : w.st.length <= sizeLine := by have := h.le' .sit rfl; simpa [mk] using this
theorem ZnL (h : Zab k z σ w) : w.fm.length <= sizeLine := by have := h.le' .fit rfl; simpa [mk] using this
theorem ZpU (h : Zab k z σ w) : w.st.length <= LIM := by have := h.small .sit _ rfl; simpa [mk] using this
theorem ZpZ (h : Zab k z σ w) : w.fm.length <= LIM := by have := h.small .fit _ rfl; simpa [mk] using this
theorem ZlT (h : Zab k z σ w) : σ k.sit = some (.lst (w.st.map nv)) := h.obj .sit _ rfl
theorem Zl1 (h : Zab k z σ w) : σ k.fit = some (.lst (w.fm.map nv)) := h.obj .fit _ rfl
theorem ZlR (h : Zab k z σ w) {n : Nat} {l : List Nat} (hv : w.ch[n]? = some l) : σ (adr k z (.kid n)) = some (.lst (l.map nv)) := h.obj (.kid n) _ (ZbY hv)
theorem ZpX (h : Zab k z σ w) {n : Nat} {l : List Nat} (hv : w.ch[n]? = some l) : l.length <= LIM := by have := h.small (.kid n) _ (ZbY hv); simpa using this
theorem Zp4 {n : Nat} (h : Zab k z σ w) (hz : w.st.length < LIM) : EvW G Γ σ m k z w (.builtin "list.append") [.ref k.sit, .int n] .none { w with st := w.st ++ [n] } := fun Q q =>
 Zbw (ZlT h) (by refine rE (Zqt _) ?_; exact Zpj h) (by
  have t := Zfx h (l := w.st ++ [n]) (by refine rE Zqu ?_; exact hz)
  rw [ZqB] at t
  exact q z _ t.1 t.2)
theorem Zp1 {n : Nat} (h : Zab k z σ w) (hz : w.fm.length < LIM) : EvW G Γ σ m k z w (.builtin "list.append") [.ref k.fit, .int n] .none { w with fm := w.fm ++ [n] } := fun Q q =>
 Zbw (Zl1 h) (by refine rE (Zqt _) ?_; exact ZnL h) (by
  have t := ZfC h (l := w.fm ++ [n]) (by refine rE Zqu ?_; exact hz)
  rw [ZqB] at t
  exact q z _ t.1 t.2)
theorem ZnE {l : List Nat} {n : Nat} (h : Zab k z σ w) (e : w.st = l ++ [n]) : EvW G Γ σ m k z w (.builtin "list.pop") [.ref k.sit] (.int n) { w with st := l } := fun Q q =>
 Zpv (l := l.map nv) (v := nv n) (by have := ZlT h; rw [e, ZqB] at this; exact this) (by have := ZpU h; rw [e, Zqu] at this; refine rE (Zqt _) ?_; exact ZaK this) (by
  have t := Zfx h (l := l) (by have := ZpU h; rw [e, Zqu] at this; omega)
  exact q z _ t.1 t.2)
theorem Zpp {n : Nat} (h : Zab k z σ w) (hn : n ∈ w.st) : EvW G Γ σ m k z w (.builtin "list.remove") [.ref k.sit, .int n] .none { w with st := w.st.erase n } := fun Q q =>
 Zgb (ZlT h) hn (Zpj h) (by
  have t := Zfx h (l := w.st.erase n) (Zrj (ZrG) (ZpU h))
  exact q z _ t.1 t.2)
theorem ZpJ {n : Nat} (h : Zab k z σ w) (hn : n ∈ w.fm) : EvW G Γ σ m k z w (.builtin "list.remove") [.ref k.fit, .int n] .none { w with fm := w.fm.erase n } := fun Q q =>
 Zgb (Zl1 h) hn (ZnL h) (by
  have t := ZfC h (l := w.fm.erase n) (Zrj (ZrG) (ZpZ h))
  exact q z _ t.1 t.2)
theorem Zpu {n p : Nat} {l : List Nat} (h : Zab k z σ w) (hv : w.ch[p]? = some l) (hn : n ∈ l) : EvW G Γ σ m k z w (.builtin "list.remove") [.ref (adr k z (.kid p)), .int n] .none { w with ch := w.ch.set p (l.erase n) } := fun Q q =>
 Zgb (ZlR h hv) hn (ZaK (ZpX h hv)) (by
  have t := Zme h hv (l := l.erase n) (Zrj (ZrG) (ZpX h hv))
  exact q z _ t.1 t.2)
theorem Zia {l : List Nat} {j n : Nat} : (putAt l j n).map nv = (l.map nv).take j ++ nv n :: (l.map nv).drop j := by unfold putAt; (refine rE ZqB (rE ZqP (rE ZsK ?_)); exact rE List.map_drop rfl)
theorem ZhT {l : List Nat} {j n : Nat} : (putAt l j n).length = l.length + 1 := by unfold putAt; (refine rE Zqu (rE ZqF (rE ZrY (rE ZrZ ?_)))); exact sP
theorem Zpx {n j : Nat} (h : Zab k z σ w) (hj : j <= w.st.length) (hz : w.st.length < LIM) : EvW G Γ σ m k z w (.builtin "list.insert") [.ref k.sit, .int j, .int n] .none { w with st := putAt w.st j n } := fun Q q =>
 ZfA (j := j) rfl (ZlT h) (by refine rE (Zqt _) ?_; exact hj) (by refine rE (Zqt _) ?_; exact Zpj h) (by
  have t := Zfx h (l := putAt w.st j n) (by refine rE ZhT ?_; exact hz)
  rw [Zia] at t
  exact q z _ t.1 t.2)
theorem Zpi {n j : Nat} (h : Zab k z σ w) (hj : j <= w.fm.length) (hz : w.fm.length < LIM) : EvW G Γ σ m k z w (.builtin "list.insert") [.ref k.fit, .int j, .int n] .none { w with fm := putAt w.fm j n } := fun Q q =>
 ZfA (j := j) rfl (Zl1 h) (by refine rE (Zqt _) ?_; exact hj) (by refine rE (Zqt _) ?_; exact ZnL h) (by
  have t := ZfC h (l := putAt w.fm j n) (by refine rE ZhT ?_; exact hz)
  rw [Zia] at t
  exact q z _ t.1 t.2)
theorem Zpd {n p : Nat} {l : List Nat} (h : Zab k z σ w) (hv : w.ch[p]? = some l) (hz : l.length < LIM) : EvW G Γ σ m k z w (.builtin "list.insert") [.ref (adr k z (.kid p)), .int (l.length : Nat), .int n] .none { w with ch := w.ch.set p (l ++ [n]) } := fun Q q =>
 ZfA (j := l.length) rfl (ZlR h hv) (by refine rE (Zqt _) ?_; exact ZqQ _) (by refine rE (Zqt _) ?_; exact ZaK (ZpX h hv)) (by
  have t := Zme h hv (l := l ++ [n]) (by refine rE Zqu ?_; exact hz)
  rw [ZqB] at t
  rw [List.take_of_length_le (by refine rE (Zqt _) ?_; exact ZqQ _), List.drop_of_length_le (by refine rE (Zqt _) ?_; exact ZqQ _)]
  exact q z _ t.1 t.2)
theorem Zdj {z' : Var} {w' : PW} {σ' : Sig} {v v' : AV} {m' : Loc} (e : v' = v) (h : Zab k z' σ' w') (x : Zcr k z w σ z' w' σ') : Zp7 k z w σ v w' (.ret v') σ' m' := ⟨e, z', h, x⟩
theorem Zba {z' : Var} {w' : PW} {σ' : Sig} {m' : Loc} (h : Zab k z' σ' w') (x : Zcr k z w σ z' w' σ') : Zp7 k z w σ .none w' .next σ' m' := ⟨rfl, z', h, x⟩
theorem ZgM {n : Nat} {w' : PW} (hK : Is G) (h : Zab k z σ w) (rm : Γ.Room 1) (e : Zkt w n = some w') : EvW G Γ σ m k z w (.ref 109) [.ref k.s, .int n] .none w' := by
 unfold Zkt at e
 split at e
 case isFalse => exact nA e
 case isTrue hz =>
 obtain rfl := ZqC e
 walk_at "defW"
 refine Zal (Zbf PySem.F.slot_list_append PySem.F.type_list_append (by walk_at "ev") (ZlT h) (by walk_at "eva") (Zp4 h hz) (by rfl) (by rfl)) (fun z' σ' h' x' => ?_) (by rfl) (by rfl)
 exact Zah (Zba h' x')
theorem ZdN {l : List Nat} {n : Nat} (hK : Is G) (h : Zab k z σ w) (rm : Γ.Room 1) (e : w.st = l ++ [n]) : EvW G Γ σ m k z w (.ref 116) [.ref k.s] (.int n) { w with st := l } := by
 walk_at "defW"
 walk_at "if" <;> intro hb
 ·rw [Zb6, e] at hb
  simp at hb; omega
 ·refine Zah ?_
  refine Zin (Zbf PySem.F.slot_list_pop PySem.F.type_list_pop (by walk_at "ev") (ZlT h) (by walk_at "eva") (ZnE h e) (by rfl) (by rfl)) (fun z' σ' h' x' => ?_)
  exact Zdj rfl h' x'
theorem ZeL {n : Nat} (hK : Is G) (h : Zab k z σ w) (rm : Γ.Room 1) : EvW G Γ σ m k z w (.ref 144) [.ref k.s, .int n] .none { w with st := w.st.erase n } := by
 walk_at "defW"
 walk_at "if" <;> intro hb
 ·have hn : n ∈ w.st := by simpa using hb
  refine Zal (Zbf PySem.F.slot_list_remove PySem.F.type_list_remove (by walk_at "ev") (ZlT h) (by walk_at "eva") (Zpp h hn) (by rfl) (by rfl)) (fun z' σ' h' x' => ?_) (by rfl) (by rfl)
  exact Zah (Zah (Zba h' x'))
 ·have hn : ¬ n ∈ w.st := by simpa using hb
  refine rE (ZrT hn) ?_
  exact Zah (Zah (Zba h .refl))
theorem Zmi {n j : Nat} (hK : Is G) (h : Zab k z σ w) (rm : Γ.Room 1) (hj : j <= w.st.length) (hz : w.st.length < LIM) : EvW G Γ σ m k z w (.ref 158) [.ref k.s, .int j, .int n] .none { w with st := putAt w.st j n } := by
 walk_at "defW"
 refine Zal (Zbf PySem.F.slot_list_insert PySem.F.type_list_insert (by walk_at "ev") (ZlT h) (by walk_at "eva") (Zpx h hj hz) (by rfl) (by rfl)) (fun z' σ' h' x' => ?_) (by rfl) (by rfl)
 exact Zah (Zba h' x')
theorem Zef {n : Nat} (hK : Is G) (h : Zab k z σ w) (rm : Γ.Room 1) : EvW G Γ σ m k z w (.ref 360) [.ref k.f, .int n] .none { w with fm := w.fm.erase n } := by
 walk_at "defW"
 walk_at "if" <;> intro hb
 ·have hn : n ∈ w.fm := by simpa using hb
  refine Zal (Zbf PySem.F.slot_list_remove PySem.F.type_list_remove (by walk_at "ev") (Zl1 h) (by walk_at "eva") (ZpJ h hn) (by rfl) (by rfl)) (fun z' σ' h' x' => ?_) (by rfl) (by rfl)
  exact Zah (Zah (Zba h' x'))
 ·have hn : ¬ n ∈ w.fm := by simpa using hb
  refine rE (ZrT hn) ?_
  exact Zah (Zah (Zba h .refl))
theorem Zoy {n j : Nat} (hK : Is G) (h : Zab k z σ w) (rm : Γ.Room 1) (hj : j <= w.fm.length) (hz : w.fm.length < LIM) : EvW G Γ σ m k z w (.ref 374) [.ref k.f, .int j, .int n] .none { w with fm := putAt w.fm j n } := by
 walk_at "defW"
 refine Zal (Zbf PySem.F.slot_list_insert PySem.F.type_list_insert (by walk_at "ev") (Zl1 h) (by walk_at "eva") (Zpi h hj hz) (by rfl) (by rfl)) (fun z' σ' h' x' => ?_) (by rfl) (by rfl)
 exact Zah (Zba h' x')
theorem Zi1 {old new : Nat} (hK : Is G) (h : Zab k z σ w) (rm : Γ.Room 1) (hn : old ∈ w.fm) : EvW G Γ σ m k z w (.ref 367) [.ref k.f, .int old, .int new] .none { w with fm := w.fm.set (w.fm.idxOf old) new } := by
 walk_at "defW"
 walk_at "if" <;> intro hb
 ·refine Zkd ?_ (by rfl)
  refine (show Ev G _ σ _ _ (.int new) by walk_at "ev") _ ?_
  refine e93 k.fit (w.fm.map nv) (w.fm.idxOf old) (by walk_at "ev") ?_ (Zl1 h) (by refine rE (Zqt _) ?_; exact (Zb4 hn).1) (by refine rE (Zqt _) ?_; exact ZnL h) ?_
  ·exact Zhi PySem.F.slot_list_index PySem.F.type_list_index (by walk_at "ev") (Zl1 h) (by walk_at "eva") (Zgf (Zl1 h) hn (ZnL h)) (by rfl) (by rfl)
  ·have t := ZfC h (l := w.fm.set (w.fm.idxOf old) new) (by refine rE Zra ?_; exact ZpZ h)
   rw [ZrK] at t
   exact Zah (Zah (Zba t.1 t.2))
 ·rw [decide_eq_true hn] at hb; exact nD hb
theorem Zfv {x : Str} {w' : PW} (hK : Is G) (h : Zab k z σ w) (rm : Γ.Room 1) (e : Ziz w = some w') : EvW G Γ σ m k z w (.ref 534) [.ref k.b, .str x] .none w' := by
 unfold Ziz at e
 split at e
 case isFalse => exact nA e
 case isTrue hz =>
 obtain rfl := ZqC e
 walk_at "defW"
 have he : σ k.err = some (.lst z.errs) := h.obj .err _ rfl
 refine Zcm (ZcY PySem.F.slot_list_append PySem.F.type_list_append ((show Ev G _ σ _ _ (.ref k.err) by walk_at "ev") _ ⟨k.err, z.errs, rfl, he, ?_⟩) (by rfl) (by rfl)) (by rfl) (by rfl)
 refine Zac (ZaE ?_) (by rfl)
 refine (show EvA G _ σ _ _ _ [.str x, .str "initial"] by walk_at "eva") _ ⟨(by refine (?_ : 2 <= sizeLine); decide), fun a ha => ?_⟩
 refine Zap ?_
 have h1 : Zab k z (σ.set a (.tup [.str x, .str "initial"])) w := h.mono (Zaa ha)
 refine Zbw (h1.obj .err _ rfl) (h1.le' .err rfl) ?_
 have t := Zob h1 (v := .ref a) hz
 exact Zah (Zba t.1 ((Ext.more (Zaa ha)).trans t.2))
end
section
variable {G : Glo} {Γ : Amb} {σ : Sig} {m : Loc}
theorem R.keeps {h h' : Heap} (hR : R G Γ σ m h) (hk : ∀ b o, h.get? b = some o -> h'.get? b = some o) : R G Γ σ m h' /\ Kp Γ.L σ σ h h' := by
 refine o20 hR fun ok r1 => ?_; clear hR; refine o62 r1 fun mv news F N l sr => ?_; clear r1
 have hne : h.objs.size ≠ Γ.L := Zrx F.ns.lt
 exact ⟨⟨ok, mv, news, ⟨F.ns.extBut (show Heap.ExtBut h.objs.size h h' from fun b o n_ e => hk b o e) (Ne.symm hne), fun b o e => hk b o (F.keep b o e), F.above⟩, fun p hp => ⟨hk _ _ (N p hp).1, (N p hp).2⟩, l, sr⟩, fun b o n_ n_ e => hk b o e, fun n_ n_ e => .inl e⟩
theorem R.grow {h h' : Heap} (hR : R G Γ σ m h) (hk : ∀ b o, h.get? b = some o -> h'.get? b = some o) {o : AO} {ob : Obj} (ho : h'.get? h.objs.size = some ob) (r : OR G o ob) :
  σ h.objs.size = none /\ R G Γ (σ.set h.objs.size o) m h' /\ Kp Γ.L σ (σ.set h.objs.size o) h h' := by
 have hR' := hR
 have hn : h.get? h.objs.size = none := by
  induction q : h.get? h.objs.size with
  | none => rfl
  | some o1 => exact absurd (Heap.lt_size q) (Zq8 _)
 have e : σ h.objs.size = none := by
  induction q : σ h.objs.size with
  | none => rfl
  | some o1 => (refine o31 (hR.get q) fun ob1 h1 n_ => ?_); rw [hn] at h1; exact nA h1
 refine o20 (hR.keeps hk) fun y0 kp => ?_; (refine o20 y0 fun ok r1 => ?_; clear y0; refine o62 r1 fun mv news F N l sr => ?_; clear r1)
 refine o20 hR' fun ok0 r1 => ?_; clear hR'; refine o62 r1 fun mv0 news0 F₀ Na lh sr0 => ?_; clear r1
 refine ⟨e, ⟨ok, mv, (h.objs.size, ob) :: news, F, fun p hp => ?_, l, fun b o1 ec => ?_⟩, fun b o1 hb ec ei => hk _ _ ei, fun b hb ec => ?_⟩
 ·rcases ZqD.mp hp with rfl | hp
  ·refine ⟨ho, Zrx F₀.ns.lt, ?_⟩
   exact F₀.fresh
  ·exact N p hp
 ·by_cases hba : b = h.objs.size
  ·subst hba
   rw [Sig.set_self] at ec
   obtain rfl := ZqC ec
   exact e41 ob (.head _) r (Zcs ok0 F₀)
  ·rw [Sig.set_ne hba] at ec
   refine o31 (sr b o1 ec) fun ob1 hm1 ho1 => ?_
   exact e31 ob1 (.tail _ hm1) ho1
 ·by_cases hba : b = h.objs.size
  ·subst hba; exact .inr hn
  ·rw [Sig.set_ne hba] at ec; exact .inl ec
theorem ZmS {a : Addr} {l : List AV} {Q : AV -> Sig -> Loc -> Prop} (e : Sees G σ a (.tup l)) (hz : l.length <= sizeLine) (h : ∀ r, σ r = none -> Q (.ref r) (σ.set r (.lst l)) m) : FC G Γ (.type "list") [.ref a] Q σ m := fun us r => Zbi fun s hR Q' k => by
 refine o31 r.one fun x y1 rx => ?_; subst y1
 subst rx
 refine o31 (hR.see e) fun ob ho r2 => ?_; refine o42 r2 fun vs n y2 r => ?_; clear r2; subst y2
 refine call_list_seq a (T := "tuple") (.inr rfl) ho rfl rfl (fun h' c' hk ho' => ?_) (by (refine rE ZqM (rE r.len ?_)); exact hz)
 refine o30 (hR.grow hk (o := .lst l) ho' ⟨vs, c', rfl, r⟩) fun e' hR' kp => ?_
 exact k _ (.ref _) h' s.toks _ _ rfl hR' kp (h _ e')
theorem ZmI {a : Addr} {l : List AV} {Q : AV -> Sig -> Loc -> Prop} (e : Sees G σ a (.lst l)) (hz : l.length <= sizeLine) (h : ∀ r, σ r = none -> Q (.ref r) (σ.set r (.lst l)) m) : FC G Γ (.type "list") [.ref a] Q σ m := fun us r => Zbi fun s hR Q' k => by
 refine o31 r.one fun x y1 rx => ?_; subst y1
 subst rx
 refine o31 (hR.see e) fun ob ho r2 => ?_; refine o42 r2 fun vs n y2 r => ?_; clear r2; subst y2
 refine call_list_seq a (T := "list") (.inl rfl) ho rfl rfl (fun h' c' hk ho' => ?_) (by (refine rE ZqM (rE r.len ?_)); exact hz)
 refine o30 (hR.grow hk (o := .lst l) ho' ⟨vs, c', rfl, r⟩) fun e' hR' kp => ?_
 exact k _ (.ref _) h' s.toks _ _ rfl hR' kp (h _ e')
theorem ZlY {a : Addr} {l : List AV} {Q : AV -> Sig -> Loc -> Prop} (e : Sees G σ a (.lst l)) (hz : l.length <= sizeLine) (h : ∀ r, σ r = none -> Q (.ref r) (σ.set r (.tup l)) m) : FC G Γ (.type "tuple") [.ref a] Q σ m := fun us r => Zbi fun s hR Q' k => by
 refine o31 r.one fun x y1 rx => ?_; subst y1
 subst rx
 refine o31 (hR.isList e) fun vs hl r => ?_
 refine call_tuple_list hl (fun h' hk => ?_) (by (refine rE ZqM (rE r.len ?_)); exact hz)
 refine o20 (hR.keeps hk) fun hR₁ kp₁ => ?_
 refine o30 (hR₁.push (o := .tup l) (ob := { cls := .type "tuple", data := .seq (Zrf vs) }) rfl ⟨vs, 0, rfl, r⟩) fun e' hR' kp => ?_
 exact k _ (.ref _) _ s.toks _ _ rfl hR' (kp₁.trans kp) (h _ e')
end
section
variable {G : Glo} {Γ : Amb} {σ : Sig} {m : Loc} {k : Cfg} {z : Var} {w : PW}
noncomputable def Items (σ : Sig) (l : List AV) : Option Nat -> Prop
 | none => l = []
 | some c => ∃ p, l = [.ref p] /\ σ p = some (.tup [.str "n", .str (Zad c)])
theorem Items.attr {l : List AV} {c : Option Nat} {a : Addr} (h : Items σ l c) (ha : σ a = none) : AttrOk (σ.set a (.lst l)) a c := by
 induction c with
 | none => subst h; exact Sig.set_self
 | some c => (refine o31 h fun p y1 hp => ?_; clear h; subst y1); exact e31 p Sig.set_self (Zaa ha _ _ hp)
theorem Items.len {l : List AV} {c : Option Nat} (h : Items σ l c) : l.length <= 1 := by
 induction c with
 | none => subst h; exact Zrq _
 | some c => (refine o31 h fun p y1 hp => ?_; clear h; subst y1); exact ZqQ _
theorem Items.of {a : Addr} {c : Option Nat} (h : AttrOk σ a c) : ∃ l, σ a = some (.lst l) /\ Items σ l c := by
 induction c with
 | none => exact e31 [] h rfl
 | some c => (refine o31 h fun p h1 h2 => ?_; clear h); exact e31 _ h1 ⟨p, rfl, h2⟩
theorem Items.mono {σ' : Sig} {l : List AV} {c : Option Nat} (h : Items σ l c) (k : ∀ b o, σ b = some o -> σ' b = some o) : Items σ' l c := by
 induction c with
 | none => exact h
 | some c => (refine o31 h fun p y1 hp => ?_; clear h; subst y1); exact e31 p rfl (k _ _ hp)
theorem WorldZ.addKidX {w : Wd} (h : WorldZ k z σ w) {a : Addr} (ha : σ a = none) (hz : w.ch.length < LIM) :
  Ext k z w σ { z with kids := z.kids ++ [a] } { w with ch := w.ch ++ [[]] } ((σ.set a (.lst [])).set k.children (.lst ((z.kids ++ [a]).map AV.ref))) := by
 refine ⟨fun b o e n => ?_, fun b q => ?_⟩
 ·rw [Sig.set_ne (b := b) (a := k.children) (fun q => n (.inl ⟨.children, _, rfl, q⟩)), Sig.set_ne (fun q => by rw [q, ha] at e; exact nA e)]; exact e
 ·rcases q with ⟨sl, l, e, rfl⟩ | q
  ·have lk := h.lk
   induction sl with
   | kid i =>
    by_cases hi : i < w.ch.length
    ·left; left
     refine e42 (.kid i) ((w.ch[i]).map nv) (by show (w.ch[i]?).map _ = _; refine rE (ZqA hi) ?_; rfl) ?_
     refine (?_ : (z.kids ++ [a]).getD i 0 = z.kids.getD i 0)
     refine rE ZqE (rE ZqE ?_); rw [ZqZ (by omega)]
    ·right
     have hi2 : i = w.ch.length := by
      have e : ((w.ch ++ [[]])[i]?).map (·.map nv) = some l := e
      induction q : (w.ch ++ [[]])[i]? with
      | none => rw [q] at e; injection e
      | some _ => have := (ZqU.mp q).1; simp at this; omega
     have : adr k { z with kids := z.kids ++ [a] } (.kid i) = a := by
      refine (?_ : (z.kids ++ [a]).getD i 0 = a)
      refine rE hi2 (rS lk (rE ZqE (rE (Zro (ZqQ _)) ?_))); simp
     refine rE this ?_; exact ha
   | children => exact .inl (.inl ⟨.children, _, rfl, rfl⟩)
   | kinds => exact .inl (.inl ⟨.kinds, _, e, rfl⟩)
   | spaces => exact .inl (.inl ⟨.spaces, _, e, rfl⟩)
   | names => exact .inl (.inl ⟨.names, _, e, rfl⟩)
   | attrs => exact .inl (.inl ⟨.attrs, _, e, rfl⟩)
   | texts => exact .inl (.inl ⟨.texts, _, e, rfl⟩)
   | parents => exact .inl (.inl ⟨.parents, _, e, rfl⟩)
   | sit => exact .inl (.inl ⟨.sit, _, e, rfl⟩)
   | fit => exact .inl (.inl ⟨.fit, _, e, rfl⟩)
   | err => exact .inl (.inl ⟨.err, _, e, rfl⟩)
  ·exact .inl (.inr q)
theorem WorldZ.addAttrX {w : Wd} (h : WorldZ k z σ w) {a : Addr} {lv : List AV} {c : Option Nat} (ha : σ a = none) :
  Ext k z w σ { z with ats := z.ats ++ [a] } { w with lets := w.lets ++ [c] } ((σ.set a (.lst lv)).set k.attrs (.lst ((z.ats ++ [a]).map AV.ref))) := by
 refine ⟨fun b o e n => ?_, fun b q => ?_⟩
 ·rw [Sig.set_ne (b := b) (a := k.attrs) (fun q => n (.inl ⟨.attrs, _, rfl, q⟩)), Sig.set_ne (fun q => by rw [q, ha] at e; exact nA e)]; exact e
 ·rcases q with ⟨sl, l, e, rfl⟩ | q
  ·left; left
   induction sl with
   | kid i => exact e42 (.kid i) _ e rfl
   | attrs => exact e42 (.attrs) _ rfl rfl
   | children => exact e42 (.children) _ e rfl
   | kinds => exact e42 (.kinds) _ e rfl
   | spaces => exact e42 (.spaces) _ e rfl
   | names => exact e42 (.names) _ e rfl
   | texts => exact e42 (.texts) _ e rfl
   | parents => exact e42 (.parents) _ e rfl
   | sit => exact e42 (.sit) _ e rfl
   | fit => exact e42 (.fit) _ e rfl
   | err => exact e42 (.err) _ e rfl
  ·have q : b ∈ z.ats ++ [a] := q
   rcases ZqJ.mp q with q | q
   ·exact .inl (.inr q)
   ·refine rE (ZqI.mp q) ?_; exact .inr ha
end
structure TFix (k : Cfg) (σ : Sig) : Prop where
 t : σ k.t = some (.ins 501 k.td)
 td : σ k.td = some (.dic (tdict k))
section
variable {G : Glo} {Γ : Amb} {σ : Sig} {m : Loc} {k : Cfg} {z : Var} {w : PW}
theorem TFix.set {a : Addr} {l l' : List AV} (T : TFix k σ) (e : σ a = some (.lst l)) : TFix k (σ.set a (.lst l')) :=
 ⟨by rw [Sig.set_ne (fun q => by exact clN q.symm e T.t rfl)]; exact T.t, by rw [Sig.set_ne (fun q => by exact clN q.symm e T.td rfl)]; exact T.td⟩
theorem TFix.new {a : Addr} {o : AO} (T : TFix k σ) (e : σ a = none) : TFix k (σ.set a o) := ⟨Zaa e _ _ T.t, Zaa e _ _ T.td⟩
theorem Znd (hK : Is G) (h : TFix k σ) : ZbB G σ k.t "kinds" (.ref k.kinds) := ⟨501, Zao h.t h.td (by kernel_rfl), ZeR hK, rfl⟩
theorem Zmn (hK : Is G) (h : TFix k σ) : ZbB G σ k.t "spaces" (.ref k.spaces) := ⟨501, Zao h.t h.td (by kernel_rfl), Zd5 hK, rfl⟩
theorem Znj (hK : Is G) (h : TFix k σ) : ZbB G σ k.t "names" (.ref k.names) := ⟨501, Zao h.t h.td (by kernel_rfl), ZeM hK, rfl⟩
theorem Zm0 (hK : Is G) (h : TFix k σ) : ZbB G σ k.t "attrs" (.ref k.attrs) := ⟨501, Zao h.t h.td (by kernel_rfl), ZeI hK, rfl⟩
theorem ZmQ (hK : Is G) (h : TFix k σ) : ZbB G σ k.t "texts" (.ref k.texts) := ⟨501, Zao h.t h.td (by kernel_rfl), ZeZ hK, rfl⟩
theorem Zkk (hK : Is G) (h : TFix k σ) : ZbB G σ k.t "parents" (.ref k.parents) := ⟨501, Zao h.t h.td (by kernel_rfl), Zds hK, rfl⟩
theorem Zjq (hK : Is G) (h : TFix k σ) : ZbB G σ k.t "children" (.ref k.children) := ⟨501, Zao h.t h.td (by kernel_rfl), ZcO hK, rfl⟩
theorem Zca {o ec : Expr} {apos pos pos' : Pos} {pl : Sem Bool} {a : Addr} {l : List AV} {v : AV} {rest : List Stmt} {Q : AF -> Sig -> Loc -> Prop} (ho : Ev G Γ σ m o (.ref a)) (e : σ a = some (.lst l)) (hv : Ev G Γ σ m ec v) (hz : l.length <= sizeLine)
  (h : W G Γ FRl (execs rest Γ.env) Q (σ.set a (.lst (l ++ [v]))) m)
  (he : eval (.Call (.Attribute o "append" apos) [ec] [] pos) Γ.env = (do
   let ov <- eval o Γ.env
   standAt apos.atName
   let (f, first) <- holding [ov] (getMethod ov "append" pl)
   callWith pos f first (backTo pos (starEach [ec] Γ.env)) [])) (hst : starEach [ec] Γ.env = (false, eval ec Γ.env) :: starEach [] Γ.env)
  (hp : Plain pos [ec] Γ.env = true) (hi : interactive Γ.env = false) (hs : swapsWith (.Call (.Attribute o "append" apos) [ec] [] pos) none pos'.line Γ.env = pure false) :
  W G Γ FRl (execs (.Expr (.Call (.Attribute o "append" apos) [ec] [] pos) pos' :: rest) Γ.env) Q σ m :=
 Zcm (ZcY PySem.F.slot_list_append PySem.F.type_list_append (ho _ ⟨a, l, rfl, e, Zac (hv _ (Zap (Zbw e hz h))) hst⟩) he hp) hi hs
noncomputable def ZcT (G : Glo) (f : Addr) (names : List Str) (n : Nat) (ds : List Value) : Prop := ∀ o fd, G.K.lookup f = some o -> o.data = .func fd -> ∀ us : List Value, us.length = n -> ∀ s : Shared, G.K.In s.heap -> BindsTo s fd ⟨us, []⟩ (names.zip (us ++ ds))
theorem Zqa {G : Glo} {f : Addr} {names : List Str} {n : Nat} {ds : List Value} {o : Obj} {fd : FuncData} (e : G.K.lookup f = some o) (d : o.data = .func fd) (h : ∀ us : List Value, us.length = n -> ∀ s : Shared, G.K.In s.heap -> BindsTo s fd ⟨us, []⟩ (names.zip (us ++ ds))) : ZcT G f names n ds := fun o' fd' e' d' => by
 have e := sO (e.symm.trans e'); subst e; have d := d.symm.trans d'; injection d with d; subst d; exact h
theorem ZlG {vs dv : List AV} {ds : List Value} {at_ : Addr} {l lk ls ln la lt lp lc : List AV} {kd sp nm tx : Str} (hK : Is G) (hvd : vs ++ dv = [.ref k.t, .str kd, .str sp, .str nm, .ref at_, .str tx]) (rd : VRs dv ds) (hbA : ZcT G 411 ["self", "kind", "space", "name", "attrs", "text"] vs.length ds) (rm : Γ.Room 1) (T : TFix k σ) (h1 : σ k.kinds = some (.lst lk)) (h2 : σ k.spaces = some (.lst ls)) (h3 : σ k.names = some (.lst ln)) (h4 : σ k.attrs = some (.lst la)) (h5 : σ k.texts = some (.lst lt)) (h6 : σ k.parents = some (.lst lp)) (h7 : σ k.children = some (.lst lc))
  (D : [k.kinds, k.spaces, k.names, k.attrs, k.texts, k.parents, k.children].Nodup) (hz : lk.length < LIM /\ ls.length < LIM /\ ln.length < LIM /\ la.length < LIM /\ lt.length < LIM /\ lp.length < LIM /\ lc.length < LIM) (hat : Sees G σ at_ (.tup l)) (hl : l.length <= 1) {Q : AV -> Sig -> Loc -> Prop}
  (q : ∀ aa ac, σ aa = none -> σ ac = none -> aa ≠ ac -> Q (.int (lk.length : Nat)) (((((((((σ.set k.kinds (.lst (lk ++ [.str kd]))).set k.spaces (.lst (ls ++ [.str sp]))).set k.names (.lst (ln ++ [.str nm]))).set aa (.lst l)).set k.attrs (.lst (la ++ [.ref aa]))).set k.texts (.lst (lt ++ [.str tx]))).set k.parents (.lst (lp ++ [.int (-1)]))).set ac (.lst [])).set k.children (.lst (lc ++ [.ref ac]))) m) :
  FC G Γ (.ref 411) vs Q σ m := by
 refine o70 hz fun z1 z2 z3 z4 z5 z6 z7 => ?_; clear hz
 simp only [ZqH, ZqD, Zq1, or_false, not_or, not_false_eq_true, Zsh, and_true] at D
 refine o60 D fun y0 y1 y2 y3 y4 d67 => ?_; clear D; (refine o60 y0 fun d12 d13 d14 d15 d16 d17 => ?_; clear y0); (refine o50 y1 fun d23 d24 d25 d26 d27 => ?_; clear y1); (refine o40 y2 fun d34 d35 d36 d37 => ?_; clear y2); (refine o30 y3 fun d45 d46 d47 => ?_; clear y3); (refine o20 y4 fun d56 d57 => ?_; clear y4)
 have hat3 : ∀ (σ' : Sig) (a : Addr) (l₁ lg : List AV), Sees G σ' at_ (.tup l) -> σ' a = some (.lst l₁) -> Sees G (σ'.set a (.lst lg)) at_ (.tup l) := fun σ' a l₁ lg s e => by
  rcases s with s | s
  ·exact .inl (by rw [Sig.set_ne (fun q => by exact clN q s e rfl)]; exact s)
  ·exact .inr s
 refine ZhA (Is.lk hK (by rfl)) (by repeat constructor) (Is.cd hK (by rfl)) (Amb.Room.le rm (ZqQ _)) rd (fun us hl s X => hbA _ _ (Is.lk hK (by rfl)) rfl us hl s X) (by decide) (by rfl) (by rfl) (by rfl) (by rfl) (by rfl) ?_
 intro n_ n_
 refine rE hvd ?_
 -- kinds
 refine Zca (by walk_at "ev") h1 (by walk_at "ev") (ZaK (by omega)) ?_ (by rfl) (by rfl) (by rfl) (by rfl) (by rfl)
 have T1 := T.set h1 (l' := lk ++ [.str kd])
 have hat1 := hat3 _ _ _ (lk ++ [.str kd]) hat h1
 -- spaces
 have g2 : (σ.set k.kinds (.lst (lk ++ [.str kd]))) k.spaces = some (.lst ls) := by refine rE (Sig.set_ne (Ne.symm d12)) ?_; exact h2
 refine Zca (by walk_at "ev") g2 (by walk_at "ev") (ZaK (by omega)) ?_ (by rfl) (by rfl) (by rfl) (by rfl) (by rfl)
 have T2 := T1.set g2 (l' := ls ++ [.str sp])
 have hat2 := hat3 _ _ _ (ls ++ [.str sp]) hat1 g2
 -- names
 have g3 : ((σ.set k.kinds (.lst (lk ++ [.str kd]))).set k.spaces (.lst (ls ++ [.str sp]))) k.names = some (.lst ln) := by (refine rE (Sig.set_ne (Ne.symm d23)) (rE (Sig.set_ne (Ne.symm d13)) ?_)); exact h3
 refine Zca (by walk_at "ev") g3 (by walk_at "ev") (ZaK (by omega)) ?_ (by rfl) (by rfl) (by rfl) (by rfl) (by rfl)
 have T3 := T2.set g3 (l' := ln ++ [.str nm])
 have hat4 := hat3 _ _ _ (ln ++ [.str nm]) hat2 g3
 -- attrs
 have g4 : (((σ.set k.kinds (.lst (lk ++ [.str kd]))).set k.spaces (.lst (ls ++ [.str sp]))).set k.names (.lst (ln ++ [.str nm]))) k.attrs = some (.lst la) := by (refine rE (Sig.set_ne (Ne.symm d34)) (rE (Sig.set_ne (Ne.symm d24)) (rE (Sig.set_ne (Ne.symm d14)) ?_))); exact h4
 generalize hσ3 : ((σ.set k.kinds (.lst (lk ++ [.str kd]))).set k.spaces (.lst (ls ++ [.str sp]))).set k.names (.lst (ln ++ [.str nm])) = σ₃ at *
 have back : ∀ b, σ₃ b = none -> σ b = none := fun b e => by
  rw [<- hσ3] at e
  by_cases c3 : b = k.names
  ·rw [c3, Sig.set_self] at e; exact nB e
  rw [Sig.set_ne c3] at e
  by_cases c2 : b = k.spaces
  ·rw [c2, Sig.set_self] at e; exact nB e
  rw [Sig.set_ne c2] at e
  by_cases c1 : b = k.kinds
  ·rw [c1, Sig.set_self] at e; exact nB e
  rw [Sig.set_ne c1] at e; exact e
 have g5 : σ₃ k.texts = some (.lst lt) := by (refine rS hσ3 (rE (Sig.set_ne (Ne.symm d35)) (rE (Sig.set_ne (Ne.symm d25)) (rE (Sig.set_ne (Ne.symm d15)) ?_)))); exact h5
 have g6 : σ₃ k.parents = some (.lst lp) := by (refine rS hσ3 (rE (Sig.set_ne (Ne.symm d36)) (rE (Sig.set_ne (Ne.symm d26)) (rE (Sig.set_ne (Ne.symm d16)) ?_)))); exact h6
 have g7 : σ₃ k.children = some (.lst lc) := by (refine rS hσ3 (rE (Sig.set_ne (Ne.symm d37)) (rE (Sig.set_ne (Ne.symm d27)) (rE (Sig.set_ne (Ne.symm d17)) ?_)))); exact h7
 have g1 : σ₃ k.kinds = some (.lst (lk ++ [.str kd])) := by (refine rS hσ3 (rE (Sig.set_ne d13) (rE (Sig.set_ne d12) ?_))); exact Sig.set_self
 refine Zcm (ZcY PySem.F.slot_list_append PySem.F.type_list_append ((show Ev G _ σ₃ _ _ (.ref k.attrs) by walk_at "ev") _ ⟨k.attrs, la, rfl, g4, ?_⟩) (by rfl) (by rfl)) (by rfl) (by rfl)
 refine Zac (Zce (ZnC hK) (by rfl) (by decide) ((show EvA G _ σ₃ _ _ _ [.ref at_] by walk_at "eva") _ (ZmS hat4 (Zrj hl (by decide)) fun aa haa => ?_)) (by rfl) (by rfl) (by decide)) (by rfl)
 refine Zap (Zbw (Zaa haa _ _ g4) (ZaK (by omega)) ?_)
 have T4 : TFix k ((σ₃.set aa (.lst l)).set k.attrs (.lst (la ++ [.ref aa]))) := (T3.new haa).set (Zaa haa _ _ g4)
 have g5' : ((σ₃.set aa (.lst l)).set k.attrs (.lst (la ++ [.ref aa]))) k.texts = some (.lst lt) := by refine rE (Sig.set_ne (Ne.symm d45)) ?_; exact Zaa haa _ _ g5
 have g6' : ((σ₃.set aa (.lst l)).set k.attrs (.lst (la ++ [.ref aa]))) k.parents = some (.lst lp) := by refine rE (Sig.set_ne (Ne.symm d46)) ?_; exact Zaa haa _ _ g6
 have g7' : ((σ₃.set aa (.lst l)).set k.attrs (.lst (la ++ [.ref aa]))) k.children = some (.lst lc) := by refine rE (Sig.set_ne (Ne.symm d47)) ?_; exact Zaa haa _ _ g7
 have g1' : ((σ₃.set aa (.lst l)).set k.attrs (.lst (la ++ [.ref aa]))) k.kinds = some (.lst (lk ++ [.str kd])) := by refine rE (Sig.set_ne d14) ?_; exact Zaa haa _ _ g1
 have back' : ∀ b, ((σ₃.set aa (.lst l)).set k.attrs (.lst (la ++ [.ref aa]))) b = none -> σ b = none /\ aa ≠ b := fun b e => by
  by_cases c3 : b = k.attrs
  ·rw [c3, Sig.set_self] at e; exact nB e
  rw [Sig.set_ne c3] at e
  by_cases c2 : b = aa
  ·rw [c2, Sig.set_self] at e; exact nB e
  rw [Sig.set_ne c2] at e
  exact ⟨back _ e, Ne.symm c2⟩
 have q' : ∀ ac, σ ac = none -> aa ≠ ac -> Q (.int (lk.length : Nat)) ((((((σ₃.set aa (.lst l)).set k.attrs (.lst (la ++ [.ref aa]))).set k.texts (.lst (lt ++ [.str tx]))).set k.parents (.lst (lp ++ [.int (-1)]))).set ac (.lst [])).set k.children (.lst (lc ++ [.ref ac]))) m := fun ac e1 e2 => q aa ac (back _ haa) e1 e2
 clear q T T1 T2 T3 hat hat1 hat2 hat4 g1 g2 g3 g4 g5 g6 g7 h1 h2 h3 h4 h5 h6 h7
 generalize hσ4 : (σ₃.set aa (.lst l)).set k.attrs (.lst (la ++ [.ref aa])) = σ₄ at *
 -- texts
 refine Zca (by walk_at "ev") g5' (by walk_at "ev") (ZaK (by omega)) ?_ (by rfl) (by rfl) (by rfl) (by rfl) (by rfl)
 have T5 := T4.set g5' (l' := lt ++ [.str tx])
 have g6 : (σ₄.set k.texts (.lst (lt ++ [.str tx]))) k.parents = some (.lst lp) := by refine rE (Sig.set_ne (Ne.symm d56)) ?_; exact g6'
 refine Zca (by walk_at "ev") g6 (by walk_at "ev") (ZaK (by omega)) ?_ (by rfl) (by rfl) (by rfl) (by rfl) (by rfl)
 have T6 := T5.set g6 (l' := lp ++ [.int (-1)])
 have g7 : ((σ₄.set k.texts (.lst (lt ++ [.str tx]))).set k.parents (.lst (lp ++ [.int (-1)]))) k.children = some (.lst lc) := by (refine rE (Sig.set_ne (Ne.symm d67)) (rE (Sig.set_ne (Ne.symm d57)) ?_)); exact g7'
 refine Zcm (ZcY PySem.F.slot_list_append PySem.F.type_list_append ((show Ev G _ ((σ₄.set k.texts (.lst (lt ++ [.str tx]))).set k.parents (.lst (lp ++ [.int (-1)]))) _ _ (.ref k.children) by walk_at "ev") _ ⟨k.children, lc, rfl, g7, ?_⟩) (by rfl) (by rfl)) (by rfl) (by rfl)
 refine Zac (Zf1 (Zap ⟨Zrq _, fun ac had => ?_⟩)) (by rfl)
 refine Zap (Zbw (Zaa had _ _ g7) (ZaK (by omega)) ?_)
 have T7 : TFix k ((((σ₄.set k.texts (.lst (lt ++ [.str tx]))).set k.parents (.lst (lp ++ [.int (-1)]))).set ac (.lst [])).set k.children (.lst (lc ++ [.ref ac]))) := (T6.new had).set (Zaa had _ _ g7)
 have hb : σ₄ ac = none := by
  have e := had
  by_cases c3 : ac = k.parents
  ·rw [c3, Sig.set_self] at e; exact nB e
  rw [Sig.set_ne c3] at e
  by_cases c2 : ac = k.texts
  ·rw [c2, Sig.set_self] at e; exact nB e
  rw [Sig.set_ne c2] at e; exact e
 have g1 : ((((σ₄.set k.texts (.lst (lt ++ [.str tx]))).set k.parents (.lst (lp ++ [.int (-1)]))).set ac (.lst [])).set k.children (.lst (lc ++ [.ref ac]))) k.kinds = some (.lst (lk ++ [.str kd])) := by
  refine rE (Sig.set_ne d17) ?_
  refine Zaa had _ _ ?_
  refine rE (Sig.set_ne d16) (rE (Sig.set_ne d15) ?_); exact g1'
 refine ZaI (v := .int (lk.length : Nat)) (Zcf (ZgA (ZbC (id := "len") (Zhy hK) (by rfl) (by decide) (by walk_at "eva") (Zcd (.inl g1) (by refine rE Zqu ?_; exact ZaK z1)) (by rfl) (by rfl) (by decide)) (by walk_at "ev") (by walk_at "evb")) ?_) ?_
 ·refine rE Zqu ?_; congr 1
  refine (?_ : (((lk.length + 1 : Nat) : Int)) - 1 = _)
  omega
 ·exact q' ac (back' _ hb).1 (back' _ hb).2
theorem addW {d : Nd} {t : List Nat} {n : Nat} {w' : PW} {at_ : Addr} {l : List AV} (h : Zab k z σ w) (hi : Items σ l d.let) (e : Zgm w d t = some (n, w')) {aa ac : Addr} (ec : σ aa = none) (ei : σ ac = none) (ne : aa ≠ ac) :
  n = w.nd.length /\ Zab k { z with ats := z.ats ++ [aa], kids := z.kids ++ [ac] } (((((((((σ.set k.kinds (.lst (w.nd.map (fun d => AV.str d.kind) ++ [.str d.kind]))).set k.spaces (.lst (w.nd.map (fun d => AV.str d.space) ++ [.str d.space]))).set k.names (.lst (w.nd.map (fun d => AV.str d.name) ++ [.str d.name]))).set aa (.lst l)).set k.attrs (.lst (z.ats.map AV.ref ++ [.ref aa]))).set k.texts (.lst (w.tx.map (fun t => AV.str (txt t)) ++ [.str (txt t)]))).set k.parents (.lst (w.pa.map AV.int ++ [.int (-1)]))).set ac (.lst [])).set k.children (.lst (z.kids.map AV.ref ++ [.ref ac]))) w' /\
   Zcr k z w σ { z with ats := z.ats ++ [aa], kids := z.kids ++ [ac] } w' (((((((((σ.set k.kinds (.lst (w.nd.map (fun d => AV.str d.kind) ++ [.str d.kind]))).set k.spaces (.lst (w.nd.map (fun d => AV.str d.space) ++ [.str d.space]))).set k.names (.lst (w.nd.map (fun d => AV.str d.name) ++ [.str d.name]))).set aa (.lst l)).set k.attrs (.lst (z.ats.map AV.ref ++ [.ref aa]))).set k.texts (.lst (w.tx.map (fun t => AV.str (txt t)) ++ [.str (txt t)]))).set k.parents (.lst (w.pa.map AV.int ++ [.int (-1)]))).set ac (.lst [])).set k.children (.lst (z.kids.map AV.ref ++ [.ref ac]))) := by
 unfold Zgm at e
 split at e
 case isFalse => exact nA e
 case isTrue hz =>
 refine o40 hz fun z1 z2 z3 z4 => ?_; clear hz
 cases e
 refine ⟨rfl, ?_⟩
 have keepNone : ∀ (σ' : Sig) (sl : Sl) (wd : Wd) (lh l' : List AV) (b : Addr), WorldZ k z σ' wd -> val wd z sl = some lh -> σ' b = none -> (σ'.set (adr k z sl) (.lst l')) b = none := fun σ' sl wd lh l' b hh hv hb => by
  rw [Sig.set_ne (fun q => by have := hh.obj _ _ hv; rw [<- q, hb] at this; exact nA this)]; exact hb
 have s1 := WorldZ.turnX h .kinds (l' := (w.nd.map Nd.kind ++ [d.kind]).map AV.str) (w' := { mk w with kinds := w.nd.map Nd.kind ++ [d.kind] }) rfl (fun sl' => by induction sl' <;> rfl) (by simpa using ZrA z1) rfl rfl rfl
 have n1 : ∀ b, σ b = none -> _ := fun b hb => keepNone σ .kinds (mk w) _ ((w.nd.map Nd.kind ++ [d.kind]).map AV.str) b h rfl hb
 have s2 := WorldZ.turnX s1.1 .spaces (l' := (w.nd.map Nd.space ++ [d.space]).map AV.str) (w' := { mk w with kinds := w.nd.map Nd.kind ++ [d.kind], spaces := w.nd.map Nd.space ++ [d.space] }) rfl (fun sl' => by induction sl' <;> rfl) (by simpa using ZrA z1) rfl rfl rfl
 have n2 : ∀ b, σ b = none -> _ := fun b hb => keepNone _ .spaces _ _ ((w.nd.map Nd.space ++ [d.space]).map AV.str) b s1.1 rfl (n1 b hb)
 have s3 := WorldZ.turnX s2.1 .names (l' := (w.nd.map Nd.name ++ [d.name]).map AV.str) (w' := { mk w with kinds := w.nd.map Nd.kind ++ [d.kind], spaces := w.nd.map Nd.space ++ [d.space], names := w.nd.map Nd.name ++ [d.name] }) rfl (fun sl' => by induction sl' <;> rfl) (by simpa using ZrA z1) rfl rfl rfl
 have n3 : ∀ b, σ b = none -> _ := fun b hb => keepNone _ .names _ _ ((w.nd.map Nd.name ++ [d.name]).map AV.str) b s2.1 rfl (n2 b hb)
 have x3 := (s1.2.trans s2.2).trans s3.2
 replace s3 := s3.1
 have hi3 : Items ((((σ.set (adr k z .kinds) (.lst ((w.nd.map Nd.kind ++ [d.kind]).map AV.str))).set (adr k z .spaces) (.lst ((w.nd.map Nd.space ++ [d.space]).map AV.str))).set (adr k z .names) (.lst ((w.nd.map Nd.name ++ [d.name]).map AV.str)))) l d.let := by
  induction hc : d.let with
  | none => rw [hc] at hi; exact hi
  | some c =>
   rw [hc] at hi
   refine o31 hi fun p hl hp => ?_; clear hi
   refine e31 p hl (x3.keep p _ hp fun o => ?_)
   refine o21 (h.own o) fun l' hl' => ?_
   exact clN rfl hl' hp rfl
 have s4 := s3.addAttr (c := d.let) (n3 aa ec) (hi3.attr (n3 aa ec)) (by simpa [mk] using z1)
 have x4 := x3.trans (s3.addAttrX (c := d.let) (lv := l) (n3 aa ec))
 have n4 : ((((((σ.set (adr k z .kinds) (.lst ((w.nd.map Nd.kind ++ [d.kind]).map AV.str))).set (adr k z .spaces) (.lst ((w.nd.map Nd.space ++ [d.space]).map AV.str))).set (adr k z .names) (.lst ((w.nd.map Nd.name ++ [d.name]).map AV.str)))).set aa (.lst l)).set k.attrs (.lst ((z.ats ++ [aa]).map AV.ref))) ac = none := by
  rewrite [Sig.set_ne (fun q => by have := s3.obj .attrs _ rfl; rw [show adr k z .attrs = k.attrs from rfl, <- q, n3 _ ei] at this; exact nA this)]; refine rE (Sig.set_ne (Ne.symm ne)) ?_
  exact n3 _ ei
 have s5 := WorldZ.turnX s4 .texts (l' := (w.tx.map txt ++ [txt t]).map AV.str) (w' := { mk w with kinds := w.nd.map Nd.kind ++ [d.kind], spaces := w.nd.map Nd.space ++ [d.space], names := w.nd.map Nd.name ++ [d.name], lets := w.nd.map Nd.let ++ [d.let], texts := w.tx.map txt ++ [txt t] }) rfl (fun sl' => by induction sl' <;> rfl) (by simpa using ZrA z2) rfl rfl rfl
 have n5 := Sig.set_ne (σ := _) (o := AO.lst ((w.tx.map txt ++ [txt t]).map AV.str)) (fun q : ac = k.texts => by have := s4.obj .texts _ rfl; rw [show adr k _ .texts = k.texts from rfl, <- q, n4] at this; exact nA this) |>.trans n4
 have s6 := WorldZ.turnX s5.1 .parents (l' := (w.pa ++ [-1]).map AV.int) (w' := { mk w with kinds := w.nd.map Nd.kind ++ [d.kind], spaces := w.nd.map Nd.space ++ [d.space], names := w.nd.map Nd.name ++ [d.name], lets := w.nd.map Nd.let ++ [d.let], texts := w.tx.map txt ++ [txt t], parents := w.pa ++ [-1] }) rfl (fun sl' => by induction sl' <;> rfl) (by simpa using ZrA z3) rfl rfl rfl
 have n6 := Sig.set_ne (σ := _) (o := AO.lst ((w.pa ++ [-1]).map AV.int)) (fun q : ac = k.parents => by have := s5.1.obj .parents _ rfl; rw [show adr k _ .parents = k.parents from rfl, <- q] at this; exact absurd (this.symm.trans n5) nofun) |>.trans n5
 have s7 := s6.1.addKid n6 (by simpa [mk] using z4)
 have x7 := (((x4.trans s5.2).trans s6.2).trans (s6.1.addKidX n6 (by simpa [mk] using z4)))
 have hm : mk { w with nd := w.nd ++ [d], tx := w.tx ++ [t], pa := w.pa ++ [-1], ch := w.ch ++ [[]] } = { mk w with kinds := w.nd.map Nd.kind ++ [d.kind], spaces := w.nd.map Nd.space ++ [d.space], names := w.nd.map Nd.name ++ [d.name], lets := w.nd.map Nd.let ++ [d.let], texts := w.tx.map txt ++ [txt t], parents := w.pa ++ [-1], ch := w.ch ++ [[]] } := by
  simp [mk]
 refine (?_ : WorldZ k _ _ (mk _) /\ Ext k z (mk w) σ _ (mk _) _)
 refine rE hm ?_
 simp only [adr, ZqB, ZqV, ZqP, ZsP] at s7 x7
 exact ⟨s7, x7⟩
theorem mapmap {α β γ : Type} (f : α -> β) (g : β -> γ) (l : List α) : (l.map f).map g = l.map fun x => g (f x) := by refine rE ZqV ?_; rfl
theorem Zjp (h : Zab k z σ w) : [k.kinds, k.spaces, k.names, k.attrs, k.texts, k.parents, k.children].Nodup := by
 have f : ∀ a b : Sl, a ≠ b -> (∃ l, val (mk w) z a = some l) -> (∃ l, val (mk w) z b = some l) -> adr k z a ≠ adr k z b := fun a b n ⟨l, e⟩ ⟨l', e'⟩ q => n (h.inj a b l l' e e' q)
 have g : ∀ a : Sl, (∀ i, a ≠ .kid i) -> ∃ l, val (mk w) z a = some l := fun a n => by induction a <;> first | exact ⟨_, rfl⟩ | exact absurd rfl (n _)
 have ff : ∀ a b : Sl, a ≠ b -> (∀ i, a ≠ .kid i) -> (∀ i, b ≠ .kid i) -> adr k z a ≠ adr k z b := fun a b n na nb => f a b n (g a na) (g b nb)
 simp only [ZqH, ZqD, Zq1, or_false, not_or, not_false_eq_true, Zsh, and_true]
 exact ⟨⟨ff .kinds .spaces nofun nofun nofun, ff .kinds .names nofun nofun nofun, ff .kinds .attrs nofun nofun nofun, ff .kinds .texts nofun nofun nofun, ff .kinds .parents nofun nofun nofun, ff .kinds .children nofun nofun nofun⟩,
  ⟨ff .spaces .names nofun nofun nofun, ff .spaces .attrs nofun nofun nofun, ff .spaces .texts nofun nofun nofun, ff .spaces .parents nofun nofun nofun, ff .spaces .children nofun nofun nofun⟩,
  ⟨ff .names .attrs nofun nofun nofun, ff .names .texts nofun nofun nofun, ff .names .parents nofun nofun nofun, ff .names .children nofun nofun nofun⟩,
  ⟨ff .attrs .texts nofun nofun nofun, ff .attrs .parents nofun nofun nofun, ff .attrs .children nofun nofun nofun⟩,
  ⟨ff .texts .parents nofun nofun nofun, ff .texts .children nofun nofun nofun⟩, ff .parents .children nofun nofun nofun⟩
theorem Zip {vs dv : List AV} {ds : List Value} {d : Nd} {t : List Nat} {n : Nat} {w' : PW} {at_ : Addr} {l : List AV} (hK : Is G) (h : Zab k z σ w) (rm : Γ.Room 1) (hat : Sees G σ at_ (.tup l)) (hi : Items σ l d.let) (e : Zgm w d t = some (n, w')) (hvd : vs ++ dv = [.ref k.t, .str d.kind, .str d.space, .str d.name, .ref at_, .str (txt t)]) (rd : VRs dv ds) (hbA : ZcT G 411 ["self", "kind", "space", "name", "attrs", "text"] vs.length ds) :
  EvW G Γ σ m k z w (.ref 411) vs (.int n) w' := fun Q q => by
 have hz : w.nd.length < LIM /\ w.tx.length < LIM /\ w.pa.length < LIM /\ w.ch.length < LIM := by
  unfold Zgm at e
  split at e
  case isFalse => exact nA e
  case isTrue hz => exact hz
 refine o40 hz fun z1 z2 z3 z4 => ?_; clear hz
 have la : z.ats.length = (w.nd.map Nd.let).length := h.la
 have lk : z.kids.length = w.ch.length := h.lk
 refine ZlG hK hvd rd hbA rm ⟨h.fix.t, h.fix.td⟩ (lk := w.nd.map (fun d => AV.str d.kind)) (ls := w.nd.map (fun d => AV.str d.space)) (ln := w.nd.map (fun d => AV.str d.name)) (la := z.ats.map AV.ref) (lt := w.tx.map (fun t => AV.str (txt t))) (lp := w.pa.map AV.int) (lc := z.kids.map AV.ref)
  (by have := h.obj .kinds _ rfl; rw [mk] at this; simp only [mapmap] at this; exact this) (by have := h.obj .spaces _ rfl; rw [mk] at this; simp only [mapmap] at this; exact this) (by have := h.obj .names _ rfl; rw [mk] at this; simp only [mapmap] at this; exact this) (h.obj .attrs _ rfl)
  (by have := h.obj .texts _ rfl; rw [mk] at this; simp only [mapmap] at this; exact this) (h.obj .parents _ rfl) (h.obj .children _ rfl) (Zjp h) (by simp only [Zqt] at la ⊢; exact ⟨z1, z1, z1, ZrM (ZrS la) z1, z2, z3, ZrM (ZrS lk) z4⟩) hat hi.len fun aa ac ec ei ne => ?_
 refine o30 (addW (at_ := at_) h hi e ec ei ne) fun e0 s x => ?_
 refine rE (Zqt _) (rS e0 ?_)
 exact q _ _ s x
theorem Znl {d : Nd} {t : List Nat} {n : Nat} {w' : PW} {at_ : Addr} {l : List AV} (hK : Is G) (h : Zab k z σ w) (rm : Γ.Room 1) (hat : Sees G σ at_ (.tup l)) (hi : Items σ l d.let) (e : Zgm w d t = some (n, w')) :
  EvW G Γ σ m k z w (.ref 411) [.ref k.t, .str d.kind, .str d.space, .str d.name, .ref at_, .str (txt t)] (.int n) w' := Zip hK h rm hat hi e (dv := []) (ds := []) rfl .nil (by walk_at "bindsAt")
theorem Zmo {d : Nd} {n : Nat} {w' : PW} {at_ : Addr} {l : List AV} (hK : Is G) (h : Zab k z σ w) (rm : Γ.Room 1) (hat : Sees G σ at_ (.tup l)) (hi : Items σ l d.let) (e : Zgm w d [] = some (n, w')) :
  EvW G Γ σ m k z w (.ref 411) [.ref k.t, .str d.kind, .str d.space, .str d.name, .ref at_] (.int n) w' := Zip hK h rm hat hi e (dv := [.str ""]) (ds := [.str "" 733]) rfl (.cons ⟨_, rfl⟩ .nil) (by walk_at "bindsAt")
end
section
variable {G : Glo} {Γ : Amb} {σ : Sig} {m : Loc} {k : Cfg} {z : Var} {w : PW}
theorem Ziv (t : Tag) : decide (t.str = ("template" : Str)) = false := by induction t <;> decide
theorem ZnO {a b : Str} : opS .Eq a b = decide (a = b) := rfl
theorem Ze0 {t : Tag} {c : Option Nat} {n : Nat} {w' : PW} {at_ : Addr} {l : List AV} {vs dv : List AV} {ds : List Value} (hK : Is G) (h : Zab k z σ w) (rm : Γ.Room 2) (hat : Sees G σ at_ (.tup l)) (hi : Items σ l c) (e : Zgm w (.el t c) [] = some (n, w'))
  (hvd : vs ++ dv = [.ref k.t, .str t.str, .str "html", .ref at_]) (rd : VRs dv ds) (hbA : ZcT G 420 ["self", "name", "space", "attrs"] vs.length ds) :
  EvW G Γ σ m k z w (.ref 420) vs (.int n) w' := by
 refine ZfV (Is.lk hK (by rfl)) (by repeat constructor) (Is.cd hK (by rfl)) (Amb.Room.le rm (ZqQ _)) rd (fun us hl s X => hbA _ _ (Is.lk hK (by rfl)) rfl us hl s X) (by decide) (by rfl) (by rfl) (by rfl) (by rfl) (by rfl) ?_
 intro n_ n_
 refine rE hvd ?_
 refine Zcn (Zak (vs := [.str "element", .str "html", .str t.str, .ref at_]) (by walk_at "ev") (by walk_at "meth") (by walk_at "eva") (Zmo (d := .el t c) hK h (by walk_at "rm") hat hi e) (by rfl) (by rfl)) (fun z' σ' h' x' => ?_) (by rfl) (by rfl)
 walk_at "if" <;> intro hb
 ·rw [ZnO, ZnO, Ziv] at hb
  simp at hb
 ·refine Zah ?_
  walk_at "ret"
  exact Zdj rfl h' x'
theorem Zld {t : List Nat} {n : Nat} {w' : PW} (hK : Is G) (h : Zab k z σ w) (rm : Γ.Room 2) (e : Zgm w .tx t = some (n, w')) : EvW G Γ σ m k z w (.ref 427) [.ref k.t, .str (txt t)] (.int n) w' := by
 walk_at "defW"
 refine Zan (ZaZ ?_)
 refine o31 (ZjL hK h) fun C h1 h2 => ?_
 refine ZgI ((show Ev G _ σ _ _ (.ref k.t) by walk_at "ev") _ ⟨k.t, C, _, rfl, h1, h2, ?_⟩) (by rfl) (by rfl)
 refine Zac (ZeS _ (Zac (ZeS _ (Zac (ZeS _ (Zac (ZaE (Zap ⟨Zrq _, fun a ha => ?_⟩)) (by rfl))) (by rfl))) (by rfl))) (by rfl)
 have h' : Zab k z (σ.set a (.tup [])) w := h.mono (Zaa ha)
 refine Zac ((show Ev G _ _ _ _ (.str (txt t)) by walk_at "ev") _ (Zap ?_)) (by rfl)
 exact Znl (d := .tx) hK h' (by walk_at "rm") (.inl Sig.set_self) rfl e _ fun z' σ' h2 x2 => Zdj (m' := m) rfl h2 ((Ext.more (Zaa ha)).trans x2)
theorem Zkl : ∀ {f n : Nat} {ab : List Nat}, Zbj w f n = some ab -> ab.length <= f := by
 refine @Zqj _ ?_ ?_
 ·intro n ab e
  exact nomatch e
 ·intro f ih n ab e
  unfold Zbj at e
  split at e
  ·exact nA e
  ·split at e
   ·(replace e := sO e; subst e); exact Zrq _
   ·split at e
    ·exact nA e
    ·induction q : Zbj w f _ with
     | none => rw [q] at e; injection e
     | some r => rw [q] at e; (replace e := sO e; subst e); have := ih q; refine rE ZqF ?_; omega
inductive Up (w : PW) : Int -> List Nat -> Prop
 | nil : Up w (-1) []
 | cons {u : Nat} {p : Int} {r : List Nat} : w.pa[u]? = some p -> Up w p r -> Up w u (u :: r)
theorem Up.of : ∀ {f n : Nat} {ab : List Nat}, Zbj w f n = some ab -> ∃ p, w.pa[n]? = some p /\ Up w p ab := by
 refine @Zqj _ ?_ ?_
 ·intro n ab e
  exact nomatch e
 ·intro f ih n ab e
  unfold Zbj at e
  split at e
  ·exact nA e
  ·rename_i p hp
   split at e
   ·rename_i h1; (replace e := sO e; subst e); exact e31 p hp (h1 ▸ .nil)
   ·split at e
    ·exact nA e
    ·rename_i h2
     induction q : Zbj w f p.toNat with
     | none => rw [q] at e; injection e
     | some r =>
      rw [q] at e; (replace e := sO e; subst e)
      refine o31 (ih q) fun p' hp' u' => ?_
      refine e31 p hp ?_
      have : p = (p.toNat : Int) := by omega
      refine rE this ?_
      exact .cons hp' u'
theorem ZgL {f n : Nat} {ab : List Nat} (hK : Is G) (h : Zab k z σ w) (rm : Γ.Room 1) (hf : f <= LIM) (e : Zbj w f n = some ab) {Q : AV -> Sig -> Loc -> Prop} (q : ∀ a, σ a = none -> Q (.ref a) (σ.set a (.lst (ab.map nv))) m) : FC G Γ (.ref 512) [.ref k.t, .int n] Q σ m := by
 refine o31 (Up.of e) fun p hp up => ?_
 have hlen := Zkl e
 walk_at "defF"
 refine Zan (Zax (Zf1 (Zap ⟨Zrq _, fun a ha => ?_⟩)) (by rfl) (by rfl))
 have h1 : Zab k z (σ.set a (.lst [])) w := h.mono (Zaa ha)
 refine ZaS (v := .int p) (by walk_at "ev") ?_ (by rfl) (by rfl)
 refine Zan (ZdA (fun j σ' m' => ∃ acc up rest, σ' = σ.set a (.lst (acc.map nv)) /\ HasL [("tree", .ref k.t), ("out", .ref a), ("up", .int up)] m' /\ Up w up rest /\ acc ++ rest = ab /\ j = rest.length) ab.length ⟨[], p, ab, rfl, ⟨rfl, rfl, rfl, trivial⟩, up, rfl, rfl⟩ ?_)
 rintro j σ' m' ⟨acc, up', rest, rfl, hl, hup, hacc, rfl⟩
 refine Zbb hl ?_
 have h2 : Zab k z (σ.set a (.lst (acc.map nv))) w := h.mono (Zaa ha)
 refine (show EvT G _ _ _ _ (opI .NotEq up' (-1)) by walk_at "evt") _ ?_
 cases hup with
 | nil =>
  refine ZaI (by walk_at "ev") ?_
  rw [ZqR] at hacc
  subst hacc
  exact q a ha
 | @cons u p' r hp' hr =>
  refine rE Zbp ?_; rw [decide_eq_true (by omega)]
  have hz : acc.length < LIM := by have := congrArg Zrn hacc; rw [Zqu, ZqF] at this; omega
  refine Zca (by walk_at "ev") Sig.set_self (by walk_at "ev") (ZaK (by refine rE (Zqt _) ?_; omega)) ?_ (by rfl) (by rfl) (by rfl) (by rfl) (by rfl)
  have e2 : (σ.set a (.lst (acc.map nv))).set a (.lst (acc.map nv ++ [.int u])) = σ.set a (.lst ((acc ++ [u]).map nv)) := by
   funext b
   unfold Sig.set
   split
   ·refine rE ZqB ?_; rfl
   ·rfl
  refine rE e2 ?_
  have h3 : Zab k z (σ.set a (.lst ((acc ++ [u]).map nv))) w := h.mono (Zaa ha)
  refine ZaS (v := .int p') (by walk_at "ev") ?_ (by rfl) (by rfl)
  exact Zah ⟨r.length, by refine rE ZqF ?_; omega, acc ++ [u], p', r, rfl, ⟨rfl, rfl, rfl, trivial⟩, hr, by refine rE (ZqN _ _ _) ?_; exact hacc, rfl⟩
theorem ZiY {n : Nat} {w' : PW} (hK : Is G) (h : Zab k z σ w) (rm : Γ.Room 1) (e : ZbQ w n = some w') : EvW G Γ σ m k z w (.ref 463) [.ref k.t, .int n] .none w' := by
 unfold ZbQ at e
 split at e
 ·exact nA e
 rename_i p hp
 walk_at "defW"
 walk_at "if" <;> intro hb
 ·have hb : p ≠ -1 := of_decide_eq_true hb
  rw [if_neg hb] at e
  split at e
  ·exact nA e
  rename_i h2
  have hpn : p = (p.toNat : Int) := by omega
  split at e
  ·exact nA e
  rename_i l hl
  split at e
  case isFalse => exact nA e
  rename_i hn
  (replace e := sO e; subst e)
  rw [hpn] at hp
  generalize p.toNat = u at *
  refine Zal (Zbf PySem.F.slot_list_remove PySem.F.type_list_remove (show Ev G _ σ _ _ (.ref (adr k z (.kid u))) by walk_at "ev") (ZlR h hl) (by walk_at "eva") (Zpu h hl hn) (by rfl) (by rfl)) (fun z' σ' h' x' => ?_) (by rfl) (by rfl)
  refine Zkd ((show Ev G _ σ' _ _ (.int (-1)) by walk_at "ev") _ ⟨k.parents, w.pa.map AV.int, n, by walk_at "ev", by walk_at "ev", h'.obj .parents _ rfl, by refine rE (Zqt _) ?_; exact (ZqU.mp hp).1, h'.le' .parents rfl, ?_⟩) (by rfl)
  have t := Zmh h' (l := w.pa.set n (-1)) (by refine rE Zra ?_; have := h'.small .parents _ rfl; simpa [mk] using this)
  rw [ZrK] at t
  exact Zah (Zah (Zba t.1 (x'.trans t.2)))
 ·have hb : p = -1 := by rw [Zbp] at hb; simpa using hb
  rw [if_pos hb] at e
  (replace e := sO e; subst e)
  exact Zah (Zah (Zba h .refl))
end
section
variable {G : Glo} {Γ : Amb} {σ : Sig} {m : Loc} {k : Cfg} {z : Var} {w : PW}
theorem Goes.congr {u : Value} {n : Nat} {item item' : Nat -> AV} {J : Sig -> Prop} {σ₀ : Sig} {m₀ : Loc} (h : Goes G Γ u n item J σ₀ m₀) (e : ∀ i, i < n -> item i = item' i) : Goes G Γ u n item' J σ₀ m₀ := fun s Q hR k => h s Q hR fun ob It hf St it0 =>
 k ob It hf ⟨St.there, St.keep, fun i s₁ Q' σ' m' hi hit hR' hJ kk => St.next i s₁ Q' σ' m' hi hit hR' hJ fun v h' tk r => kk v h' tk (e i hi ▸ r), St.stop⟩ it0
theorem ZfZ {a : Addr} {l : List Nat} {σ₀ : Sig} {m₀ : Loc} (e : Sees G σ₀ a (.lst (l.map nv))) : Goes G Γ (.ref a) l.length (fun i => .int (l.getD i 0 : Nat)) (fun σ => Sees G σ a (.lst (l.map nv))) σ₀ m₀ := by
 have := Zeb (Γ := Γ) (m₀ := m₀) e
 rw [Zqt] at this
 exact this.congr fun i hi => by
  refine rE ZqE (rE ZqE (rE Zq0 (rE (ZqA hi) ?_))); rfl
theorem Zf0 {l : List Nat} {i : Nat} (hi : i < l.length) : l.drop i = l.getD i 0 :: l.drop (i + 1) := by
 refine rE ZqE (rE (ZqA hi) ?_); exact List.drop_eq_getElem_cons hi
theorem Zp0 (h : Zab k z σ w) : w.pa.length <= LIM := by have := h.small .parents _ rfl; simpa [mk] using this
theorem ZeU {p n : Nat} {w' : PW} {vs dv : List AV} {ds : List Value} (hK : Is G) (h : Zab k z σ w) (rm : Γ.Room 2) (e : Za7 w p n = some w')
  (hvd : vs ++ dv = [.ref k.t, .int p, .int n, .int (-1)]) (rd : VRs dv ds) (hbA : ZcT G 449 ["self", "parent", "node", "before"] vs.length ds) :
  EvW G Γ σ m k z w (.ref 449) vs .none w' := by
 unfold Za7 at e
 split at e
 ·exact nA e
 rename_i hne
 refine bE e fun ab hab e => ?_
 split at e
 ·exact nA e
 rename_i hnab
 refine bE e fun w₁ hw1 e => ?_
 refine bE e fun l hl e => ?_
 split at e
 case isFalse => exact nA e
 rename_i hz
 refine o20 hz fun hz1 hz2 => ?_; clear hz
 (replace e := sO e; subst e)
 refine ZfV (Is.lk hK (by rfl)) (by repeat constructor) (Is.cd hK (by rfl)) (Amb.Room.le rm (ZqQ _)) rd (fun us hl s X => hbA _ _ (Is.lk hK (by rfl)) rfl us hl s X) (by decide) (by rfl) (by rfl) (by rfl) (by rfl) (by rfl) ?_
 intro n_ n_
 refine rE hvd ?_
 -- node == parent or node in above(self, parent)
 refine Za8 (b := false) (Zbk (ZaD (a := false) (Zai (by walk_at "evt") (by refine rE Zb6 ?_; exact decide_eq_false (by omega))) fun n_ => ZaD (a := false) (b := false) ?_ fun n_ => ZaQ)) (fun hb => absurd hb (by decide)) (fun n_ => Zah ?_)
 ·intro Q q
  refine ZbE (ZbI ((show Ev G _ σ _ _ (.int n) by walk_at "ev") _ (Zay (Zjk hK) (Zju hK) ((show EvA G _ σ _ _ _ [.ref k.t, .int p] by walk_at "eva") _ (ZgL hK h (by walk_at "rm") (by decide) hab fun a ha A B ra rb => Zg2 (.inl Sig.set_self) rb ra ⟨_, rfl, σ, _, Zaa ha, fun n_ n_ e => e, ?_⟩)) (by rfl) (by rfl) (by decide))) (by walk_at "u"))
  refine rE (decide_eq_false hnab) ?_; exact q
 -- before != -1 and ..
 refine Za8 (b := false) (Zbk (ZaA (a := false) (b := false) (Zai (by walk_at "evt") (by rfl)) fun hb => absurd hb (by decide))) (fun hb => absurd hb (by decide)) (fun n_ => Zah ?_)
 -- before == node
 refine Za8 (b := false) (Zai (by walk_at "evt") (by refine rE Zb6 ?_; exact decide_eq_false (by omega))) (fun hb => absurd hb (by decide)) (fun n_ => Zah ?_)
 refine Zal (Zak (by walk_at "ev") (by walk_at "meth") (by walk_at "eva") (ZiY hK h (by walk_at "rm") hw1) (by rfl) (by rfl)) (fun za σ₁ h₁ x₁ => ?_) (by rfl) (by rfl)
 refine ZaS (v := .int (l.length : Nat)) (by walk_at "ev") ?_ (by rfl) (by rfl)
 refine Za8 (b := false) (Zai (by walk_at "evt") (by rfl)) (fun hb => absurd hb (by decide)) (fun n_ => Zah ?_)
 refine Zal (Zbf PySem.F.slot_list_insert PySem.F.type_list_insert (show Ev G _ σ₁ _ _ (.ref (adr k za (.kid p))) by walk_at "ev") (ZlR h₁ hl) (by walk_at "eva") (Zpd h₁ hl hz1) (by rfl) (by rfl)) (fun zb σ₂ h₂ x₂ => ?_) (by rfl) (by rfl)
 refine Zkd ((show Ev G _ σ₂ _ _ (.int p) by walk_at "ev") _ ⟨k.parents, w₁.pa.map AV.int, n, by walk_at "ev", by walk_at "ev", h₂.obj .parents _ rfl, by refine rE (Zqt _) ?_; exact hz2, h₂.le' .parents rfl, ?_⟩) (by rfl)
 have t := Zmh h₂ (l := w₁.pa.set n p) (by refine rE Zra ?_; have := Zp0 h₂; exact this)
 rw [ZrK] at t
 exact Zah (Zba t.1 ((x₁.trans x₂).trans t.2))
theorem ZdB {p n : Nat} {w' : PW} (hK : Is G) (h : Zab k z σ w) (rm : Γ.Room 2) (e : Za7 w p n = some w') : EvW G Γ σ m k z w (.ref 449) [.ref k.t, .int p, .int n, .int (-1)] .none w' :=
 ZeU hK h rm e (dv := []) (ds := []) rfl .nil (by walk_at "bindsAt")
theorem Zio {p n : Nat} {w' : PW} (hK : Is G) (h : Zab k z σ w) (rm : Γ.Room 2) (e : Za7 w p n = some w') : EvW G Γ σ m k z w (.ref 449) [.ref k.t, .int p, .int n] .none w' :=
 ZeU hK h rm e (dv := [.int (-1)]) (ds := [.int (-1) 785]) rfl (.cons ⟨_, rfl⟩ .nil) (by walk_at "bindsAt")
theorem ZbZ {p n : Nat} {w' : PW} (hK : Is G) (h : Zab k z σ w) (rm : Γ.Room 3) (e : Za7 w p n = some w') : EvW G Γ σ m k z w (.ref 456) [.ref k.t, .int p, .int n] .none w' := by
 walk_at "defW"
 refine Zal (Zak (by walk_at "ev") (by walk_at "meth") (by walk_at "eva") (Zio hK h (by walk_at "rm") e) (by rfl) (by rfl)) (fun za σ₁ h₁ x₁ => ?_) (by rfl) (by rfl)
 exact Zah (Zba h₁ x₁)
theorem Zlc {p q : Nat} {w' : PW} (hK : Is G) (h : Zab k z σ w) (rm : Γ.Room 4) (e : Zk6 w q p = some w') : EvW G Γ σ m k z w (.ref 470) [.ref k.t, .int q, .int p] .none w' := by
 unfold Zk6 at e
 refine bE e fun ab hab e => ?_
 split at e
 ·exact nA e
 rename_i hnab
 refine bE e fun l hl e => ?_
 walk_at "defW"
 refine Za8 (b := false) ?_ (fun hb => absurd hb (by decide)) (fun n_ => Zah ?_)
 ·intro Q q'
  refine ZbE (ZbI ((show Ev G _ σ _ _ (.int q) by walk_at "ev") _ (Zay (Zjk hK) (Zju hK) ((show EvA G _ σ _ _ _ [.ref k.t, .int p] by walk_at "eva") _ (ZgL hK h (by walk_at "rm") (by decide) hab fun a ha A B ra rb => Zg2 (.inl Sig.set_self) rb ra ⟨_, rfl, σ, _, Zaa ha, fun n_ n_ e => e, ?_⟩)) (by rfl) (by rfl) (by decide))) (by walk_at "u"))
  refine rE (decide_eq_false hnab) ?_; exact q'
 refine Zan (Zo6 (Zce (ZnC hK) (by rfl) (by decide) ((show EvA G _ σ _ _ _ [.ref (adr k z (.kid q))] by walk_at "eva") _ (ZmI (.inl (ZlR h hl)) (ZaK (by refine rE (Zqt _) ?_; exact ZpX h hl)) fun a ha => ?_)) (by rfl) (by rfl) (by decide)) (by rfl) (by intro n_; rfl))
 have ha' : ∀ za w₁ σ₁, Zcr k z w (σ.set a (.lst (l.map nv))) za w₁ σ₁ -> σ₁ a = some (.lst (l.map nv)) := fun za w₁ σ₁ x => x.keep a _ Sig.set_self fun o => by
  refine o21 (h.own o) fun l' hl' => ?_
  rw [ha] at hl'; exact nA hl'
 refine ⟨l.length, fun i => .int (l.getD i 0 : Nat), fun σ' => Sees G σ' a (.lst (l.map nv)), fun i σ' m' => ∃ za w₁, Zab k za σ' w₁ /\ Zcr k z w (σ.set a (.lst (l.map nv))) za w₁ σ' /\ Zck w₁ p (l.drop i) = some w' /\ HasL [("self", .ref k.t), ("there", .int p)] m', fun u r => ?_, ?_, ?_, ?_, ?_⟩
 ·subst r
  exact ZfZ (.inl Sig.set_self)
 ·exact e62 z w (h.mono (Zaa ha)) (.refl) e ⟨rfl, rfl, trivial⟩
 ·rintro i σ' m' ⟨za, w₁, h₁, x₁, _⟩
  exact .inl (ha' _ _ _ x₁)
 ·rintro i σ' m' hi ⟨za, w₁, h₁, x₁, ec, hm⟩
  rw [Zf0 hi] at ec
  refine bE ec fun w₂ hwa ei => ?_
  refine Zbb (l := [("child", .int (l.getD i 0 : Nat)), ("self", .ref k.t), ("there", .int p)]) ⟨rfl, hm.1, hm.2.1, trivial⟩ ?_
  refine Zal (Zak (by walk_at "ev") (by walk_at "meth") (by walk_at "eva") (ZbZ hK h₁ (by walk_at "rm") hwa) (by rfl) (by rfl)) (fun zb σ₂ h₂ x₂ => ?_) (by rfl) (by rfl)
  exact Zah ⟨zb, w₂, h₂, x₁.trans x₂, ei, ⟨rfl, rfl, trivial⟩⟩
 ·rintro σ' m' ⟨za, w₁, h₁, x₁, ec, hm⟩
  rw [ZsR] at ec
  (replace ec := sO ec; subst ec)
  exact Zah (Zba h₁ ((Ext.more (Zaa ha)).trans x₁))
end
section
variable {G : Glo} {Γ : Amb} {σ : Sig} {m : Loc} {k : Cfg} {z : Var} {w : PW}
theorem Zd2 {x : Str} {p : Pos} {v : AV} {u : Value} {Q : Unit -> Sig -> Loc -> Prop} (r : VR v u) (h : Q () σ (put x v m)) (hx : Γ.env.kindOf x = some .local) : W G Γ UR (assign (.Name x p) Γ.env u) Q σ m :=
 Ze9 (Zdd (Zex r h hx))
theorem R.extbut {h h' : Heap} (hR : R G Γ σ m h) (he : Heap.ExtBut h.objs.size h h') : R G Γ σ m h' /\ Kp Γ.L σ σ h h' :=
 hR.keeps fun b o e => he b o (Zrd (Heap.lt_size e)) e
theorem Zd4 {x y : Str} {px py tp pos : Pos} {kk : Nat} {value : Expr} {rest : List Stmt} {Q : AF -> Sig -> Loc -> Prop}
  (h : W G Γ VR (eval value Γ.env) (fun b σ₁ mc => ∃ a u v, b = .ref a /\ Sees G σ₁ a (.tup [u, v]) /\ W G Γ FRl (execs rest Γ.env) Q σ₁ (put y v (put x u mc))) σ m)
  (hx : Γ.env.kindOf x = some .local) (hy : Γ.env.kindOf y = some .local) (hs : swapsWithSole [.Tuple [.Name x px, .Name y py] kk tp] value pos.line Γ.env = pure false) (hw : swappedStores [.Tuple [.Name x px, .Name y py] kk tp] value Γ.env = pure none) :
  W G Γ FRl (execs (.Assign [.Tuple [.Name x px, .Name y py] kk tp] value pos :: rest) Γ.env) Q σ m := Zan (Zbi fun s hR Q' k => by
 refine Assign_Tuple (h.use hR fun b av h₁ tk1 σ₁ mc r hR₁ kp₁ hq => ?_) hs hw
 refine o63 hq ?_; clear hq; intro a u v y3 e hq; subst y3
 subst r
 refine o31 (hR₁.isTup e) fun vs hl rv => ?_
 obtain ⟨u', v', rfl, ru, rv⟩ := rv.two
 refine assign_Tuple_tuple (s := { s with heap := h₁, toks := tk1 }) hR₁.ok.hd hl rfl rfl fun h₂ he => ?_
 refine o20 (hR₁.extbut he) fun hR₂ kp₂ => ?_
 show wpAny _ _ (do holding [v'] (assign (.Name x px) Γ.env u'); holding [] (assign (.Name y py) Γ.env v'); pure ()) _ _ _
 refine W.use (G := G) (s := { s with heap := h₂, toks := tk1 }) (Q := fun n_ σ' m' => σ' = σ₁ /\ m' = put y v (put x u mc)) (rel := UR) (Zaq (rel := UR) (Zaw (Zd2 ru (fun n_ n_ => Zaq (rel := UR) (Zaw (Zd2 rv (fun n_ n_ => ZaX (b := ()) trivial ⟨rfl, rfl⟩) hy))) hx))) hR₂ fun n_ n_ h₃ tk3 σ₃ me n_ hR₃ kp₃ hh => ?_
 refine o20 hh fun y0 y1 => ?_; clear hh; subst y0; subst y1
 exact k .next .next h₃ tk3 _ _ rfl hR₃ ((kp₁.trans kp₂).trans kp₃) hq)
theorem Zif {x y c : Str} {px py pc tp pos : Pos} {kk : Nat} {value : Expr} {rest : List Stmt} {Q : AF -> Sig -> Loc -> Prop}
  (h : W G Γ VR (eval value Γ.env) (fun b σ₁ mc => ∃ a u v w, b = .ref a /\ Sees G σ₁ a (.tup [u, v, w]) /\ W G Γ FRl (execs rest Γ.env) Q σ₁ (put c w (put y v (put x u mc)))) σ m)
  (hx : Γ.env.kindOf x = some .local) (hy : Γ.env.kindOf y = some .local) (hc : Γ.env.kindOf c = some .local) (hs : swapsWithSole [.Tuple [.Name x px, .Name y py, .Name c pc] kk tp] value pos.line Γ.env = pure false) (hw : swappedStores [.Tuple [.Name x px, .Name y py, .Name c pc] kk tp] value Γ.env = pure none) :
  W G Γ FRl (execs (.Assign [.Tuple [.Name x px, .Name y py, .Name c pc] kk tp] value pos :: rest) Γ.env) Q σ m := Zan (Zbi fun s hR Q' k => by
 refine Assign_Tuple (h.use hR fun b av h₁ tk1 σ₁ mc r hR₁ kp₁ hq => ?_) hs hw
 refine o74 hq ?_; clear hq; intro a u v w y4 e hq; subst y4
 subst r
 refine o31 (hR₁.isTup e) fun vs hl rv => ?_
 obtain ⟨u', v', w', rfl, ru, rv, rw'⟩ := rv.three
 refine assign_Tuple_tuple (s := { s with heap := h₁, toks := tk1 }) hR₁.ok.hd hl rfl rfl fun h₂ he => ?_
 refine o20 (hR₁.extbut he) fun hR₂ kp₂ => ?_
 show wpAny _ _ (do holding [v', w'] (assign (.Name x px) Γ.env u'); holding [w'] (assign (.Name y py) Γ.env v'); holding [] (assign (.Name c pc) Γ.env w'); pure ()) _ _ _
 refine W.use (G := G) (s := { s with heap := h₂, toks := tk1 }) (Q := fun n_ σ' m' => σ' = σ₁ /\ m' = put c w (put y v (put x u mc))) (rel := UR) (Zaq (rel := UR) (Zaw (Zd2 ru (fun n_ n_ => Zaq (rel := UR) (Zaw (Zd2 rv (fun n_ n_ => Zaq (rel := UR) (Zaw (Zd2 rw' (fun n_ n_ => ZaX (b := ()) trivial ⟨rfl, rfl⟩) hc))) hy))) hx))) hR₂ fun n_ n_ h₃ tk3 σ₃ me n_ hR₃ kp₃ hh => ?_
 refine o20 hh fun y0 y1 => ?_; clear hh; subst y0; subst y1
 exact k .next .next h₃ tk3 _ _ rfl hR₃ ((kp₁.trans kp₂).trans kp₃) hq)
theorem ZkR {d : Addr} {i : Int} {A B : Value} {Q : AV -> Sig -> Loc -> Prop} (e : σ d = some (.dct [])) (ra : VR (.ref d) A) (rb : VR (.int i) B) (h : Q (.bool false) σ m) : W G Γ VR (compareOp .In B A) Q σ m :=
 ZeX (av := .bool false) (fun s Q' hR kk => by
  subst ra
  refine o21 rb fun t y1 => ?_; clear rb; subst y1
  refine o31 (hR.get e) fun ob ho r2 => ?_; refine o31 r2 fun kvs hd hk => ?_; clear r2
  cases hk
  refine o72 hd fun es ep h1 h2 h3 h4 h5 => ?_; clear hd
  have lo := hR.low e
  have hes : es = #[] := by
   have : es.toList = [] := by induction q : es.toList using ZcU with
    | nil => rfl
    | cons a r => rw [q] at h4; cases h4
   exact ZrW.mp this
  subst hes
  refine wpAny_in_of (knd := intKind G.prog G.w) (k := i) (d := d) (f := fun n_ => none) (by simp [intKind, Value.isInt]) (beq_eq_false_iff_ne.mpr (Zrx lo)) ⟨ob, #[], ep, ho, h1, h2, fun e he => absurd he (by simp), fun n_ => rfl⟩ ?_
  exact kk _ _ rfl) h
theorem Zjx {i : Int} (h : Zab k z σ w) : EvC G Γ σ m .In (.int i) (.ref k.contents) false := fun A B Q ra rb q => ZkR h.fix.contents rb ra q
theorem ZgJ {tv : Int} {n : Nat} {vs dv : List AV} {ds : List Value} (hK : Is G) (h : Zab k z σ w) (rm : Γ.Room 2) (hh : (if tv = -1 then cur w.st else tv) = (n : Int))
  (hvd : vs ++ dv = [.ref k.b, .int tv]) (rd : VRs dv ds) (hbA : ZcT G 57 ["builder", "target"] vs.length ds) {Q : AV -> Sig -> Loc -> Prop} (q : ∀ a, σ a = none -> Q (.ref a) (σ.set a (.tup [.int n, .int (-1)])) m) : FC G Γ (.ref 57) vs Q σ m := by
 refine ZhA (Is.lk hK (by rfl)) (by repeat constructor) (Is.cd hK (by rfl)) (Amb.Room.le rm (ZqQ _)) rd (fun us hl s X => hbA _ _ (Is.lk hK (by rfl)) rfl us hl s X) (by decide) (by rfl) (by rfl) (by rfl) (by rfl) (by rfl) ?_
 intro n_ n_
 refine rE hvd ?_
 walk_at "asg"
 walk_at "asg"
 suffices hs : ∀ m', HasL [("builder", .ref k.b), ("tree", .ref k.t), ("here", .int n)] m' -> _ from by
  walk_at "if" <;> intro hb
  ·have hb : tv = -1 := of_decide_eq_true hb
   rw [if_pos hb] at hh
   refine ZaS (v := .int n) (Zcf (by walk_at "ev") (by exact rE hh rfl)) (Zah (hs _ ⟨rfl, rfl, rfl, trivial⟩)) (by rfl) (by rfl)
  ·have hb : ¬ tv = -1 := by rw [Zb6] at hb; exact of_decide_eq_false hb
   rw [if_neg hb] at hh
   subst hh
   exact Zah (hs _ ⟨rfl, rfl, rfl, trivial⟩)
 intro m' hm
 refine Zbb hm ?_
 refine Za8 (b := false) (Zai (by walk_at "evt") (by refine rE Zb6 ?_; exact decide_eq_false (by omega))) (fun hb => absurd hb (by decide)) (fun n_ => Zah ?_)
 walk_at "asg"
 refine Za8 (b := false) (Zbk (ZaA (a := false) (b := false) (by walk_at "evt") fun hb => absurd hb (by decide))) (fun hb => absurd hb (by decide)) (fun n_ => Zah ?_)
 refine Za8 (b := false) (by walk_at "evt") (fun hb => absurd hb (by decide)) (fun n_ => Zah ?_)
 refine Zan (ZaZ (ZaE ?_))
 refine (show EvA G _ σ _ _ _ [.int n, .int (-1)] by walk_at "eva") _ ⟨(by refine (?_ : 2 <= sizeLine); decide), fun a ha => ?_⟩
 exact q a ha
theorem ZgG {n : Nat} (hK : Is G) (h : Zab k z σ w) (rm : Γ.Room 2) (hn : w.st.getLast? = some n) {Q : AV -> Sig -> Loc -> Prop} (q : ∀ a, σ a = none -> Q (.ref a) (σ.set a (.tup [.int n, .int (-1)])) m) : FC G Γ (.ref 57) [.ref k.b] Q σ m :=
 ZgJ (tv := -1) hK h rm (by (refine rE (if_pos rfl) ?_; exact rE (Zby hn) rfl)) (dv := [.int (-1)]) (ds := [.int (-1) 231]) rfl (.cons ⟨_, rfl⟩ .nil) (by walk_at "bindsAt") q
theorem Zkz {n : Nat} (hK : Is G) (h : Zab k z σ w) (rm : Γ.Room 2) {Q : AV -> Sig -> Loc -> Prop} (q : ∀ a, σ a = none -> Q (.ref a) (σ.set a (.tup [.int n, .int (-1)])) m) : FC G Γ (.ref 57) [.ref k.b, .int n] Q σ m :=
 ZgJ (tv := n) hK h rm (by rw [if_neg (by omega)]) (dv := []) (ds := []) rfl .nil (by walk_at "bindsAt") q
end
section
variable {G : Glo} {Γ : Amb} {σ : Sig} {m : Loc} {k : Cfg} {z : Var} {w : PW}
theorem Sees.mono {σ' : Sig} {a : Addr} {o : AO} (h : Sees G σ a o) (k : ∀ b o, σ b = some o -> σ' b = some o) : Sees G σ' a o := by
 rcases h with h | h
 ·exact .inl (k _ _ h)
 ·exact .inr h
theorem Zpm {t : Tag} {c : Option Nat} {n : Nat} {w' : PW} {at_ : Addr} {l : List AV} {vs dv : List AV} {ds : List Value} (hK : Is G) (h : Zab k z σ w) (rm : Γ.Room 3) (hat : Sees G σ at_ (.tup l)) (hi : Items σ l c) (e : Zgm w (.el t c) [] = some (n, w'))
  (hvd : vs ++ dv = [.ref k.b, .str t.str, .ref at_, .str "html"]) (rd : VRs dv ds) (hbA : ZcT G 72 ["builder", "name", "attrs", "space"] vs.length ds) : EvW G Γ σ m k z w (.ref 72) vs (.int n) w' := by
 refine ZfV (Is.lk hK (by rfl)) (by repeat constructor) (Is.cd hK (by rfl)) (Amb.Room.le rm (ZqQ _)) rd (fun us hl s X => hbA _ _ (Is.lk hK (by rfl)) rfl us hl s X) (by decide) (by rfl) (by rfl) (by rfl) (by rfl) (by rfl) ?_
 intro n_ n_
 refine rE hvd ?_
 refine Zin (Zak (by walk_at "ev") (by walk_at "meth") (by walk_at "eva") (Ze0 hK h (by walk_at "rm") hat hi e (dv := []) (ds := []) rfl .nil (by walk_at "bindsAt")) (by rfl) (by rfl)) (fun z' σ' h' x' => ?_)
 exact Zdj rfl h' x'
theorem Zo2 {t : Tag} {c : Option Nat} {n : Nat} {w' : PW} {at_ : Addr} {l : List AV} (hK : Is G) (h : Zab k z σ w) (rm : Γ.Room 3) (hat : Sees G σ at_ (.tup l)) (hi : Items σ l c) (e : Zgm w (.el t c) [] = some (n, w')) :
  EvW G Γ σ m k z w (.ref 72) [.ref k.b, .str t.str, .ref at_] (.int n) w' := Zpm hK h rm hat hi e (dv := [.str "html"]) (ds := [.str "html" 256]) rfl (.cons ⟨_, rfl⟩ .nil) (by walk_at "bindsAt")
theorem Zqc {t : Tag} {c : Option Nat} {n : Nat} {w' : PW} {at_ : Addr} {l : List AV} (hK : Is G) (h : Zab k z σ w) (rm : Γ.Room 3) (hat : Sees G σ at_ (.tup l)) (hi : Items σ l c) (e : Zgm w (.el t c) [] = some (n, w')) :
  EvW G Γ σ m k z w (.ref 72) [.ref k.b, .str t.str, .ref at_, .str "html"] (.int n) w' := Zpm hK h rm hat hi e (dv := []) (ds := []) rfl .nil (by walk_at "bindsAt")
theorem ZcZ {t : Tag} {c : Option Nat} {n : Nat} {w' : PW} {at_ : Addr} {l : List AV} {vs dv : List AV} {ds : List Value} (hK : Is G) (h : Zab k z σ w) (rm : Γ.Room 4) (hat : Sees G σ at_ (.tup l)) (hi : Items σ l c) (e : elM w t c = some (n, w'))
  (hvd : vs ++ dv = [.ref k.b, .str t.str, .ref at_, .str "html"]) (rd : VRs dv ds) (hbA : ZcT G 81 ["builder", "name", "attrs", "space"] vs.length ds) : EvW G Γ σ m k z w (.ref 81) vs (.int n) w' := by
 unfold elM at e
 refine bE e fun p hp e => ?_
 refine bE e fun y0 hw1 e => ?_; obtain ⟨x, w₁⟩ := y0
 refine bE e fun w₂ hwa e => ?_
 refine bE e fun wa hw3 e => ?_
 cases e
 refine ZfV (Is.lk hK (by rfl)) (by repeat constructor) (Is.cd hK (by rfl)) (Amb.Room.le rm (ZqQ _)) rd (fun us hl s X => hbA _ _ (Is.lk hK (by rfl)) rfl us hl s X) (by decide) (by rfl) (by rfl) (by rfl) (by rfl) (by rfl) ?_
 intro n_ n_
 refine rE hvd ?_
 refine Zd4 (Zay (ZcE hK) (Zcv hK) ((show EvA G _ σ _ _ _ [.ref k.b] by walk_at "eva") _ (ZgG hK h (by walk_at "rm") hp fun a ha => ?_)) (by rfl) (by rfl) (by decide)) (by rfl) (by rfl) (by rfl) (by rfl)
 refine e63 a _ _ rfl (.inl Sig.set_self) ?_
 have h0 : Zab k z (σ.set a (.tup [.int p, .int (-1)])) w := h.mono (Zaa ha)
 have hat0 : Sees G (σ.set a (.tup [.int p, .int (-1)])) at_ (.tup l) := hat.mono (Zaa ha)
 have hi0 : Items (σ.set a (.tup [.int p, .int (-1)])) l c := hi.mono (Zaa ha)
 refine Zcn (ZaU (ZjB hK) (ZjY hK) (by walk_at "eva") (Zqc hK h0 (by walk_at "rm") hat0 hi0 hw1) (by rfl) (by rfl) (by decide)) (fun za σ₁ h₁ x₁ => ?_) (by rfl) (by rfl)
 refine Zal (Zak (by walk_at "ev") (by walk_at "meth") (by walk_at "eva") (ZdB hK h₁ (by walk_at "rm") hwa) (by rfl) (by rfl)) (fun zb σ₂ h₂ x₂ => ?_) (by rfl) (by rfl)
 refine Zal (Zak (by walk_at "ev") (by walk_at "meth") (by walk_at "eva") (ZgM hK h₂ (by walk_at "rm") hw3) (by rfl) (by rfl)) (fun zc σ₃ h₃ xc => ?_) (by rfl) (by rfl)
 walk_at "ret"
 exact Zdj rfl h₃ ((((Ext.more (Zaa ha)).trans x₁).trans x₂).trans xc)
theorem Zb1 {t : Tag} {c : Option Nat} {n : Nat} {w' : PW} {at_ : Addr} {l : List AV} (hK : Is G) (h : Zab k z σ w) (rm : Γ.Room 4) (hat : Sees G σ at_ (.tup l)) (hi : Items σ l c) (e : elM w t c = some (n, w')) :
  EvW G Γ σ m k z w (.ref 81) [.ref k.b, .str t.str, .ref at_] (.int n) w' := ZcZ hK h rm hat hi e (dv := [.str "html"]) (ds := [.str "html" 267]) rfl (.cons ⟨_, rfl⟩ .nil) (by walk_at "bindsAt")
theorem ZfU {t : Tag} {n : Nat} {w' : PW} (hK : Is G) (h : Zab k z σ w) (rm : Γ.Room 4) (e : elM w t none = some (n, w')) :
  EvW G Γ σ m k z w (.ref 81) [.ref k.b, .str t.str] (.int n) w' := ZcZ (c := none) hK h rm (at_ := 73) (l := []) (.inr hK.s73) rfl e (dv := [.ref 73, .str "html"]) (ds := [.ref 73, .str "html" 267]) rfl (.cons rfl (.cons ⟨_, rfl⟩ .nil)) (by walk_at "bindsAt")
theorem Zeq {o i : Expr} {p p' pos : Pos} {n : Nat} {d : Nd} {Q : AV -> Sig -> Loc -> Prop} (hK : Is G) (h : Zab k z σ w) (hd : w.nd[n]? = some d) (ho : Ev G Γ σ m o (.ref k.attrs)) (hi : Ev G Γ σ m i (.int n))
  (q : ∀ a l, σ a = none -> Items σ l d.let -> Q (.ref a) (σ.set a (.tup l)) m)
  (hs : ∀ k' u, subscripted i false (.ref k.attrs) (.int k' u) = operate [.ref k.attrs, .int k' u] (getItem (.ref k.attrs) (.int k' u)))
  (he : starEach [.Subscript o i p'] Γ.env = (false, eval (.Subscript o i p') Γ.env) :: starEach [] Γ.env) (hp : Plain pos [.Subscript o i p'] Γ.env = true) (hx : Γ.env.kindOf "tuple" = some .globalImplicit) :
  W G Γ VR (eval (.Call (.Name "tuple" p) [.Subscript o i p'] [] pos) Γ.env) Q σ m := by
 refine o31 (Zoj (Γ := Γ) (m := m) (o := o) (i := i) (G := G) h hd hs) fun a ha es => ?_
 refine o31 (Items.of ha) fun l hl il => ?_
 refine Zce (ZnY hK) (by rfl) (by decide) (Zac (ZaT ho hi es _ (Zap ?_)) he) hp hx (by decide)
 exact ZlY (.inl hl) (Zrj il.len (by decide)) fun r hr => q r l hr il
theorem Zo1 {t : Tag} {c : Option Nat} {n : Nat} {w' : PW} (e : elM w t c = some (n, w')) : w'.fm = w.fm := by
 unfold elM at e
 refine bE e fun p hp e => ?_
 refine bE e fun y0 hw1 e => ?_; obtain ⟨x, w₁⟩ := y0
 refine bE e fun w₂ hwa e => ?_
 refine bE e fun wa hw3 e => ?_
 cases e
 have f1 : w₁.fm = w.fm := by
  unfold Zgm at hw1
  split at hw1
  ·cases hw1; rfl
  ·exact nA hw1
 have f2 : w₂.fm = w₁.fm := by
  unfold Za7 at hwa
  split at hwa
  ·exact nA hwa
  refine bE hwa fun ab n_ e => ?_
  split at e
  ·exact nA e
  refine bE e fun wd hwd e => ?_
  refine bE e fun l n_ e => ?_
  have f3 : wd.fm = w₁.fm := by
   unfold ZbQ at hwd
   split at hwd
   ·exact nA hwd
   split at hwd
   ·(replace hwd := sO hwd; subst hwd); rfl
   split at hwd
   ·exact nA hwd
   split at hwd
   ·exact nA hwd
   split at hwd
   ·(replace hwd := sO hwd; subst hwd); rfl
   ·exact nA hwd
  split at e
  ·(replace e := sO e; subst e); exact f3
  ·exact nA e
 have f3 : w'.fm = w₂.fm := by
  unfold Zkt at hw3
  split at hw3
  ·(replace hw3 := sO hw3; subst hw3); rfl
  ·exact nA hw3
 refine rE f3 (rE f2 ?_); exact rE f1 rfl
noncomputable def ZjR (w : PW) (l : List Nat) : Bool := match l.getLast? with
 | none => false
 | some a => match (w.nd[a]? : Option Nd) with
  | some .tx => true
  | _ => false
theorem ZiX {c : Nat} {w' : PW} (hK : Is G) (h : Zab k z σ w) (rm : Γ.Room 4) (e : Zey w c = some w') : EvW G Γ σ m k z w (.ref 64) [.ref k.b, .str (Zad c)] .none w' := by
 unfold Zey at e
 refine bE e fun n hn e => ?_
 refine bE e fun d hd e => ?_
 induction d with
 | doc => exact nA e
 | tx => exact nA e
 | el t ct =>
 refine bE e fun l hl e => ?_
 have cs : (ZjR w l = true /\ ∃ a t, l.getLast? = some a /\ w.nd[a]? = some .tx /\ w.tx[a]? = some t /\ t.length < LIM /\ w' = { w with tx := w.tx.set a (t ++ [c]) }) \/
   (ZjR w l = false /\ ZbU w n c = some w' /\ (l.getLast? = none \/ ∃ a da, l.getLast? = some a /\ w.nd[a]? = some da /\ decide (da.kind = "text") = false)) := by
  unfold ZjR
  induction q : l.getLast? with
  | none => rw [q] at e; exact .inr ⟨rfl, e, .inl rfl⟩
  | some a =>
   rw [q] at e
   refine bE e fun da hda e => ?_
   dsimp only
   refine rE hda ?_
   induction da with
   | tx =>
    refine bE e fun t ht e => ?_
    split at e
    ·rename_i hz; (replace e := sO e; subst e); exact .inl ⟨rfl, a, t, rfl, hda, ht, hz, rfl⟩
    ·exact nA e
   | doc => exact .inr ⟨rfl, e, .inr ⟨a, _, rfl, hda, by decide⟩⟩
   | el t c => exact .inr ⟨rfl, e, .inr ⟨a, _, rfl, hda, by refine (?_ : decide (("element" : Str) = "text") = false); decide⟩⟩
 clear e
 walk_at "defW"
 walk_at "asg"
 refine Zd4 (Zay (ZcE hK) (Zcv hK) ((show EvA G _ σ _ _ _ [.ref k.b] by walk_at "eva") _ (ZgG hK h (by walk_at "rm") hn fun a ha => ?_)) (by rfl) (by rfl) (by decide)) (by rfl) (by rfl) (by rfl) (by rfl)
 refine e63 a _ _ rfl (.inl Sig.set_self) ?_
 have h0 : Zab k z (σ.set a (.tup [.int n, .int (-1)])) w := h.mono (Zaa ha)
 have x0 : Zcr k z w σ z w (σ.set a (.tup [.int n, .int (-1)])) := Ext.more (Zaa ha)
 generalize σ.set a (.tup [.int n, .int (-1)]) = σ₀ at h0 x0
 refine Za8 (b := false) (Zai (by walk_at "evt") (by refine (?_ : decide (("element" : Str) = "document") = false); decide)) (fun hb => absurd hb (by decide)) (fun n_ => Zah ?_)
 refine ZaS (v := .int (cur l)) (by walk_at "ev") ?_ (by rfl) (by rfl)
 refine Za8 (b := false) (Zai (by walk_at "evt") (by rfl)) (fun hb => absurd hb (by decide)) (fun n_ => Zah ?_)
 refine Za8 (b := ZjR w l) ?_ (fun hb => ?_) (fun hb => ?_)
 ·rcases cs with ⟨hb, a, t, ha, hda, ht, hz, rfl⟩ | ⟨hb, e, ha | ⟨a, da, ha, hda, hk⟩⟩
  ·refine rE hb ?_
   refine Zbk (ZaA (a := true) (b := true) (Zai (by walk_at "evt") (by (refine rE (Zby ha) (rE Zbp ?_)); exact decide_eq_true (by omega))) fun n_ => ZaA (a := true) (b := true) ?_ fun n_ => ZbN)
   refine rE (Zby ha) ?_
   exact Zai (by walk_at "evt") (by refine (?_ : decide (("text" : Str) = "text") = true); decide)
  ·refine rE hb ?_
   exact Zbk (ZaA (a := false) (b := false) (Zai (by walk_at "evt") (by (rewrite [cur]; refine rE ha ?_); rfl)) fun hb => absurd hb (by decide))
  ·refine rE hb ?_
   refine Zbk (ZaA (a := true) (b := false) (Zai (by walk_at "evt") (by (refine rE (Zby ha) (rE Zbp ?_)); exact decide_eq_true (by omega))) fun n_ => ZaA (a := false) (b := false) ?_ fun hb => absurd hb (by decide))
   refine rE (Zby ha) ?_
   exact Zai (by walk_at "evt") (by exact hk)
 ·rcases cs with ⟨_, a, t, ha, hda, ht, hz, rfl⟩ | ⟨hb', _⟩
  ·refine rE (Zby ha) ?_
   have hlz : (txt t).length + (Zad c).length <= sizeLine := by
    refine rE sizeLine_eq ?_
    have h1 : (txt t).length = t.length := by simp [txt, Str.length]
    have h2 : (Zad c).length = 1 := by simp [Zad, Str.length]
    have : LIM = 1000000 := rfl
    omega
   refine Zkd ((show Ev G _ σ₀ _ _ (.str (txt t ++ Zad c)) by walk_at "ev") _ ⟨k.texts, (w.tx.map txt).map AV.str, a, by walk_at "ev", by walk_at "ev", h0.obj .texts _ rfl, by (refine rE (Zqt _) (rE (Zqt _) ?_)); exact (ZqU.mp ht).1, h0.le' .texts rfl, ?_⟩) (by rfl)
   have tt := Zox h0 (l := w.tx.set a (t ++ [c])) (by refine rE Zra ?_; have := h0.small .texts _ rfl; simpa [mk] using this)
   rw [ZrK, ZrK] at tt
   have et : txt (t ++ [c]) = txt t ++ Zad c := by
    refine (?_ : Str.mk _ = Str.mk _)
    congr 1
    simp [txt, Zad]
   rw [et] at tt
   exact Zah (Zah (Zba tt.1 (x0.trans tt.2)))
  ·rw [hb] at hb'; exact nD hb'
 ·rcases cs with ⟨hb', _⟩ | ⟨_, e, _⟩
  ·rw [hb] at hb'; exact nC hb'
  ·unfold ZbU at e
   refine bE e fun y0 hw1 e => ?_; obtain ⟨x, w₁⟩ := y0
   refine o31 (ZfQ hK h0) fun C i1 i2 => ?_
   refine Zcm (ZgI ((show Ev G _ σ₀ _ _ (.ref k.t) by walk_at "ev") _ ⟨k.t, C, _, rfl, i1, i2, ?_⟩) (by rfl) (by rfl)) (by rfl) (by rfl)
   refine Zac ((show Ev G _ σ₀ _ _ (.int n) by walk_at "ev") _ ?_) (by rfl)
   refine Zac ((show EvX G _ σ₀ _ k z w _ (.int x) w₁ from Zak (vs := [.str (txt [c])]) (by walk_at "ev") (by walk_at "meth") (by walk_at "eva") (Zld hK h0 (by walk_at "rm") hw1) (by rfl) (by rfl)) _ fun za σ₁ h₁ x₁ => ?_) (by rfl)
   refine Zac ((show Ev G _ σ₁ _ _ (.int (-1)) by walk_at "ev") _ (Zap ?_)) (by rfl)
   refine ZdB hK h₁ (by walk_at "rm") e _ fun zb σ₂ h₂ x₂ => ?_
   exact Zah (Zah (Zba h₂ ((x0.trans x₁).trans x₂)))
end
section
variable {G : Glo} {Γ : Amb} {σ : Sig} {m : Loc} {k : Cfg} {z : Var} {w : PW} {o i : Expr}
theorem Zpg (h : Zab k z σ w) {d j : Nat} {x : Int} (hx : x = (j : Int)) (hv : w.fm[j]? = some d) (hs : ∀ k' u, subscripted i false (.ref k.fit) (.int k' u) = operate [.ref k.fit, .int k' u] (getItem (.ref k.fit) (.int k' u))) : EvS G Γ σ m o i (.ref k.fit) (.int x) (.int d) := by
 subst hx; exact ZpE h hv hs
theorem Zpt (h : Zab k z σ w) {d j : Nat} {x : Int} (hx : x = (j : Int)) (hv : w.st[j]? = some d) (hs : ∀ k' u, subscripted i false (.ref k.sit) (.int k' u) = operate [.ref k.sit, .int k' u] (getItem (.ref k.sit) (.int k' u))) : EvS G Γ σ m o i (.ref k.sit) (.int x) (.int d) := by
 subst hx; exact Zn9 h hv hs
noncomputable def ZpW (P : Sig -> Loc -> Prop) (Q : AF -> Sig -> Loc -> Prop) : AF -> Sig -> Loc -> Prop
 | .next => P
 | f => Q f
theorem Zg1 {test : Expr} {body rest : List Stmt} {pos : Pos} {Q : AF -> Sig -> Loc -> Prop} (P : Sig -> Loc -> Prop) (I : Nat -> Sig -> Loc -> Prop) (n : Nat) (hI : I n σ m)
  (turn : ∀ n σ m, I n σ m -> W G Γ Eq (isTrue test Γ.env (eval test Γ.env)) (fun b σ₁ mc => if b then W G Γ FRl (execs body Γ.env) (ZhD (fun σ₂ md => ∃ k, k < n /\ I k σ₂ md) (ZpW P Q)) σ₁ mc else P σ₁ mc) σ m)
  (done : ∀ σ' m', P σ' m' -> W G Γ FRl (execs rest Γ.env) Q σ' m') : W G Γ FRl (execs (.While test body [] pos :: rest) Γ.env) Q σ m :=
 Zan (Zat (ZdA (Q := ZpW P Q) I n hI turn) fun b σ' m' z => by
  induction b with
  | next => exact done _ _ z
  | brk => exact z
  | cont => exact z
  | ret v => exact z)
theorem Zgu {x : Str} {px pos : Pos} {iter : Expr} {body rest : List Stmt} {Q : AF -> Sig -> Loc -> Prop} (P : Sig -> Loc -> Prop)
  (h : W G Γ VR (eval iter Γ.env) (fun b σ₁ mc => ∃ n item J, ∃ Inv : Nat -> Sig -> Loc -> Prop, (∀ u, VR b u -> Goes G Γ u n item J σ₁ mc) /\ Inv 0 σ₁ mc /\ (∀ i σ' m', Inv i σ' m' -> J σ') /\
   (∀ i σ' m', i < n -> Inv i σ' m' -> W G Γ FRl (execs body Γ.env) (ZhD (Inv (i + 1)) (ZpW P Q)) σ' (put x (item i) m')) /\ ∀ σ' m', Inv n σ' m' -> P σ' m') σ m)
  (done : ∀ σ' m', P σ' m' -> W G Γ FRl (execs rest Γ.env) Q σ' m')
  (hx : Γ.env.kindOf x = some .local) (hs : ∀ x, foldedSetIterable iter Γ.env x = pure x) : W G Γ FRl (execs (.For (.Name x px) iter body [] pos :: rest) Γ.env) Q σ m :=
 Zan (Zat (Zo6 (Q := ZpW P Q) h hx hs) fun b σ' m' z => by
  induction b with
  | next => exact done _ _ z
  | brk => exact z
  | cont => exact z
  | ret v => exact z)
theorem reconstruct {w' : PW} (hK : Is G) (h : Zab k z σ w) (rm : Γ.Room 5) (e : Zkw w = some w') : EvW G Γ σ m k z w (.ref 88) [.ref k.b] .none w' := by
 unfold Zkw at e
 refine bE e fun j0 hj0 e => ?_
 have hle : ∀ n r, ZfI w n = some r -> r <= n := fun n => by
  induction n with
  | zero => intro r q; (replace q := sO q; subst q); exact ZqQ _
  | succ n ih =>
   intro r q
   refine bE q fun x hx q => ?_
   split at q
   ·(replace q := sO q; subst q); exact ZqQ _
   ·exact Zsk (ih r q)
 have hle := hle _ _ hj0
 walk_at "defW"
 walk_at "asg"
 walk_at "asg"
 walk_at "asg"
 refine Zg1 (fun σ' m' => σ' = σ /\ HasL [("builder", .ref k.b), ("tree", .ref k.t), ("formatting", .ref k.f), ("at", .int (j0 : Nat))] m') (fun n σ' m' => σ' = σ /\ HasL [("builder", .ref k.b), ("tree", .ref k.t), ("formatting", .ref k.f), ("at", .int (n : Nat))] m' /\ ZfI w n = some j0) w.fm.length ⟨rfl, ⟨rfl, rfl, rfl, rfl, trivial⟩, hj0⟩ ?_ ?_
 ·rintro n σ' m' ⟨rfl, hm, hr⟩
  refine Zbb hm ?_
  induction n using Zd9 with
  | zero =>
   refine (show EvT G _ _ _ _ false from Zbk (ZaA (a := false) (b := false) (Zai (by walk_at "evt") (by rfl)) fun hb => absurd hb (by decide))) _ ?_
   (replace hr := sO hr; subst hr)
   exact ⟨rfl, rfl, rfl, rfl, rfl, trivial⟩
  | succ n =>
   refine bE hr fun x hx hr => ?_
   have hn : ((n + 1 : Nat) : Int) - 1 = (n : Int) := by omega
   refine (show EvT G _ _ _ _ (!decide (x ∈ w.st)) from Zbk (ZaA (a := true) (b := !decide (x ∈ w.st)) (Zai (by walk_at "evt") (by refine rE ZkP ?_; exact decide_eq_true (by omega))) fun n_ => ZaA (a := true) (b := !decide (x ∈ w.st)) (Zai (by walk_at "evt") (by refine rE Zbp ?_; exact decide_eq_true (by omega))) fun n_ => ?_)) _ ?_
   ·exact (Zsr (!decide (x ∈ w.st))) ▸ ZaA (by walk_at "evt") fun n_ => ZbN
   ·split at hr
    ·rename_i hin
     refine rE (decide_eq_true hin) ?_
     (replace hr := sO hr; subst hr)
     exact ⟨rfl, rfl, rfl, rfl, rfl, trivial⟩
    ·rename_i hin
     refine rE (decide_eq_false hin) ?_
     refine Zfk (by rfl) (by walk_at "ev") (by walk_at "evi") ?_ (by rfl)
     exact Zah ⟨n, ZqS n, rfl, ⟨rfl, rfl, rfl, by refine rS hn ?_; rfl, trivial⟩, hr⟩
 rintro σ' m' ⟨hσ, hm⟩
 subst σ'
 refine Zbb hm ?_
 refine Zan (ZdA (fun f σ' m' => ∃ za w₁, ∃ at_ : Nat, Zab k za σ' w₁ /\ Zcr k z w σ za w₁ σ' /\ Zid f at_ w₁ = some w' /\ f + at_ = w₁.fm.length /\ HasL [("builder", .ref k.b), ("tree", .ref k.t), ("formatting", .ref k.f), ("at", .int (at_ : Nat))] m') (w.fm.length - j0) ⟨z, w, j0, h, .refl, e, Zsb hle, ⟨rfl, rfl, rfl, rfl, trivial⟩⟩ ?_)
 rintro f σ₁ mc ⟨za, w₁, at_, h₁, x₁, ec, hf, hm1⟩
 refine Zbb hm1 ?_
 induction f using Zd9 with
 | zero =>
  refine (show EvT G _ _ _ _ false from Zai (by walk_at "evt") (by refine rE Zgc ?_; exact decide_eq_false (by omega))) _ ?_
  (replace ec := sO ec; subst ec)
  exact Zah (Zba h₁ x₁)
 | succ f =>
  refine (show EvT G _ _ _ _ true from Zai (by walk_at "evt") (by refine rE Zgc ?_; exact decide_eq_true (by omega))) _ ?_
  refine bE ec fun old hold ec => ?_
  refine bE ec fun d hd ec => ?_
  induction d with
  | doc => exact nA ec
  | tx => exact nA ec
  | el t c =>
  refine bE ec fun y0 hwa ec => ?_; obtain ⟨n, w₂⟩ := y0
  split at ec
  case isFalse => exact nA ec
  rename_i hat
  have hfm := Zo1 hwa
  walk_at "asg"
  refine Zkd (Zay (Za4 hK) (Za6 hK) (Zac ((show Ev G _ σ₁ _ _ (.ref k.b) by walk_at "ev") _ (Zac ((show Ev G _ σ₁ _ _ (.str t.str) from Zcf (v := .str (Nd.el t c).name) (by walk_at "ev") rfl) _ (Zac (Zeq hK h₁ hd (by walk_at "ev") (by walk_at "ev") (fun a l ha hi => Zap ?_) (by intro n_ n_; walk_at "u") (by rfl) (by rfl) (by rfl)) (by rfl))) (by rfl))) (by rfl)) (by rfl) (by rfl) (by decide)) (by rfl)
  refine Zb1 hK (h₁.mono (Zaa ha)) (by walk_at "rm") (.inl Sig.set_self) (hi.mono (Zaa ha)) hwa _ fun zb σ₂ h₂ x₂ => ?_
  refine e93 k.fit (w₂.fm.map nv) at_ (by walk_at "ev") (by walk_at "ev") (Zl1 h₂) (by refine rE (Zqt _) ?_; exact hat) (by refine rE (Zqt _) ?_; exact ZnL h₂) ?_
  have t := ZfC h₂ (l := w₂.fm.set at_ n) (by refine rE Zra ?_; exact ZpZ h₂)
  rw [ZrK] at t
  have hm : ∀ (x : Int), (((at_ : Nat) : Int) + 1 = x) -> x = ((at_ + 1 : Nat) : Int) := fun x hx => by omega
  refine Zfk (by rfl) (by walk_at "ev") (by walk_at "evi") ?_ (by rfl)
  exact Zah ⟨f, ZqS f, zb, _, at_ + 1, t.1, (x₁.trans (Ext.more (Zaa ha))).trans (x₂.trans t.2), ec, by refine (?_ : f + (at_ + 1) = (w₂.fm.set at_ n).length); (refine rE Zra (rE hfm ?_)); omega, ⟨rfl, rfl, rfl, rfl, trivial⟩⟩
end
section
variable {G : Glo} {Γ : Amb} {σ : Sig} {m : Loc}
noncomputable def cstrs : List Expr -> List Str
 | [] => []
 | .Constant (.str x) _ _ :: r => x :: cstrs r
 | _ :: r => cstrs r
noncomputable def ZgF : List Expr -> Bool
 | [] => true
 | .Constant (.str _) _ _ :: r => ZgF r
 | _ => false
theorem ZdQ {pos : Pos} : ∀ {es : List Expr}, ZgF es = true -> EvA G Γ σ m pos es ((cstrs es).map AV.str) := by
 refine @Zbv _ _ ?_ ?_
 ·intro n_
  exact Zbc
 ·intro e r ih h
  unfold ZgF at h
  split at h
  ·rename_i q; injection q
  ·rename_i x kd p r' q
   (injection q with hq1 hq2; subst hq1; subst hq2)
   exact Zas ZeS (ih h) rfl
  ·exact nC h
end
section
variable {G : Glo} {Γ : Amb} {σ : Sig} {m : Loc} {k : Cfg} {z : Var} {w : PW} {o i : Expr}
theorem ZgY (d : Nd) : decide (d.space = ("math" : Str)) = false := by induction d <;> first | decide | (show decide (("html" : Str) = "math") = false; decide)
theorem Zic (d : Nd) : decide (d.space = ("svg" : Str)) = false := by induction d <;> first | decide | (show decide (("html" : Str) = "svg") = false; decide)
theorem Zo5 {l : Expr} {elts : List Expr} {k : Nat} {pos p : Pos} {x : Str} (hl : Ev G Γ σ m l (.str x)) (ha : ZgF elts = true) (hz : (cstrs elts).length <= sizeLine) (hm : behindInMarks .In (.Tuple elts k p) = false) :
  EvT G Γ σ m (.Compare l [.In] [.Tuple elts k p] pos) (decide (x ∈ cstrs elts)) := ZhR hl (p := p) (ZdQ ha) hz hm
theorem ZpC {l : Expr} {elts : List Expr} {k : Nat} {pos p : Pos} {x : Str} (hl : Ev G Γ σ m l (.str x)) (ha : ZgF elts = true) (hz : (cstrs elts).length <= sizeLine) (hm : behindInMarks .In (.Tuple elts k p) = false) :
  Ev G Γ σ m (.Compare l [.In] [.Tuple elts k p] pos) (.bool (decide (x ∈ cstrs elts))) := ZjG hl (p := p) (ZdQ ha) hz hm
theorem Zg7 {d : Nd} (hK : Is G) (rm : Γ.Room 1) : EvF G Γ σ m (.ref 28) [.str d.space, .str d.name] (.bool d.special) := by
 walk_at "defV"
 refine Za8 (b := false) (Zai (Zbt (by walk_at "ev") (by walk_at "ev") (Zer rfl) (by walk_at "u")) (by exact ZgY d)) (fun hb => absurd hb (by decide)) (fun n_ => Zah ?_)
 refine Za8 (b := false) (Zai (by walk_at "evt") (by exact Zic d)) (fun hb => absurd hb (by decide)) (fun n_ => Zah ?_)
 refine ZaI (Zli (Zc6 (by walk_at "ev") fun n_ => Zfd (ZpC (by walk_at "ev") ?_ ?_ ?_))) ?_
 ·kernel_rfl
 ·refine rE sizeLine_eq ?_; exact of_decide_eq_true (by kernel_rfl)
 ·walk_at "u"
 refine ZcD ?_
 congr 1
 induction d with
 | doc => rfl
 | tx => rfl
 | el t c => induction t <;> kernel_rfl
theorem ZmW {n : Nat} {d : Nd} (hK : Is G) (h : Zab k z σ w) (rm : Γ.Room 1) (hd : w.nd[n]? = some d) : EvF G Γ σ m (.ref 200) [.ref k.t, .int n, .str ""] (.bool (d.isTag .html)) := by
 walk_at "defV"
 walk_at "asg"
 walk_at "asg"
 refine Za8 (b := false) (Zai (by walk_at "evt") (by refine (?_ : decide (("" : Str) = "select") = false); decide)) (fun hb => absurd hb (by decide)) (fun n_ => Zah ?_)
 refine Za8 (b := false) (Zai (by walk_at "evt") (by refine (?_ : decide (("" : Str) = "table") = false); decide)) (fun hb => absurd hb (by decide)) (fun n_ => Zah ?_)
 refine Za8 (b := false) (Zai (by walk_at "evt") (by exact ZgY d)) (fun hb => absurd hb (by decide)) (fun n_ => Zah ?_)
 refine Za8 (b := false) (Zai (by walk_at "evt") (by exact Zic d)) (fun hb => absurd hb (by decide)) (fun n_ => Zah ?_)
 refine Za8 (b := d.isTag .html) (Zai (by walk_at "evt") (by
  induction d with
  | doc => kernel_rfl
  | tx => kernel_rfl
  | el t c => induction t <;> kernel_rfl)) (fun hb => ?_) (fun hb => Zah ?_)
 ·walk_at "ret"
  exact ZcD (by exact rE hb rfl)
 ·refine Za8 (b := false) (Zai (by walk_at "evt") (by refine (?_ : decide (("" : Str) = "list item") = false); decide)) (fun hb => absurd hb (by decide)) (fun n_ => Zah ?_)
  refine ZaI (v := .bool false) (Zli (Zc6 (a := false) (b := false) (Zcf (by walk_at "ev") (by refine (?_ : AV.bool (decide (("" : Str) = "button")) = _); rw [show decide (("" : Str) = "button") = false by decide])) fun hb => absurd hb (by decide))) ?_
  exact ZcD (by exact rE hb rfl)
theorem Znx {n : Nat} {r : Bool} (hK : Is G) (h : Zab k z σ w) (rm : Γ.Room 2) (e : ZdX w n w.st.length = some r) : EvF G Γ σ m (.ref 208) [.ref k.s, .int n] (.bool r) := by
 refine Zmq (dv := [.str ""]) (ds := [.str "" 431]) (Is.lk hK (by rfl)) (by repeat constructor) (Is.cd hK (by rfl)) (Amb.Room.le rm (ZqQ _)) (.cons ⟨_, rfl⟩ .nil) (by walk_at "binds") (by decide) (by rfl) (by rfl) (by rfl) (by rfl) (by rfl) ?_
 intro n_ n_
 refine Zgu (fun σ' m' => (∀ b o, σ b = some o -> σ' b = some o) /\ r = false) (Zce (Zdu hK) (by rfl) (by decide) ((show EvA G _ σ _ _ _ [.int ((w.st.length : Int) - 1), .int (-1), .int (-1)] by walk_at "eva") _ (Zf5 fun a ha => ?_)) (by rfl) (by rfl) (by decide)) ?_ (by rfl) (by intro n_; rfl)
 ·refine e94 w.st.length (fun i => .int ((w.st.length : Int) - 1 - i)) (fun n_ => True) (fun i σ' m' => σ' = σ.set a (.rng ((w.st.length : Int) - 1) (-1) (-1)) /\ HasL [("stack", .ref k.s), ("node", .int n), ("sort", .str "")] m' /\ ZdX w n (w.st.length - i) = some r) (fun u ru => ?_) ⟨rfl, ⟨rfl, rfl, rfl, trivial⟩, e⟩ (fun n_ n_ n_ n_ => trivial) ?_ ?_
  ·subst ru
   exact Zfo Sig.set_self (Zpj h)
  ·rintro i σ' m' hi ⟨hσ, hm, hs⟩
   subst σ'
   have h1 : Zab k z (σ.set a (.rng ((w.st.length : Int) - 1) (-1) (-1))) w := h.mono (Zaa ha)
   obtain ⟨j, hj⟩ : ∃ j, w.st.length - i = j + 1 := ⟨w.st.length - i - 1, sB hi⟩
   have hij : ((w.st.length : Int) - 1 - i) = (j : Int) := sC hj
   rw [hj] at hs
   refine bE hs fun x hx hs => ?_
   refine Zbb (l := [("at", .int ((w.st.length : Int) - 1 - i)), ("stack", .ref k.s), ("node", .int n), ("sort", .str "")]) ⟨rfl, hm.1, hm.2.1, hm.2.2.1, trivial⟩ ?_
   walk_at "if" <;> intro hb
   ·have hb : x = n := by have := of_decide_eq_true hb; omega
    rw [if_pos hb] at hs
    (replace hs := sO hs; subst hs)
    walk_at "ret"
    exact ⟨rfl, Zaa ha⟩
   ·have hb : ¬ x = n := by have := of_decide_eq_false hb; omega
    rw [if_neg hb] at hs
    refine bE hs fun d hd hs => ?_
    refine Zah ?_
    refine Za8 (b := d.isTag .html) (by walk_at "evt") (fun hb => ?_) (fun hb => Zah (Zah ?_))
    ·rw [hb, if_pos rfl] at hs
     (replace hs := sO hs; subst hs)
     walk_at "ret"
     exact ⟨rfl, Zaa ha⟩
    ·rw [hb, if_neg (by decide)] at hs
     exact ⟨rfl, ⟨rfl, rfl, rfl, trivial⟩, by rw [sD hj]; exact hs⟩
  ·rintro σ' m' ⟨hσ, hm, hs⟩
   rw [Zse] at hs
   (replace hs := sO hs; subst hs)
   exact ⟨fun b o e => by refine rE hσ ?_; exact Zaa ha b o e, rfl⟩
 ·rintro σ' m' ⟨hσ, hr⟩
  refine ZaI (by walk_at "ev") ?_
  exact ⟨by refine rE hr ?_; rfl, hσ⟩
end
section
variable {G : Glo} {Γ : Amb} {σ : Sig} {m : Loc} {k : Cfg} {z : Var} {w : PW} {o i : Expr}
noncomputable def oz : Option Nat -> Int
 | none => -1
 | some n => n
theorem Zc9 (d : Nd) (t : Tag) : decide (d.name = t.str) = d.isTag t := by
 induction d with
 | el u c => rfl
 | doc => induction t <;> kernel_rfl
 | tx => induction t <;> kernel_rfl
theorem ZmB {t : Tag} {r : Option Nat} (hK : Is G) (h : Zab k z σ w) (rm : Γ.Room 1) (e : Ze2 w t w.fm.length = some r) : EvF G Γ σ m (.ref 339) [.ref k.f, .str t.str] (.int (oz r)) := by
 walk_at "defV"
 refine Zgu (fun σ' m' => (∀ b o, σ b = some o -> σ' b = some o) /\ r = none) (Zce (Zdu hK) (by rfl) (by decide) ((show EvA G _ σ _ _ _ [.int ((w.fm.length : Int) - 1), .int (-1), .int (-1)] by walk_at "eva") _ (Zf5 fun a ha => ?_)) (by rfl) (by rfl) (by decide)) ?_ (by rfl) (by intro n_; rfl)
 ·refine e94 w.fm.length (fun i => .int ((w.fm.length : Int) - 1 - i)) (fun n_ => True) (fun i σ' m' => σ' = σ.set a (.rng ((w.fm.length : Int) - 1) (-1) (-1)) /\ HasL [("self", .ref k.f), ("name", .str t.str)] m' /\ Ze2 w t (w.fm.length - i) = some r) (fun u ru => ?_) ⟨rfl, ⟨rfl, rfl, trivial⟩, e⟩ (fun n_ n_ n_ n_ => trivial) ?_ ?_
  ·subst ru
   exact Zfo Sig.set_self (ZnL h)
  ·rintro i σ' m' hi ⟨hσ, hm, hs⟩
   subst σ'
   have h1 : Zab k z (σ.set a (.rng ((w.fm.length : Int) - 1) (-1) (-1))) w := h.mono (Zaa ha)
   obtain ⟨j, hj⟩ : ∃ j, w.fm.length - i = j + 1 := ⟨w.fm.length - i - 1, sB hi⟩
   have hij : ((w.fm.length : Int) - 1 - i) = (j : Int) := sC hj
   rw [hj] at hs
   refine bE hs fun x hx hs => ?_
   refine bE hs fun d hd hs => ?_
   refine Zbb (l := [("at", .int ((w.fm.length : Int) - 1 - i)), ("self", .ref k.f), ("name", .str t.str)]) ⟨rfl, hm.1, hm.2.1, trivial⟩ ?_
   walk_at "asg"
   refine Za8 (b := false) (Zai (by walk_at "evt") (by refine rE Zb6 ?_; exact decide_eq_false (by omega))) (fun hb => absurd hb (by decide)) (fun n_ => Zah ?_)
   refine Za8 (b := d.isTag t) (Zai (by walk_at "evt") (by exact Zc9 d t)) (fun hb => ?_) (fun hb => Zah (Zah ?_))
   ·rw [hb, if_pos rfl] at hs
    (replace hs := sO hs; subst hs)
    walk_at "ret"
    exact ⟨rfl, Zaa ha⟩
   ·rw [hb, if_neg (by decide)] at hs
    exact ⟨rfl, ⟨rfl, rfl, trivial⟩, by rw [sD hj]; exact hs⟩
  ·rintro σ' m' ⟨hσ, hm, hs⟩
   rw [Zse] at hs
   (replace hs := sO hs; subst hs)
   exact ⟨fun b o e => by refine rE hσ ?_; exact Zaa ha b o e, rfl⟩
 ·rintro σ' m' ⟨hσ, hr⟩
  refine ZaI (by walk_at "ev") ?_
  exact ⟨by refine rE hr ?_; rfl, hσ⟩
theorem Zdg {n : Nat} {d : Nd} (h : Zab k z σ w) (hv : w.nd[n]? = some d) : ∃ a, AttrOk σ a d.let /\ ∀ {Γ : Amb} {m : Loc} {o i : Expr} (hs : ∀ k' u, subscripted i false (.ref k.attrs) (.int k' u) = operate [.ref k.attrs, .int k' u] (getItem (.ref k.attrs) (.int k' u))), EvS G Γ σ m o i (.ref k.attrs) (.int n) (.ref a) := by
 have la := h.la
 have : n < w.nd.length := (ZqU.mp hv).1
 have la : z.ats.length = (w.nd.map Nd.let).length := la
 rw [Zqt] at la
 have e : z.ats[n]? = some (z.ats[n]'(by omega)) := ZqA (by omega)
 have q := h.att n _ _ e (Zbm Nd.let hv)
 exact e31 _ q.1 (fun hs => Za0 (h.see .attrs rfl) (h.le' .attrs rfl) (Zbm AV.ref e) hs)
theorem Zdc {a : Addr} {l : List AV} {v : AV} (e : Sees G σ a (.tup (v :: l))) (hz : (v :: l).length <= sizeLine)
  (hs : ∀ k u, subscripted i false (.ref a) (.int k u) = operate [.ref a, .int k u] (getItem (.ref a) (.int k u))) : EvS G Γ σ m o i (.ref a) (.int 0) v := Zhq (n := 0) e hz rfl hs
theorem Zcb {a : Addr} {l : List AV} {u v : AV} (e : Sees G σ a (.tup (u :: v :: l))) (hz : (u :: v :: l).length <= sizeLine)
  (hs : ∀ k u, subscripted i false (.ref a) (.int k u) = operate [.ref a, .int k u] (getItem (.ref a) (.int k u))) : EvS G Γ σ m o i (.ref a) (.int 1) v := Zhq (n := 1) e hz rfl hs
theorem Zhj {a : Addr} {l : List AV} {v : AV} (e : Sees G σ a (.lst (v :: l))) (hz : (v :: l).length <= sizeLine)
  (hs : ∀ k u, subscripted i false (.ref a) (.int k u) = operate [.ref a, .int k u] (getItem (.ref a) (.int k u))) : EvS G Γ σ m o i (.ref a) (.int 0) v := Za0 (n := 0) e hz rfl hs
theorem Zdw : 2 <= sizeLine := by refine rE sizeLine_eq ?_; omega
theorem Ze4 : 1 <= sizeLine := by refine rE sizeLine_eq ?_; omega
theorem Zhz {a b : Str} : opS .Eq a b = decide (a = b) := rfl
theorem Zjn {a b : Str} : opS .NotEq a b = decide (a ≠ b) := rfl
theorem Zkq {n c : Nat} {t : Tag} (hK : Is G) (h : Zab k z σ w) (rm : Γ.Room 1) (hd : w.nd[n]? = some (.el t (some c))) : EvF G Γ σ m (.ref 491) [.ref k.t, .int n, .str "n"] (.str (Zad c)) := by
 walk_at "defV"
 refine o31 (Zdg (G := G) h hd) fun a y1 es => ?_; (refine o31 y1 fun p ha hp => ?_; clear y1)
 refine Zgu (fun n_ n_ => False) (ZaT (by walk_at "ev") (by walk_at "ev") (es (by intro n_ n_; walk_at "u")) _ ?_) (fun n_ n_ x => x.elim) (by rfl) (by intro n_; rfl)
 refine e94 1 (fun i => ([.ref p] : List AV).getD i .none) (fun σ' => Sees G σ' a (.lst [.ref p])) (fun i σ' m' => i = 0 /\ σ' = σ /\ HasL [("self", .ref k.t), ("node", .int n), ("name", .str "n")] m') (fun u ru => ?_) ⟨rfl, rfl, ⟨rfl, rfl, rfl, trivial⟩⟩ ?_ ?_ ?_
 ·subst ru
  exact Zeb (l := [.ref p]) (.inl ha)
 ·rintro i σ' m' ⟨_, rfl, _⟩
  exact .inl ha
 ·rintro i σ' m' hi ⟨rfl, rfl, hm⟩
  refine Zbb (l := [("pair", .ref p), ("self", .ref k.t), ("node", .int n), ("name", .str "n")]) ⟨rfl, hm.1, hm.2.1, hm.2.2.1, trivial⟩ ?_
  refine Za8 (b := true) (Zai (Zbt (ZaT (by walk_at "ev") (by walk_at "ev") (Zdc (.inl hp) Zdw (by intro n_ n_; walk_at "u"))) (by walk_at "ev") (Zer rfl) (by walk_at "u")) (by refine rE Zhz ?_; exact decide_eq_true rfl)) (fun n_ => ?_) (fun hb => absurd hb (by decide))
  refine ZaI (ZaT (by walk_at "ev") (by walk_at "ev") (Zcb (.inl hp) Zdw (by intro n_ n_; walk_at "u"))) ?_
  exact ⟨rfl, fun n_ n_ e => e⟩
 ·rintro σ' m' ⟨h0, _⟩; injection h0
theorem Znn {x y cx cy : Nat} {tx ty : Tag} (hK : Is G) (h : Zab k z σ w) (rm : Γ.Room 2) (hx : w.nd[x]? = some (.el tx (some cx))) (hy : w.nd[y]? = some (.el ty (some cy))) (hc : cx ≠ cy) : EvF G Γ σ m (.ref 388) [.ref k.t, .int x, .int y] (.bool false) := by
 walk_at "defV"
 refine o31 (Zdg (G := G) h hx) fun a y1 es => ?_; (refine o31 y1 fun p ha hp => ?_; clear y1)
 refine o31 (Zdg (G := G) h hy) fun b y1 es' => ?_; (refine o31 y1 fun q hb' hq => ?_; clear y1)
 refine Za8 (b := decide (tx.str ≠ ty.str)) (Zbk (ZaD (a := decide (tx.str ≠ ty.str)) (b := false) (Zai (by walk_at "evt") (by rfl)) fun n_ => ZaD (a := false) (b := false) (Zai (by walk_at "evt") (by refine rE Zjn ?_; exact decide_eq_false (by intro hh; exact hh rfl))) fun n_ => ZaQ) |> fun hh => Zai hh (Zr4 _)) (fun n_ => ?_) (fun n_ => Zah ?_)
 ·walk_at "ret"
  exact ⟨rfl, fun n_ n_ e => e⟩
 refine Za8 (b := false) (Zai (Zbt (ZbC (id := "len") (Zhy hK) (by rfl) (by decide) (Zas (ZaT (by walk_at "ev") (by walk_at "ev") (es (by intro n_ n_; walk_at "u"))) Zbc (by rfl)) (Zcd (l := [.ref p]) (.inl ha) Ze4) (by rfl) (by rfl) (by decide)) (ZbC (id := "len") (Zhy hK) (by rfl) (by decide) (Zas (ZaT (by walk_at "ev") (by walk_at "ev") (es' (by intro n_ n_; walk_at "u"))) Zbc (by rfl)) (Zcd (l := [.ref q]) (.inl hb') Ze4) (by rfl) (by rfl) (by decide)) (ZdG rfl) (by walk_at "u")) (by refine rE Zbp ?_; exact decide_eq_false (by intro hh; exact hh rfl))) (fun hb => absurd hb (by decide)) (fun n_ => Zah ?_)
 refine Zgu (fun n_ n_ => False) (ZaT (by walk_at "ev") (by walk_at "ev") (es (by intro n_ n_; walk_at "u")) _ ?_) (fun n_ n_ x => x.elim) (by rfl) (by intro n_; rfl)
 refine e94 1 (fun i => ([.ref p] : List AV).getD i .none) (fun σ' => Sees G σ' a (.lst [.ref p])) (fun i σ' m' => i = 0 /\ σ' = σ /\ HasL [("tree", .ref k.t), ("b", .int y)] m') (fun u ru => ?_) ⟨rfl, rfl, ⟨rfl, rfl, trivial⟩⟩ ?_ ?_ ?_
 ·subst ru
  exact Zeb (l := [.ref p]) (.inl ha)
 ·rintro i σ' m' ⟨_, rfl, _⟩
  exact .inl ha
 ·rintro i σ' m' hi ⟨rfl, rfl, hm⟩
  refine Zbb (l := [("pair", .ref p), ("tree", .ref k.t), ("b", .int y)]) ⟨rfl, hm.1, hm.2.1, trivial⟩ ?_
  refine Za8 (b := true) (Zai (Zbt (ZhI (by walk_at "ev") (by walk_at "meth") (Zas (by walk_at "ev") (Zas (ZaT (by walk_at "ev") (by walk_at "ev") (Zdc (.inl hp) Zdw (by intro n_ n_; walk_at "u"))) Zbc (by rfl)) (by rfl)) (by walk_at "evf") (by rfl) (by rfl)) (ZaT (by walk_at "ev") (by walk_at "ev") (Zcb (.inl hp) Zdw (by intro n_ n_; walk_at "u"))) (Zer rfl) (by walk_at "u")) (by refine rE Zjn ?_; exact decide_eq_true (by intro hh; injection hh with hh; injection hh with hh; injection hh with hh; exact hc hh.symm))) (fun n_ => ?_) (fun hb => absurd hb (by decide))
  walk_at "ret"
  exact ⟨rfl, fun n_ n_ e => e⟩
 ·rintro σ' m' ⟨h0, _⟩; injection h0
theorem ZjI {n c : Nat} (e : ZkS w n = some c) : ∃ t, w.nd[n]? = some (.el t (some c)) := by
 refine bE e fun d hd e => ?_
 induction d with
 | doc => injection e
 | tx => injection e
 | el t c' => have e : c' = some c := e; subst e; exact ⟨t, hd⟩
theorem Znh {n : Nat} {w' : PW} (hK : Is G) (h : Zab k z σ w) (rm : Γ.Room 3) (e : Znp w n = some w') : EvW G Γ σ m k z w (.ref 318) [.ref k.f, .int n] .none w' := by
 refine bE e fun c hc e => ?_
 split at e
 case isFalse => exact nA e
 rename_i hz
 refine o20 hz ?_; clear hz; intro hz hall
 (replace e := sO e; subst e)
 refine o21 (ZjI hc) fun t hn => ?_
 walk_at "defW"
 walk_at "asg"
 walk_at "asg"
 refine Zgu (fun σ' m' => (∀ b o, σ b = some o -> σ' b = some o) /\ HasL [("self", .ref k.f), ("node", .int n), ("count", .int 0), ("earliest", .int (-1))] m') (Zce (Zdu hK) (by rfl) (by decide) ((show EvA G _ σ _ _ _ [.int ((w.fm.length : Int) - 1), .int (-1), .int (-1)] by walk_at "eva") _ (Zf5 fun a ha => ?_)) (by rfl) (by rfl) (by decide)) ?_ (by rfl) (by intro n_; rfl)
 ·refine e94 w.fm.length (fun i => .int ((w.fm.length : Int) - 1 - i)) (fun n_ => True) (fun i σ' m' => σ' = σ.set a (.rng ((w.fm.length : Int) - 1) (-1) (-1)) /\ HasL [("self", .ref k.f), ("node", .int n), ("count", .int 0), ("earliest", .int (-1))] m') (fun u ru => ?_) ⟨rfl, ⟨rfl, rfl, rfl, rfl, trivial⟩⟩ (fun n_ n_ n_ n_ => trivial) ?_ ?_
  ·subst ru
   exact Zfo Sig.set_self (ZnL h)
  ·rintro i σ' m' hi ⟨hσ, hm⟩
   subst σ'
   have h1 : Zab k z (σ.set a (.rng ((w.fm.length : Int) - 1) (-1) (-1))) w := h.mono (Zaa ha)
   obtain ⟨j, hj⟩ : ∃ j, w.fm.length - i = j + 1 := ⟨w.fm.length - i - 1, sB hi⟩
   have hij : ((w.fm.length : Int) - 1 - i) = (j : Int) := sC hj
   have hx : w.fm[j]? = some (w.fm[j]'(by omega)) := ZqA (by omega)
   have hxm : w.fm[j]'(by omega) ∈ w.fm := Zsv _
   generalize w.fm[j]'(by omega) = x at hx hxm
   have hxx := Zq4.mp hall x hxm
   induction hlx : ZkS w x with
   | none => rw [hlx] at hxx; exact nC hxx
   | some cx =>
   rw [hlx] at hxx
   have hne : cx ≠ c := by simpa using hxx
   refine o21 (ZjI hlx) fun tx hnx => ?_
   refine Zbb (l := [("at", .int ((w.fm.length : Int) - 1 - i)), ("self", .ref k.f), ("node", .int n), ("count", .int 0), ("earliest", .int (-1))]) ⟨rfl, hm.1, hm.2.1, hm.2.2.1, hm.2.2.2.1, trivial⟩ ?_
   refine Za8 (b := false) (Zai (by walk_at "evt") (by refine rE Zb6 ?_; exact decide_eq_false (by omega))) (fun hb => absurd hb (by decide)) (fun n_ => Zah ?_)
   refine Za8 (b := false) (Zeu (v := .bool false) (Zcw (Zmc hK) (Zle hK) (by walk_at "eva") (Znn hK h1 (by walk_at "rm") hnx hn hne) (by rfl) (by rfl) (by decide)) Zdf (by rfl)) (fun hb => absurd hb (by decide)) (fun n_ => Zah (Zah ?_))
   exact ⟨rfl, ⟨rfl, rfl, rfl, rfl, trivial⟩⟩
  ·rintro σ' m' ⟨hσ, hm⟩
   exact ⟨fun b o e => by refine rE hσ ?_; exact Zaa ha b o e, hm⟩
 ·rintro σ' m' ⟨hσ, hm⟩
  refine Zbb hm ?_
  have h1 : Zab k z σ' w := h.mono hσ
  refine Za8 (b := false) (Zai (by walk_at "evt") (by rfl)) (fun hb => absurd hb (by decide)) (fun n_ => Zah ?_)
  refine Zal (Zbf PySem.F.slot_list_append PySem.F.type_list_append (by walk_at "ev") (Zl1 h1) (by walk_at "eva") (Zp1 h1 hz) (by rfl) (by rfl)) (fun z' σ'' h' x' => ?_) (by rfl) (by rfl)
  exact Zah (Zba h' ((Ext.more hσ).trans x'))
end
section
variable {G : Glo} {Γ : Amb} {σ : Sig} {m : Loc} {k : Cfg} {z : Var} {w : PW} {o i : Expr}
theorem ZfD {a : Addr} {xs : List Str} {x : Str} (e : Sees G σ a (.tup (xs.map AV.str))) : EvC G Γ σ m .In (.str x) (.ref a) (decide (x ∈ xs)) := fun A B Q ra rb q => Zg6 e rb ra q
theorem ZbW {pos : Pos} {es : List Expr} {l : List Str} (h : ZgF es = true) (e : cstrs es = l) : EvA G Γ σ m pos es (l.map AV.str) := e ▸ ZdQ h
noncomputable def AO.isL : AO -> Bool
 | .lst _ => true
 | _ => false
noncomputable def AO.isC : AO -> Bool
 | .cel _ => true
 | _ => false
noncomputable def AO.isD : AO -> Bool
 | .dct _ => true
 | _ => false
theorem AO.nl {o : AO} (h : o.isL = false) : ∀ l, o ≠ .lst l := fun l q => by rw [q] at h; injection h
theorem AO.nd {o : AO} (h : o.isD = false) : ∀ l, o ≠ .dct l := fun l q => by rw [q] at h; injection h
theorem Zb3 {σ' : Sig} {z' : Var} {w' : PW} {a : Addr} {ob : AO} (h : Zab k z σ w) (x : Zcr k z w σ z' w' σ') (e : σ a = some ob) (hn : ∀ l, ob ≠ .lst l) : σ' a = some ob := x.keep a ob e fun ow => by
 refine o21 (h.own ow) fun l hl => ?_
 rw [e] at hl; (replace hl := sO hl; subst hl); exact hn _ rfl
theorem Zci {l : List Nat} {n : Nat} (e : l.getLast? = some n) : l = l.dropLast ++ [n] := by
 have hne : l ≠ [] := by intro q; rw [q] at e; injection e
 rw [List.getLast?_eq_some_getLast hne] at e
 (replace e := sO e; subst e)
 exact (Zq3 hne).symm
theorem ZoO (d : Nd) (t : Tag) : decide (d.name ∈ [t.str]) = d.isTag t := by
 refine rS (Zc9 _ _) ?_
 congr 1
 rw [ZqI]
theorem Zja {t : Tag} {a : Addr} {w' : PW} (hK : Is G) (h : Zab k z σ w) (rm : Γ.Room 3) (ha : σ a = some (.tup [.str t.str])) (e : ZeT t w.st.length w = some w') {Q : AV -> Sig -> Loc -> Prop} (q : ∀ v z' σ', Zab k z' σ' w' -> Zcr k z w σ z' w' σ' -> Q v σ' m) : FC G Γ (.ref 179) [.ref k.s, .ref a] Q σ m := by
 walk_at "defF"
 refine Zan (ZdA (fun j σ' m' => ∃ za w₁, Zab k za σ' w₁ /\ Zcr k z w σ za w₁ σ' /\ ZeT t j w₁ = some w' /\ j = w₁.st.length /\ HasL [("self", .ref k.s), ("names", .ref a)] m') w.st.length ⟨z, w, h, .refl, e, rfl, ⟨rfl, rfl, trivial⟩⟩ ?_)
 rintro j σ₁ mc ⟨za, w₁, h₁, x₁, ec, rfl, hm⟩
 refine Zbb hm ?_
 have haa := Zb3 h x₁ ha (AO.nl rfl)
 induction hj : w₁.st.length using Zd9 with
 | zero =>
  rw [hj] at ec
  (replace ec := sO ec; subst ec)
  refine (show EvT G _ _ _ _ false from Zai (by walk_at "evt") (by refine rE hj ?_; rfl)) _ ?_
  exact ZaI (by walk_at "ev") (q _ _ _ h₁ x₁)
 | succ j =>
  refine (show EvT G _ _ _ _ true from Zai (by walk_at "evt") (by refine rE ZkP ?_; exact decide_eq_true (by omega))) _ ?_
  rw [hj] at ec
  refine bE ec fun n hn ec => ?_
  refine bE ec fun d hd ec => ?_
  walk_at "asg"
  refine Zcn (Zbf PySem.F.slot_list_pop PySem.F.type_list_pop (by walk_at "ev") (ZlT h₁) (by walk_at "eva") (ZnE h₁ (Zci hn)) (by rfl) (by rfl)) (fun zb σ₂ h₂ x₂ => ?_) (by rfl) (by rfl)
  have had := Zb3 h₁ x₂ haa (AO.nl rfl)
  refine Za8 (b := d.isTag t) (Zai (Zbt (by walk_at "ev") (by walk_at "ev") (ZfD (xs := [t.str]) (.inl had)) (by walk_at "u")) (ZoO d t)) (fun hb => ?_) (fun hb => ?_)
  ·rw [hb, if_pos rfl] at ec
   (replace ec := sO ec; subst ec)
   exact ZaI (by walk_at "ev") (q _ _ _ h₂ (x₁.trans x₂))
  ·rw [hb, if_neg (by decide)] at ec
   refine Zah (Zah ⟨j, ZqS j, zb, _, h₂, x₁.trans x₂, ec, ?_, ⟨rfl, rfl, trivial⟩⟩)
   refine (?_ : j = w₁.st.dropLast.length)
   refine rE List.length_dropLast (rE hj ?_); rfl
noncomputable def impl : List Str := ["dd", "dt", "li", "optgroup", "option", "p", "rb", "rp", "rt", "rtc"]
theorem implied (hK : Is G) (rm : Γ.Room 1) {Q : AV -> Sig -> Loc -> Prop} (q : ∀ a, σ a = none -> Q (.ref a) (σ.set a (.tup (impl.map AV.str))) m) : FC G Γ (.ref 42) [] Q σ m := by
 walk_at "defF"
 refine Zan ?_
 refine ZaZ ?_
 refine ZaE ?_
 refine ZbW (l := impl) ?_ ?_ _ ?_
 ·kernel_rfl
 ·kernel_rfl
 refine Zrb ?_ ?_
 ·refine rE sizeLine_eq ?_; exact of_decide_eq_true (by kernel_rfl)
 intro a ha
 exact q a ha
theorem ZmV (d : Nd) : decide (d.name ∈ impl) = d.isTag .p := by
 induction d with
 | doc => kernel_rfl
 | tx => kernel_rfl
 | el t c => induction t <;> kernel_rfl
theorem ZhB {t : Tag} {w' : PW} (hK : Is G) (h : Zab k z σ w) (rm : Γ.Room 3) (e : Zde t (w.st.length + 1) w = some w') : EvW G Γ σ m k z w (.ref 216) [.ref k.s, .str t.str] .none w' := by
 walk_at "defW"
 refine Zan (Zax (Zay (Zc4 hK) (ZcQ hK) (Zap (implied hK (by walk_at "rm") fun a ha => ?_)) (by rfl) (by rfl) (by decide)) (by rfl) (by rfl))
 have h0 : Zab k z (σ.set a (.tup (impl.map AV.str))) w := h.mono (Zaa ha)
 have ha0 : (σ.set a (.tup (impl.map AV.str))) a = some (.tup (impl.map AV.str)) := Sig.set_self
 have x0 : Zcr k z w σ z w (σ.set a (.tup (impl.map AV.str))) := Ext.more (Zaa ha)
 generalize σ.set a (.tup (impl.map AV.str)) = σ₀ at h0 ha0 x0
 refine Zan (ZdA (fun f σ' m' => ∃ za w₁, Zab k za σ' w₁ /\ Zcr k z w σ₀ za w₁ σ' /\ Zde t f w₁ = some w' /\ HasL [("stack", .ref k.s), ("but", .str t.str), ("names", .ref a)] m') (w.st.length + 1) ⟨z, w, h0, .refl, e, ⟨rfl, rfl, rfl, trivial⟩⟩ ?_)
 rintro f σ₁ mc ⟨za, w₁, h₁, x₁, ec, hm⟩
 refine Zbb hm ?_
 have haa := Zb3 h0 x₁ ha0 (AO.nl rfl)
 induction f using Zd9 with
 | zero => injection ec
 | succ f =>
  refine bE ec fun n hn ec => ?_
  refine bE ec fun d hd ec => ?_
  refine (show EvT G _ _ _ _ (d.isTag .p && !d.isTag t) from Zai (Zbk (ZaA (Zbt (by walk_at "ev") (by walk_at "ev") (ZfD (.inl haa)) (by walk_at "u")) fun n_ => ZaA (by walk_at "evt") fun n_ => ZbN)) (by (refine rE (ZmV _) (rE (Zsr _) (rE Zjn (rS (Zc9 d t) ?_)))); by_cases q : d.name = t.str <;> simp [q])) _ ?_
  induction hc : (d.isTag .p && !d.isTag t) with
  | false =>
   rw [hc, if_neg (by decide)] at ec
   (replace ec := sO ec; subst ec)
   exact Zah (Zba h₁ (x0.trans x₁))
  | true =>
   rw [hc, if_pos rfl] at ec
   refine Zal (Zak (by walk_at "ev") (by walk_at "meth") (by walk_at "eva") (ZdN hK h₁ (by walk_at "rm") (Zci hn)) (by rfl) (by rfl)) (fun zb σ₂ h₂ x₂ => ?_) (by rfl) (by rfl)
   exact Zah ⟨f, ZqS f, zb, _, h₂, x₁.trans x₂, ec, ⟨rfl, rfl, rfl, trivial⟩⟩
theorem Zen {n : Nat} {st' : List Nat} (hK : Is G) (h : Zab k z σ w) (rm : Γ.Room 3) (e : Zmt w.st.length w.st n = some st') : EvW G Γ σ m k z w (.ref 223) [.ref k.s, .int n] .none { w with st := st' } := by
 walk_at "defW"
 refine Zg1 (fun σ' m' => ∃ za st1, Zab k za σ' { w with st := st1 } /\ Zcr k z w σ za { w with st := st1 } σ' /\ st1 = st' ++ [n] /\ HasL [("stack", .ref k.s), ("node", .int n)] m') (fun f σ' m' => ∃ za st1, Zab k za σ' { w with st := st1 } /\ Zcr k z w σ za { w with st := st1 } σ' /\ Zmt f st1 n = some st' /\ HasL [("stack", .ref k.s), ("node", .int n)] m') w.st.length ⟨z, w.st, h, .refl, e, ⟨rfl, rfl, trivial⟩⟩ ?_ ?_
 ·rintro f σ₁ mc ⟨za, st1, h₁, x₁, ec, hm⟩
  refine Zbb hm ?_
  induction f using Zd9 with
  | zero => injection ec
  | succ f =>
   refine bE ec fun x hx ec => ?_
   have hc : cur st1 = x := Zby hx
   by_cases q : x = n
   ·rw [if_pos q] at ec
    (replace ec := sO ec; subst ec)
    refine (show EvT G _ _ _ _ false from Zai (by walk_at "evt") (by refine rE Zbp ?_; refine (?_ : decide (cur st1 ≠ n) = false); refine rE hc ?_; exact decide_eq_false (by omega))) _ ?_
    exact e62 za st1 h₁ x₁ (by refine rS q ?_; exact Zci hx) ⟨rfl, rfl, trivial⟩
   ·rw [if_neg q] at ec
    refine (show EvT G _ _ _ _ true from Zai (by walk_at "evt") (by refine rE Zbp ?_; refine (?_ : decide (cur st1 ≠ n) = true); refine rE hc ?_; exact decide_eq_true (by omega))) _ ?_
    refine Zal (Zak (by walk_at "ev") (by walk_at "meth") (by walk_at "eva") (ZdN hK h₁ (by walk_at "rm") (Zci hx)) (by rfl) (by rfl)) (fun zb σ₂ h₂ x₂ => ?_) (by rfl) (by rfl)
    exact Zah ⟨f, ZqS f, zb, _, h₂, x₁.trans x₂, ec, ⟨rfl, rfl, trivial⟩⟩
 ·rintro σ₁ mc ⟨za, st1, h₁, x₁, ec, hm⟩
  refine Zbb hm ?_
  refine Zal (Zak (by walk_at "ev") (by walk_at "meth") (by walk_at "eva") (ZdN hK h₁ (by walk_at "rm") ec) (by rfl) (by rfl)) (fun zb σ₂ h₂ x₂ => ?_) (by rfl) (by rfl)
  exact Zah (Zba h₂ (x₁.trans x₂))
theorem ZkZ {t : Tag} {w' : PW} (hK : Is G) (h : Zab k z σ w) (rm : Γ.Room 4) (e : ZjE w t w.st.length = some w') : EvW G Γ σ m k z w (.ref 230) [.ref k.b, .str t.str] .none w' := by
 walk_at "defW"
 walk_at "asg"
 walk_at "asg"
 walk_at "asg"
 refine Zan (ZdA (fun j σ' m' => σ' = σ /\ ZjE w t j = some w' /\ HasL [("builder", .ref k.b), ("name", .str t.str), ("tree", .ref k.t), ("stack", .ref k.s), ("at", .int ((j : Int) - 1))] m') w.st.length ⟨rfl, e, ⟨rfl, rfl, rfl, rfl, rfl, trivial⟩⟩ ?_)
 rintro j σ₁ mc ⟨rfl, ec, hm⟩
 refine Zbb hm ?_
 induction j using Zd9 with
 | zero =>
  refine (show EvT G _ _ _ _ false from Zai (by walk_at "evt") (by rfl)) _ ?_
  (replace ec := sO ec; subst ec)
  exact Zah (Zba h .refl)
 | succ j =>
  have hij : (((j + 1 : Nat) : Int) - 1) = (j : Int) := by omega
  refine (show EvT G _ _ _ _ true from Zai (by walk_at "evt") (by refine rE ZlV ?_; exact decide_eq_true (by omega))) _ ?_
  refine bE ec fun n hn ec => ?_
  refine bE ec fun d hd ec => ?_
  walk_at "asg"
  refine Za8 (b := d.isTag t) (by walk_at "evt") (fun hb => ?_) (fun hb => Zah ?_)
  ·rw [hb, if_pos rfl] at ec
   refine bE ec fun w₁ hw1 ec => ?_
   refine bE ec fun c hc ec => ?_
   refine bE ec fun w₂ hwa ec => ?_
   refine bE ec fun st hst ec => ?_
   (replace ec := sO ec; subst ec)
   refine Zal (ZaU (Zea hK) (ZdZ hK) (by walk_at "eva") (ZhB hK h (by walk_at "rm") hw1) (by rfl) (by rfl) (by decide)) (fun za σ₁ h₁ x₁ => ?_) (by rfl) (by rfl)
   refine Za8 (b := decide (c ≠ n)) (Zai (by walk_at "evt") (by (refine rE (Zby hc) (rE Zbp ?_)); congr 1; exact propext ⟨fun q r => q (by exact rE r rfl), fun q r => q (by omega)⟩)) (fun hb => ?_) (fun hb => Zah ?_)
   ·have hb := of_decide_eq_true hb
    rw [if_pos hb] at hwa
    refine Zal (Zak (by walk_at "ev") (by walk_at "meth") (by walk_at "eva") (Zfv hK h₁ (by walk_at "rm") hwa) (by rfl) (by rfl)) (fun zb σ₂ h₂ x₂ => ?_) (by rfl) (by rfl)
    refine Zah ?_
    refine Zal (ZaU (Zdi hK) (Zda hK) (by walk_at "eva") (Zen hK h₂ (by walk_at "rm") hst) (by rfl) (by rfl) (by decide)) (fun zc σ₃ h₃ xc => ?_) (by rfl) (by rfl)
    exact Zco (Zdj (m' := []) rfl h₃ ((x₁.trans x₂).trans xc))
   ·have hb := of_decide_eq_false hb
    rw [if_neg hb] at hwa
    (replace hwa := sO hwa; subst hwa)
    refine Zal (ZaU (Zdi hK) (Zda hK) (by walk_at "eva") (Zen hK h₁ (by walk_at "rm") hst) (by rfl) (by rfl) (by decide)) (fun zc σ₃ h₃ xc => ?_) (by rfl) (by rfl)
    exact Zco (Zdj (m' := []) rfl h₃ (x₁.trans xc))
  ·rw [hb, if_neg (by decide)] at ec
   refine Za8 (b := d.special) (by walk_at "evt") (fun hb => ?_) (fun hb => Zah ?_)
   ·rw [hb, if_pos rfl] at ec
    refine Zal (Zak (by walk_at "ev") (by walk_at "meth") (by walk_at "eva") (Zfv hK h (by walk_at "rm") ec) (by rfl) (by rfl)) (fun zb σ₂ h₂ x₂ => ?_) (by rfl) (by rfl)
    exact Zco (Zdj (m' := []) rfl h₂ x₂)
   ·rw [hb, if_neg (by decide)] at ec
    refine Zfk (by rfl) (by walk_at "ev") (by walk_at "evi") ?_ (by rfl)
    exact Zah ⟨j, ZqS j, rfl, ec, ⟨rfl, rfl, rfl, rfl, by refine rS hij ?_; rfl, trivial⟩⟩
end
section
variable {G : Glo} {Γ : Amb} {σ : Sig} {m : Loc} {k : Cfg} {z : Var} {w : PW} {o i : Expr}
theorem furthest {n : Nat} {r : Option Nat} (hK : Is G) (h : Zab k z σ w) (rm : Γ.Room 2) (hn : n ∈ w.st) (e : ZkY w (w.st.length - (w.st.idxOf n + 1)) (w.st.idxOf n + 1) = some r) : EvF G Γ σ m (.ref 237) [.ref k.b, .int n] (.int (oz r)) := by
 refine o20 (Zb4 hn) fun hlt n_ => ?_
 walk_at "defV"
 walk_at "asg"
 walk_at "asg"
 refine ZaS (v := .int ((w.st.idxOf n + 1 : Nat) : Int)) (Zcf (v := .int (placeOf w.st n + 1)) (by walk_at "ev") (by refine rE (ZbH hn) ?_; rfl)) ?_ (by rfl) (by rfl)
 refine Zg1 (fun σ' m' => σ' = σ /\ r = none) (fun f σ' m' => σ' = σ /\ ∃ at_ : Nat, ZkY w f at_ = some r /\ f + at_ = w.st.length /\ HasL [("tree", .ref k.t), ("stack", .ref k.s), ("at", .int (at_ : Nat))] m') _ ⟨rfl, _, e, Zsb hlt, ⟨rfl, rfl, rfl, trivial⟩⟩ ?_ ?_
 ·rintro f σ₁ mc ⟨rfl, at_, ec, hf, hm⟩
  refine Zbb hm ?_
  induction f using Zd9 with
  | zero =>
   refine (show EvT G _ _ _ _ false from Zai (by walk_at "evt") (by refine rE Zgc ?_; exact decide_eq_false (by omega))) _ ?_
   (replace ec := sO ec; subst ec)
   exact ⟨rfl, rfl⟩
  | succ f =>
   refine (show EvT G _ _ _ _ true from Zai (by walk_at "evt") (by refine rE Zgc ?_; exact decide_eq_true (by omega))) _ ?_
   refine bE ec fun b hb ec => ?_
   refine bE ec fun d hd ec => ?_
   walk_at "asg"
   refine Za8 (b := d.special) (by walk_at "evt") (fun hs => ?_) (fun hs => Zah ?_)
   ·rw [hs, if_pos rfl] at ec
    (replace ec := sO ec; subst ec)
    walk_at "ret"
    exact ⟨rfl, fun n_ n_ e => e⟩
   ·rw [hs, if_neg (by decide)] at ec
    refine Zfk (by rfl) (by walk_at "ev") (by walk_at "evi") ?_ (by rfl)
    exact Zah ⟨f, ZqS f, rfl, at_ + 1, ec, by omega, ⟨rfl, rfl, rfl, trivial⟩⟩
 ·rintro σ' m' ⟨hσ, hr⟩
  refine ZaI (by walk_at "ev") ?_
  exact ⟨by refine rE hr ?_; rfl, fun b o e => by refine rE hσ ?_; exact e⟩
theorem ZkT {t : Tag} {r : Option Nat} {w' : PW} (hK : Is G) (h : Zab k z σ w) (rm : Γ.Room 5) (e : ZiK w t = some (r, w')) : EvW G Γ σ m k z w (.ref 244) [.ref k.b, .str t.str] (.int (oz r)) w' := by
 refine bE e fun ri hr0 e => ?_
 walk_at "defW"
 refine ZaS (v := .int (oz ri)) (by walk_at "ev") ?_ (by rfl) (by rfl)
 induction ri with
 | none =>
  refine bE e fun w₁ hw1 e => ?_
  cases e
  refine Za8 (b := true) (Zai (by walk_at "evt") (by rfl)) (fun n_ => ?_) (fun hb => absurd hb (by decide))
  refine Zal (ZaU (ZcV hK) (ZcS hK) (by walk_at "eva") (ZkZ hK h (by walk_at "rm") hw1) (by rfl) (by rfl) (by decide)) (fun za σ₁ h₁ x₁ => ?_) (by rfl) (by rfl)
  walk_at "ret"
  exact Zdj (m' := []) rfl h₁ x₁
 | some s =>
  refine Za8 (b := false) (Zai (by walk_at "evt") (by refine rE Zb6 ?_; exact decide_eq_false (by refine (?_ : ¬ ((s : Int) = -1)); omega))) (fun hb => absurd hb (by decide)) (fun n_ => Zah ?_)
  refine Zbb (l := [("subject", .int s), ("builder", .ref k.b), ("name", .str t.str)]) ⟨rfl, rfl, rfl, trivial⟩ ?_
  dsimp only at e
  by_cases hin : s ∈ w.st
  ·rw [show (if s ∈ w.st then _ else _) = _ from if_pos hin] at e
   refine bE e fun sc hsc e => ?_
   refine Za8 (b := false) (Zai (by walk_at "evt") (by refine rE (decide_eq_true hin) ?_; rfl)) (fun hb => absurd hb (by decide)) (fun n_ => Zah ?_)
   refine Za8 (b := !sc) (by walk_at "evt") (fun hb => ?_) (fun hb => Zah ?_)
   ·have hb : sc = false := by simpa using hb
    subst hb
    refine bE e fun w₁ hw1 e => ?_
    cases e
    refine Zal (Zak (by walk_at "ev") (by walk_at "meth") (by walk_at "eva") (Zfv hK h (by walk_at "rm") hw1) (by rfl) (by rfl)) (fun zb σ₂ h₂ x₂ => ?_) (by rfl) (by rfl)
    walk_at "ret"
    exact Zdj (m' := []) rfl h₂ x₂
   ·have hb : sc = true := by simpa using hb
    subst hb
    refine bE e fun w₁ hw1 e => ?_
    cases e
    refine Za8 (b := decide (cur w.st ≠ s)) (Zai (by walk_at "evt") (by rfl)) (fun hb => ?_) (fun hb => Zah ?_)
    ·rw [if_pos (of_decide_eq_true hb)] at hw1
     refine Zal (Zak (by walk_at "ev") (by walk_at "meth") (by walk_at "eva") (Zfv hK h (by walk_at "rm") hw1) (by rfl) (by rfl)) (fun zb σ₂ h₂ x₂ => ?_) (by rfl) (by rfl)
     refine Zah ?_
     walk_at "ret"
     exact Zdj (m' := []) rfl h₂ x₂
    ·rw [if_neg (of_decide_eq_false hb)] at hw1
     (replace hw1 := sO hw1; subst hw1)
     walk_at "ret"
     exact Zdj (m' := []) rfl h .refl
  ·rw [show (if s ∈ w.st then _ else _) = _ from if_neg hin] at e
   refine bE e fun w₁ hw1 e => ?_
   cases e
   refine Za8 (b := true) (Zai (by walk_at "evt") (by refine rE (decide_eq_false hin) ?_; rfl)) (fun n_ => ?_) (fun hb => absurd hb (by decide))
   refine Zal (Zak (by walk_at "ev") (by walk_at "meth") (by walk_at "eva") (Zfv hK h (by walk_at "rm") hw1) (by rfl) (by rfl)) (fun zb σ₂ h₂ x₂ => ?_) (by rfl) (by rfl)
   refine Zal (Zak (by walk_at "ev") (by walk_at "meth") (by walk_at "eva") (Zef hK h₂ (by walk_at "rm")) (by rfl) (by rfl)) (fun zc σ₃ h₃ xc => ?_) (by rfl) (by rfl)
   walk_at "ret"
   exact Zdj (m' := []) rfl h₃ (x₂.trans xc)
theorem ZkN {s b j kk last : Nat} {mark : Int} : ZcF s b j kk w last mark = (w.st[j]?).bind fun x => if x = s then some (w, last, mark) else match j with
  | 0 => none
  | j' + 1 =>
   if x ∈ w.fm then (if 3 <= kk then none else (w.nd[x]?).bind fun d => match d with
    | .el t c => (Zgm w (.el t c) []).bind fun r =>
     (Za7 { r.2 with fm := r.2.fm.set (r.2.fm.idxOf x) r.1, st := r.2.st.set (j' + 1) r.1 } r.1 last).bind fun w₂ =>
     ZcF s b j' (kk + 1) w₂ r.1 (if last = b then (w.fm.idxOf x : Nat) + 1 else mark)
    | _ => none)
   else ZcF s b j' (kk + 1) { w with st := w.st.erase x } last mark := by induction j <;> rfl
theorem ZlZ {d : Nd} {t : List Nat} {n : Nat} {w' : PW} (e : Zgm w d t = some (n, w')) : w'.fm = w.fm /\ w'.st = w.st := by
 unfold Zgm at e
 split at e
 ·cases e; exact ⟨rfl, rfl⟩
 ·exact nA e
theorem ZoJ {s b last' : Nat} {mark' : Int} {w' : PW} (hK : Is G) (h : Zab k z σ w) (rm : Γ.Room 4) (hb : b ∈ w.st) (hb0 : 0 < w.st.idxOf b) (e : ZcF s b (w.st.idxOf b - 1) 0 w b (placeOf w.fm s) = some (w', last', mark'))
  {Q : AV -> Sig -> Loc -> Prop} (q : ∀ a z' σ', Zab k z' σ' w' -> Zcr k z w σ z' w' σ' -> σ' a = some (.tup [.int last', .int mark']) -> Q (.ref a) σ' m) : FC G Γ (.ref 251) [.ref k.b, .int s, .int b] Q σ m := by
 walk_at "defF"
 walk_at "asg"
 walk_at "asg"
 walk_at "asg"
 walk_at "asg"
 walk_at "asg"
 walk_at "asg"
 refine ZaS (v := .int ((w.st.idxOf b - 1 : Nat) : Int)) (Zcf (v := .int (placeOf w.st b - 1)) (by walk_at "ev") (by refine rE (ZbH hb) ?_; exact congrArg AV.int (sE hb0))) ?_ (by rfl) (by rfl)
 refine Zg1 (fun σ' m' => ∃ za, Zab k za σ' w' /\ Zcr k z w σ za w' σ' /\ HasL [("last", .int last'), ("mark", .int mark')] m')
  (fun j σ' m' => ∃ za w₁, ∃ kk last : Nat, ∃ mark : Int, Zab k za σ' w₁ /\ Zcr k z w σ za w₁ σ' /\ ZcF s b j kk w₁ last mark = some (w', last', mark') /\ HasL [("builder", .ref k.b), ("subject", .int s), ("block", .int b), ("tree", .ref k.t), ("stack", .ref k.s), ("formatting", .ref k.f), ("mark", .int mark), ("last", .int last), ("rounds", .int kk), ("at", .int j)] m')
  (w.st.idxOf b - 1) ⟨z, w, 0, b, placeOf w.fm s, h, .refl, e, ⟨rfl, rfl, rfl, rfl, rfl, rfl, rfl, rfl, rfl, rfl, trivial⟩⟩ ?_ ?_
 ·rintro j σ₁ mc ⟨za, w₁, kk, last, mark, h₁, x₁, ec, hm⟩
  refine Zbb hm ?_
  rw [ZkN] at ec
  refine bE ec fun x hx ec => ?_
  by_cases hxs : x = s
  ·rw [if_pos hxs] at ec
   cases ec
   refine (show EvT G _ _ _ _ false from Zai (by walk_at "evt") (by refine rE Zbp ?_; exact decide_eq_false (by omega))) _ ?_
   exact e61 za h₁ x₁ rfl rfl trivial
  rw [if_neg hxs] at ec
  refine (show EvT G _ _ _ _ true from Zai (by walk_at "evt") (by refine rE Zbp ?_; exact decide_eq_true (by omega))) _ ?_
  induction j using Zd9 with
  | zero => exact nA ec
  | succ j =>
  have hij : (((j + 1 : Nat) : Int) - 1) = (j : Int) := by omega
  walk_at "asg"
  refine Zfk (by rfl) (by walk_at "ev") (by walk_at "evi") ?_ (by rfl)
  walk_at "asg"
  dsimp only at ec
  by_cases hin : x ∈ w₁.fm
  ·rw [show (if x ∈ w₁.fm then _ else _) = _ from if_pos hin] at ec
   split at ec
   ·exact nA ec
   rename_i hk3
   refine bE ec fun d hd ec => ?_
   induction d with
   | doc => exact nA ec
   | tx => exact nA ec
   | el t c =>
   refine bE ec fun y0 hwa ec => ?_; obtain ⟨n, w₂⟩ := y0
   refine bE ec fun wa hw3 ec => ?_
   refine o20 (ZlZ hwa) fun hfm hst => ?_
   have hpl : placeOf w₁.fm x = ((w₁.fm.idxOf x : Nat) : Int) := ZbH hin
   refine Za8 (b := false) (Zbk (ZaA (a := true) (b := false) (Zai (by walk_at "evt") (by (refine rE Zbp (rE hpl ?_)); exact decide_eq_true (by omega))) fun n_ => ZaA (a := false) (b := true) (Zai (by walk_at "evt") (by refine rE ZkP ?_; exact decide_eq_false (by omega))) fun hb => absurd hb (by decide))) (fun hb => absurd hb (by decide)) (fun n_ => Zah ?_)
   refine Za8 (b := false) (Zai (by walk_at "evt") (by (refine rE Zb6 (rE hpl ?_)); exact decide_eq_false (by omega))) (fun hb => absurd hb (by decide)) (fun n_ => ?_)
   refine Zbb (l := [("builder", .ref k.b), ("subject", .int s), ("block", .int b), ("tree", .ref k.t), ("stack", .ref k.s), ("formatting", .ref k.f), ("mark", .int mark), ("last", .int last), ("rounds", .int ((kk + 1 : Nat) : Int)), ("at", .int ((j + 1 : Nat) : Int)), ("node", .int x), ("place", .int (placeOf w₁.fm x))]) ⟨rfl, rfl, rfl, rfl, rfl, rfl, rfl, rfl, rfl, rfl, rfl, rfl, trivial⟩ ?_
   refine Zan (Zax (Zay (ZjB hK) (ZjY hK) (Zac ((show Ev G _ σ₁ _ _ (.ref k.b) by walk_at "ev") _ (Zac ((show Ev G _ σ₁ _ _ (.str t.str) from Zcf (v := .str (Nd.el t c).name) (by walk_at "ev") rfl) _ (Zac (Zeq hK h₁ hd (by walk_at "ev") (by walk_at "ev") (fun a l ha hi => Zap ?_) (by intro n_ n_; walk_at "u") (by rfl) (by rfl) (by rfl)) (by rfl))) (by rfl))) (by rfl)) (by rfl) (by rfl) (by decide)) (by rfl) (by rfl))
   refine Zo2 hK (h₁.mono (Zaa ha)) (by walk_at "rm") (.inl Sig.set_self) (hi.mono (Zaa ha)) hwa _ fun zb σ₂ h₂ x₂ => ?_
   refine Zal (Zak (by walk_at "ev") (by walk_at "meth") (by walk_at "eva") (Zi1 hK h₂ (by walk_at "rm") (show x ∈ w₂.fm by refine rE hfm ?_; exact hin)) (by rfl) (by rfl)) (fun zc σ₃ h₃ xc => ?_) (by rfl) (by rfl)
   have hjl : j + 1 < w₂.st.length := by refine rE hst ?_; exact (ZqU.mp hx).1
   refine Zkd ((show Ev G _ σ₃ _ _ (.int n) by walk_at "ev") _ ⟨k.sit, w₂.st.map nv, j + 1, by walk_at "ev", by walk_at "ev", (by have := ZlT h₃; exact this), by refine rE (Zqt _) ?_; exact hjl, by refine rE (Zqt _) ?_; have := Zpj h₃; exact this, ?_⟩) (by rfl)
   have tt := Zfx h₃ (l := w₂.st.set (j + 1) n) (by refine rE Zra ?_; have := ZpU h₃; exact this)
   rw [ZrK] at tt
   have h₄ : Zab k zc (σ₃.set k.sit (.lst ((w₂.st.map nv).set (j + 1) (.int n)))) { w₂ with fm := w₂.fm.set (w₂.fm.idxOf x) n, st := w₂.st.set (j + 1) n } := tt.1
   have xd : Zcr k zc _ σ₃ zc { w₂ with fm := w₂.fm.set (w₂.fm.idxOf x) n, st := w₂.st.set (j + 1) n } (σ₃.set k.sit (.lst ((w₂.st.map nv).set (j + 1) (.int n)))) := tt.2
   have x04 := ((((x₁.trans (Ext.more (Zaa ha))).trans x₂).trans xc).trans xd)
   dsimp only at hw3
   clear tt xd
   generalize σ₃.set k.sit (.lst ((w₂.st.map nv).set (j + 1) (.int n))) = σ₄ at h₄ x04 ⊢
   refine Za8 (b := decide (last = b)) (Zai (by walk_at "evt") (by refine rE Zb6 ?_; congr 1; exact propext ⟨fun q => by omega, fun q => by omega⟩)) (fun hlb => ?_) (fun hlb => Zah ?_)
   ·have hlb := of_decide_eq_true hlb
    rw [if_pos hlb] at ec
    refine ZaS (v := .int ((w₁.fm.idxOf x : Nat) + 1)) (Zcf (by walk_at "ev") (by exact rE hpl rfl)) (Zah ?_) (by rfl) (by rfl)
    refine Zal (Zak (by walk_at "ev") (by walk_at "meth") (by walk_at "eva") (ZbZ hK h₄ (by walk_at "rm") hw3) (by rfl) (by rfl)) (fun ze σ₅ h₅ xe => ?_) (by rfl) (by rfl)
    walk_at "asg"
    refine Zah ?_
    refine Zfk (by rfl) (by walk_at "ev") (by walk_at "evi") ?_ (by rfl)
    exact Zah ⟨j, ZqS j, ze, wa, kk + 1, n, _, h₅, x04.trans xe, ec, ⟨rfl, rfl, rfl, rfl, rfl, rfl, rfl, rfl, rfl, by refine rS hij ?_; rfl, trivial⟩⟩
   ·have hlb := of_decide_eq_false hlb
    rw [if_neg hlb] at ec
    refine Zal (Zak (by walk_at "ev") (by walk_at "meth") (by walk_at "eva") (ZbZ hK h₄ (by walk_at "rm") hw3) (by rfl) (by rfl)) (fun ze σ₅ h₅ xe => ?_) (by rfl) (by rfl)
    walk_at "asg"
    refine Zah ?_
    refine Zfk (by rfl) (by walk_at "ev") (by walk_at "evi") ?_ (by rfl)
    exact Zah ⟨j, ZqS j, ze, wa, kk + 1, n, _, h₅, x04.trans xe, ec, ⟨rfl, rfl, rfl, rfl, rfl, rfl, rfl, rfl, rfl, by refine rS hij ?_; rfl, trivial⟩⟩
  ·rw [show (if x ∈ w₁.fm then _ else _) = _ from if_neg hin] at ec
   have hpl : placeOf w₁.fm x = -1 := ZdF hin
   refine Za8 (b := false) (Zbk (ZaA (a := false) (b := false) (Zai (by walk_at "evt") (by (refine rE Zbp (rE hpl ?_)); rfl)) fun hb => absurd hb (by decide))) (fun hb => absurd hb (by decide)) (fun n_ => Zah ?_)
   refine Za8 (b := true) (Zai (by walk_at "evt") (by (refine rE Zb6 (rE hpl ?_)); rfl)) (fun n_ => ?_) (fun hb => absurd hb (by decide))
   refine Zal (Zak (by walk_at "ev") (by walk_at "meth") (by walk_at "eva") (ZeL hK h₁ (by walk_at "rm")) (by rfl) (by rfl)) (fun zb σ₂ h₂ x₂ => ?_) (by rfl) (by rfl)
   refine Zah ?_
   refine Zfk (by rfl) (by walk_at "ev") (by walk_at "evi") ?_ (by rfl)
   exact Zah ⟨j, ZqS j, zb, _, kk + 1, last, mark, h₂, x₁.trans x₂, ec, ⟨rfl, rfl, rfl, rfl, rfl, rfl, rfl, rfl, rfl, by refine rS hij ?_; rfl, trivial⟩⟩
 ·rintro σ₁ mc ⟨za, h₁, x₁, hm⟩
  refine Zbb hm ?_
  refine Zan (ZaZ (ZaE ?_))
  refine (show EvA G _ σ₁ _ _ _ [.int last', .int mark'] by walk_at "eva") _ (Zrb Zdw fun a ha => ?_)
  exact q a za _ (h₁.mono (Zaa ha)) (x₁.trans (Ext.more (Zaa ha))) Sig.set_self
end
section
variable {G : Glo} {Γ : Amb} {σ : Sig} {m : Loc} {k : Cfg} {z : Var} {w : PW} {o i : Expr}
theorem Zjf {s b : Nat} {w' : PW} (hK : Is G) (h : Zab k z σ w) (rm : Γ.Room 5) (e : ZcN w s b = some w') : EvW G Γ σ m k z w (.ref 258) [.ref k.b, .int s, .int b] .none w' := by
 unfold ZcN at e
 split at e
 case isFalse => exact nA e
 rename_i hc
 refine o40 hc fun hs hs0 hb hb0 => ?_; clear hc
 refine bE e fun com hcom e => ?_
 refine bE e fun y0 hin e => ?_; obtain ⟨w₁, last, mark⟩ := y0
 refine bE e fun w₂ hwa e => ?_
 refine bE e fun d hd e => ?_
 induction d with
 | doc => exact nA e
 | tx => exact nA e
 | el t c =>
 refine bE e fun y0 hw3 e => ?_; obtain ⟨n, wa⟩ := y0
 refine bE e fun wb hw4 e => ?_
 refine bE e fun w₅ hw5 e => ?_
 refine bE e fun mark' hmk e => ?_
 dsimp only at hwa hw4 hw5 hmk e
 split at e
 case isFalse => exact nA e
 rename_i hz
 refine o50 hz fun hz1 hz2 hz3 hz4 hz5 => ?_; clear hz
 (replace e := sO e; subst e)
 walk_at "defW"
 walk_at "asg"
 walk_at "asg"
 walk_at "asg"
 refine ZaS (v := .int com) (ZaT (x := .ref k.sit) (y := .int ((w.st.idxOf s - 1 : Nat) : Int)) (by walk_at "ev") (Zcf (v := .int (placeOf w.st s - 1)) (by walk_at "ev") (by refine rE (ZbH hs) ?_; congr 1; omega)) (Zn9 h hcom (by intro n_ n_; walk_at "u"))) ?_ (by rfl) (by rfl)
 refine Zd4 (Zay (ZeQ hK) (ZeY hK) ((show EvA G _ σ _ _ _ [.ref k.b, .int s, .int b] by walk_at "eva") _ (ZoJ hK h (by walk_at "rm") hb hb0 hin fun a za σ₁ h₁ x₁ ha => ?_)) (by rfl) (by rfl) (by decide)) (by rfl) (by rfl) (by rfl) (by rfl)
 refine e63 a _ _ rfl (.inl ha) ?_
 refine Zd4 (Zay (ZcE hK) (Zcv hK) ((show EvA G _ σ₁ _ _ _ [.ref k.b, .int com] by walk_at "eva") _ (Zkz hK h₁ (by walk_at "rm") fun a' ha' => ?_)) (by rfl) (by rfl) (by decide)) (by rfl) (by rfl) (by rfl) (by rfl)
 refine e63 a' _ _ rfl (.inl Sig.set_self) ?_
 have h1' := h₁.mono (Zaa (o := .tup [.int com, .int (-1)]) ha')
 have x₁' := x₁.trans (Ext.more (Zaa (o := .tup [.int com, .int (-1)]) ha'))
 generalize σ₁.set a' (.tup [.int com, .int (-1)]) = σ1' at h1' x₁' ⊢
 refine Zal (Zak (by walk_at "ev") (by walk_at "meth") (by walk_at "eva") (ZdB hK h1' (by walk_at "rm") hwa) (by rfl) (by rfl)) (fun zb σ₂ h₂ x₂ => ?_) (by rfl) (by rfl)
 refine Zan (Zax (Zay (ZjB hK) (ZjY hK) (Zac ((show Ev G _ σ₂ _ _ (.ref k.b) by walk_at "ev") _ (Zac ((show Ev G _ σ₂ _ _ (.str t.str) from Zcf (v := .str (Nd.el t c).name) (by walk_at "ev") rfl) _ (Zac (Zeq hK h₂ hd (by walk_at "ev") (by walk_at "ev") (fun a l ha hi => Zap ?_) (by intro n_ n_; walk_at "u") (by rfl) (by rfl) (by rfl)) (by rfl))) (by rfl))) (by rfl)) (by rfl) (by rfl) (by decide)) (by rfl) (by rfl))
 refine Zo2 hK (h₂.mono (Zaa ha)) (by walk_at "rm") (.inl Sig.set_self) (hi.mono (Zaa ha)) hw3 _ fun zc σ₃ h₃ xc => ?_
 have x03 := ((x₁'.trans x₂).trans (Ext.more (Zaa ha))).trans xc
 refine Zal (Zak (by walk_at "ev") (by walk_at "meth") (by walk_at "eva") (Zlc hK h₃ (by walk_at "rm") hw4) (by rfl) (by rfl)) (fun zd σ₄ h₄ xd => ?_) (by rfl) (by rfl)
 refine Zal (Zak (by walk_at "ev") (by walk_at "meth") (by walk_at "eva") (ZbZ hK h₄ (by walk_at "rm") hw5) (by rfl) (by rfl)) (fun ze σ₅ h₅ xe => ?_) (by rfl) (by rfl)
 have hmn : mark' = ((mark'.toNat : Nat) : Int) := by omega
 suffices hs : ∀ m', HasL [("subject", .int s), ("block", .int b), ("stack", .ref k.s), ("formatting", .ref k.f), ("mark", .int (mark'.toNat : Nat)), ("fresh", .int n)] m' -> _ from by
  refine Za8 (b := decide (placeOf w₅.fm s < mark)) (Zai (by walk_at "evt") (by rfl)) (fun hb => ?_) (fun hb => ?_)
  ·rw [if_pos (of_decide_eq_true hb)] at hmk
   have hmk := ZqC hmk
   refine Zfk (by rfl) (by walk_at "ev") (by walk_at "evi") ?_ (by rfl)
   exact Zah (hs _ ⟨rfl, rfl, rfl, rfl, by (refine rS hmn (rS hmk ?_)); rfl, rfl, trivial⟩)
  ·rw [if_neg (of_decide_eq_false hb)] at hmk
   have hmk := ZqC hmk
   exact Zah (hs _ ⟨rfl, rfl, rfl, rfl, by (refine rS hmn (rS hmk ?_)); rfl, rfl, trivial⟩)
 intro m' hm
 refine Zbb hm ?_
 refine Zal (Zak (by walk_at "ev") (by walk_at "meth") (by walk_at "eva") (Zef hK h₅ (by walk_at "rm")) (by rfl) (by rfl)) (fun zg σ6 h₆ x6 => ?_) (by rfl) (by rfl)
 refine Zal (Zak (by walk_at "ev") (by walk_at "meth") (by walk_at "eva") (Zoy hK h₆ (by walk_at "rm") hz2 hz3) (by rfl) (by rfl)) (fun zf σ₇ h₇ xf => ?_) (by rfl) (by rfl)
 refine Zal (Zak (by walk_at "ev") (by walk_at "meth") (by walk_at "eva") (ZeL hK h₇ (by walk_at "rm")) (by rfl) (by rfl)) (fun z8 σ₈ hN x8 => ?_) (by rfl) (by rfl)
 have hi1 := (Zb4 hz4).1
 refine Zal (Zak (vs := [.int (((w₅.st.erase s).idxOf b + 1 : Nat) : Int), .int n]) (by walk_at "ev") (by walk_at "meth") (Zas (Zcf (v := .int (placeOf (w₅.st.erase s) b + 1)) (by walk_at "ev") (by refine rE (ZbH hz4) ?_; rfl)) (by walk_at "eva") (by rfl)) (Zmi hK hN (by walk_at "rm") hi1 hz5) (by rfl) (by rfl)) (fun z9 σ₉ hO x9 => ?_) (by rfl) (by rfl)
 exact Zah (Zba hO ((((((x03.trans xd).trans xe).trans x6).trans xf).trans x8).trans x9))
theorem Zon {t : Tag} {w' : PW} (hK : Is G) (h : Zab k z σ w) (rm : Γ.Room 6) (e : ZdS w t = some w') : EvW G Γ σ m k z w (.ref 265) [.ref k.b, .str t.str] .none w' := by
 refine bE e fun n hn e => ?_
 refine bE e fun d hd e => ?_
 walk_at "defW"
 walk_at "asg"
 refine Za8 (b := d.isTag t && !decide (n ∈ w.fm)) (Zbk (ZaA (Zai (by walk_at "evt") (by exact Zc9 d t)) fun n_ => (Zsr (!decide (n ∈ w.fm))) ▸ ZaA (Zgg (Zeu (ZhI (vs := [.int n]) (by walk_at "ev") (by walk_at "meth") (Zas (Zcf (v := .int (cur w.st)) (by walk_at "ev") (by exact rE (Zby hn) rfl)) Zbc (by rfl)) (by walk_at "evf") (by rfl) (by rfl)) Zdf (by rfl))) fun n_ => ZbN)) (fun hb => ?_) (fun hb => Zah ?_)
 ·rw [if_pos hb] at e
  (replace e := sO e; subst e)
  refine Zal (Zak (by walk_at "ev") (by walk_at "meth") (by walk_at "eva") (ZdN hK h (by walk_at "rm") (Zci hn)) (by rfl) (by rfl)) (fun za σ₁ h₁ x₁ => ?_) (by rfl) (by rfl)
  exact Zco (Zdj (m' := []) rfl h₁ x₁)
 rw [if_neg (by refine rE hb ?_; exact Zsd)] at e
 walk_at "asg"
 refine Zan (ZdA (fun f σ' m' => ∃ za w₁, ∃ rd : Nat, Zab k za σ' w₁ /\ Zcr k z w σ za w₁ σ' /\ Zcc t f w₁ = some w' /\ rd + f = 8 /\ HasL [("builder", .ref k.b), ("name", .str t.str), ("stack", .ref k.s), ("rounds", .int rd)] m') 8 ⟨z, w, 0, h, .refl, e, rfl, ⟨rfl, rfl, rfl, rfl, trivial⟩⟩ ?_)
 rintro f σ₁ mc ⟨za, w₁, rd, h₁, x₁, ec, hf, hm⟩
 refine Zbb hm ?_
 induction f using Zd9 with
 | zero =>
  refine (show EvT G _ _ _ _ false from Zai (by walk_at "evt") (by refine rE Zgc ?_; exact decide_eq_false (by omega))) _ ?_
  (replace ec := sO ec; subst ec)
  exact Zah (Zba h₁ x₁)
 | succ f =>
  refine (show EvT G _ _ _ _ true from Zai (by walk_at "evt") (by refine rE Zgc ?_; exact decide_eq_true (by omega))) _ ?_
  refine bE ec fun y0 hwa ec => ?_; obtain ⟨r, w₂⟩ := y0
  refine Zfk (by rfl) (by walk_at "ev") (by walk_at "evi") ?_ (by rfl)
  refine Zcn (ZaU (Zdt hK) (Zdq hK) (by walk_at "eva") (ZkT hK h₁ (by walk_at "rm") hwa) (by rfl) (by rfl) (by decide)) (fun zb σ₂ h₂ x₂ => ?_) (by rfl) (by rfl)
  induction r with
  | none =>
   (replace ec := sO ec; subst ec)
   refine Za8 (b := true) (Zai (by walk_at "evt") (by rfl)) (fun n_ => ?_) (fun hb => absurd hb (by decide))
   exact Zco (Zdj (m' := []) rfl h₂ (x₁.trans x₂))
  | some s =>
   dsimp only at ec
   split at ec
   case isFalse => exact nA ec
   rename_i hs
   refine bE ec fun q hq ec => ?_
   refine Za8 (b := false) (Zai (by walk_at "evt") (by refine rE Zb6 ?_; exact decide_eq_false (by refine (?_ : ¬ ((s : Int) = -1)); omega))) (fun hb => absurd hb (by decide)) (fun n_ => Zah ?_)
   refine Zbb (l := [("builder", .ref k.b), ("name", .str t.str), ("stack", .ref k.s), ("rounds", .int ((rd + 1 : Nat) : Int)), ("subject", .int s)]) ⟨rfl, rfl, rfl, rfl, rfl, trivial⟩ ?_
   refine ZaS (v := .int (oz q)) (Zcw (ZcI hK) (ZcG hK) (by walk_at "eva") (furthest hK h₂ (by walk_at "rm") hs hq) (by rfl) (by rfl) (by decide)) ?_ (by rfl) (by rfl)
   induction q with
   | none =>
    refine bE ec fun st hst ec => ?_
    (replace ec := sO ec; subst ec)
    refine Za8 (b := true) (Zai (by walk_at "evt") (by rfl)) (fun n_ => ?_) (fun hb => absurd hb (by decide))
    refine Zal (ZaU (Zdi hK) (Zda hK) (by walk_at "eva") (Zen hK h₂ (by walk_at "rm") hst) (by rfl) (by rfl) (by decide)) (fun zc σ₃ h₃ xc => ?_) (by rfl) (by rfl)
    refine Zal (Zak (by walk_at "ev") (by walk_at "meth") (by walk_at "eva") (Zef hK h₃ (by walk_at "rm")) (by rfl) (by rfl)) (fun zd σ₄ h₄ xd => ?_) (by rfl) (by rfl)
    exact Zco (Zdj (m' := []) rfl h₄ (((x₁.trans x₂).trans xc).trans xd))
   | some b =>
    refine bE ec fun wa hw3 ec => ?_
    refine Za8 (b := false) (Zai (by walk_at "evt") (by refine rE Zb6 ?_; exact decide_eq_false (by refine (?_ : ¬ ((b : Int) = -1)); omega))) (fun hb => absurd hb (by decide)) (fun n_ => Zah ?_)
    refine Zbb (l := [("builder", .ref k.b), ("name", .str t.str), ("stack", .ref k.s), ("rounds", .int ((rd + 1 : Nat) : Int)), ("subject", .int s), ("block", .int b)]) ⟨rfl, rfl, rfl, rfl, rfl, rfl, trivial⟩ ?_
    refine Zal (ZaU (Zgd hK) (ZfN hK) (by walk_at "eva") (Zjf hK h₂ (by walk_at "rm") hw3) (by rfl) (by rfl) (by decide)) (fun zc σ₃ h₃ xc => ?_) (by rfl) (by rfl)
    exact Zah ⟨f, ZqS f, zc, wa, rd + 1, h₃, (x₁.trans x₂).trans xc, ec, by omega, ⟨rfl, rfl, rfl, rfl, trivial⟩⟩
end
section
theorem ZbK {names : List (Str × NameKind)} (h : (names.all fun p => p.2 != .cell || names.lookup p.1 == some .cell) = true) : ∀ x, (x, NameKind.cell) ∈ names -> names.lookup x = some .cell := fun x hx => by
 have := Zq4.mp h _ hx
 simpa using this
variable {G : Glo} {Γ : Amb} {σ : Sig} {m : Loc} {k : Cfg} {z : Var} {w : PW} {o i : Expr}
noncomputable def usualL : List Int := [0, 4, 1, 6, 22, 3, 0, 2, 5, 16, 7, 6, 1, 3, 22, 8]
noncomputable def cints : List Expr -> List Int
 | [] => []
 | .Constant (.int x) _ _ :: r => x :: cints r
 | _ :: r => cints r
noncomputable def ZjZ : List Expr -> Bool
 | [] => true
 | .Constant (.int _) _ _ :: r => ZjZ r
 | _ => false
theorem Zkv {pos : Pos} : ∀ {es : List Expr}, ZjZ es = true -> EvA G Γ σ m pos es ((cints es).map AV.int) := by
 refine @Zbv _ _ ?_ ?_
 ·intro n_
  exact Zbc
 ·intro e r ih h
  unfold ZjZ at h
  split at h
  ·rename_i q; injection q
  ·rename_i x kd p r' q
   (injection q with hq1 hq2; subst hq1; subst hq2)
   exact Zas ZcH (ih h) rfl
  ·exact nC h
theorem Zl7 {pos : Pos} {es : List Expr} {l : List Int} (h : ZjZ es = true) (e : cints es = l) : EvA G Γ σ m pos es (l.map AV.int) := e ▸ Zkv h
theorem Zls {a : Addr} {ns : List Int} {j : Nat} {v : Int} (hK : Is G) (rm : Γ.Room 1) (ha : Sees G σ a (.lst (ns.map AV.int))) (hz : ns.length <= sizeLine) (hv : (if j < ns.length then ns[j]? else usualL[j]?) = some v) : EvF G Γ σ m (.ref 590) [.ref a, .int j] (.int v) := by
 walk_at "defV"
 refine Zan ?_
 refine Zax ?_ ?_ ?_
 rotate_left
 ·kernel_rfl
 ·rfl
 refine ZaE ?_
 refine (Zl7 (l := usualL) (by kernel_rfl) (by kernel_rfl)) _ ?_
 refine Zrb ?_ ?_
 ·refine rE sizeLine_eq ?_; exact of_decide_eq_true (by kernel_rfl)
 intro b hb
 have ha' : Sees G (σ.set b (.tup (usualL.map AV.int))) a (.lst (ns.map AV.int)) := ha.mono (Zaa hb)
 refine Zan (ZaZ (Zjr ((show EvT G _ _ _ _ (decide ((j : Int) < ns.length)) from Zai (Zbt (by walk_at "ev") (ZbC (id := "len") (Zhy hK) (by rfl) (by decide) (by walk_at "eva") (Zcd ha' (by refine rE (Zqt _) ?_; exact hz)) (by rfl) (by rfl) (by decide)) (ZdG rfl) (by walk_at "u")) (by refine rE (Zqt _) ?_; rfl)) _ ?_)))
 by_cases hj : j < ns.length
 ·rw [if_pos hj] at hv
  rw [decide_eq_true (by omega)]
  refine (show Ev G _ _ _ _ (.int v) from ZaT (by walk_at "ev") (by walk_at "ev") (Za0 ha' (by refine rE (Zqt _) ?_; exact hz) (Zbm AV.int hv) (by intro n_ n_; walk_at "u"))) _ ?_
  exact ⟨rfl, Zaa hb⟩
 ·rw [if_neg hj] at hv
  rw [decide_eq_false (by omega)]
  refine (show Ev G _ _ _ _ (.int v) from ZaT (by walk_at "ev") (by walk_at "ev") (Zhq (.inl Sig.set_self) (by refine rE sizeLine_eq ?_; exact of_decide_eq_true (by kernel_rfl)) (Zbm AV.int hv) (by intro n_ n_; walk_at "u"))) _ ?_
  exact ⟨rfl, Zaa hb⟩
inductive PairsR (σ : Sig) : List Addr -> List (Tag × Nat) -> Prop
 | nil : PairsR σ [] []
 | cons {r : Addr} {p : Tag × Nat} {rs : List Addr} {ps : List (Tag × Nat)} : σ r = some (.tup [.str p.1.str, .str (Zad p.2)]) -> PairsR σ rs ps -> PairsR σ (r :: rs) (p :: ps)
theorem PairsR.mono {σ' : Sig} {rs : List Addr} {ps : List (Tag × Nat)} (h : PairsR σ rs ps) (k : ∀ b o, σ b = some o -> σ' b = some o) : PairsR σ' rs ps := by
 induction h with
 | nil => exact .nil
 | cons e _ ih => exact .cons (k _ _ e) ih
theorem PairsR.keep {σ' : Sig} {rs : List Addr} {ps : List (Tag × Nat)} (h : PairsR σ rs ps) (k : ∀ b l, σ b = some (.tup l) -> σ' b = some (.tup l)) : PairsR σ' rs ps := by
 induction h with
 | nil => exact .nil
 | cons e _ ih => exact .cons (k _ _ e) ih
theorem PairsR.len {rs : List Addr} {ps : List (Tag × Nat)} (h : PairsR σ rs ps) : rs.length = ps.length := by induction h with | nil => rfl | cons _ _ ih => (refine rE ZqF (rE ZqF ?_); exact rE ih rfl)
theorem PairsR.at {rs : List Addr} {ps : List (Tag × Nat)} (h : PairsR σ rs ps) {j : Nat} (hj : j < ps.length) : ∃ r p, rs[j]? = some r /\ ps[j]? = some p /\ σ r = some (.tup [.str p.1.str, .str (Zad p.2)]) := by
 induction h generalizing j with
 | nil => cases hj
 | @cons r p rs ps e _ ih =>
  induction j using Zd9 with
  | zero => exact e52 r p rfl rfl e
  | succ j => exact ih (Zsz hj)
theorem PairsR.take {rs : List Addr} {ps : List (Tag × Nat)} (h : PairsR σ rs ps) (j : Nat) : PairsR σ (rs.take j) (ps.take j) := by
 induction h generalizing j with
 | nil => induction j <;> exact .nil
 | cons e _ ih =>
  induction j using Zd9 with
  | zero => exact .nil
  | succ j => exact .cons e (ih j)
theorem PairsR.erase {rs : List Addr} {ps : List (Tag × Nat)} (h : PairsR σ rs ps) (j : Nat) : PairsR σ (rs.eraseIdx j) (ps.eraseIdx j) := by
 induction h generalizing j with
 | nil => induction j <;> exact .nil
 | cons e t ih =>
  induction j using Zd9 with
  | zero => exact t
  | succ j => exact .cons e (ih j)
theorem PairsR.snoc {rs : List Addr} {ps : List (Tag × Nat)} (h : PairsR σ rs ps) {r : Addr} {p : Tag × Nat} (e : σ r = some (.tup [.str p.1.str, .str (Zad p.2)])) : PairsR σ (rs ++ [r]) (ps ++ [p]) := by
 induction h with
 | nil => exact .cons e .nil
 | cons e' _ ih => exact .cons e' ih
noncomputable def ZbG (σ : Sig) (a : Addr) (ps : List (Tag × Nat)) : Prop := ∃ rs : List Addr, σ a = some (.lst (rs.map AV.ref)) /\ PairsR σ rs ps
theorem Zha {t : Nat -> Bool} {v : Nat -> AV} : ∀ n, outs t v n = ((Zrt n).filter t).map v := by
 refine @Zms _ ?_ ?_
 ·exact rfl
 ·intro n ih
  refine rE ZsW (rE (Zq6 _ _) (rE ZqB (rS (ih) ?_)))
  refine (?_ : (if t n = true then _ else _) = _)
  induction h : t n with
  | true => simp [h]
  | false => simp [h]
theorem ZbS {pos : Pos} {ε : Env} {Q : AV -> Sig -> Loc -> Prop} (h : ∀ a, σ a = none -> Q (.ref a) (σ.set a (.lst [])) m) : W G Γ VR (eval (.List [] pos) ε) Q σ m := by
 show W G Γ VR (do standAt pos; newList (<- spliced (backTo pos (starEach [] ε)))) Q σ m
 refine Ze9 (Zaq (ZaX (rel := VRs) (b := []) (a := []) .nil fun us rs => Zbi fun s hR Q' k => ?_))
 cases rs
 refine o30 (hR.push (o := .lst []) (ob := { cls := .type "list", data := .seq ([] : List Value).toArray }) rfl ⟨[], 0, rfl, .nil⟩) fun e hR' kp => ?_
 exact wpAny_newObj_type (k _ (.ref _) _ s.toks _ _ rfl hR' kp (h _ e)) (Zrq _)
theorem Ziy {ε : Env} {e : Expr} {p pos : Pos} {a : Addr} {l : List Nat} (he : EvE G Γ σ m ε e (.ref a)) (hl : Sees G σ a (.lst (l.map nv))) (hm : behindInMarks .NotEq (.List [] p) = false) : ETE G Γ σ m ε (.Compare e [.NotEq] [.List [] p] pos) (!decide (l = [])) := fun Q q =>
 ZbE (ZbI (he _ (ZbS fun b hb A B ra rb => ZkB (.lst (hl.mono (Zaa hb)) (ADs.nats l)) (.lst (.inl Sig.set_self) .nil) (ZaP l) (ZaP []) ra rb ⟨_, rfl, σ, m, Zaa hb, fun n_ n_ e => e, by
  refine rE (show (PyData.list []) = .list (([] : List Nat).map fun (n : Nat) => PyData.int n) from rfl) ?_; refine rE (Zd7 _ _) ?_; exact q⟩)) hm)
theorem Zga {ε : Env} {e : Expr} {p pos : Pos} {a : Addr} {l : List Nat} (he : EvE G Γ σ m ε e (.ref a)) (hl : Sees G σ a (.lst (l.map nv))) (hm : behindInMarks .Eq (.List [] p) = false) : ETE G Γ σ m ε (.Compare e [.Eq] [.List [] p] pos) (decide (l = [])) := fun Q q =>
 ZbE (ZbI (he _ (ZbS fun b hb A B ra rb => Zk3 (.lst (hl.mono (Zaa hb)) (ADs.nats l)) (.lst (.inl Sig.set_self) .nil) (ZaP l) (ZaP []) ra rb ⟨_, rfl, σ, m, Zaa hb, fun n_ n_ e => e, by
  refine rE (show (PyData.list []) = .list (([] : List Nat).map fun (n : Nat) => PyData.int n) from rfl) ?_; refine rE (Zd7 _ _) ?_; exact q⟩)) hm)
theorem ZjJ {a : Addr} {o : AO} {σ' : Sig} (k : ∀ b o, σ b = some o -> σ' b = some o) (ha : σ a = none) : ∀ b o', σ b = some o' -> (σ'.set a o) b = some o' := fun b o' e => by
 rw [Sig.set_ne (fun q => by rw [q, ha] at e; exact nA e)]; exact k _ _ e
theorem ZfH {rs : List Addr} {ps : List (Tag × Nat)} {t : Tag} (hr : PairsR σ rs ps) : outs (fun i => decide ((ps[i]?).map (fun p => p.1.str) = some t.str)) (fun i => .int i) (rs.map AV.ref).length = (Zau ps t).map nv := by
 refine rE (Zha _) (rE (Zqt _) (rE hr.len ?_)); rfl
theorem ZeG {ε : Addr -> Env} {p1 p2 p3 p4 p5 p6 : Pos} {kk : Nat} {a cp cn : Addr} {rs : List Addr} {ps : List (Tag × Nat)} {t : Tag} (ha : σ a = some (.lst (rs.map AV.ref))) (hr : PairsR σ rs ps) (hz : rs.length <= sizeLine) (hcp : σ cp = some (.cel (some (.ref a)))) (hcn : σ cn = some (.cel (some (.str t.str))))
  (hL : ∀ C, (ε C).locals = C) (hk : ∀ C, (ε C).scope.kind = .function) (hkk : ∀ C, (ε C).kindOf "k" = some .local) (hkp : ∀ C, (ε C).kindOf "pairs" = some .cell) (hkn : ∀ C, (ε C).kindOf "name" = some .cell) (hlp : ∀ C, (ε C).cells.lookup ("pairs" : Str) = some cp) (hln : ∀ C, (ε C).cells.lookup ("name" : Str) = some cn)
  (hs1 : ∀ a k' u, subscripted (.Name "k" p2) false (.ref a) (.int k' u) = operate [.ref a, .int k' u] (getItem (.ref a) (.int k' u)))
  (hs2 : ∀ a k' u, subscripted (.Constant (.int 0) kk p4) false (.ref a) (.int k' u) = operate [.ref a, .int k' u] (getItem (.ref a) (.int k' u))) (hm : behindInMarks .Eq (.Name "name" p6) = false) (pk : Pos) (p0 : Pos) :
  Turns G Γ "k" [.Compare (.Subscript (.Subscript (.Name "pairs" p1) (.Name "k" p2) p3) (.Constant (.int 0) kk p4) p5) [.Eq] [.Name "name" p6] p0] (.Name "k" pk) ε rs.length (fun i => .int i) (fun i => decide ((ps[i]?).map (fun p => p.1.str) = some t.str)) (fun i => .int i) σ m := by
 refine ⟨fun i C σ' hi up hC => .inr ⟨_, rfl, ?_⟩, fun i C σ' hi n_ up hC => ZbT hC rfl (hL C) (hk C) (hkk C) (by decide)⟩
 refine o52 (hr.at (j := i) (by refine rS hr.len ?_; exact hi)) fun r p h1 h2 h3 => ?_
 have := ZiP (G := G) (Γ := Γ) (m := m) (pos := p0) (op := .Eq) (l := .Subscript (.Subscript (.Name "pairs" p1) (.Name "k" p2) p3) (.Constant (.int 0) kk p4) p5) (r := .Name "name" p6) (ZbR (ZbR (pos := p3) (ZbV (hlp C) (up _ _ hcp) (hk C) (hkp C) (by decide)) (ZbT hC rfl (hL C) (hk C) (hkk C) (by decide)) (Za0 (.inl (up _ _ ha)) (by refine rE (Zqt _) ?_; exact hz) (Zbm AV.ref h1) (hs1 _))) Zej (Zdc (.inl (up _ _ h3)) Zdw (hs2 _))) (ZbV (hln C) (up _ _ hcn) (hk C) (hkn C) (by decide)) (Zer rfl) hm
 refine rE h2 ?_
 refine (?_ : ETE G Γ σ' m (ε C) _ (decide (some p.1.str = some t.str)))
 refine rE (show decide (some p.1.str = some t.str) = opS .Eq p.1.str t.str from decide_eq_decide.mpr ⟨fun q => ZqC q, fun q => congrArg some q⟩) ?_
 exact this
theorem ZkD {ps : List (Tag × Nat)} {t : Tag} {j : Nat} (h : (Zau ps t).getLast? = some j) : j < ps.length := by
 have : j ∈ Zau ps t := List.mem_of_getLast? h
 exact Zsg.mp (Zrg.mp this).1
theorem Znu {α : Type} (d : α) : ∀ (l : List α) (j : Nat), ((Zrt l.length).filter fun i => decide (i ≠ j)).map (fun i => l.getD i d) = l.eraseIdx j := by
 refine @Zbg _ _ ?_ ?_
 ·intro n_
  exact rfl
 ·intro x r ih j
  have ih := ih
  refine rE ZqF (rE List.range_succ_eq_map (rE Zq7 (rE ZsB ?_)))
  induction j using Zd9 with
  | zero =>
   rw [if_neg (by simp)]
   refine (?_ : Zss _ (Zss _ (List.filter _ _)) = r)
   refine rE ZqV ?_
   have : (Zrt r.length).filter ((fun i => decide (i ≠ 0)) ∘ Nat.succ) = Zrt r.length := Zru.mpr fun i n_ => by simp
   refine rE this ?_
   apply ZrD
   intro i
   refine rE Zq0 ?_
   by_cases hi : i < r.length
   ·refine rE (ZrJ hi) (rE (ZqA hi) ?_)
    refine (?_ : some ((x :: r).getD (i + 1) d) = _)
    refine rE ZqE ?_; refine rE List.getElem?_cons_succ ?_; refine rE (ZqA hi) ?_; rfl
   ·rw [Zq5 (by simpa using hi), Zq5 (by omega)]; rfl
  | succ j =>
   rewrite [if_pos (by simp)]; refine rE ZqP (rE ZqV ?_)
   refine (?_ : (x :: r).getD 0 d :: _ = x :: r.eraseIdx j)
   refine rS (ih j) ?_
   have : (Zrt r.length).filter ((fun i => decide (i ≠ j + 1)) ∘ Nat.succ) = (Zrt r.length).filter fun i => decide (i ≠ j) := Zsm fun i n_ => by simp
   refine rE this ?_
   rfl
theorem Zfi {a : Addr} {rs : List Addr} (ha : σ a = some (.lst (rs.map AV.ref))) (hz : rs.length <= sizeLine) : EvF G Γ σ m (.builtin "len") [.ref a] (.int (rs.length : Nat)) := by
 have := Zcd (G := G) (Γ := Γ) (m := m) (.inl ha) (by refine rE (Zqt _) ?_; exact hz)
 rw [Zqt] at this; exact this
theorem Zki {a : Addr} {ps : List (Tag × Nat)} {t : Tag} (hK : Is G) (rm : Γ.Room 1) (ha : ZbG σ a ps) (hz : ps.length <= LIM) {Q : AV -> Sig -> Loc -> Prop} (q : ∀ r σ', (∀ b o, σ b = some o -> σ' b = some o) -> (r = a \/ σ r = none) -> ZbG σ' r (upTo ps t) -> Q (.ref r) σ' m) : FC G Γ (.ref 595) [.ref a, .str t.str] Q σ m := by
 refine o31 ha ?_; clear ha; intro rs ha hr
 have hlen := hr.len
 refine ZhK (names := ["pairs", "name"]) (Is.lk hK (by rfl)) (Is.cd hK (by rfl)) (Amb.Room.le rm (ZqQ _)) (dv := []) (ds := []) .nil (by walk_at "binds") (by decide) (fun n x hx => ?_) (by decide) (ZbK (by decide)) (by rfl) (by rfl) (by rfl) ?_
 ·simp only [ZqD, Zq1, or_false] at hx
  rcases hx with rfl | rfl <;> exact .inr ⟨rfl, rfl⟩
 intro ro rm' hnone
 have n1 : σ (ro.L + 1) = none := hnone _ (ZqS _)
 have n2 : σ (ro.L + 1 + 1) = none := hnone _ (Zrr (ZqS _))
 refine (?_ : W G _ FRl _ _ ((σ.set (ro.L + 1) (.cel (some (.ref a)))).set (ro.L + 1 + 1) (.cel (some (.str t.str)))) [])
 have hc1 : ((σ.set (ro.L + 1) (.cel (some (.ref a)))).set (ro.L + 1 + 1) (.cel (some (.str t.str)))) (ro.L + 1) = some (.cel (some (.ref a))) := by refine rE (Sig.set_ne (Zrd (ZqS _))) ?_; exact Sig.set_self
 have hc2 : ((σ.set (ro.L + 1) (.cel (some (.ref a)))).set (ro.L + 1 + 1) (.cel (some (.str t.str)))) (ro.L + 1 + 1) = some (.cel (some (.str t.str))) := Sig.set_self
 have up : ∀ b o, σ b = some o -> ((σ.set (ro.L + 1) (.cel (some (.ref a)))).set (ro.L + 1 + 1) (.cel (some (.str t.str)))) b = some o := ZjJ (Zaa n1) n2
 generalize (σ.set (ro.L + 1) (.cel (some (.ref a)))).set (ro.L + 1 + 1) (.cel (some (.str t.str))) = σ₁ at hc1 hc2 up ⊢
 have haa := up _ _ ha
 have hz' : rs.length <= sizeLine := by refine rE hlen ?_; exact ZaK hz
 refine Zan (Zj0 (Zce (Zdu hK) (by rfl) (by decide) ((show EvA G _ σ₁ _ _ _ [.int (rs.length : Nat)] from Zas (ZbC (id := "len") (Zhy hK) (by rfl) (by decide) (by walk_at "eva") (Zfi haa hz') (by rfl) (by rfl) (by decide)) Zbc (by rfl)) _ (ZdU fun r hr' => ?_)) (by rfl) (by rfl) (by decide)) (by rfl) (by walk_at "u") (by decide) (by rfl) (by decide) (by rfl) (by intro n_; rfl))
 have up2 := Zaa (o := .rng 0 rs.length 1) hr'
 refine e95 rs.length (fun i => .int i) (fun n_ => True) _ _ (fun u ru => ?_) hz' (fun n_ n_ => trivial) ⟨ZeG (up2 _ _ haa) ((hr.mono up).mono up2) hz' (up2 _ _ hc1) (up2 _ _ hc2) (fun n_ => rfl) (fun n_ => rfl) (fun n_ => rfl) (fun n_ => rfl) (fun n_ => rfl) (fun n_ => rfl) (fun n_ => rfl) (by intro n_ n_ n_; walk_at "u") (by intro n_ n_ n_; walk_at "u") (by walk_at "u") _ _, fun D hD => ?_⟩
 ·subst ru
  exact Zhu Sig.set_self hz'
 have po := ZfH (t := t) hr
 rw [Zqt] at po
 refine rE po ?_
 refine Zex (v := .ref D) rfl ?_ (by rfl)
 have hDl : ((σ₁.set r (.rng 0 rs.length 1)).set D (.lst ((Zau ps t).map nv))) D = some (.lst ((Zau ps t).map nv)) := Sig.set_self
 have up3 : ∀ b o, σ₁ b = some o -> ((σ₁.set r (.rng 0 rs.length 1)).set D (.lst ((Zau ps t).map nv))) b = some o := fun b o e => Zaa hD _ _ (up2 _ _ e)
 generalize (σ₁.set r (.rng 0 rs.length 1)).set D (.lst ((Zau ps t).map nv)) = σ₂ at hDl up3 ⊢
 have hc1' := up3 _ _ hc1
 refine Zan (ZaZ (Zjr ((show EvT G _ σ₂ _ _ (!decide (Zau ps t = [])) from Ziy (by exact ZaN (by rfl) (by rfl) (by decide)) (.inl hDl) (by walk_at "u")) _ ?_)))
 have hpl : (Zau ps t).length <= sizeLine := Zrj (Zry _ _) (by refine rE ZsM ?_; exact ZaK hz)
 by_cases he : Zau ps t = []
 ·refine rE (decide_eq_true he) ?_
  refine (show Ev G _ σ₂ _ _ (.ref a) by walk_at "ev") _ ?_
  refine q a σ₂ (fun b o e => up3 _ _ (up _ _ e)) (.inl rfl) ⟨rs, up3 _ _ haa, ?_⟩
  rw [show upTo ps t = ps from by unfold upTo; refine rE he ?_; rfl]
  exact hr.mono fun b o e => up3 _ _ (up _ _ e)
 ·refine rE (decide_eq_false he) ?_
  obtain ⟨j, hj⟩ : ∃ j, (Zau ps t).getLast? = some j := by
   induction h : (Zau ps t).getLast? with
   | none => exact absurd (ZrI.mp h) he
   | some j => exact ⟨j, rfl⟩
  have hjl := ZkD hj
  refine ZpN (a := a) (l := rs.map AV.ref) (j := j) ((show Ev G _ σ₂ _ _ (.ref a) by walk_at "ev") _ ((show Ev G _ σ₂ _ _ (.int j) from ZaT (by walk_at "ev") (by walk_at "ev") (Zjl (.inl hDl) (by refine rE (Zqt _) ?_; exact hpl) (by (refine rE Zsl (rE hj ?_)); rfl) (by intro n_ n_; walk_at "u"))) _ ?_)) (by intro n_ n_; rfl)
  refine ⟨rfl, rfl, .inl (up3 _ _ haa), by (refine rE (Zqt _) (rE hlen ?_)); exact Zrs hjl, by refine rE (Zqt _) ?_; exact hz', fun r' hr'' => ?_⟩
  have hnn : σ r' = none := by
   induction q : σ r' with
   | none => rfl
   | some o => rw [up3 _ _ (up _ _ q)] at hr''; exact nB hr''
  refine q r' _ (fun b o e => Zaa hr'' _ _ (up3 _ _ (up _ _ e))) (.inr hnn) ⟨rs.take j, by (refine rE Sig.set_self ?_; exact rE ZsK rfl), ?_⟩
  rw [show upTo ps t = ps.take j from by unfold upTo; exact rE hj rfl]
  exact (hr.take j).mono fun b o e => Zaa hr'' _ _ (up3 _ _ (up _ _ e))
theorem Zhv {ε : Addr -> Env} {p1 p2 p3 p4 p5 p6 p7 p8 p9 p10 q1 q2 q3 : Pos} {kk : Nat} {a d cp cl : Addr} {rs : List Addr} {pl : List Nat} (ha : σ a = some (.lst (rs.map AV.ref))) (hz : rs.length <= sizeLine) (hd : σ d = some (.lst (pl.map nv))) (hpl : pl.length <= sizeLine) (hcp : σ cp = some (.cel (some (.ref a)))) (hcl : σ cl = some (.cel (some (.ref d))))
  (hL : ∀ C, (ε C).locals = C) (hk : ∀ C, (ε C).scope.kind = .function) (hkk : ∀ C, (ε C).kindOf "k" = some .local) (hkp : ∀ C, (ε C).kindOf "pairs" = some .cell) (hkn : ∀ C, (ε C).kindOf "places" = some .cell) (hlp : ∀ C, (ε C).cells.lookup ("pairs" : Str) = some cp) (hln : ∀ C, (ε C).cells.lookup ("places" : Str) = some cl)
  (hs1 : ∀ a k' u, subscripted (.Name "k" q2) false (.ref a) (.int k' u) = operate [.ref a, .int k' u] (getItem (.ref a) (.int k' u)))
  (hs2 : ∀ a k' u, subscripted (.UnaryOp .USub (.Constant (.int 1) kk p6) p7) false (.ref a) (.int k' u) = operate [.ref a, .int k' u] (getItem (.ref a) (.int k' u))) (hm : behindInMarks .Eq (.List [] p2) = false) (hm2 : behindInMarks .NotEq (.Subscript (.Name "places" p5) (.UnaryOp .USub (.Constant (.int 1) kk p6) p7) p8) = false) :
  Turns G Γ "k" [.BoolOp .Or [.Compare (.Name "places" p1) [.Eq] [.List [] p2] p3, .Compare (.Name "k" p4) [.NotEq] [.Subscript (.Name "places" p5) (.UnaryOp .USub (.Constant (.int 1) kk p6) p7) p8] p9] p10] (.Subscript (.Name "pairs" q1) (.Name "k" q2) q3) ε rs.length (fun i => .int i)
   (fun i => match pl.getLast? with | none => true | some j => decide (i ≠ j)) (fun i => (rs.map AV.ref).getD i .none) σ m := by
 refine ⟨fun i C σ' hi up hC => .inr ⟨_, rfl, ?_⟩, fun i C σ' hi n_ up hC => ?_⟩
 ·have hp : ∀ {p : Pos}, EvE G Γ σ' m (ε C) (.Name "places" p) (.ref d) := ZbV (hln C) (up _ _ hcl) (hk C) (hkn C) (by decide)
  induction he : pl.getLast? with
  | none =>
   have : pl = [] := ZrI.mp he
   subst this
   exact ZnJ (ZlU (a := true) (b := false) (Zga (l := []) hp (.inl (up _ _ hd)) hm) fun h => absurd h (by decide))
  | some j =>
   have hne : pl ≠ [] := fun q => by rw [q] at he; injection he
   have e1 : ETE G Γ σ' m (ε C) (.Compare (.Name "places" p1) [.Eq] [.List [] p2] p3) false := by
    have := Zga (pos := p3) (hp (p := p1)) (.inl (up _ _ hd)) hm
    rw [decide_eq_false hne] at this; exact this
   have e2 : ETE G Γ σ' m (ε C) (.Compare (.Name "k" p4) [.NotEq] [.Subscript (.Name "places" p5) (.UnaryOp .USub (.Constant (.int 1) kk p6) p7) p8] p9) (opI .NotEq i j) :=
    ZiP (ZbT hC rfl (hL C) (hk C) (hkk C) (by decide)) (ZbR hp (ZpH Zej) (Zjl (.inl (up _ _ hd)) (by refine rE (Zqt _) ?_; exact hpl) (by (refine rE Zsl (rE he ?_)); rfl) (hs2 _))) (ZdG rfl) hm2
   have e3 := ZnJ (pos := p10) (ZlU e1 fun n_ => ZlU e2 fun n_ => Zmb)
   rw [show (false || (opI .NotEq i j || false)) = decide (i ≠ j) from by
    refine rE (Bool.false_or _) (rE (Zr4 _) (rE Zbp ?_)); exact decide_eq_decide.mpr ⟨fun q r => q (by exact rE r rfl), fun q r => q (by omega)⟩] at e3
   exact e3
 ·exact ZbR (ZbV (hlp C) (up _ _ hcp) (hk C) (hkp C) (by decide)) (ZbT hC rfl (hL C) (hk C) (hkk C) (by decide)) (Za0 (.inl (up _ _ ha)) (by refine rE (Zqt _) ?_; exact hz) (by (refine rE ZqE ?_; rw [ZqA (by refine rE (Zqt _) ?_; exact hi)]); rfl) (hs1 _))
theorem ZhU {rs : List Addr} {o : Option Nat} : outs (fun i => match o with | none => true | some j => decide (i ≠ j)) (fun i => (rs.map AV.ref).getD i .none) rs.length = (match o with | none => rs | some j => rs.eraseIdx j).map AV.ref := by
 refine rE (Zha _) ?_
 induction o with
 | none =>
  dsimp only
  have e : (Zrt rs.length).filter (fun n_ => true) = Zrt rs.length := Zru.mpr fun n_ n_ => rfl
  refine rE e ?_
  apply ZrD
  intro i
  refine rE Zq0 ?_
  by_cases hi : i < rs.length
  ·refine rE (ZrJ hi) (rE Zq0 (rE (ZqA hi) ?_))
   refine (?_ : some ((rs.map AV.ref).getD i .none) = _)
   refine rE ZqE (rE Zq0 (rE (ZqA hi) ?_)); rfl
  ·rewrite [Zq5 (by simpa using hi)]; refine rE Zq0 ?_; rw [Zq5 (by omega)]; rfl
 | some j =>
  dsimp only
  have := Znu AV.none (rs.map AV.ref) j
  rw [Zqt] at this
  refine rE this ?_; exact rE (ZcB _ _ _) rfl
theorem Zh4 {a : Addr} {ps : List (Tag × Nat)} {t : Tag} (hK : Is G) (rm : Γ.Room 1) (ha : ZbG σ a ps) (hz : ps.length <= LIM) {Q : AV -> Sig -> Loc -> Prop} (q : ∀ r σ', (∀ b o, σ b = some o -> σ' b = some o) -> σ r = none -> ZbG σ' r (without ps t) -> Q (.ref r) σ' m) : FC G Γ (.ref 600) [.ref a, .str t.str] Q σ m := by
 refine o31 ha ?_; clear ha; intro rs ha hr
 have hlen := hr.len
 refine ZhK (names := ["pairs", "name"]) (Is.lk hK (by rfl)) (Is.cd hK (by rfl)) (Amb.Room.le rm (ZqQ _)) (dv := []) (ds := []) .nil (by walk_at "binds") (by decide) (fun n x hx => ?_) (by decide) (ZbK (by decide)) (by rfl) (by rfl) (by rfl) ?_
 ·simp only [ZqD, Zq1, or_false] at hx
  rcases hx with rfl | rfl <;> exact .inr ⟨rfl, rfl⟩
 intro ro rm' hnone
 have l01 : ro.L + 1 ≠ ro.L + 1 + 1 := Zrd (ZqS _)
 have l02 : ro.L + 1 ≠ ro.L + 1 + 1 + 1 := Zrd (Zrr (ZqS _))
 have l12 : ro.L + 1 + 1 ≠ ro.L + 1 + 1 + 1 := Zrd (ZqS _)
 have n1 : σ (ro.L + 1) = none := hnone _ (ZqS _)
 have n2 : σ (ro.L + 1 + 1) = none := hnone _ (Zrr (ZqS _))
 have n3 : σ (ro.L + 1 + 1 + 1) = none := hnone _ (Zrr (Zrr (ZqS _)))
 refine (?_ : W G _ FRl _ _ (((σ.set (ro.L + 1) (.cel (some (.ref a)))).set (ro.L + 1 + 1) (.cel (some (.str t.str)))).set (ro.L + 1 + 1 + 1) (.cel none)) [])
 have hc1 : (((σ.set (ro.L + 1) (.cel (some (.ref a)))).set (ro.L + 1 + 1) (.cel (some (.str t.str)))).set (ro.L + 1 + 1 + 1) (.cel none)) (ro.L + 1) = some (.cel (some (.ref a))) := by (refine rE (Sig.set_ne l02) (rE (Sig.set_ne l01) ?_)); exact Sig.set_self
 have hc2 : (((σ.set (ro.L + 1) (.cel (some (.ref a)))).set (ro.L + 1 + 1) (.cel (some (.str t.str)))).set (ro.L + 1 + 1 + 1) (.cel none)) (ro.L + 1 + 1) = some (.cel (some (.str t.str))) := by refine rE (Sig.set_ne l12) ?_; exact Sig.set_self
 have hc3 : (((σ.set (ro.L + 1) (.cel (some (.ref a)))).set (ro.L + 1 + 1) (.cel (some (.str t.str)))).set (ro.L + 1 + 1 + 1) (.cel none)) (ro.L + 1 + 1 + 1) = some (.cel none) := Sig.set_self
 have up : ∀ b o, σ b = some o -> (((σ.set (ro.L + 1) (.cel (some (.ref a)))).set (ro.L + 1 + 1) (.cel (some (.str t.str)))).set (ro.L + 1 + 1 + 1) (.cel none)) b = some o := ZjJ (ZjJ (Zaa n1) n2) n3
 generalize ((σ.set (ro.L + 1) (.cel (some (.ref a)))).set (ro.L + 1 + 1) (.cel (some (.str t.str)))).set (ro.L + 1 + 1 + 1) (.cel none) = σ₁ at hc1 hc2 hc3 up ⊢
 have haa := up _ _ ha
 have hz' : rs.length <= sizeLine := by refine rE hlen ?_; exact ZaK hz
 refine Zan ?_
 refine Zhg ?_ (by rfl)
 refine Ziq (Zce (Zdu hK) (by rfl) (by decide) ((show EvA G _ σ₁ _ _ _ [.int (rs.length : Nat)] from Zas (ZbC (id := "len") (Zhy hK) (by rfl) (by decide) (by walk_at "eva") (Zfi haa hz') (by rfl) (by rfl) (by decide)) Zbc (by rfl)) _ (ZdU fun r hr' => ?_)) (by rfl) (by rfl) (by decide)) (by walk_at "u") (by decide) (by rfl) (by decide) (by rfl) (by intro n_; rfl)
 have up2 := Zaa (o := .rng 0 rs.length 1) hr'
 refine e95 rs.length (fun i => .int i) (fun n_ => True) _ _ (fun u ru => ?_) hz' (fun n_ n_ => trivial) ⟨ZeG (up2 _ _ haa) ((hr.mono up).mono up2) hz' (up2 _ _ hc1) (up2 _ _ hc2) (fun n_ => rfl) (fun n_ => rfl) (fun n_ => rfl) (fun n_ => rfl) (fun n_ => rfl) (fun n_ => rfl) (fun n_ => rfl) (by intro n_ n_ n_; walk_at "u") (by intro n_ n_ n_; walk_at "u") (by walk_at "u") _ _, fun D hD => ?_⟩
 ·subst ru
  exact Zhu Sig.set_self hz'
 have po := ZfH (t := t) hr
 rw [Zqt] at po
 refine rE po ?_
 intro u ru
 subst ru
 have hDl : ((σ₁.set r (.rng 0 rs.length 1)).set D (.lst ((Zau ps t).map nv))) D = some (.lst ((Zau ps t).map nv)) := Sig.set_self
 have up3 : ∀ b o, σ₁ b = some o -> ((σ₁.set r (.rng 0 rs.length 1)).set D (.lst ((Zau ps t).map nv))) b = some o := fun b o e => Zaa hD _ _ (up2 _ _ e)
 refine Zfy (v := .ref D) (c := ro.L + 1 + 1 + 1) rfl (by rfl) (up3 _ _ hc3) ?_ (by rfl)
 have ne3 : D ≠ ro.L + 1 + 1 + 1 := fun q => by have z := up3 _ _ hc3; rw [<- q, hDl] at z; cases z
 have hDl2 : (((σ₁.set r (.rng 0 rs.length 1)).set D (.lst ((Zau ps t).map nv))).set (ro.L + 1 + 1 + 1) (.cel (some (.ref D)))) D = some (.lst ((Zau ps t).map nv)) := by refine rE (Sig.set_ne ne3) ?_; exact hDl
 have up4 : ∀ b o, σ b = some o -> (((σ₁.set r (.rng 0 rs.length 1)).set D (.lst ((Zau ps t).map nv))).set (ro.L + 1 + 1 + 1) (.cel (some (.ref D)))) b = some o := fun b o e => by
  rw [Sig.set_ne (fun q => by rw [q, n3] at e; exact nA e)]; exact up3 _ _ (up _ _ e)
 have hc1' : (((σ₁.set r (.rng 0 rs.length 1)).set D (.lst ((Zau ps t).map nv))).set (ro.L + 1 + 1 + 1) (.cel (some (.ref D)))) (ro.L + 1) = some (.cel (some (.ref a))) := by refine rE (Sig.set_ne l02) ?_; exact up3 _ _ hc1
 have hc3' : (((σ₁.set r (.rng 0 rs.length 1)).set D (.lst ((Zau ps t).map nv))).set (ro.L + 1 + 1 + 1) (.cel (some (.ref D)))) (ro.L + 1 + 1 + 1) = some (.cel (some (.ref D))) := Sig.set_self
 generalize ((σ₁.set r (.rng 0 rs.length 1)).set D (.lst ((Zau ps t).map nv))).set (ro.L + 1 + 1 + 1) (.cel (some (.ref D))) = σ₂ at hDl2 up4 hc1' hc3' ⊢
 clear up2 hD up3 hDl po hr' hc1 hc2 hc3 up haa
 have had := up4 _ _ ha
 refine Zan (ZaZ ?_)
 refine Ziq (Zce (Zdu hK) (by rfl) (by decide) ((show EvA G _ σ₂ _ _ _ [.int (rs.length : Nat)] from Zas (ZbC (id := "len") (Zhy hK) (by rfl) (by decide) (by walk_at "eva") (Zfi had hz') (by rfl) (by rfl) (by decide)) Zbc (by rfl)) _ (ZdU fun r hr' => ?_)) (by rfl) (by rfl) (by decide)) (by walk_at "u") (by decide) (by rfl) (by decide) (by rfl) (by intro n_; rfl)
 have up5 := Zaa (o := .rng 0 rs.length 1) hr'
 have hpl : (Zau ps t).length <= sizeLine := Zrj (Zry _ _) (by refine rE ZsM ?_; exact ZaK hz)
 refine e95 rs.length (fun i => .int i) (fun n_ => True) _ _ (fun u ru => ?_) hz' (fun n_ n_ => trivial) ⟨Zhv (up5 _ _ had) hz' (up5 _ _ hDl2) hpl (up5 _ _ hc1') (up5 _ _ hc3') (fun n_ => rfl) (fun n_ => rfl) (fun n_ => rfl) (fun n_ => rfl) (fun n_ => rfl) (fun n_ => rfl) (fun n_ => rfl) (by intro n_ n_ n_; walk_at "u") (by intro n_ n_ n_; walk_at "u") (by walk_at "u") (by walk_at "u"), fun E hE => ?_⟩
 ·subst ru
  exact Zhu Sig.set_self hz'
 have up7 := Zaa (o := .lst ((match (Zau ps t).getLast? with | none => rs | some j => rs.eraseIdx j).map AV.ref)) hE
 refine rE ZhU ?_
 refine q E _ (fun b o e => up7 _ _ (up5 _ _ (up4 _ _ e))) ?_ ⟨_, Sig.set_self, ?_⟩
 ·induction z : σ E with
  | none => rfl
  | some o => rw [up5 _ _ (up4 _ _ z)] at hE; exact nB hE
 ·have up8 : ∀ b o, σ b = some o -> _ := fun b o e => up7 b o (up5 _ _ (up4 _ _ e))
  generalize (σ₂.set r (.rng 0 rs.length 1)).set E _ = σ₉ at up8 ⊢
  unfold without
  induction (Zau ps t).getLast? with
  | none => exact hr.mono up8
  | some j => exact (hr.erase j).mono up8
end
section
variable {G : Glo} {Γ : Amb} {σ : Sig} {m : Loc} {k : Cfg} {z : Var} {w : PW} {o i : Expr}
structure ExtB (B : Addr -> Prop) (k : Cfg) (z : Var) (w : PW) (σ : Sig) (z' : Var) (w' : PW) (σ' : Sig) : Prop where
 make ::
 keep : ∀ a o, σ a = some o -> ¬ Own k z (mk w) a -> ¬ B a -> σ' a = some o
 new : ∀ a, Own k z' (mk w') a -> ¬ B a -> Own k z (mk w) a \/ σ a = none
 own : ∀ a, B a -> Own k z' (mk w') a -> Own k z (mk w) a
theorem ExtB.of {B : Addr -> Prop} {z' : Var} {w' : PW} {σ' : Sig} (x : Zcr k z w σ z' w' σ') (h : ∀ a, B a -> σ a ≠ none) : ExtB B k z w σ z' w' σ' := ⟨fun a o e n n_ => x.keep a o e n, fun a q n_ => x.new a q, fun a b q => by
 rcases x.new a q with r | r
 ·exact r
 ·exact absurd r (h a b)⟩
theorem ExtB.trans {B : Addr -> Prop} {za zb : Var} {w₁ w₂ : PW} {σ₁ σ₂ : Sig} (x : ExtB B k z w σ za w₁ σ₁) (y : ExtB B k za w₁ σ₁ zb w₂ σ₂) : ExtB B k z w σ zb w₂ σ₂ := by
 have mid : ∀ a o, σ a = some o -> ¬ Own k z (mk w) a -> ¬ B a -> ¬ Own k za (mk w₁) a := fun a o e n b q => by
  rcases x.new a q b with r | r
  ·exact n r
  ·rw [e] at r; exact nB r
 refine ⟨fun a o e n b => y.keep a o (x.keep a o e n b) (mid a o e n b) b, fun a q b => ?_, fun a b q => x.own a b (y.own a b q)⟩
 rcases y.new a q b with r | r
 ·exact x.new a r b
 ·induction e : σ a with
  | none => exact .inr rfl
  | some o =>
   by_cases n : Own k z (mk w) a
   ·exact .inl n
   ·rw [x.keep a o e n b] at r; exact nB r
theorem ExtB.mono {B B' : Addr -> Prop} {z' : Var} {w' : PW} {σ' : Sig} (x : ExtB B k z w σ z' w' σ') (hb : ∀ a, B a -> B' a) (h : ∀ a, B' a -> σ a ≠ none) : ExtB B' k z w σ z' w' σ' :=
 ⟨fun a o e n b => x.keep a o e n fun q => b (hb a q), fun a q b => x.new a q fun r => b (hb a r), fun a b q => by
  by_cases r : B a
  ·exact x.own a r q
  ·rcases x.new a q r with s | s
   ·exact s
   ·exact absurd s (h a b)⟩
theorem ExtB.turn {a : Addr} {o1 o2 : AO} (e : σ a = some o1) : ExtB (· = a) k z w σ z w (σ.set a o2) := ⟨fun b o e' n_ hb => by refine rE (Sig.set_ne hb) ?_; exact e', fun n_ q n_ => .inl q, fun n_ n_ q => q⟩
noncomputable def PL (k : Cfg) (z : Var) (w : PW) (σ : Sig) (a : Addr) (ps : List (Tag × Nat)) : Prop := ZbG σ a ps /\ ¬ Own k z (mk w) a
theorem PL.ext {z' : Var} {w' : PW} {σ' : Sig} {B : Addr -> Prop} {a : Addr} {ps : List (Tag × Nat)} (p : PL k z w σ a ps) (h : Zab k z σ w) (x : ExtB B k z w σ z' w' σ') (hB : ∀ b, B b -> ∀ l, σ b ≠ some (.tup l)) (ha : ¬ B a) : PL k z' w' σ' a ps := by
 refine o20 p fun y0 n => ?_; clear p; (refine o31 y0 fun rs h1 h2 => ?_; clear y0)
 refine ⟨⟨rs, x.keep _ _ h1 n ha, h2.keep fun b l e => x.keep _ _ e (fun ow => ?_) fun hb => hB b hb l e⟩, fun q => ?_⟩
 ·refine o21 (h.own ow) fun l' hl' => ?_
  exact clN rfl hl' e rfl
 ·rcases x.new a q ha with r | r
  ·exact n r
  ·rw [h1] at r; exact nB r
structure StateAt (k : Cfg) (z : Var) (w : PW) (σ : Sig) (st : Addr) (fs bs : List (Tag × Nat)) (sp : Nat) (ta : Addr) : Prop where
 ex : ∃ fa ba, σ st = some (.tup [.ref fa, .ref ba, .int sp]) /\ PL k z w σ fa fs /\ PL k z w σ ba bs /\ fa ≠ ta /\ ba ≠ ta
theorem StateAt.ext {z' : Var} {w' : PW} {σ' : Sig} {B : Addr -> Prop} {st ta : Addr} {fs bs : List (Tag × Nat)} {sp : Nat} (p : StateAt k z w σ st fs bs sp ta) (h : Zab k z σ w) (x : ExtB B k z w σ z' w' σ') (hB : ∀ b, B b -> ∀ l, σ b ≠ some (.tup l)) (hB2 : ∀ b, B b -> b = ta \/ ∀ l, σ b ≠ some (.lst l)) : StateAt k z' w' σ' st fs bs sp ta := by
 refine o72 p.ex fun fa ba h1 h2 h3 n1 n2 => ?_
 have f : ∀ a ps, a ≠ ta -> PL k z w σ a ps -> ¬ B a := fun a ps n q hb => by
  refine o20 (id q) fun y0 n_ => ?_; (refine o31 y0 fun rs e n_ => ?_; clear y0)
  rcases hB2 a hb with r | r
  ·exact n r
  ·exact r _ e
 refine ⟨fa, ba, x.keep _ _ h1 (fun ow => ?_) (fun hb => hB _ hb _ h1), h2.ext h x hB (f _ _ n1 h2), h3.ext h x hB (f _ _ n2 h3), n1, n2⟩
 refine o21 (h.own ow) fun l' hl' => ?_
 exact clN rfl hl' h1 rfl
theorem PL.fresh {σ' : Sig} {r : Addr} {ps : List (Tag × Nat)} (h : Zab k z σ w) (hr : σ r = none) (p : ZbG σ' r ps) : PL k z w σ' r ps := ⟨p, fun ow => by
 refine o21 (h.own ow) fun l' hl' => ?_
 rw [hr] at hl'; exact nA hl'⟩
noncomputable def ZbF (tags : List (Nat × Tag)) : List (Str × AV) := tags.map fun q => (Zad q.1, .str q.2.str)
theorem ZgZ {a b : Nat} (h : Zad a = Zad b) : a = b := by injection h with h; injection h with h; injection h
theorem Zc3 (c : Nat) : ∀ (tags : List (Nat × Tag)), (ZbF tags).lookup (Zad c) = (tags.lookup c).map fun t => AV.str t.str := by
 refine @Zbg _ _ ?_ ?_
 ·exact rfl
 ·intro x0 r ih
  obtain ⟨x, t⟩ := x0
  refine (?_ : List.lookup (Zad c) ((Zad x, AV.str t.str) :: ZbF r) = _)
  refine rE ZqW (rE ZqW ?_)
  by_cases h : c = x
  ·subst h; simp
  ·have b1 : (Zad c == Zad x) = false := beq_eq_false_iff_ne.mpr fun q => h (ZgZ q)
   have b2 : (c == x) = false := beq_eq_false_iff_ne.mpr h
   refine rE b1 (rE b2 ?_); exact ih
theorem ZnB {o i value : Expr} {p' pos : Pos} {rest : List Stmt} {Q : AF -> Sig -> Loc -> Prop} {d : Addr} {es : List (Str × AV)} {x : Str} {v : AV} (hv : Ev G Γ σ m value v) (ho : Ev G Γ σ m o (.ref d)) (hi : Ev G Γ σ m i (.str x)) (e : σ d = some (.dct es)) (hn : es.lookup x = none) (hz : es.length <= sizeLine)
  (h : W G Γ FRl (execs rest Γ.env) Q (σ.set d (.dct (es ++ [(x, v)]))) m)
  (hs : swapsWith value (some (.Subscript o i p')) pos.line Γ.env = pure false) : W G Γ FRl (execs (.Assign [.Subscript o i p'] value pos :: rest) Γ.env) Q σ m :=
 Zan (ZfX (Q := ZbA G Γ rest Γ.env Q) (hv _ (ho _ (hi _ fun A B C rA rB rC => Zmd e hn hz rA rB rC h))) hs)
theorem ZgR {o e1 e2 : Expr} {kk : Nat} {p1 p2 p3 : Pos} {a : Addr} {ps : List (Tag × Nat)} {t : Tag} {c : Nat} {Q : AV -> Sig -> Loc -> Prop} (ho : Ev G Γ σ m o (.ref a)) (h1 : ∀ σ', (∀ b o, σ b = some o -> σ' b = some o) -> Ev G Γ σ' m e1 (.str t.str)) (h2 : ∀ σ', (∀ b o, σ b = some o -> σ' b = some o) -> Ev G Γ σ' m e2 (.str (Zad c)))
  (ha : ZbG σ a ps) (hz : ps.length < LIM) (he1 : starEach [e1, e2] Γ.env = (false, eval e1 Γ.env) :: starEach [e2] Γ.env) (he2 : starEach [e2] Γ.env = (false, eval e2 Γ.env) :: starEach [] Γ.env) (he3 : starEach [.Tuple [e1, e2] kk p1] Γ.env = (false, eval (.Tuple [e1, e2] kk p1) Γ.env) :: starEach [] Γ.env)
  (q : ∀ r σ', (∀ b o, σ b = some o -> σ' b = some o) -> σ r = none -> ZbG σ' r (ps ++ [(t, c)]) -> Q (.ref r) σ' m) : W G Γ VR (eval (.BinOp o .Add (.List [.Tuple [e1, e2] kk p1] p2) p3) Γ.env) Q σ m := by
 refine o31 ha fun rs e hr => ?_; clear ha
 refine Zns (ho _ (Zf1 (Zac (ZaE (Zac (h1 σ (fun n_ n_ e => e) _ (Zac (h2 σ (fun n_ n_ e => e) _ (Zap (Zrb Zdw fun p hp => Zap (Zrb Ze4 fun l hl A B ra rb => ?_)))) he2)) he1)) he3)))
 have u1 := Zaa (o := .tup [.str t.str, .str (Zad c)]) hp
 have u2 := Zaa (o := .lst [.ref p]) hl
 refine Zlg (.inl (u2 _ _ (u1 _ _ e))) (.inl Sig.set_self) (by (refine rE (Zqt _) (rE hr.len ?_)); exact ZaK (ZrA hz)) ra rb fun r hr' => ?_
 have u3 := Zaa (o := .lst (rs.map AV.ref ++ [.ref p])) hr'
 have up : ∀ b o, σ b = some o -> _ := fun b o e => u3 b o (u2 _ _ (u1 _ _ e))
 refine q r _ up ?_ ⟨rs ++ [p], by (refine rE Sig.set_self (rE ZqB ?_)); rfl, (hr.mono up).snoc (u3 _ _ (u2 _ _ Sig.set_self))⟩
 induction z : σ r with
 | none => rfl
 | some o => rw [u2 _ _ (u1 _ _ z)] at hr'; exact nB hr'
theorem Ziu {e2 : Expr} {kk k1 k2 : Nat} {p1 p2 p3 : Pos} {c : Nat} {Q : AV -> Sig -> Loc -> Prop} (h2 : Ev G Γ σ m e2 (.str (Zad c)))
  (he1 : starEach [.Constant (.str "n") kk p1, e2] Γ.env = (false, eval (.Constant (.str "n") kk p1) Γ.env) :: starEach [e2] Γ.env) (he2 : starEach [e2] Γ.env = (false, eval e2 Γ.env) :: starEach [] Γ.env) (he3 : starEach [.Tuple [.Constant (.str "n") kk p1, e2] k1 p2] Γ.env = (false, eval (.Tuple [.Constant (.str "n") kk p1, e2] k1 p2) Γ.env) :: starEach [] Γ.env)
  (q : ∀ a p σ', (∀ b o, σ b = some o -> σ' b = some o) -> σ' a = some (.tup [.ref p]) -> Items σ' [.ref p] (some c) -> Q (.ref a) σ' m) : W G Γ VR (eval (.Tuple [.Tuple [.Constant (.str "n") kk p1, e2] k1 p2] k2 p3) Γ.env) Q σ m := by
 refine ZaE (Zac (ZaE (Zac (ZeS _ (Zac (h2 _ (Zap (Zrb Zdw fun p hp => Zap (Zrb Ze4 fun a ha => ?_)))) he2)) he1)) he3)
 have u1 := Zaa (o := .tup [.str "n", .str (Zad c)]) hp
 have u2 := Zaa (o := .tup [.ref p]) ha
 exact q a p _ (fun b o e => u2 _ _ (u1 _ _ e)) Sig.set_self ⟨p, rfl, u2 _ _ Sig.set_self⟩
end
section
variable {G : Glo} {Γ : Amb} {σ : Sig} {m : Loc} {k : Cfg} {z : Var} {w : PW} {o i : Expr}
theorem WorldZ.setDct {wd : Wd} (h : WorldZ k z σ wd) {d : Addr} {es es' : List (Str × AV)} (e : σ d = some (.dct es)) (hc : d ≠ k.contents) : WorldZ k z (σ.set d (.dct es')) wd := by
 have ne : ∀ {a : Addr} {o : AO}, σ a = some o -> o.isD = false -> (σ.set d (.dct es')) a = some o := fun {a o} e1 n => by
  rw [Sig.set_ne (fun q => by rw [q, e] at e1; (replace e1 := sO e1; subst e1); injection n)]; exact e1
 refine ⟨⟨ne h.fix.b rfl, ne h.fix.bd rfl, ne h.fix.t rfl, ne h.fix.td rfl, ne h.fix.s rfl, ne h.fix.sd rfl, ne h.fix.f rfl, ne h.fix.fd rfl, ?_⟩, fun sl l q => ne (h.obj sl l q) rfl, h.inj, h.lk, h.la, h.le, fun i a c q1 q2 => ?_, h.small⟩
 ·refine rE (Sig.set_ne (Ne.symm hc)) ?_; exact h.fix.contents
 ·refine o20 (h.att i a c q1 q2) fun r1 r2 => ?_
  refine ⟨?_, r2⟩
  induction c with
  | none => exact ne (o := .lst []) r1 rfl
  | some c => (refine o31 r1 fun p h1 h2 => ?_; clear r1); exact e31 p (ne h1 rfl) (ne h2 rfl)
theorem Ze1 : 3 <= sizeLine := by refine rE sizeLine_eq ?_; omega
theorem ZnT {td : Addr} {es : List (Str × AV)} (h : σ td = some (.dct es)) : ∀ a, a = td -> σ a ≠ none := fun a e q => by rw [e, h] at q; exact nB q
theorem Zmm {st td ta : Addr} {lta : List AV} {s s' : LS} {t : Tag} {c : Nat} (hK : Is G) (h : Zab k z σ s.w) (rm : Γ.Room 6) (hst : StateAt k z s.w σ st s.fs s.bs s.sp ta) (hta : σ ta = some (.lst lta)) (hno : ¬ Own k z (mk s.w) ta) (htd : σ td = some (.dct (ZbF s.tags))) (htc : td ≠ k.contents) (ht : t.isB = true \/ t.isF = true \/ t = .span) (e : ZeJ s t c = some s')
  {Q : AV -> Sig -> Loc -> Prop} (q : ∀ r z' σ', Zab k z' σ' s'.w -> ExtB (· = td) k z s.w σ z' s'.w σ' -> StateAt k z' s'.w σ' r s'.fs s'.bs s'.sp ta -> σ' td = some (.dct (ZbF s'.tags)) -> Q (.ref r) σ' m) : FC G Γ (.ref 607) [.ref k.b, .str t.str, .str (Zad c), .ref st, .ref td] Q σ m := by
 unfold ZeJ at e
 split at e
 ·exact nA e
 rename_i hg
 simp only [Zr8, not_or, decide_eq_true_eq, Zsw, Zsa, Zsi, ZsX] at hg
 refine o20 hg fun y0 hg4 => ?_; clear hg; (refine o20 y0 ?_; clear y0; intro y0 hg3; obtain ⟨hg1, hg2⟩ := y0)
 refine o72 hst.ex fun fa ba hs pf pb nf nb => ?_
 have ntd : ta ≠ td := fun q => by exact clN q hta htd rfl
 refine o31 pf.1 fun rf hfa hrf => ?_
 refine o31 pb.1 fun rb hba hrb => ?_
 have hzf : rf.length <= sizeLine := by refine rE hrf.len ?_; exact ZaK (Zrs hg4)
 have hzb : rb.length <= sizeLine := by refine rE hrb.len ?_; exact ZaK (Zrs hg3)
 have hlk : (ZbF s.tags).lookup (Zad c) = none := by (refine rE (Zc3 _ _) (rE hg1 ?_)); rfl
 have hzt : (ZbF s.tags).length <= sizeLine := by unfold ZbF; refine rE (Zqt _) ?_; exact ZaK (Zrs hg2)
 have hB1 : ∀ b, b = td -> ∀ l, σ b ≠ some (.tup l) := fun b e l x => by exact clN e x htd rfl
 have hB2 : ∀ b, b = td -> ∀ l ps, σ b = some (.lst l) -> ¬ ZbG σ b ps := fun b e l ps x => by exact clN e x htd rfl
 walk_at "defF"
 refine Zif ((show Ev G _ σ _ _ (.ref st) by walk_at "ev") _ ⟨st, _, _, _, rfl, .inl hs, ?_⟩) (by rfl) (by rfl) (by rfl) (by rfl) (by rfl)
 have x1 : ExtB (· = td) k z s.w σ z s.w (σ.set td (.dct (ZbF s.tags ++ [(Zad c, .str t.str)]))) := ExtB.turn htd
 have h1 : Zab k z (σ.set td (.dct (ZbF s.tags ++ [(Zad c, .str t.str)]))) s.w := h.setDct htd htc
 have ht1 : (σ.set td (.dct (ZbF s.tags ++ [(Zad c, .str t.str)]))) td = some (.dct (ZbF (s.tags ++ [(c, t)]))) := by refine rE Sig.set_self ?_; unfold ZbF; refine rE ZqB ?_; rfl
 have pf1 := pf.ext h x1 hB1 (fun q => by exact clN q hfa htd rfl)
 have pb1 := pb.ext h x1 hB1 (fun q => by exact clN q hba htd rfl)
 refine Za8 (b := t.isB) (Zai (by walk_at "evt") (by induction t <;> kernel_rfl)) (fun hb => ?_) (fun hb => Zah ?_)
 ·rw [if_pos hb] at e
  refine Za8 (b := decide (5 <= s.bs.length)) (Zai (by walk_at "evt") (by (refine rE ZlV (rE hrb.len ?_)); exact decide_eq_decide.mpr (cLe 5 _))) (fun h5 => ?_) (fun h5 => Zah ?_)
  ·rw [if_pos (of_decide_eq_true h5)] at e
   (replace e := sO e; subst e)
   walk_at "ret"
   exact q st z σ h (ExtB.of .refl (ZnT htd)) hst htd
  ·rw [if_neg (of_decide_eq_false h5)] at e
   refine bE e fun y0 hw1 e => ?_; obtain ⟨n, w₁⟩ := y0
   (replace e := sO e; subst e)
   refine ZnB (by walk_at "ev") (by walk_at "ev") (by walk_at "ev") htd hlk hzt ?_ (by rfl)
   generalize σ.set td (.dct (ZbF s.tags ++ [(Zad c, .str t.str)])) = σ₁ at x1 h1 ht1 pf1 pb1 ⊢
   refine Zcm (Zay (Za4 hK) (Za6 hK) (Zac ((show Ev G _ σ₁ _ _ (.ref k.b) by walk_at "ev") _ (Zac ((show Ev G _ σ₁ _ _ (.str t.str) by walk_at "ev") _ (Zac (Ziu (c := c) (by walk_at "ev") (by rfl) (by rfl) (by rfl) fun a p σ₂ up ha hi => Zap ?_) (by rfl))) (by rfl))) (by rfl)) (by rfl) (by rfl) (by decide)) (by rfl) (by rfl)
   have h2 := h1.mono up
   refine Zb1 hK h2 (by walk_at "rm") (.inl ha) hi hw1 _ fun zc σ₃ h₃ xc => ?_
   have x3 : ExtB (· = td) k z s.w σ₁ zc w₁ σ₃ := ExtB.of ((Ext.more up).trans xc) (ZnT ht1)
   have hT1 : ∀ b, b = td -> ∀ l, σ₁ b ≠ some (.tup l) := fun b e l x => by exact clN e x ht1 rfl
   have pf3 := pf1.ext h1 x3 hT1 (fun q => by exact clN q hfa htd rfl)
   have pb3 := pb1.ext h1 x3 hT1 (fun q => by exact clN q hba htd rfl)
   have ht3 : σ₃ td = some (.dct (ZbF (s.tags ++ [(c, t)]))) := Zb3 h1 ((Ext.more up).trans xc) ht1 (AO.nl rfl)
   refine Zan ?_
   refine ZaZ ?_
   refine ZaE ?_
   refine Zac ((show Ev G _ σ₃ _ _ (.ref fa) by walk_at "ev") _ ?_) (by rfl)
   refine Zac ?_ (by rfl)
   refine ZgR (t := t) (c := c) (by walk_at "ev") (fun σ' n_ => by walk_at "ev") (fun σ' n_ => by walk_at "ev") pb3.1 hg3 (by rfl) (by rfl) (by rfl) fun r σ₄ up4 hr4 pr => ?_
   refine Zac ((show Ev G _ σ₄ _ _ (.int s.sp) by walk_at "ev") _ (Zap (Zrb Ze1 fun r' hr' => ?_))) (by rfl)
   have up5 := Zaa (o := .tup [.ref fa, .ref r, .int s.sp]) hr'
   have x5 : ExtB (· = td) k zc w₁ σ₃ zc w₁ (σ₄.set r' (.tup [.ref fa, .ref r, .int s.sp])) := ExtB.of (Ext.more fun b o e => up5 _ _ (up4 _ _ e)) (ZnT ht3)
   have hT3 : ∀ b, b = td -> ∀ l, σ₃ b ≠ some (.tup l) := fun b e l x => by exact clN e x ht3 rfl
   refine q r' zc _ (h₃.mono fun b o e => up5 _ _ (up4 _ _ e)) ((x1.trans x3).trans x5) ⟨fa, r, Sig.set_self, pf3.ext h₃ x5 hT3 (fun q => by exact clN q hfa htd rfl), ?_, nf, fun q => by have z := x3.keep _ _ (x1.keep _ _ hta hno ntd) hno ntd; rw [<- q, hr4] at z; exact nA z⟩ (up5 _ _ (up4 _ _ ht3))
   refine o31 pr fun rs e1 e2 => ?_; clear pr
   exact PL.fresh h₃ hr4 ⟨rs, up5 _ _ e1, e2.mono up5⟩
 ·rw [if_neg (by refine rE hb ?_; decide)] at e
  refine Za8 (b := decide (4 <= s.fs.length + s.sp)) (Zai (by walk_at "evt") (by (refine rE ZlV (rE hrf.len ?_)); exact decide_eq_decide.mpr (cLe 4 (_ + _)))) (fun h5 => ?_) (fun h5 => Zah ?_)
  ·rw [if_pos (of_decide_eq_true h5)] at e
   (replace e := sO e; subst e)
   walk_at "ret"
   exact q st z σ h (ExtB.of .refl (ZnT htd)) hst htd
  ·rw [if_neg (of_decide_eq_false h5)] at e
   refine bE e fun wc hw0 e => ?_
   refine bE e fun y0 hw1 e => ?_; obtain ⟨n, w₁⟩ := y0
   refine ZnB (by walk_at "ev") (by walk_at "ev") (by walk_at "ev") htd hlk hzt ?_ (by rfl)
   generalize σ.set td (.dct (ZbF s.tags ++ [(Zad c, .str t.str)])) = σ₁ at x1 h1 ht1 pf1 pb1 ⊢
   refine Zal (ZaU (Zct hK) (Zcy hK) (by walk_at "eva") (reconstruct hK h1 (by walk_at "rm") hw0) (by rfl) (by rfl) (by decide)) (fun zb σ₂ h₂ x₂ => ?_) (by rfl) (by rfl)
   refine Zan (Zax (Zay (Za4 hK) (Za6 hK) (Zac ((show Ev G _ σ₂ _ _ (.ref k.b) by walk_at "ev") _ (Zac ((show Ev G _ σ₂ _ _ (.str t.str) by walk_at "ev") _ (Zac (Ziu (c := c) (by walk_at "ev") (by rfl) (by rfl) (by rfl) fun a p σ2' up ha hi => Zap ?_) (by rfl))) (by rfl))) (by rfl)) (by rfl) (by rfl) (by decide)) (by rfl) (by rfl))
   refine Zb1 hK (h₂.mono up) (by walk_at "rm") (.inl ha) hi hw1 _ fun zc σ₃ h₃ xc => ?_
   have xx3 := (x₂.trans (Ext.more up)).trans xc
   have x3 : ExtB (· = td) k z s.w σ₁ zc w₁ σ₃ := ExtB.of xx3 (ZnT ht1)
   have hT1 : ∀ b, b = td -> ∀ l, σ₁ b ≠ some (.tup l) := fun b e l x => by exact clN e x ht1 rfl
   have pf3 := pf1.ext h1 x3 hT1 (fun q => by exact clN q hfa htd rfl)
   have pb3 := pb1.ext h1 x3 hT1 (fun q => by exact clN q hba htd rfl)
   have ht3 : σ₃ td = some (.dct (ZbF (s.tags ++ [(c, t)]))) := Zb3 h1 xx3 ht1 (AO.nl rfl)
   refine Za8 (b := !t.isF) (Zai (by walk_at "evt") (by
    rcases ht with ht | ht | ht
    ·rw [hb] at ht; exact nC ht
    ·induction t <;> first | exact absurd ht (by decide) | kernel_rfl
    ·subst ht; kernel_rfl)) (fun hF => ?_) (fun hF => Zah ?_)
   ·have hF : t.isF = false := by simpa using hF
    rw [hF, if_neg (by decide)] at e
    (replace e := sO e; subst e)
    refine Zan ?_
    refine ZaZ ?_
    refine ZaE ?_
    refine Zac ((show Ev G _ σ₃ _ _ (.ref fa) by walk_at "ev") _ ?_) (by rfl)
    refine Zac ((show Ev G _ σ₃ _ _ (.ref ba) by walk_at "ev") _ ?_) (by rfl)
    refine Zac ((show Ev G _ σ₃ _ _ (.int ((s.sp + 1 : Nat) : Int)) from Zcf (v := .int ((s.sp : Int) + 1)) (by walk_at "ev") (by congr 1)) _ (Zap (Zrb Ze1 fun r' hr' => ?_))) (by rfl)
    have up5 := Zaa (o := .tup [.ref fa, .ref ba, .int ((s.sp + 1 : Nat) : Int)]) hr'
    have x5 : ExtB (· = td) k zc w₁ σ₃ zc w₁ (σ₃.set r' (.tup [.ref fa, .ref ba, .int ((s.sp + 1 : Nat) : Int)])) := ExtB.of (Ext.more up5) (ZnT ht3)
    have hT3 : ∀ b, b = td -> ∀ l, σ₃ b ≠ some (.tup l) := fun b e l x => by exact clN e x ht3 rfl
    exact q r' zc _ (h₃.mono up5) ((x1.trans x3).trans x5) ⟨fa, ba, Sig.set_self, pf3.ext h₃ x5 hT3 (fun q => by exact clN q hfa htd rfl), pb3.ext h₃ x5 hT3 (fun q => by exact clN q hba htd rfl), nf, nb⟩ (up5 _ _ ht3)
   ·have hF : t.isF = true := by simpa using hF
    rw [hF, if_pos rfl] at e
    refine bE e fun w₂ hwa e => ?_
    (replace e := sO e; subst e)
    refine Zal (Zak (by walk_at "ev") (by walk_at "meth") (by walk_at "eva") (Znh hK h₃ (by walk_at "rm") hwa) (by rfl) (by rfl)) (fun zd σ₄ h₄ xd => ?_) (by rfl) (by rfl)
    have hT3 : ∀ b, b = td -> ∀ l, σ₃ b ≠ some (.tup l) := fun b e l x => by exact clN e x ht3 rfl
    have x4 : ExtB (· = td) k zc w₁ σ₃ zd w₂ σ₄ := ExtB.of xd (ZnT ht3)
    have pf4 := pf3.ext h₃ x4 hT3 (fun q => by exact clN q hfa htd rfl)
    have pb4 := pb3.ext h₃ x4 hT3 (fun q => by exact clN q hba htd rfl)
    have ht4 : σ₄ td = some (.dct (ZbF (s.tags ++ [(c, t)]))) := Zb3 h₃ xd ht3 (AO.nl rfl)
    refine Zan ?_
    refine ZaZ ?_
    refine ZaE ?_
    refine Zac ?_ (by rfl)
    refine ZgR (t := t) (c := c) (by walk_at "ev") (fun σ' n_ => by walk_at "ev") (fun σ' n_ => by walk_at "ev") pf4.1 hg4 (by rfl) (by rfl) (by rfl) fun r σ₅ up4 hr4 pr => ?_
    refine Zac ((show Ev G _ σ₅ _ _ (.ref ba) by walk_at "ev") _ ?_) (by rfl)
    refine Zac ((show Ev G _ σ₅ _ _ (.int s.sp) by walk_at "ev") _ (Zap (Zrb Ze1 fun r' hr' => ?_))) (by rfl)
    have up5 := Zaa (o := .tup [.ref r, .ref ba, .int s.sp]) hr'
    have x5 : ExtB (· = td) k zd w₂ σ₄ zd w₂ (σ₅.set r' (.tup [.ref r, .ref ba, .int s.sp])) := ExtB.of (Ext.more fun b o e => up5 _ _ (up4 _ _ e)) (ZnT ht4)
    have hT4 : ∀ b, b = td -> ∀ l, σ₄ b ≠ some (.tup l) := fun b e l x => by exact clN e x ht4 rfl
    refine q r' zd _ (h₄.mono fun b o e => up5 _ _ (up4 _ _ e)) (((x1.trans x3).trans x4).trans x5) ⟨r, ba, Sig.set_self, ?_, pb4.ext h₄ x5 hT4 (fun q => by exact clN q hba htd rfl), (fun q => by
     have hno3 : ¬ Own k zc (mk w₁) ta := fun o => by
      rcases x3.new _ o ntd with r | r
      ·exact hno r
      ·have z := x1.keep _ _ hta hno ntd; rw [r] at z; exact nA z
     have z := x4.keep _ _ (x3.keep _ _ (x1.keep _ _ hta hno ntd) hno ntd) hno3 ntd; rw [<- q, hr4] at z; exact nA z), nb⟩ (up5 _ _ (up4 _ _ ht4))
    refine o31 pr fun rs e1 e2 => ?_; clear pr
    exact PL.fresh h₄ hr4 ⟨rs, up5 _ _ e1, e2.mono up5⟩
theorem ZoL {elt iter : Expr} {x : Str} {px : Pos} {scope : Scope} {pos : Pos} {a : Addr} {l : List AV} {v : Nat -> AV} {Q : AV -> Sig -> Loc -> Prop}
  (hi : Ev G Γ σ m iter (.ref a)) (ha : σ a = some (.lst l)) (hz : l.length <= sizeLine)
  (hv : ∀ i C σ', i < l.length -> (∀ b o, σ b = some o -> σ' b = some o) -> σ' C = some (.nsp [(x, l.getD i .none)]) -> EvE G Γ σ' m (compEnvC scope [] C Γ.env) elt (v i))
  (q : ∀ D, σ D = none -> Q (.ref D) (σ.set D (.lst ((Zrt l.length).map v))) m)
  (hclos : closureFor scope Γ.env = pure []) (hcell : ∀ y ∈ scope.names, y.2 ≠ .cell) (hkind : scope.kind = .function) (hnames : ∀ y ∈ scope.names, y.2 = .local -> scope.names.lookup y.1 = some .local) (hx : scope.names.lookup x = some .local)
  (hs : ∀ x, foldedSetIterable iter Γ.env x = pure x) : W G Γ VR (eval (.ListComp elt [⟨.Name x px, iter, [], 0⟩] scope pos) Γ.env) Q σ m := by
 refine Ziq (hi _ ?_) hclos hcell hkind hnames hx hs
 refine e95 l.length (fun i => l.getD i .none) (fun σ' => Sees G σ' a (.lst l)) (fun n_ => true) v (fun u ru => ?_) hz (fun σ' up => .inl (up _ _ ha)) ⟨⟨fun i C σ' hi up hC => .inl ⟨rfl, rfl⟩, fun i C σ' hi n_ up hC => hv i C σ' hi up hC⟩, fun D hD => ?_⟩
 ·subst ru
  exact Zdh (.inl ha)
 ·have := q D hD
  refine rE (Zha _) ?_; refine rE (show (Zrt l.length).filter (fun n_ => true) = Zrt l.length from Zru.mpr fun n_ n_ => rfl) ?_
  exact this
theorem ZkG {α : Type} {l : List AV} {ys : List α} {f : α -> AV} (v : Nat -> AV) (hl : l.length = ys.length) (h : ∀ i y, ys[i]? = some y -> v i = f y) : (Zrt l.length).map v = ys.map f := by
 apply ZrD
 intro i
 refine rE Zq0 (rE Zq0 ?_)
 by_cases hi : i < ys.length
 ·rewrite [ZrJ (by omega)]; refine rE (ZqA hi) ?_
  exact congrArg some (h i _ (ZqA hi))
 ·rw [Zq5 (by simp; omega), Zq5 (by omega)]; rfl
theorem Zcp {iter : Expr} {px p1 p2 p3 : Pos} {kk : Nat} {scope : Scope} {pos : Pos} {a : Addr} {ps : List (Tag × Nat)} (j : Bool) {Q : AV -> Sig -> Loc -> Prop}
  (hi : Ev G Γ σ m iter (.ref a)) (ha : ZbG σ a ps) (hz : ps.length <= LIM)
  (q : ∀ D, σ D = none -> Q (.ref D) (σ.set D (.lst ((ps.map fun p => if j then Zad p.2 else p.1.str).map AV.str))) m)
  (hL : ∀ C, (compEnvC scope [] C Γ.env).locals = C) (hkk : ∀ C, (compEnvC scope [] C Γ.env).kindOf "pair" = some .local)
  (hs1 : ∀ a k' u, subscripted (.Constant (.int (if j then 1 else 0)) kk p2) false (.ref a) (.int k' u) = operate [.ref a, .int k' u] (getItem (.ref a) (.int k' u)))
  (hclos : closureFor scope Γ.env = pure []) (hcell : ∀ y ∈ scope.names, y.2 ≠ .cell) (hkind : scope.kind = .function) (hnames : ∀ y ∈ scope.names, y.2 = .local -> scope.names.lookup y.1 = some .local) (hx : scope.names.lookup ("pair" : Str) = some .local)
  (hs : ∀ x, foldedSetIterable iter Γ.env x = pure x) : W G Γ VR (eval (.ListComp (.Subscript (.Name "pair" p1) (.Constant (.int (if j then 1 else 0)) kk p2) p3) [⟨.Name "pair" px, iter, [], 0⟩] scope pos) Γ.env) Q σ m := by
 refine o31 ha fun rs e hr => ?_; clear ha
 have hlen := hr.len
 refine ZoL (v := fun i => match ps[i]? with | some p => .str (if j then Zad p.2 else p.1.str) | none => .none) hi e (by (refine rE (Zqt _) (rE hlen ?_)); exact ZaK hz) (fun i C σ' hi' up hC => ?_) (fun D hD => ?_) hclos hcell hkind hnames hx hs
 ·rw [Zqt] at hi'
  refine o52 (hr.at (j := i) (by omega)) fun r p h1 h2 h3 => ?_
  rw [show (rs.map AV.ref).getD i .none = .ref r from by (refine rE ZqE (rE Zq0 (rE h1 ?_))); rfl] at hC
  refine rE h2 ?_
  induction j with
  | true => exact ZbR (ZbT hC (by rfl) (hL C) hkind (hkk C) (by decide)) Zej (Zcb (.inl (up _ _ h3)) Zdw (hs1 _))
  | false => exact ZbR (ZbT hC (by rfl) (hL C) hkind (hkk C) (by decide)) Zej (Zdc (.inl (up _ _ h3)) Zdw (hs1 _))
 ·have := q D hD
  rw [ZkG (f := fun p : Tag × Nat => AV.str (if j then Zad p.2 else p.1.str)) (ys := ps) _ (by (refine rE (Zqt _) ?_; exact rE hlen rfl)) (fun i y h => by exact rE h rfl)]
  rw [ZqV] at this
  exact this
end
section
variable {G : Glo} {Γ : Amb} {σ : Sig} {m : Loc} {k : Cfg} {z : Var} {w : PW} {o i : Expr}
theorem ZiV {st ta : Addr} {lta : List AV} {s s' : LS} {t : Tag} (hK : Is G) (h : Zab k z σ s.w) (rm : Γ.Room 7) (hst : StateAt k z s.w σ st s.fs s.bs s.sp ta) (hta : σ ta = some (.lst lta)) (hno : ¬ Own k z (mk s.w) ta) (hz : s.fs.length <= LIM /\ s.bs.length <= LIM) (e : ZnH s t = some s')
  {Q : AV -> Sig -> Loc -> Prop} (q : ∀ r z' σ', Zab k z' σ' s'.w -> Zcr k z s.w σ z' s'.w σ' -> StateAt k z' s'.w σ' r s'.fs s'.bs s'.sp ta -> Q (.ref r) σ' m) : FC G Γ (.ref 612) [.ref k.b, .str t.str, .ref st] Q σ m := by
 have noB : ∀ {z : Var} {w : PW} {σ : Sig} {z' : Var} {w' : PW} {σ' : Sig}, Zcr k z w σ z' w' σ' -> ExtB (fun n_ => False) k z w σ z' w' σ' := fun x => ExtB.of x fun n_ q => q.elim
 have plx : ∀ {z : Var} {w : PW} {σ : Sig} {z' : Var} {w' : PW} {σ' : Sig} {a : Addr} {ps : List (Tag × Nat)}, Zab k z σ w -> Zcr k z w σ z' w' σ' -> PL k z w σ a ps -> PL k z' w' σ' a ps := fun h x p => p.ext h (noB x) (fun n_ q => q.elim) fun q => q
 unfold ZnH at e
 refine o72 hst.ex fun fa ba hs pf pb nf nb => ?_
 walk_at "defF"
 refine Zif ((show Ev G _ σ _ _ (.ref st) by walk_at "ev") _ ⟨st, _, _, _, rfl, .inl hs, ?_⟩) (by rfl) (by rfl) (by rfl) (by rfl) (by rfl)
 refine Za8 (b := t.isB) (Zai (by walk_at "evt") (by induction t <;> kernel_rfl)) (fun hb => ?_) (fun hb => Zah ?_)
 ·rw [if_pos hb] at e
  suffices hs : ∀ za σ₁ w₁ mc, Zab k za σ₁ w₁ -> Zcr k z s.w σ za w₁ σ₁ -> s' = { s with w := w₁, bs := upTo s.bs t } -> HasL [("formats", .ref fa), ("blocks", .ref ba), ("spans", .int s.sp), ("name", .str t.str)] mc -> _ from by
   refine Za8 (b := s.bs.any fun q => decide (q.1.str = t.str)) ?_ (fun ha => ?_) (fun ha => ?_)
   ·intro Q' q'
    refine ZbE (ZbI ((show Ev G _ σ _ _ (.str t.str) by walk_at "ev") _ (Zcp false (by walk_at "ev") pb.1 hz.2 (fun D hD A B ra rb => ZmO (.inl Sig.set_self) rb ra ⟨_, rfl, σ, _, Zaa hD, fun n_ n_ e => e, ?_⟩) (fun n_ => rfl) (fun n_ => rfl) (by intro n_ n_ n_; walk_at "u") (by walk_at "u") (by decide) (by rfl) (by decide) (by rfl) (by intro n_; rfl))) (by walk_at "u"))
    refine rE (show decide (t.str ∈ s.bs.map fun p => if false = true then Zad p.2 else p.1.str) = s.bs.any fun q => decide (q.1.str = t.str) from by
     rw [ZsA, decide_eq_true_iff, ZrX, ZqO]
     constructor
     ·rintro ⟨p, hp, e⟩; exact e31 p hp (decide_eq_true e)
     ·rintro ⟨p, hp, e⟩; exact e31 p hp (of_decide_eq_true e)) ?_
    exact q'
   ·rw [if_pos ha] at e
    refine bE e fun w₁ hw1 e => ?_
    refine o31 (Zdr hK h) fun C i1 i2 => ?_
    refine Zcm (ZgI ((show Ev G _ σ _ _ (.ref k.s) by walk_at "ev") _ ⟨k.s, C, _, rfl, i1, i2, ?_⟩) (by rfl) (by rfl)) (by rfl) (by rfl)
    refine Zac (ZaE (Zac ((show Ev G _ σ _ _ (.str t.str) by walk_at "ev") _ (Zap (Zrb Ze4 fun a ha' => ?_))) (by rfl))) (by rfl)
    refine Zap (Zja hK (h.mono (Zaa ha')) (by walk_at "rm") Sig.set_self hw1 fun v za σ₁ h₁ x₁ => ?_)
    exact Zah (hs za σ₁ w₁ _ h₁ ((Ext.more (Zaa ha')).trans x₁) (ZqC e).symm ⟨rfl, rfl, rfl, rfl, trivial⟩)
   ·rw [if_neg (by refine rE ha ?_; decide)] at e
    refine Zah (hs z σ s.w _ h .refl ?_ ⟨rfl, rfl, rfl, rfl, trivial⟩)
    (replace e := sO e; subst e)
    have : upTo s.bs t = s.bs := by
     unfold upTo
     have hp : Zau s.bs t = [] := by
      unfold Zau
      rw [Zrv]
      intro i hi hh
      have hi := Zsg.mp hi
      rw [ZqA hi] at hh
      have hh := ZqC (of_decide_eq_true hh)
      have := Zsj.mp ha s.bs[i] (Zsv hi)
      exact this (decide_eq_true hh)
     refine rE hp ?_; rfl
    exact rE this rfl
  intro za σ₁ w₁ mc h₁ x₁ hs' hm
  subst hs'
  refine Zbb hm ?_
  have pf1 := plx h x₁ pf
  have pb1 := plx h x₁ pb
  refine Zan ?_
  refine ZaZ ?_
  refine ZaE ?_
  refine Zac ((show Ev G _ σ₁ _ _ (.ref fa) by walk_at "ev") _ ?_) (by rfl)
  refine Zac (Zay (ZcJ hK) (ZcK hK) ((show EvA G _ σ₁ _ _ _ [.ref ba, .str t.str] by walk_at "eva") _ (Zki hK (by walk_at "rm") pb1.1 hz.2 fun r σ₂ up2 hr pr => ?_)) (by rfl) (by rfl) (by decide)) (by rfl)
  refine Zac ((show Ev G _ σ₂ _ _ (.int s.sp) by walk_at "ev") _ (Zap (Zrb Ze1 fun r' hr' => ?_))) (by rfl)
  have up5 := Zaa (o := .tup [.ref fa, .ref r, .int s.sp]) hr'
  have x5 : Zcr k za w₁ σ₁ za w₁ (σ₂.set r' (.tup [.ref fa, .ref r, .int s.sp])) := Ext.more fun b o e => up5 _ _ (up2 _ _ e)
  refine q r' za _ (h₁.mono fun b o e => up5 _ _ (up2 _ _ e)) (x₁.trans x5) ⟨fa, r, Sig.set_self, plx h₁ x5 pf1, ?_, nf, ?_⟩
  ·refine o31 pr fun rs e1 e2 => ?_; clear pr
   refine ⟨⟨rs, up5 _ _ e1, e2.mono up5⟩, ?_⟩
   rcases hr with hr | hr
   ·refine rE hr ?_; exact pb1.2
   ·intro ow
    refine o21 (h₁.own ow) fun l' hl' => ?_
    rw [hr] at hl'; exact nA hl'
  ·rcases hr with hr | hr
   ·refine rE hr ?_; exact nb
   ·intro q; have z := x₁.keep _ _ hta hno; rw [<- q, hr] at z; exact nA z
 ·rw [if_neg (by refine rE hb ?_; decide)] at e
  refine bE e fun w₁ hw1 e => ?_
  (replace e := sO e; subst e)
  refine Zal (ZaU (ZkH hK) (ZkL hK) (by walk_at "eva") (Zon hK h (by walk_at "rm") hw1) (by rfl) (by rfl) (by decide)) (fun za σ₁ h₁ x₁ => ?_) (by rfl) (by rfl)
  have pf1 := plx h x₁ pf
  have pb1 := plx h x₁ pb
  refine Zan ?_
  refine ZaZ ?_
  refine ZaE ?_
  refine Zac (Zay (Zb7 hK) (Zb5 hK) ((show EvA G _ σ₁ _ _ _ [.ref fa, .str t.str] by walk_at "eva") _ (Zh4 hK (by walk_at "rm") pf1.1 hz.1 fun r σ₂ up2 hr pr => ?_)) (by rfl) (by rfl) (by decide)) (by rfl)
  refine Zac ((show Ev G _ σ₂ _ _ (.ref ba) by walk_at "ev") _ ?_) (by rfl)
  refine Zac ((show Ev G _ σ₂ _ _ (.int s.sp) by walk_at "ev") _ (Zap (Zrb Ze1 fun r' hr' => ?_))) (by rfl)
  have up5 := Zaa (o := .tup [.ref r, .ref ba, .int s.sp]) hr'
  have x5 : Zcr k za w₁ σ₁ za w₁ (σ₂.set r' (.tup [.ref r, .ref ba, .int s.sp])) := Ext.more fun b o e => up5 _ _ (up2 _ _ e)
  refine q r' za _ (h₁.mono fun b o e => up5 _ _ (up2 _ _ e)) (x₁.trans x5) ⟨r, ba, Sig.set_self, ?_, plx h₁ x5 pb1, (fun q => by have z := x₁.keep _ _ hta hno; rw [<- q, hr] at z; exact nA z), nb⟩
  refine o31 pr fun rs e1 e2 => ?_; clear pr
  refine ⟨⟨rs, up5 _ _ e1, e2.mono up5⟩, fun ow => ?_⟩
  refine o21 (h₁.own ow) fun l' hl' => ?_
  rw [hr] at hl'; exact nA hl'
noncomputable def Zae (l : List Nat) : List AV := l.map fun c => .str (Zad c)
noncomputable def TE (N : Addr -> Prop) (σ : Sig) (r : Addr) (e : Nat × List Nat × List Nat) : Prop := ∃ la lb, σ r = some (.tup [.str (Zad e.1), .ref la, .ref lb]) /\ σ la = some (.lst (Zae e.2.1)) /\ σ lb = some (.lst (Zae e.2.2)) /\ ¬ N la /\ ¬ N lb
inductive ToldR (N : Addr -> Prop) (σ : Sig) : List Addr -> List (Nat × List Nat × List Nat) -> Prop
 | nil : ToldR N σ [] []
 | cons {r : Addr} {e : Nat × List Nat × List Nat} {rs : List Addr} {es : List (Nat × List Nat × List Nat)} : TE N σ r e -> ToldR N σ rs es -> ToldR N σ (r :: rs) (e :: es)
theorem ToldR.snoc {N : Addr -> Prop} {rs : List Addr} {es : List (Nat × List Nat × List Nat)} (h : ToldR N σ rs es) {r : Addr} {e : Nat × List Nat × List Nat} (t : TE N σ r e) : ToldR N σ (rs ++ [r]) (es ++ [e]) := by
 induction h with
 | nil => exact .cons t .nil
 | cons t' _ ih => exact .cons t' ih
theorem ToldR.len {N : Addr -> Prop} {rs : List Addr} {es : List (Nat × List Nat × List Nat)} (h : ToldR N σ rs es) : rs.length = es.length := by induction h with | nil => rfl | cons _ _ ih => (refine rE ZqF (rE ZqF ?_); exact rE ih rfl)
theorem ToldR.ext {N N' : Addr -> Prop} {σ' : Sig} {rs : List Addr} {es : List (Nat × List Nat × List Nat)} (h : ToldR N σ rs es) (k1 : ∀ a l, σ a = some (.tup l) -> σ' a = some (.tup l)) (k2 : ∀ a l, σ a = some (.lst l) -> ¬ N a -> σ' a = some (.lst l)) (k3 : ∀ a, N' a -> N a \/ σ a = none) : ToldR N' σ' rs es := by
 induction h with
 | nil => exact .nil
 | @cons r e rs es t _ ih =>
  refine o72 t fun la lb h1 h2 h3 n1 n2 => ?_; clear t
  refine .cons ⟨la, lb, k1 _ _ h1, k2 _ _ h2 n1, k2 _ _ h3 n2, fun q => ?_, fun q => ?_⟩ ih
  ·rcases k3 _ q with r | r
   ·exact n1 r
   ·rw [h2] at r; exact nB r
  ·rcases k3 _ q with r | r
   ·exact n2 r
   ·rw [h3] at r; exact nB r
theorem Zj1 : ∀ (l : List Nat) (p : Nat), risingS (Zad p) (l.map Zad) = true -> (p :: l).Pairwise (· <= ·) := by
 refine @Zbg _ _ ?_ ?_
 ·intro p n_
  simp
 ·intro x r ih p h
  rw [ZqP, risingS, Zri, ltCps_eq] at h
  have ih := ih x h.2
  have hpx : p <= x := by
   have h1 : (!decide ([x] < [p])) = true := h.1
   have h1 : decide ([x] < [p]) = false := by induction q : decide ([x] < [p]) with
    | false => rfl
    | true => rw [q] at h1; injection h1
   have h1 := of_decide_eq_false h1
   by_cases hh : p <= x
   ·exact hh
   ·exact absurd (List.cons_lt_cons_iff.mpr (.inl (by omega))) h1
  rw [ZrN] at ih ⊢
  refine ⟨fun a ha => ?_, ZrN.mpr ih⟩
  rcases ZqD.mp ha with rfl | ha
  ·exact hpx
  ·exact Zrj hpx (ih.1 a ha)
theorem Zkx : ∀ (l : List Nat), sortedS (l.map Zad) = true -> l.Pairwise (· <= ·) := by
 refine @Zbg _ _ ?_ ?_
 ·intro n_
  exact .nil
 ·intro x r ih h
  exact Zj1 r x h
theorem Zdp (l : List Nat) : (Za3 l).Pairwise (· <= ·) := by
 have := List.pairwise_mergeSort (le := fun (a b : Nat) => decide (a <= b)) (fun a b c h1 h2 => by simp only [decide_eq_true_eq] at *; omega) (fun a b => by simp only [Zr8, decide_eq_true_eq]; omega) l
 exact this.imp fun h => by simpa using h
theorem ZbX (l : List Nat) : (Za3 l).Perm l := List.mergeSort_perm l _
theorem ZcR {l l' : List Nat} (hp : l'.Perm l) (h : l'.Pairwise (· <= ·)) : l' = Za3 l := List.Perm.eq_of_pairwise (fun n_ n_ n_ n_ h1 h2 => Nat.le_antisymm h1 h2) h (Zdp l) (hp.trans (ZbX l).symm)
theorem ZbJ {ys : List Str} {l : List Nat} (hp : ys.Perm (l.map Zad)) (hs : sortedS ys = true) : ys = (Za3 l).map Zad := by
 have e : ys = (ys.map fun x => x.cps[0]?.getD 0).map Zad := by
  refine rE ZqV ?_
  conv => lhs; rw [<- List.map_id ys]
  refine Zrk fun y hy => ?_
  refine o31 (ZqO.mp (hp.mem_iff.mp hy)) fun c n_ y2 => ?_; subst y2
  rfl
 have hp2 : (ys.map fun x => x.cps[0]?.getD 0).Perm l := by
  have := hp.map fun x : Str => x.cps[0]?.getD 0
  rw [ZqV] at this
  rwa [show (fun x : Str => x.cps[0]?.getD 0) ∘ Zad = id from rfl, List.map_id] at this
 rw [e] at hs ⊢
 exact rE (ZcR hp2 (Zkx _ hs)) rfl
noncomputable def TL (k : Cfg) (z : Var) (w : PW) (σ : Sig) (ta : Addr) (es : List (Nat × List Nat × List Nat)) : Prop := (∃ rs : List Addr, σ ta = some (.lst (rs.map AV.ref)) /\ ToldR (fun a => Own k z (mk w) a \/ a = ta) σ rs es) /\ ¬ Own k z (mk w) ta
theorem TL.ext {z' : Var} {w' : PW} {σ' : Sig} {B : Addr -> Prop} {ta : Addr} {es : List (Nat × List Nat × List Nat)} (p : TL k z w σ ta es) (h : Zab k z σ w) (x : ExtB B k z w σ z' w' σ') (hB : ∀ a, B a -> (∀ l, σ a ≠ some (.lst l)) /\ ∀ l, σ a ≠ some (.tup l)) : TL k z' w' σ' ta es := by
 refine o20 p fun y0 n => ?_; clear p; (refine o31 y0 fun rs h1 h2 => ?_; clear y0)
 have hta : ¬ B ta := fun b => (hB _ b).1 _ h1
 refine ⟨⟨rs, x.keep _ _ h1 n hta, h2.ext (fun a l e => x.keep _ _ e (fun ow => ?_) fun b => (hB _ b).2 _ e) (fun a l e nn => x.keep _ _ e (fun ow => nn (.inl ow)) fun b => (hB _ b).1 _ e) fun a q => ?_⟩, fun q => ?_⟩
 ·refine o21 (h.own ow) fun l' hl' => ?_
  exact clN rfl hl' e rfl
 ·rcases q with q | q
  ·by_cases b : B a
   ·exact .inl (.inl (x.own a b q))
   ·rcases x.new a q b with r | r
    ·exact .inl (.inl r)
    ·exact .inr r
  ·exact .inl (.inr q)
 ·rcases x.new _ q hta with r | r
  ·exact n r
  ·rw [h1] at r; exact nB r
end
section
variable {G : Glo} {Γ : Amb} {σ : Sig} {m : Loc} {k : Cfg} {z : Var} {w : PW} {o i : Expr}
theorem TL.obj {ta : Addr} {es : List (Nat × List Nat × List Nat)} (p : TL k z w σ ta es) : ∃ rs : List Addr, σ ta = some (.lst (rs.map AV.ref)) /\ ToldR (fun a => Own k z (mk w) a \/ a = ta) σ rs es := p.1
theorem Zm1 {st ta : Addr} {s s' : LS} {c : Nat} (hK : Is G) (h : Zab k z σ s.w) (rm : Γ.Room 6) (hst : StateAt k z s.w σ st s.fs s.bs s.sp ta) (hT : TL k z s.w σ ta s.told) (hz : s.fs.length <= LIM /\ s.bs.length <= LIM) (e : Zf6 s c = some s')
  {Q : AV -> Sig -> Loc -> Prop} (q : ∀ z' σ', Zab k z' σ' s'.w -> ExtB (· = ta) k z s.w σ z' s'.w σ' -> TL k z' s'.w σ' ta s'.told -> Q .none σ' m) : FC G Γ (.ref 617) [.ref k.b, .str (Zad c), .ref st, .ref ta] Q σ m := by
 unfold Zf6 at e
 split at e
 case isFalse => exact nA e
 rename_i hg
 simp only [Zri, decide_eq_true_eq] at hg
 refine o20 hg fun y0 hg4 => ?_; clear hg; (refine o20 y0 ?_; clear y0; intro y0 hg3; obtain ⟨hg1, hg2⟩ := y0)
 refine bE e fun w₁ hw1 e => ?_
 refine bE e fun w₂ hwa e => ?_
 (replace e := sO e; subst e)
 have noB : ∀ {z : Var} {w : PW} {σ : Sig} {z' : Var} {w' : PW} {σ' : Sig}, Zcr k z w σ z' w' σ' -> ExtB (fun n_ => False) k z w σ z' w' σ' := fun x => ExtB.of x fun n_ q => q.elim
 refine o31 hT.1 fun rt0 hta0 n_ => ?_
 walk_at "defF"
 refine Zal (ZaU (Zct hK) (Zcy hK) (by walk_at "eva") (reconstruct hK h (by walk_at "rm") hw1) (by rfl) (by rfl) (by decide)) (fun za σ₁ h₁ x₁ => ?_) (by rfl) (by rfl)
 refine Zal (ZaU (Zd1 hK) (ZdR hK) (by walk_at "eva") (ZiX hK h₁ (by walk_at "rm") hwa) (by rfl) (by rfl) (by decide)) (fun zb σ₂ h₂ x₂ => ?_) (by rfl) (by rfl)
 have x02 := x₁.trans x₂
 have st2 : StateAt k zb w₂ σ₂ st s.fs s.bs s.sp ta := hst.ext h (noB x02) (fun n_ q => q.elim) fun n_ q => q.elim
 have T2 : TL k zb w₂ σ₂ ta s.told := hT.ext h (noB x02) fun n_ q => q.elim
 refine o72 st2.ex fun fa ba hs pf pb nf nb => ?_
 refine o20 T2 fun y0 hno => ?_; clear T2; (refine o31 y0 fun rt hta hR => ?_; clear y0)
 have hlt : (rt.map AV.ref).length <= sizeLine := by (refine rE (Zqt _) (rE hR.len ?_)); exact ZaK (Zrs hg4)
 refine Zcm (ZcY PySem.F.slot_list_append PySem.F.type_list_append ((show Ev G _ σ₂ _ _ (.ref ta) by walk_at "ev") _ ⟨ta, _, rfl, hta, ?_⟩) (by rfl) (by rfl)) (by rfl) (by rfl)
 refine Zac (ZaE ?_) (by rfl)
 refine Zac ((show Ev G _ σ₂ _ _ (.str (Zad c)) by walk_at "ev") _ ?_) (by rfl)
 refine Zac ?_ (by rfl)
 refine Zcp true (ZaT (by walk_at "ev") (by walk_at "ev") (Zcb (.inl hs) Ze1 (by intro n_ n_; walk_at "u"))) pb.1 hz.2 (fun la hla => ?_) (fun n_ => rfl) (fun n_ => rfl) (by intro n_ n_ n_; walk_at "u") (by walk_at "u") (by decide) (by rfl) (by decide) (by rfl) (by intro n_; rfl)
 have u1 := Zaa (o := .lst ((s.bs.map fun p => if true = true then Zad p.2 else p.1.str).map AV.str)) hla
 have hla1 : (σ₂.set la (.lst ((s.bs.map fun p => if true = true then Zad p.2 else p.1.str).map AV.str))) la = some (.lst (Zae (s.bs.map (·.2)))) := by refine rE Sig.set_self ?_; unfold Zae; (refine rE ZqV (rE ZqV ?_)); rfl
 generalize σ₂.set la (.lst ((s.bs.map fun p => if true = true then Zad p.2 else p.1.str).map AV.str)) = σ₃ at u1 hla1 ⊢
 refine Zac ?_ (by rfl)
 refine Zfu (Zfh hK) (by rfl) (by decide) ?_ (by rfl) (by rfl) (by decide)
 refine Zac ?_ (by rfl)
 have pf3 : ZbG σ₃ fa s.fs := (by (refine o31 pf.1 fun rs a b => ?_); exact ⟨rs, u1 _ _ a, b.mono u1⟩)
 refine Zcp true (ZaT (by walk_at "ev") (by walk_at "ev") (Zdc (.inl (u1 _ _ hs)) Ze1 (by intro n_ n_; walk_at "u"))) pf3 hz.1 (fun lc hlc => ?_) (fun n_ => rfl) (fun n_ => rfl) (by intro n_ n_ n_; walk_at "u") (by walk_at "u") (by decide) (by rfl) (by decide) (by rfl) (by intro n_; rfl)
 have u2 := Zaa (o := .lst ((s.fs.map fun p => if true = true then Zad p.2 else p.1.str).map AV.str)) hlc
 refine Zap (ZhS (.inl Sig.set_self) (by refine rE (Zqt _) ?_; exact hg3) fun lb ys hlb hp hso => ?_)
 have hys : ys = (Za3 (s.fs.map (·.2))).map Zad := ZbJ (by
  refine hp.trans ?_
  refine rE ZqV ?_; exact .refl _) hso
 subst hys
 have u3 := Zaa (o := .lst (((Za3 (s.fs.map (·.2))).map Zad).map AV.str)) hlb
 refine Zap (Zrb Ze1 fun r hr => ?_)
 have u4 := Zaa (o := .tup [.str (Zad c), .ref la, .ref lb]) hr
 have up : ∀ b o, σ₂ b = some o -> _ := fun b o e => u4 b o (u3 _ _ (u2 _ _ (u1 _ _ e)))
 refine Zap (Zbw (up _ _ hta) hlt ?_)
 refine Zah ?_
 have hr2 : σ₂ r = none := by
  induction q : σ₂ r with
  | none => rfl
  | some o => rw [u3 _ _ (u2 _ _ (u1 _ _ q))] at hr; exact nB hr
 have hlb2 : σ₂ lb = none := by
  induction q : σ₂ lb with
  | none => rfl
  | some o => rw [u2 _ _ (u1 _ _ q)] at hlb; exact nB hlb
 have er : ((((σ₃.set lc (.lst ((s.fs.map fun p => if true = true then Zad p.2 else p.1.str).map AV.str))).set lb (.lst (((Za3 (s.fs.map (·.2))).map Zad).map AV.str))).set r (.tup [.str (Zad c), .ref la, .ref lb]))) r = some (.tup [.str (Zad c), .ref la, .ref lb]) := Sig.set_self
 have ela := u4 _ _ (u3 _ _ (u2 _ _ hla1))
 have elb : ((((σ₃.set lc (.lst ((s.fs.map fun p => if true = true then Zad p.2 else p.1.str).map AV.str))).set lb (.lst (((Za3 (s.fs.map (·.2))).map Zad).map AV.str))).set r (.tup [.str (Zad c), .ref la, .ref lb]))) lb = some (.lst (Zae (Za3 (s.fs.map (·.2))))) := by
  refine u4 _ _ ?_
  refine rE Sig.set_self ?_; unfold Zae; refine rE ZqV ?_; rfl
 generalize (((σ₃.set lc (.lst ((s.fs.map fun p => if true = true then Zad p.2 else p.1.str).map AV.str))).set lb (.lst (((Za3 (s.fs.map (·.2))).map Zad).map AV.str))).set r (.tup [.str (Zad c), .ref la, .ref lb])) = σ₄ at up er ela elb ⊢
 have h4 : Zab k zb σ₄ w₂ := h₂.mono up
 have xm : ExtB (· = ta) k zb w₂ σ₂ zb w₂ σ₄ := ExtB.of (Ext.more up) fun a e q => by rw [e, hta] at q; exact nB q
 have xt : ExtB (· = ta) k zb w₂ σ₄ zb w₂ (σ₄.set ta (.lst (rt.map AV.ref ++ [.ref r]))) := ExtB.turn (up _ _ hta)
 have nne : ∀ {a : Addr}, σ₂ a = none -> a ≠ ta := fun e q => by rw [q, hta] at e; exact nB e
 have nown : ∀ {a : Addr}, σ₂ a = none -> ¬ (Own k zb (mk w₂) a \/ a = ta) := fun e q => by
  rcases q with q | q
  ·refine o21 (h₂.own q) fun l' hl' => ?_
   rw [e] at hl'; exact nA hl'
  ·exact nne e q
 refine q zb _ (h4.other (up _ _ hta) hno) (((ExtB.of x02 fun a e q => by rw [e, hta0] at q; exact nB q).trans xm).trans xt) ⟨⟨rt ++ [r], by (refine rE Sig.set_self (rE ZqB ?_)); rfl, ?_⟩, hno⟩
 have hR4 : ToldR (fun a => Own k zb (mk w₂) a \/ a = ta) (σ₄.set ta (.lst (rt.map AV.ref ++ [.ref r]))) rt s.told := hR.ext (fun a l e => by
   rw [Sig.set_ne (fun q => by exact clN q e hta rfl)]; exact up _ _ e) (fun a l e n => by
   rw [Sig.set_ne (fun q => n (.inr q))]; exact up _ _ e) fun a q => .inl q
 refine hR4.snoc ⟨la, lb, ?_, ?_, ?_, nown hla, nown hlb2⟩
 ·refine rE (Sig.set_ne (nne hr2)) ?_; exact er
 ·refine rE (Sig.set_ne (nne hla)) ?_; exact ela
 ·refine rE (Sig.set_ne (nne hlb2)) ?_; exact elb
end
section
variable {G : Glo} {Γ : Amb} {σ : Sig} {m : Loc} {k : Cfg} {z : Var} {w : PW} {o i : Expr}
theorem ZcP {c : Nat} (h : c < 128) : PyData.strOk (Zad c) = true := by simp [PyData.strOk, Zad]; omega
theorem Zfp {c : Nat} (h : c < 128) : SeqAt.shaped (.list [.tuple [.str "n", .str (Zad c)]]) = true := by
 have h1 : PyData.strOk ("n" : Str) = true := by kernel_rfl
 unfold SeqAt.shaped
 simp [PyData.canLay0, PyData.canLayAll0, PyData.depth, PyData.depthAll, h1, ZcP h]
theorem ZiF {n c : Nat} {t : Tag} {td : Addr} {tags : List (Nat × Tag)} (hK : Is G) (h : Zab k z σ w) (rm : Γ.Room 1) (hd : w.nd[n]? = some (.el t (some c))) (hc : c < 128) (htd : σ td = some (.dct (ZbF tags))) (hl : (tags.lookup c).map Tag.str = some t.str) : EvF G Γ σ m (.ref 624) [.ref k.t, .int n, .ref td] (.bool true) := by
 refine o31 (Zdg (G := G) h hd) fun a y1 es => ?_; (refine o31 y1 fun p ha hp => ?_; clear y1)
 obtain ⟨t', ht', hts⟩ : ∃ t', tags.lookup c = some t' /\ t'.str = t.str := by
  induction q : tags.lookup c with
  | none => rw [q] at hl; injection hl
  | some t' => rw [q] at hl; exact e31 t' rfl (ZqC hl)
 have hlk : (ZbF tags).lookup (Zad c) = some (.str t.str) := by (refine rE (Zc3 _ _) (rE ht' (rS hts ?_))); rfl
 walk_at "defV"
 refine ZaS (v := .ref a) (ZaT (by walk_at "ev") (by walk_at "ev") (es (by intro n_ n_; walk_at "u"))) ?_ (by rfl) (by rfl)
 refine Za8 (b := false) (Zbk (ZaD (a := false) (b := false) (Zai (by walk_at "evt") (by refine (?_ : decide (("element" : Str) ≠ "element") = false); decide)) fun n_ => ZaD (a := false) (b := false) (Zai (by walk_at "evt") (by refine (?_ : decide (("html" : Str) ≠ "html") = false); decide)) fun n_ => ZaD (a := false) (b := false) (Zai (Zbt (ZbC (id := "len") (Zhy hK) (by rfl) (by decide) (by walk_at "eva") (Zcd (l := [.ref p]) (.inl ha) Ze4) (by rfl) (by rfl) (by decide)) (by walk_at "ev") (ZdG rfl) (by walk_at "u")) (by refine rE Zbp ?_; exact decide_eq_false (by intro hh; exact hh rfl))) fun n_ => ZaQ)) (fun hb => absurd hb (by decide)) (fun n_ => Zah ?_)
 refine ZaS (v := .str (Zad c)) (ZaT (ZaT (by walk_at "ev") (by walk_at "ev") (Zhj (.inl ha) Ze4 (by intro n_ n_; walk_at "u"))) (by walk_at "ev") (Zcb (.inl hp) Zdw (by intro n_ n_; walk_at "u"))) ?_ (by rfl) (by rfl)
 refine ZaI (v := .bool true) (Zli (Zc6 (a := true) (b := true) ?_ fun n_ => Zc6 (a := true) (b := true) (Zcf (ZlS (by walk_at "ev") (by walk_at "ev") (Zkg htd) (by walk_at "u")) (by refine rE hlk ?_; rfl)) fun n_ => Zfd (Zcf (ZlS (ZaT (by walk_at "ev") (by walk_at "ev") (ZjQ htd hlk (by intro n_ n_; walk_at "u"))) (by walk_at "ev") (Zer rfl) (by walk_at "u")) (by refine rE Zhz ?_; refine (?_ : AV.bool (decide (t.str = t.str)) = _); exact rE (decide_eq_true rfl) rfl)))) (ZcD rfl)
 intro Q q
 refine ZbE (Zkh ((show Ev G _ σ _ _ (.ref a) by walk_at "ev") _ (Zf1 (Zac (ZaE (Zac (ZeS _ (Zac ((show Ev G _ σ _ _ (.str (Zad c)) by walk_at "ev") _ (Zap (Zrb Zdw fun p2 hp2 => Zap (Zrb Ze4 fun l2 hl2 A B ra rb => ?_)))) (by rfl))) (by rfl))) (by rfl)))) (by walk_at "u"))
 have u1 := Zaa (o := .tup [.str "n", .str (Zad c)]) hp2
 have u2 := Zaa (o := .lst [.ref p2]) hl2
 refine Zk3 (d := .list [.tuple [.str "n", .str (Zad c)]]) (e := .list [.tuple [.str "n", .str (Zad c)]]) (.lst (.inl (u2 _ _ (u1 _ _ ha))) (.cons (.tup (.inl (u2 _ _ (u1 _ _ hp))) (.cons (.str _) (.cons (.str _) .nil))) .nil)) (.lst (.inl Sig.set_self) (.cons (.tup (.inl (u2 _ _ Sig.set_self)) (.cons (.str _) (.cons (.str _) .nil))) .nil)) (Zfp hc) (Zfp hc) ra rb ?_
 have e : PyData.eqv (.list [.tuple [.str "n", .str (Zad c)]]) (.list [.tuple [.str "n", .str (Zad c)]]) = true := by simp [PyData.eqv, PyData.eqvAll]
 refine rE e ?_
 exact e52 σ _ (fun b o e => u2 _ _ (u1 _ _ e)) (fun n_ n_ e => e) q
structure RS (k : Cfg) (z : Var) (w : PW) (tags : List (Nat × Tag)) (td sa oa : Addr) (σ : Sig) (seen : List Nat) (out : List Ent) : Prop where
 world : Zab k z σ w
 seen : σ sa = some (.lst (seen.map nv))
 nseen : ¬ Own k z (mk w) sa
 ne : sa ≠ oa
 out : ∃ rs : List Addr, σ oa = some (.lst (rs.map AV.ref)) /\ ToldR (fun a => Own k z (mk w) a \/ a = sa \/ a = oa) σ rs out
 nout : ¬ Own k z (mk w) oa
 tags : σ td = some (.dct (ZbF tags))
noncomputable abbrev Off (k : Cfg) (z : Var) (w : PW) (sa oa : Addr) (a : Addr) : Prop := Own k z (mk w) a \/ a = sa \/ a = oa
variable {tags : List (Nat × Tag)} {td sa oa : Addr} {sn : List Nat} {ot : List Ent}
theorem RS.grow {σ' : Sig} (r : RS k z w tags td sa oa σ sn ot) (up : ∀ b o, σ b = some o -> σ' b = some o) : RS k z w tags td sa oa σ' sn ot :=
 ⟨r.world.mono up, up _ _ r.seen, r.nseen, r.ne, (by (refine o31 r.out fun rs e t => ?_); exact ⟨rs, up _ _ e, t.ext (fun a l e => up _ _ e) (fun a l e n_ => up _ _ e) fun a q => .inl q⟩), r.nout, up _ _ r.tags⟩
theorem RS.more {c : Nat} (r : RS k z w tags td sa oa σ sn ot) : RS k z w tags td sa oa (σ.set sa (.lst ((sn ++ [c]).map nv))) (sn ++ [c]) ot := by
 refine o31 r.out fun rs e t => ?_
 refine ⟨r.world.other r.seen r.nseen, Sig.set_self, r.nseen, r.ne, ⟨rs, by refine rE (Sig.set_ne (Ne.symm r.ne)) ?_; exact e, t.ext (fun a l e => ?_) (fun a l e n => ?_) fun a q => .inl q⟩, r.nout, ?_⟩
 ·rw [Sig.set_ne (fun q => by exact clN q e r.seen rfl)]; exact e
 ·rw [Sig.set_ne (fun q => n (.inr (.inl q)))]; exact e
 ·rw [Sig.set_ne (fun q => by have := r.tags; rw [q, r.seen] at this; cases this)]; exact r.tags
theorem RS.told {rs : List Addr} {x : Addr} {e : Ent} (r : RS k z w tags td sa oa σ sn ot) (eo : σ oa = some (.lst (rs.map AV.ref))) (t : ToldR (Off k z w sa oa) σ rs ot) (te : TE (Off k z w sa oa) σ x e) : RS k z w tags td sa oa (σ.set oa (.lst (rs.map AV.ref ++ [.ref x]))) sn (ot ++ [e]) := by
 have k1 : ∀ a l, σ a = some (.tup l) -> (σ.set oa (.lst (rs.map AV.ref ++ [.ref x]))) a = some (.tup l) := fun a l e => by rw [Sig.set_ne (fun q => by exact clN q e eo rfl)]; exact e
 have k2 : ∀ a l, σ a = some (.lst l) -> ¬ Off k z w sa oa a -> (σ.set oa (.lst (rs.map AV.ref ++ [.ref x]))) a = some (.lst l) := fun a l e n => by rw [Sig.set_ne (fun q => n (.inr (.inr q)))]; exact e
 refine ⟨r.world.other eo r.nout, by refine rE (Sig.set_ne r.ne) ?_; exact r.seen, r.nseen, r.ne, ⟨rs ++ [x], by (refine rE Sig.set_self (rE ZqB ?_)); rfl, (t.ext k1 k2 fun a q => .inl q).snoc ?_⟩, r.nout, ?_⟩
 ·refine o72 te fun la lb h1 h2 h3 n1 n2 => ?_; clear te
  exact e72 la lb (k1 _ _ h1) (k2 _ _ h2 n1) (k2 _ _ h3 n2) n1 n2
 ·rw [Sig.set_ne (fun q => by have := r.tags; rw [q, eo] at this; cases this)]; exact r.tags
noncomputable def Rkp (k : Cfg) (z : Var) (w : PW) (sa oa : Addr) (σ σ' : Sig) : Prop := ∀ a o, σ a = some o -> a ≠ sa -> a ≠ oa -> σ' a = some o
theorem Rkp.trans {σ₁ σ₂ : Sig} (x : Rkp k z w sa oa σ σ₁) (y : Rkp k z w sa oa σ₁ σ₂) : Rkp k z w sa oa σ σ₂ := fun a o e n1 n2 => y a o (x a o e n1 n2) n1 n2
theorem Rkp.of {σ' : Sig} (up : ∀ b o, σ b = some o -> σ' b = some o) : Rkp k z w sa oa σ σ' := fun a o e n_ n_ => up a o e
theorem Rkp.seen {o : AO} : Rkp k z w sa oa σ (σ.set sa o) := fun a o e n n_ => by refine rE (Sig.set_ne n) ?_; exact e
theorem Rkp.out {o : AO} : Rkp k z w sa oa σ (σ.set oa o) := fun a o e n_ n => by refine rE (Sig.set_ne n) ?_; exact e
noncomputable def LO (k : Cfg) (z : Var) (w : PW) (sa oa : Addr) (σ : Sig) (a : Addr) (l : List Nat) : Prop := σ a = some (.lst (Zae l)) /\ ¬ Off k z w sa oa a
theorem LO.keep {σ' : Sig} {a : Addr} {l : List Nat} (h : LO k z w sa oa σ a l) (x : Rkp k z w sa oa σ σ') : LO k z w sa oa σ' a l := ⟨x _ _ h.1 (fun q => h.2 (.inr (.inl q))) fun q => h.2 (.inr (.inr q)), h.2⟩
theorem LO.fresh {σ' : Sig} {a : Addr} {l : List Nat} (r : RS k z w tags td sa oa σ sn ot) (hn : σ a = none) (e : σ' a = some (.lst (Zae l))) : LO k z w sa oa σ' a l := ⟨e, fun q => by
 rcases q with q | q | q
 ·refine o21 (r.world.own q) fun l' hl' => ?_
  rw [hn] at hl'; exact nA hl'
 ·have := r.seen; rw [<- q, hn] at this; exact nA this
 ·refine o31 r.out fun rs e n_ => ?_; rw [<- q, hn] at e; exact nA e⟩
theorem Zo8 {e1 e2 e3 e4 : Expr} {apos p1 p2 p3 p4 pos : Pos} {kk : Nat} {rest : List Stmt} {ba fa : Addr} {bs fs : List Nat} {c : Nat} {Q : AF -> Sig -> Loc -> Prop} {pl : Sem Bool} (hK : Is G) (r : RS k z w tags td sa oa σ sn ot) (ho : Ev G Γ σ m e1 (.ref oa)) (h2 : Ev G Γ σ m e2 (.str (Zad c))) (h3 : Ev G Γ σ m e3 (.ref ba)) (h4 : Ev G Γ σ m e4 (.ref fa))
  (hb : LO k z w sa oa σ ba bs) (hf : LO k z w sa oa σ fa fs) (hz : ot.length <= LIM) (hz2 : fs.length < 64)
  (q : ∀ σ', RS k z w tags td sa oa σ' sn (ot ++ [(c, bs, Za3 fs)]) -> Rkp k z w sa oa σ σ' -> W G Γ FRl (execs rest Γ.env) Q σ' m)
  (he : eval (.Call (.Attribute e1 "append" apos) [.Tuple [e2, e3, .Call (.Name "sorted" p1) [e4] [] p2] kk p3] [] p4) Γ.env = (do
   let ov <- eval e1 Γ.env
   standAt apos.atName
   let (f, first) <- holding [ov] (getMethod ov "append" pl)
   callWith p4 f first (backTo p4 (starEach [.Tuple [e2, e3, .Call (.Name "sorted" p1) [e4] [] p2] kk p3] Γ.env)) []))
  (s1 : starEach [.Tuple [e2, e3, .Call (.Name "sorted" p1) [e4] [] p2] kk p3] Γ.env = (false, eval (.Tuple [e2, e3, .Call (.Name "sorted" p1) [e4] [] p2] kk p3) Γ.env) :: starEach [] Γ.env)
  (s2 : starEach [e2, e3, .Call (.Name "sorted" p1) [e4] [] p2] Γ.env = (false, eval e2 Γ.env) :: starEach [e3, .Call (.Name "sorted" p1) [e4] [] p2] Γ.env) (s3 : starEach [e3, .Call (.Name "sorted" p1) [e4] [] p2] Γ.env = (false, eval e3 Γ.env) :: starEach [.Call (.Name "sorted" p1) [e4] [] p2] Γ.env)
  (s4 : starEach [.Call (.Name "sorted" p1) [e4] [] p2] Γ.env = (false, eval (.Call (.Name "sorted" p1) [e4] [] p2) Γ.env) :: starEach [] Γ.env) (s5 : starEach [e4] Γ.env = (false, eval e4 Γ.env) :: starEach [] Γ.env)
  (hp1 : Plain p4 [.Tuple [e2, e3, .Call (.Name "sorted" p1) [e4] [] p2] kk p3] Γ.env = true) (hp2 : Plain p2 [e4] Γ.env = true) (hx : Γ.env.kindOf "sorted" = some .globalImplicit) (hi : interactive Γ.env = false)
  (hs : swapsWith (.Call (.Attribute e1 "append" apos) [.Tuple [e2, e3, .Call (.Name "sorted" p1) [e4] [] p2] kk p3] [] p4) none pos.line Γ.env = pure false) :
  W G Γ FRl (execs (.Expr (.Call (.Attribute e1 "append" apos) [.Tuple [e2, e3, .Call (.Name "sorted" p1) [e4] [] p2] kk p3] [] p4) pos :: rest) Γ.env) Q σ m := by
 refine o31 r.out fun rs eo t => ?_
 refine Zcm (ZcY PySem.F.slot_list_append PySem.F.type_list_append (ho _ ⟨oa, _, rfl, eo, ?_⟩) he hp1) hi hs
 refine Zac (ZaE ?_) s1
 refine Zac (h2 _ ?_) s2
 refine Zac (h3 _ ?_) s3
 refine Zac ?_ s4
 refine Zfu (Zfh hK) (by rfl) (by decide) ?_ hp2 hx (by decide)
 refine Zac (h4 _ (Zap ?_)) s5
 have hfl : σ fa = some (.lst ((fs.map Zad).map AV.str)) := by have := hf.1; unfold Zae at this; refine rE ZqV ?_; exact this
 refine ZhS (.inl hfl) (by refine rE (Zqt _) ?_; exact hz2) fun lb ys hlb hp hso => ?_
 have hys := ZbJ hp hso
 subst hys
 have u3 := Zaa (o := .lst (((Za3 fs).map Zad).map AV.str)) hlb
 refine Zap (Zrb Ze1 fun x hx' => ?_)
 have u4 := Zaa (o := .tup [.str (Zad c), .ref ba, .ref lb]) hx'
 have up : ∀ b o, σ b = some o -> _ := fun b o e => u4 b o (u3 _ _ e)
 refine Zap (Zbw (up _ _ eo) (by (refine rE (Zqt _) (rE t.len ?_)); exact ZaK hz) ?_)
 have er : ((σ.set lb (.lst (((Za3 fs).map Zad).map AV.str))).set x (.tup [.str (Zad c), .ref ba, .ref lb])) x = some (.tup [.str (Zad c), .ref ba, .ref lb]) := Sig.set_self
 have elb : ((σ.set lb (.lst (((Za3 fs).map Zad).map AV.str))).set x (.tup [.str (Zad c), .ref ba, .ref lb])) lb = some (.lst (Zae (Za3 fs))) := by
  refine u4 _ _ ?_
  refine rE Sig.set_self ?_; unfold Zae; refine rE ZqV ?_; rfl
 generalize (σ.set lb (.lst (((Za3 fs).map Zad).map AV.str))).set x (.tup [.str (Zad c), .ref ba, .ref lb]) = σ₄ at up er elb ⊢
 have lo := LO.fresh r hlb elb
 exact q _ ((r.grow up).told (up _ _ eo) (t.ext (fun a l e => up _ _ e) (fun a l e n_ => up _ _ e) fun a q => .inl q) ⟨ba, lb, er, up _ _ hb.1, elb, hb.2, lo.2⟩) ((Rkp.of up).trans Rkp.out)
end
section
variable {G : Glo} {Γ : Amb} {σ : Sig} {m : Loc} {k : Cfg} {z : Var} {w : PW} {o i : Expr}
variable {tags : List (Nat × Tag)} {td sa oa : Addr} {sn : List Nat} {ot : List Ent}
theorem ZnQ {x : Str} {px p1 p2 : Pos} {e test : Expr} {pos : Pos} {rest : List Stmt} {b : Bool} {la : Addr} {c : Nat} {Q : AF -> Sig -> Loc -> Prop} (ht : EvT G Γ σ m test b) (he : Ev G Γ σ m e (.ref la)) (hla : σ la = some (.lst (Zae [c])))
  (h : ∀ a σ', (∀ b o, σ b = some o -> σ' b = some o) -> σ' a = some (.lst (Zae (if b then [c] else []))) -> W G Γ FRl (execs rest Γ.env) Q σ' (put x (.ref a) m))
  (hs : swapsWith (.IfExp test e (.List [] p1) p2) (some (.Name x px)) pos.line Γ.env = pure false) (hx : Γ.env.kindOf x = some .local) :
  W G Γ FRl (execs (.Assign [.Name x px] (.IfExp test e (.List [] p1) p2) pos :: rest) Γ.env) Q σ m := by
 refine Zan (Zax (Zjr (ht _ ?_)) hs hx)
 induction b with
 | true =>
  refine rE (if_pos rfl) ?_
  exact he _ (h la σ (fun n_ n_ e => e) hla)
 | false =>
  rw [if_neg (by decide)]
  exact ZbS fun a ha => h a _ (Zaa ha) Sig.set_self
theorem ZnS {b : Bool} {l : List Nat} {c : Nat} : (if b = true then l ++ [c] else l) = l ++ (if b = true then [c] else []) := by induction b <;> simp
theorem ZjK {b : Bool} {l : List Nat} {c : Nat} (h : l.length < 64) : (Zae l).length + (Zae (if b = true then [c] else [])).length <= sizeLine := by
 unfold Zae
 refine rE (Zqt _) (rE (Zqt _) (rE sizeLine_eq ?_))
 induction b <;> simp <;> omega
theorem Zn6 {t : List Nat} (h : txt t = ("" : Str)) : t = [] := by
 rw [show ("" : Str) = txt [] from by kernel_rfl] at h
 injection h with h
 simpa using h
theorem ZfT (t : List Nat) : signs (txt t) = Zae t := by simp [signs, txt, Zae, Zad]
theorem Zmy (hK : Is G) : ∀ (f : Nat) {Γ : Amb} {σ : Sig} {m : Loc} {n : Nat} {bs fs sn sn' : List Nat} {ot ot' : List Ent} {ba fa : Addr}, Γ.Room (f + 1) -> RS k z w tags td sa oa σ sn ot -> LO k z w sa oa σ ba bs -> LO k z w sa oa σ fa fs -> Zhr w tags f n bs fs sn ot = some (true, sn', ot') ->
  ∀ Q : AV -> Sig -> Loc -> Prop, (∀ σ', RS k z w tags td sa oa σ' sn' ot' -> Rkp k z w sa oa σ σ' -> Q (.bool true) σ' m) -> FC G Γ (.ref 631) [.ref k.t, .int n, .ref ba, .ref fa, .ref td, .ref sa, .ref oa] Q σ m := by
 intro f
 induction f with
 | zero => intro n_ n_ n_ n_ n_ n_ n_ n_ n_ n_ n_ n_ n_ n_ n_ n_ e; injection e
 | succ f ih =>
 intro Γ σ m n bs fs sn sn' ot ot' ba fa rm r hb hf e Q q
 refine bE e fun l hl e => ?_
 have h := r.world
 walk_at "defF"
 walk_at "asg"
 refine Zgu (fun σ' m' => RS k z w tags td sa oa σ' sn' ot' /\ Rkp k z w sa oa σ σ') ((show Ev G _ σ _ _ (.ref (adr k z (.kid n))) by walk_at "ev") _ ?_) (fun σ' m' hh => ?_) (by rfl) (by intro n_; rfl)
 rotate_left
 ·refine ZaI (v := .bool true) (by walk_at "ev") ?_
  exact q σ' hh.1 hh.2
 refine ⟨l.length, fun i => .int (l.getD i 0 : Nat), fun σ' => Sees G σ' (adr k z (.kid n)) (.lst (l.map nv)), fun i σ' m' => ∃ sni oti ah, ∃ sA : Str, RS k z w tags td sa oa σ' sni oti /\ Rkp k z w sa oa σ σ' /\ ZfR w tags n bs fs (Zhr w tags f) (l.drop i) ah sni oti = some (true, sn', ot') /\
   decide (sA = ("text" : Str)) = ah /\ HasL [("tree", .ref k.t), ("node", .int n), ("blocks", .ref ba), ("formats", .ref fa), ("tags", .ref td), ("seen", .ref sa), ("out", .ref oa), ("ahead", .str sA)] m', fun u ru => ?_, ?_, ?_, ?_, ?_⟩
 ·subst ru
  exact ZfZ (.inl (ZlR h hl))
 ·exact e94 sn ot false ("") r (fun n_ n_ e n_ n_ => e) e (by decide) ⟨rfl, rfl, rfl, rfl, rfl, rfl, rfl, rfl, trivial⟩
 ·rintro i σ' m' ⟨sni, oti, ah, sA, r', _⟩
  exact .inl (ZlR r'.world hl)
 ·rintro i σ' m' hi ⟨sni, oti, ah, sA, r', kp, e', hA, hm⟩
  rw [Zf0 hi] at e'
  refine (?_ : W G _ FRl _ _ σ' (put "child" (.int (l.getD i 0 : Nat)) m'))
  generalize l.getD i 0 = c at e' ⊢
  refine Zbb (l := [("child", .int c), ("tree", .ref k.t), ("node", .int n), ("blocks", .ref ba), ("formats", .ref fa), ("tags", .ref td), ("seen", .ref sa), ("out", .ref oa), ("ahead", .str sA)]) ⟨rfl, hm.1, hm.2.1, hm.2.2.1, hm.2.2.2.1, hm.2.2.2.2.1, hm.2.2.2.2.2.1, hm.2.2.2.2.2.2.1, hm.2.2.2.2.2.2.2.1, trivial⟩ ?_
  refine bE e' fun p hp e' => ?_
  split at e'
  ·cases e'
  rename_i hpc
  split at e'
  ·exact nA e'
  rename_i hg
  simp only [not_or, ZsX] at hpc hg
  refine o20 hpc fun hpn hcs => ?_; clear hpc
  refine o30 hg fun hg1 hg2 hg3 => ?_; clear hg
  refine bE e' fun d hd e' => ?_
  have h' := r'.world
  refine Za8 (b := false) (Zbk (ZaD (a := false) (b := false) (Zai (by walk_at "evt") (by refine rE Zbp ?_; exact decide_eq_false (fun q => hpn q))) fun n_ => ZaD (a := false) (b := false) (Zai (Zbt (by walk_at "ev") (by walk_at "ev") (Zew (.inl r'.seen)) (by walk_at "u")) (decide_eq_false hcs)) fun n_ => ZaQ)) (fun hb => absurd hb (by decide)) (fun n_ => Zah ?_)
  refine Zca (by walk_at "ev") r'.seen (by walk_at "ev") (by refine rE (Zqt _) ?_; exact ZaK (Zrs hg3)) ?_ (by rfl) (by rfl) (by rfl) (by rfl) (by rfl)
  rw [show sni.map nv ++ [AV.int c] = (sni ++ [c]).map nv from by refine rE ZqB ?_; rfl]
  have r1 := r'.more (c := c)
  have kp1 : Rkp k z w sa oa σ (σ'.set sa (.lst ((sni ++ [c]).map nv))) := kp.trans Rkp.seen
  generalize σ'.set sa (.lst ((sni ++ [c]).map nv)) = σ₁ at r1 kp1 ⊢
  have h1 := r1.world
  walk_at "asg"
  induction d with
  | doc => exact nA e'
  | tx =>
   refine bE e' fun t ht e' => ?_
   refine bE e' fun lc hlc e' => ?_
   split at e'
   ·cases e'
   rename_i hx
   split at e'
   ·exact nA e'
   rename_i hlim
   simp only [Zr8, not_or, Zsw, Bool.not_eq_true', Bool.not_eq_false] at hx
   refine o20 hx fun y0 hx3 => ?_; clear hx; (refine o20 y0 fun hx1 hx2 => ?_; clear y0)
   have hlc0 : lc = [] := by
    induction lc using ZcU with
    | nil => rfl
    | cons a b => simp at hx3
   have htne : t ≠ [] := by intro q; rw [q] at hx2; injection hx2
   subst hlc0
   refine Za8 (b := true) (Zai (by walk_at "evt") (by refine (?_ : decide (("text" : Str) = "text") = true); decide)) (fun n_ => ?_) (fun hb => absurd hb (by decide))
   refine Za8 (b := false) (Zbk (ZaD (a := false) (b := false) (Zai (by walk_at "evt") (by (refine rE Zhz (rE hA ?_)); exact hx1)) fun n_ => ZaD (a := false) (b := false) (Zai (by walk_at "evt") (by refine rE Zhz ?_; exact decide_eq_false fun q => htne (Zn6 q))) fun n_ => ZaD (a := false) (b := false) (Ziy (l := []) (ε := Amb.env _) (by exact (show Ev G _ σ₁ _ _ (.ref (adr k z (.kid c))) by walk_at "ev")) (.inl (ZlR h1 hlc)) (by walk_at "u")) fun n_ => ZaQ)) (fun hb => absurd hb (by decide)) (fun n_ => Zah ?_)
   refine Zgu (fun σ₂ md => RS k z w tags td sa oa σ₂ (sni ++ [c]) (oti ++ t.map fun s => (s, bs, Za3 fs)) /\ Rkp k z w sa oa σ σ₂ /\ HasL [("tree", .ref k.t), ("node", .int n), ("blocks", .ref ba), ("formats", .ref fa), ("tags", .ref td), ("seen", .ref sa), ("out", .ref oa), ("kind", .str "text")] md) ((show Ev G _ σ₁ _ _ (.str (txt t)) by walk_at "ev") _ ?_) (fun σ₂ md hh => ?_) (by rfl) (by intro n_; rfl)
   ·refine e94 ((signs (txt t)).length) (fun i => (signs (txt t)).getD i .none) (fun n_ => True) (fun j σ₂ md => RS k z w tags td sa oa σ₂ (sni ++ [c]) (oti ++ (t.take j).map fun s => (s, bs, Za3 fs)) /\ Rkp k z w sa oa σ σ₂ /\ HasL [("tree", .ref k.t), ("node", .int n), ("blocks", .ref ba), ("formats", .ref fa), ("tags", .ref td), ("seen", .ref sa), ("out", .ref oa), ("kind", .str "text")] md) (fun u ru => ?_) ?_ (fun n_ n_ n_ n_ => trivial) ?_ ?_
    ·refine o21 ru fun tk y1 => ?_; clear ru; subst y1
     exact Znk
    ·exact ⟨by simpa using r1, kp1, rfl, rfl, rfl, rfl, rfl, rfl, rfl, rfl, trivial⟩
    ·rintro j σ₂ md hj ⟨r2, kp2, hm2⟩
     refine (?_ : W G _ FRl _ _ σ₂ (put "sign" ((signs (txt t)).getD j .none) md))
     rw [ZfT] at hj
     have hjt : j < t.length := by unfold Zae at hj; rw [Zqt] at hj; exact hj
     have hs : (signs (txt t)).getD j .none = .str (Zad t[j]) := by
      refine rE (ZfT _) ?_
      unfold Zae
      refine rE ZqE (rE Zq0 (rE (ZqA hjt) ?_)); rfl
     refine rE hs ?_
     refine Zbb (l := [("sign", .str (Zad t[j])), ("tree", .ref k.t), ("node", .int n), ("blocks", .ref ba), ("formats", .ref fa), ("tags", .ref td), ("seen", .ref sa), ("out", .ref oa), ("kind", .str "text")]) ⟨rfl, hm2.1, hm2.2.1, hm2.2.2.1, hm2.2.2.2.1, hm2.2.2.2.2.1, hm2.2.2.2.2.2.1, hm2.2.2.2.2.2.2.1, hm2.2.2.2.2.2.2.2.1, trivial⟩ ?_
     refine Zo8 hK r2 (by walk_at "ev") (by walk_at "ev") (by walk_at "ev") (by walk_at "ev") (hb.keep kp2) (hf.keep kp2) (by (refine rE Zqu (rE (Zqt _) (rE ZrY ?_))); omega) hg1 (fun σ₃ r3 kp3 => Zah ⟨?_, kp2.trans kp3, rfl, rfl, rfl, rfl, rfl, rfl, rfl, rfl, trivial⟩) (by rfl) (by rfl) (by rfl) (by rfl) (by rfl) (by rfl) (by rfl) (by rfl) (by rfl) (by rfl) (by rfl)
     rw [ZqN] at r3
     refine rE ZsN (rE ZqB (rE (ZqA hjt) ?_))
     exact r3
    ·rintro σ₂ md ⟨r2, kp2, hm2⟩
     refine ⟨?_, kp2, hm2⟩
     rw [ZfT] at r2
     unfold Zae at r2
     rw [Zqt, ZsS] at r2
     exact r2
   ·refine o30 hh fun r2 kp2 hm2 => ?_; clear hh
    refine Zbb hm2 ?_
    refine Zah ?_
    walk_at "asg"
    exact Zah ⟨_, _, true, "text", r2, kp2, e', by decide, rfl, rfl, rfl, rfl, rfl, rfl, rfl, rfl, trivial⟩
  | el tg lt =>
   refine bE e' fun ok hok e' => ?_
   induction lt with
   | none => split at e' <;> cases e'
   | some x =>
   unfold Zm8 at hok
   rw [hd] at hok
   dsimp only [Zqy] at hok
   split at hok
   case isFalse => exact nA hok
   rename_i hx128
   have hok := ZqC hok
   induction hokb : ok with
   | false => rw [hokb] at e'; cases e'
   | true =>
   rw [hokb, if_neg (by decide)] at e'
   rw [hokb] at hok
   have hlk := of_decide_eq_true hok
   refine bE e' fun y0 hrd e' => ?_; obtain ⟨b', sn2, ot2⟩ := y0
   dsimp only at e'
   induction b' with
   | false => cases e'
   | true =>
   rw [if_pos rfl] at e'
   refine Za8 (b := false) (Zai (by walk_at "evt") (by refine (?_ : decide (("element" : Str) = "text") = false); decide)) (fun hb => absurd hb (by decide)) (fun n_ => ?_)
   refine Za8 (b := false) (Zgg (b := true) (Zeu (v := .bool true) (Zcw (ZdM hK) (ZdP hK) (by walk_at "eva") (ZiF hK h1 (Amb.Room.le (by assumption) (by omega)) hd hx128 r1.tags hlk) (by rfl) (by rfl) (by decide)) Zdf (by rfl))) (fun hb => absurd hb (by decide)) (fun n_ => Zah ?_)
   refine o31 (Zdg (G := G) h1 hd) fun at_ y1 es => ?_; (refine o31 y1 fun pr hat hpr => ?_; clear y1)
   refine Zan ?_
   refine Zax ?_ (by rfl) (by rfl)
   refine Zf1 ?_
   refine Zac ((show Ev G _ σ₁ _ _ (.str (Zad x)) from ZaT (ZaT (ZaT (by walk_at "ev") (by walk_at "ev") (es (by intro n_ n_; walk_at "u"))) (by walk_at "ev") (Zhj (.inl hat) Ze4 (by intro n_ n_; walk_at "u"))) (by walk_at "ev") (Zcb (.inl hpr) Zdw (by intro n_ n_; walk_at "u"))) _ (Zap (Zrb Ze4 fun la hla => ?_))) (by rfl)
   have u1 := Zaa (o := .lst [.str (Zad x)]) hla
   have ela : (σ₁.set la (.lst [.str (Zad x)])) la = some (.lst (Zae [x])) := Sig.set_self
   generalize σ₁.set la (.lst [.str (Zad x)]) = σ₂ at u1 ela ⊢
   have h2 : Zab k z σ₂ w := h1.mono u1
   refine ZnQ (b := tg.isB) (c := x) (la := la) (Zai (by walk_at "evt") (by induction tg <;> kernel_rfl)) (by walk_at "ev") ela (fun mb σ₃ u2 emb => ?_) (by rfl) (by rfl)
   have h3 : Zab k z σ₃ w := h2.mono u2
   refine ZnQ (b := tg.isF) (c := x) (la := la) (Zai (by walk_at "evt") (by induction tg <;> kernel_rfl)) (by walk_at "ev") (u2 _ _ ela) (fun mf σ₄ u3 emf => ?_) (by rfl) (by rfl)
   have up4 : ∀ b o, σ₁ b = some o -> σ₄ b = some o := fun b o e => u3 _ _ (u2 _ _ (u1 _ _ e))
   have r4 := r1.grow up4
   have kp4 : Rkp k z w sa oa σ σ₄ := kp1.trans (Rkp.of up4)
   have hb4 := hb.keep kp4
   have hf4 := hf.keep kp4
   refine Zan (Zp6 (Zjy (Zjv ?_ (by rfl))))
   refine Zay (Zeo hK) (Zem hK) ?_ (by rfl) (by rfl) (by decide)
   refine Zac ((show Ev G _ σ₄ _ _ (.ref k.t) by exact ZaN (by rfl) (by rfl) (by decide)) _ ?_) (by rfl)
   refine Zac ((show Ev G _ σ₄ _ _ (.int c) by exact ZaN (by rfl) (by rfl) (by decide)) _ ?_) (by rfl)
   refine Zac ?_ (by rfl)
   refine Zns ((show Ev G _ σ₄ _ _ (.ref ba) by exact ZaN (by rfl) (by rfl) (by decide)) _ ((show Ev G _ σ₄ _ _ (.ref mb) by exact ZaN (by rfl) (by rfl) (by decide)) _ fun A B ra rb => ?_))
   refine Zlg (.inl hb4.1) (.inl (u3 _ _ emb)) (ZjK hg2) ra rb fun nb hnb => ?_
   have u5 := Zaa (o := .lst (Zae bs ++ Zae (if tg.isB = true then [x] else []))) hnb
   have enb : (σ₄.set nb (.lst (Zae bs ++ Zae (if tg.isB = true then [x] else [])))) nb = some (.lst (Zae (if tg.isB = true then bs ++ [x] else bs))) := by rw [Sig.set_self, ZnS]; unfold Zae; rw [ZqB]
   generalize σ₄.set nb (.lst (Zae bs ++ Zae (if tg.isB = true then [x] else []))) = σ₅ at u5 enb ⊢
   refine Zac ?_ (by rfl)
   refine Zns ((show Ev G _ σ₅ _ _ (.ref fa) by exact ZaN (by rfl) (by rfl) (by decide)) _ ((show Ev G _ σ₅ _ _ (.ref mf) by exact ZaN (by rfl) (by rfl) (by decide)) _ fun A B ra rb => ?_))
   refine Zlg (.inl (u5 _ _ hf4.1)) (.inl (u5 _ _ emf)) (ZjK hg1) ra rb fun nf hnf => ?_
   have u6 := Zaa (o := .lst (Zae fs ++ Zae (if tg.isF = true then [x] else []))) hnf
   have enf : (σ₅.set nf (.lst (Zae fs ++ Zae (if tg.isF = true then [x] else [])))) nf = some (.lst (Zae (if tg.isF = true then fs ++ [x] else fs))) := by rw [Sig.set_self, ZnS]; unfold Zae; rw [ZqB]
   generalize σ₅.set nf (.lst (Zae fs ++ Zae (if tg.isF = true then [x] else []))) = σ6 at u6 enf ⊢
   have lob : LO k z w sa oa σ6 nb (if tg.isB = true then bs ++ [x] else bs) := LO.fresh r4 hnb (u6 _ _ enb)
   have lof : LO k z w sa oa σ6 nf (if tg.isF = true then fs ++ [x] else fs) := LO.fresh (r4.grow u5) hnf enf
   have r6 := (r4.grow u5).grow u6
   have kp6 : Rkp k z w sa oa σ σ6 := (kp4.trans (Rkp.of u5)).trans (Rkp.of u6)
   refine Zac ((show Ev G _ σ6 _ _ (.ref td) by exact ZaN (by rfl) (by rfl) (by decide)) _ ?_) (by rfl)
   refine Zac ((show Ev G _ σ6 _ _ (.ref sa) by exact ZaN (by rfl) (by rfl) (by decide)) _ ?_) (by rfl)
   refine Zac ((show Ev G _ σ6 _ _ (.ref oa) by exact ZaN (by rfl) (by rfl) (by decide)) _ (Zap ?_)) (by rfl)
   refine ih (by assumption) r6 lob lof hrd _ fun σ₇ r7 kp7 => ?_
   intro u ru
   refine ZbO (b := true) ru ?_
   refine (?_ : W G _ FRl (execs [] _) _ _ _)
   refine Zah ?_
   refine (?_ : W G _ FRl (execs _ _) _ _ _)
   refine Zah ?_
   refine (?_ : W G _ FRl (execs _ _) _ _ _)
   walk_at "asg"
   exact Zah ⟨_, _, false, "element", r7, kp6.trans kp7, e', by decide, rfl, rfl, rfl, rfl, rfl, rfl, rfl, rfl, trivial⟩
 ·rintro σ' m' ⟨sni, oti, ah, sA, r', kp, e', hA, hm⟩
  rw [ZsR] at e'
  cases e'
  exact ⟨r', kp⟩
end
section
variable {G : Glo} {Γ : Amb} {σ : Sig} {m : Loc} {k : Cfg} {z : Var} {w : PW} {o i : Expr}
theorem Zge {ε : Env} {o : Expr} {name : Str} {pos : Pos} {x : Addr} {v : AV} (ho : EvE G Γ σ m ε o (.ref x)) (f : ZbB G σ x name v)
  (he : eval (.Attribute o name pos) ε = (do
   let v <- eval o ε
   standAt pos.atName
   let r <- holding [v] (getAttr v name true)
   letTemporaryGo o v r
   pure r)) : EvE G Γ σ m ε (.Attribute o name pos) v := (by (refine o41 f fun C a b c => ?_; clear f); exact Zm2 ho a b c he)
theorem Zkb {α : Type} (d : α) (l : List α) : (Zrt l.length).map (fun i => l.getD i d) = l := by
 apply ZrD
 intro i
 refine rE Zq0 ?_
 by_cases hi : i < l.length
 ·refine rE (ZrJ hi) (rE (ZqA hi) ?_)
  refine (?_ : some (l.getD i d) = _)
  refine rE ZqE (rE (ZqA hi) ?_); rfl
 ·rw [Zq5 (by simpa using hi), Zq5 (by omega)]; rfl
theorem ZfG {α : Type} (d : α) (l : List α) (T : α -> Bool) (V : α -> AV) : outs (fun i => T (l.getD i d)) (fun i => V (l.getD i d)) l.length = (l.filter T).map V := by
 refine rE (Zha _) ?_
 conv => rhs; rw [<- Zkb d l]
 refine rE ZsB (rE ZqV ?_); rfl
theorem Zfg {l : List Nat} {i : Nat} (h : i < l.length) : l.getD i 0 ∈ l := by
 refine rE ZqE (rE (ZqA h) ?_); exact Zsv h
theorem Zht {l : List Nat} {i : Nat} (h : i < l.length) : (l.map nv).getD i .none = .int (l.getD i 0 : Nat) := by
 refine rE ZqE (rE ZqE (rE Zq0 (rE (ZqA h) ?_))); rfl
noncomputable def ltT (w : PW) (xs : List Str) (n : Nat) : Bool := match w.nd[n]? with | some d => decide (d.name ∈ xs) | none => false
noncomputable def ltV (w : PW) (n : Nat) : AV := match w.nd[n]? with | some (.el _ (some c)) => .str (Zad c) | _ => .none
theorem ZgB {xs : List Str} : ∀ {ns ls : List Nat}, ZaB w xs ns = some ls -> ((ns.filter (ltT w xs)).map (ltV w) = Zae ls) /\ ∀ n ∈ ns, ∃ d, w.nd[n]? = some d /\ (d.name ∈ xs -> ∃ t c, d = .el t (some c) /\ c < 128) := by
 refine @Zbv _ _ ?_ ?_
 ·intro ls h
  (replace h := sO h; subst h); exact ⟨rfl, noM⟩
 ·intro n r ih ls h
  refine bE h fun d hd h => ?_
  refine bE h fun l' hl h => ?_
  refine o20 (ih hl) fun i1 i2 => ?_
  by_cases hx : d.name ∈ xs
  ·rw [if_pos hx] at h
   split at h
   ·rename_i _ t c _
    split at h
    ·rename_i hc
     (replace h := sO h; subst h)
     refine ⟨?_, fun n' hn => ?_⟩
     ·refine rE Zq7 ?_; rewrite [if_pos (by unfold ltT; refine rE hd ?_; exact decide_eq_true hx)]; refine rE ZqP (rE i1 ?_)
      refine (?_ : ltV w n :: _ = AV.str (Zad c) :: Zae l')
      unfold ltV; exact rE hd rfl
     ·rcases ZqD.mp hn with rfl | hn
      ·exact e31 _ hd (fun n_ => ⟨t, c, rfl, hc⟩)
      ·exact i2 _ hn
    ·exact nA h
   ·exact nA h
  ·rw [if_neg hx] at h
   (replace h := sO h; subst h)
   refine ⟨?_, fun n' hn => ?_⟩
   ·refine rE Zq7 ?_; rw [if_neg (by unfold ltT; refine rE hd ?_; simpa using hx)]; exact i1
   ·rcases ZqD.mp hn with rfl | hn
    ·exact e31 _ hd (fun q => absurd q hx)
    ·exact i2 _ hn
theorem ZcA {a xa : Addr} {ns ls : List Nat} {xs : List Str} (hK : Is G) (h : Zab k z σ w) (rm : Γ.Room 1) (ha : σ a = some (.lst (ns.map nv))) (hz : ns.length <= LIM) (hx : σ xa = some (.tup (xs.map AV.str))) (hl : ZaB w xs ns = some ls)
  {Q : AV -> Sig -> Loc -> Prop} (q : ∀ r σ', (∀ b o, σ b = some o -> σ' b = some o) -> σ r = none -> σ' r = some (.lst (Zae ls)) -> Q (.ref r) σ' m) : FC G Γ (.ref 636) [.ref k.t, .ref a, .ref xa] Q σ m := by
 refine o20 (ZgB hl) fun l1 l2 => ?_
 refine ZhK (names := ["tree", "nodes", "names"]) (Is.lk hK (by rfl)) (Is.cd hK (by rfl)) (Amb.Room.le rm (ZqQ _)) (dv := []) (ds := []) .nil (by walk_at "binds") (by decide) (fun n x hx => ?_) (by decide) (ZbK (by decide)) (by rfl) (by rfl) (by rfl) ?_
 ·simp only [ZqD, Zq1, or_false] at hx
  rcases hx with rfl | rfl | rfl
  ·exact .inr ⟨rfl, rfl⟩
  ·exact .inl rfl
  ·exact .inr ⟨rfl, rfl⟩
 intro ro rm' hnone
 have n1 : σ (ro.L + 1) = none := hnone _ (ZqS _)
 have n2 : σ (ro.L + 1 + 1) = none := hnone _ (Zrr (ZqS _))
 refine (?_ : W G _ FRl _ _ ((σ.set (ro.L + 1) (.cel (some (.ref k.t)))).set (ro.L + 1 + 1) (.cel (some (.ref xa)))) [("nodes", .ref a)])
 have hc1 : ((σ.set (ro.L + 1) (.cel (some (.ref k.t)))).set (ro.L + 1 + 1) (.cel (some (.ref xa)))) (ro.L + 1) = some (.cel (some (.ref k.t))) := by refine rE (Sig.set_ne (Zrd (ZqS _))) ?_; exact Sig.set_self
 have hc2 : ((σ.set (ro.L + 1) (.cel (some (.ref k.t)))).set (ro.L + 1 + 1) (.cel (some (.ref xa)))) (ro.L + 1 + 1) = some (.cel (some (.ref xa))) := Sig.set_self
 have up : ∀ b o, σ b = some o -> ((σ.set (ro.L + 1) (.cel (some (.ref k.t)))).set (ro.L + 1 + 1) (.cel (some (.ref xa)))) b = some o := ZjJ (Zaa n1) n2
 generalize (σ.set (ro.L + 1) (.cel (some (.ref k.t)))).set (ro.L + 1 + 1) (.cel (some (.ref xa))) = σ₁ at hc1 hc2 up ⊢
 have haa := up _ _ ha
 have hxb := up _ _ hx
 have h₁ : Zab k z σ₁ w := h.mono up
 refine Zan (ZaZ ?_)
 refine Ziq ((show Ev G _ σ₁ _ _ (.ref a) by exact ZaN (by rfl) (by rfl) (by decide)) _ ?_) (by walk_at "u") (by decide) (by rfl) (by decide) (by rfl) (by intro n_; rfl)
 refine e95 ((ns.map nv).length) (fun i => (ns.map nv).getD i .none) (fun σ' => Sees G σ' a (.lst (ns.map nv))) (fun i => ltT w xs (ns.getD i 0)) (fun i => ltV w (ns.getD i 0)) (fun u ru => ?_) (by refine rE (Zqt _) ?_; exact ZaK hz) (fun σ' up => .inl (up _ _ haa)) ⟨⟨fun i C σ' hi up' hC => .inr ⟨_, rfl, ?_⟩, fun i C σ' hi ht up' hC => ?_⟩, fun D hD => ?_⟩
 ·subst ru
  exact Zdh (.inl haa)
 ·have hi : i < ns.length := by rw [Zqt] at hi; exact hi
  rw [Zht hi] at hC
  refine o31 (l2 (ns.getD i 0) (Zfg hi)) fun d hd hx => ?_
  have h' : Zab k z σ' w := h₁.mono up'
  rw [show ltT w xs (ns.getD i 0) = decide (d.name ∈ xs) from by unfold ltT; exact rE hd rfl]
  generalize ns.getD i 0 = c at hC hd ⊢
  refine ZiP (x := .str d.name) (y := .ref xa) (ZbR (x := .ref k.names) (y := .int c) (Zge (ZbV (c := ro.L + 1) (by rfl) (up' _ _ hc1) (by rfl) (by rfl) (by decide)) (Zei hK h') (by walk_at "u")) (ZbT hC (by rfl) (by rfl) (by rfl) (by rfl) (by decide)) (Zi7 h' hd (by intro n_ n_; walk_at "u"))) (ZbV (c := ro.L + 1 + 1) (by rfl) (up' _ _ hc2) (by rfl) (by rfl) (by decide)) (ZfD (.inl (up' _ _ hxb))) (by walk_at "u")
 ·have hi : i < ns.length := by rw [Zqt] at hi; exact hi
  rw [Zht hi] at hC
  refine o31 (l2 (ns.getD i 0) (Zfg hi)) fun d hd hx => ?_
  have h' : Zab k z σ' w := h₁.mono up'
  rw [show ltT w xs (ns.getD i 0) = decide (d.name ∈ xs) from by unfold ltT; exact rE hd rfl] at ht
  refine o42 (hx (of_decide_eq_true ht)) fun t cc y2 n_ => ?_; subst y2
  rw [show ltV w (ns.getD i 0) = .str (Zad cc) from by unfold ltV; exact rE hd rfl]
  generalize ns.getD i 0 = c at hC hd ⊢
  refine o31 (Zdg (G := G) h' hd) fun at_ y1 es => ?_; (refine o31 y1 fun pr hat hpr => ?_; clear y1)
  exact ZbR (ZbR (ZbR (x := .ref k.attrs) (y := .int c) (Zge (ZbV (c := ro.L + 1) (by rfl) (up' _ _ hc1) (by rfl) (by rfl) (by decide)) (ZgP hK h') (by walk_at "u")) (ZbT hC (by rfl) (by rfl) (by rfl) (by rfl) (by decide)) (es (by intro n_ n_; walk_at "u"))) Zej (Zhj (.inl hat) Ze4 (by intro n_ n_; walk_at "u"))) Zej (Zcb (.inl hpr) Zdw (by intro n_ n_; walk_at "u"))
 ·refine rE (Zqt _) (rE (ZfG 0 ns (ltT w xs) (ltV w)) (rE l1 ?_))
  refine q D _ (fun b o e => Zaa hD _ _ (up _ _ e)) ?_ Sig.set_self
  induction z : σ D with
  | none => rfl
  | some o => rw [up _ _ z] at hD; exact nB hD
end
section
variable {G : Glo} {Γ : Amb} {σ : Sig} {m : Loc} {k : Cfg} {z : Var} {w : PW} {o i : Expr}
theorem Zhw {a : Addr} {xs : List Str} {x : Str} (e : Sees G σ a (.lst (xs.map AV.str))) : EvC G Γ σ m .NotIn (.str x) (.ref a) (!decide (x ∈ xs)) := fun A B Q ra rb q => Zjm e rb ra q
theorem ZgC : ∀ (l acc : List Nat) (x : Nat), Zbd acc (l ++ [x]) = if x ∈ Zbd acc l then Zbd acc l else Zbd acc l ++ [x] := by
 refine @Zbg _ _ ?_ ?_
 ·intro acc x
  refine rE (Zq2 _) ?_; rw [Zbd, Zbd, Zbd]
 ·intro y r ih acc x
  (refine rE ZqT ?_; rewrite [Zbd, Zbd]; exact rE (ih _ _) rfl)
theorem Zkp {c : Nat} {l : List Nat} : Zad c ∈ l.map Zad ↔ c ∈ l := by
 rw [ZqO]
 exact ⟨fun hp => (by (refine o31 hp fun x hx e => ?_; clear hp); exact ZgZ e ▸ hx), fun h => ⟨c, h, rfl⟩⟩
theorem ZaW (l : List Nat) : Zae l = (l.map Zad).map AV.str := by unfold Zae; refine rE ZqV ?_; rfl
theorem Zcz {l : List Nat} {i : Nat} (h : i < l.length) : (Zae l).getD i .none = .str (Zad (l.getD i 0)) := by
 unfold Zae
 refine rE ZqE (rE ZqE (rE Zq0 (rE (ZqA h) ?_))); rfl
theorem ZaV (l : List Nat) : (Zae l).length = l.length := by unfold Zae; exact rE (Zqt _) rfl
theorem ZlL {l : List Nat} {i : Nat} (h : i < l.length) : l.take (i + 1) = l.take i ++ [l.getD i 0] := by
 refine rE ZsN (rE ZqE (rE (ZqA h) ?_)); rfl
theorem ZgS (tags : List (Nat × Tag)) : (ZbF tags).map (·.1) = (tags.map (·.1)).map Zad := by
 unfold ZbF; (refine rE ZqV (rE ZqV ?_)); rfl
noncomputable def plT (tags : List (Nat × Tag)) (c : Nat) : Bool := match tags.lookup c with
 | some t => decide (t.str ∈ plainN)
 | none => false
theorem ZgX {c : Nat} : ∀ {tags : List (Nat × Tag)}, c ∈ tags.map (·.1) -> ∃ t, tags.lookup c = some t
 | (d, t) :: r, h => by
  refine rE ZqW ?_
  induction q : c == d with
  | true => exact ⟨t, rfl⟩
  | false =>
   rcases ZqD.mp h with h | h
   ·rw [h] at q; simp at q
   ·exact ZgX h
theorem Zbx {l : List Nat} (h : okL l = true) : (l.map Zad).all PyData.strOk = true := by
 refine rE List.all_map ?_; rw [Zq4]
 intro c hc
 exact ZcP (of_decide_eq_true (Zq4.mp h c hc))
theorem Zjz {l l' : List Nat} (h : okL l = true) (p : l'.Perm l) : okL l' = true := Zq4.mpr fun c hc => Zq4.mp h c (p.mem_iff.mp hc)
theorem Zii : ∀ (l acc : List Nat), (Zbd acc l).length <= acc.length + l.length
 | [], acc => Nat.le_add_right _ _
 | x :: r, acc => by
  rw [Zbd]
  have := Zii r (if x ∈ acc then acc else acc ++ [x])
  split at this <;> split <;> simp_all <;> omega
theorem ZiH {xs : List Str} : ∀ {ns ls : List Nat}, ZaB w xs ns = some ls -> ls.length <= ns.length := fun {ns ls} h => by
 have := congrArg Zrn (ZgB h).1
 rw [Zqt, ZaV] at this
 refine rS this ?_; exact Zry _ _
theorem ZfE {sa td : Addr} {sn la lp : List Nat} {tags : List (Nat × Tag)} (hK : Is G) (h : Zab k z σ w) (rm : Γ.Room 2) (hs : σ sa = some (.lst (sn.map nv))) (hz : sn.length <= LIM) (ht : σ td = some (.dct (ZbF tags))) (h64 : tags.length < 64) (hok : okL (tags.map (·.1)) = true)
  (e1 : ZaB w allN sn = some la) (e2 : ZaB w plainN sn = some lp) (e3 : Zbd [] la = Za3 (tags.map (·.1))) (e4 : lp = Zf7 tags) {Q : AV -> Sig -> Loc -> Prop} (q : ∀ σ', (∀ b o, σ b = some o -> σ' b = some o) -> Q (.bool true) σ' m) : FC G Γ (.ref 641) [.ref k.t, .ref sa, .ref td] Q σ m := by
 have hlk : (ZbF tags).length < 64 := by unfold ZbF; refine rE (Zqt _) ?_; exact h64
 have hok2 := Zjz hok (ZbX _)
 refine ZhK (names := ["tree", "seen", "tags"]) (Is.lk hK (by rfl)) (Is.cd hK (by rfl)) (Amb.Room.le rm (ZqQ _)) (dv := []) (ds := []) .nil (by walk_at "binds") (by decide) (fun n x hx => ?_) (by decide) (ZbK (by decide)) (by rfl) (by rfl) (by rfl) ?_
 ·simp only [ZqD, Zq1, or_false] at hx
  rcases hx with rfl | rfl | rfl
  ·exact .inl rfl
  ·exact .inl rfl
  ·exact .inr ⟨rfl, rfl⟩
 intro ro rm' hnone
 have n1 : σ (ro.L + 1) = none := hnone _ (ZqS _)
 refine (?_ : W G _ FRl _ _ (σ.set (ro.L + 1) (.cel (some (.ref td)))) [("tree", .ref k.t), ("seen", .ref sa)])
 have hc : (σ.set (ro.L + 1) (.cel (some (.ref td)))) (ro.L + 1) = some (.cel (some (.ref td))) := Sig.set_self
 have up : ∀ b o, σ b = some o -> (σ.set (ro.L + 1) (.cel (some (.ref td)))) b = some o := Zaa n1
 generalize σ.set (ro.L + 1) (.cel (some (.ref td))) = σ₁ at hc up ⊢
 refine Zan (Zax (ZbS fun fa hfa => ?_) (by rfl) (by rfl))
 have up2 := Zaa (o := .lst []) hfa
 have hf : (σ₁.set fa (.lst [])) fa = some (.lst []) := Sig.set_self
 generalize σ₁.set fa (.lst []) = σ₂ at up2 hf ⊢
 refine Zgu (fun σ' m' => (∀ b o, σ₁ b = some o -> σ' b = some o) /\ σ' fa = some (.lst (Zae (Zbd [] la))) /\ HasL [("tree", .ref k.t), ("seen", .ref sa), ("firsts", .ref fa)] m') (Zay (Zbu hK) (Zbr hK) (Zac ((show Ev G _ σ₂ _ _ (.ref k.t) by exact ZaN (by rfl) (by rfl) (by decide)) _ (Zac ((show Ev G _ σ₂ _ _ (.ref sa) by exact ZaN (by rfl) (by rfl) (by decide)) _ (Zac (ZaE ((show EvA G _ σ₂ _ _ _ (allN.map AV.str) from ZbW (by rfl) (by rfl)) _ (Zrb (by refine rE sizeLine_eq ?_; exact of_decide_eq_true (by kernel_rfl)) fun xa hxa => Zap ?_))) (by rfl))) (by rfl))) (by rfl)) (by rfl) (by rfl) (by decide)) (fun σ' m' hh => ?_) (by rfl) (by intro n_; rfl)
 ·have up3 := Zaa (o := .tup (allN.map AV.str)) hxa
  have hx : (σ₂.set xa (.tup (allN.map AV.str))) xa = some (.tup (allN.map AV.str)) := Sig.set_self
  generalize σ₂.set xa (.tup (allN.map AV.str)) = σ₃ at up3 hx ⊢
  have up13 : ∀ b o, σ b = some o -> σ₃ b = some o := fun b o e => up3 _ _ (up2 _ _ (up _ _ e))
  refine ZcA hK (h.mono up13) (by walk_at "rm") (up13 _ _ hs) hz hx e1 fun r σ₄ up4 hr hr' => ?_
  have hrf : r ≠ fa := fun e => by rw [e, up3 _ _ hf] at hr; exact nB hr
  refine e94 ((Zae la).length) (fun i => (Zae la).getD i .none) (fun σ' => Sees G σ' r (.lst (Zae la))) (fun i σ' m' => (∀ b o, σ₁ b = some o -> σ' b = some o) /\ σ' r = some (.lst (Zae la)) /\ σ' fa = some (.lst (Zae (Zbd [] (la.take i)))) /\ HasL [("tree", .ref k.t), ("seen", .ref sa), ("firsts", .ref fa)] m') (fun u ru => ?_) ?_ (fun i σ' m' hh => .inl hh.2.1) (fun i σ' m' hi hh => ?_) (fun σ' m' hh => ?_)
  ·subst ru
   exact Zeb (.inl hr')
  ·exact ⟨fun b o e => up4 _ _ (up3 _ _ (up2 _ _ e)), hr', up4 _ _ (up3 _ _ hf), rfl, rfl, rfl, trivial⟩
  ·refine o40 hh fun u1 h1 h2 hm => ?_; clear hh
   rw [ZaV] at hi
   refine (?_ : W G _ FRl _ _ σ' (put "letter" ((Zae la).getD i .none) m'))
   refine rE (Zcz hi) ?_
   have tk := ZlL hi
   generalize la.getD i 0 = c at tk ⊢
   refine Zbb (l := [("letter", .str (Zad c)), ("tree", .ref k.t), ("seen", .ref sa), ("firsts", .ref fa)]) ⟨rfl, hm.1, hm.2.1, hm.2.2.1, trivial⟩ ?_
   have ds := ZgC (la.take i) [] c
   rw [<- tk] at ds
   generalize hD : Zbd [] (la.take i) = D at ds h2
   have hDl : D.length <= LIM := by
    have := Zii (la.take i) []
    rw [hD] at this
    have := ZiH e1
    have := List.length_take_le i la
    simp at *; omega
   refine Za8 (b := !decide (c ∈ D)) (Zai (Zbt (by exact ZaN (by rfl) (by rfl) (by decide)) (by exact ZaN (by rfl) (by rfl) (by decide)) (Zhw (xs := D.map Zad) (.inl (by refine rS (ZaW _) ?_; exact h2))) (by walk_at "u")) (by rw [decide_eq_decide.mpr Zkp])) (fun hb => ?_) (fun hb => Zah ?_)
   ·have hb : c ∉ D := by simpa using hb
    refine Zca (by exact ZaN (by rfl) (by rfl) (by decide)) h2 (show Ev G _ σ' _ _ (.str (Zad c)) by exact ZaN (by rfl) (by rfl) (by decide)) (by refine rE (ZaV _) ?_; exact ZaK hDl) ?_ (by rfl) (by rfl) (by rfl) (by rfl) (by rfl)
    refine Zah ?_
    refine Zah ⟨fun b o e => ?_, ?_, ?_, rfl, rfl, rfl, trivial⟩
    ·rw [Sig.set_ne (fun q => by rw [q, hfa] at e; exact nA e)]; exact u1 _ _ e
    ·refine rE (Sig.set_ne hrf) ?_; exact h1
    ·refine rE Sig.set_self (rE ds (rE (if_neg hb) ?_)); unfold Zae; refine rE ZqB ?_; rfl
   ·have hb : c ∈ D := by simpa using hb
    refine Zah ⟨u1, h1, ?_, rfl, rfl, rfl, trivial⟩
    refine rE ds (rE (if_pos hb) ?_); exact h2
  ·refine o40 hh fun u1 h1 h2 hm => ?_; clear hh
   rw [ZaV, ZsS] at h2
   exact ⟨u1, h2, hm⟩
 refine o30 hh fun u1 h2 hm => ?_; clear hh
 refine Zbb hm ?_
 have hc' := u1 _ _ hc
 have ht' : σ' td = some (.dct (ZbF tags)) := u1 _ _ (up _ _ ht)
 refine Zan (Zj0 (Zfu (Zfh hK) (by rfl) (by decide) (Zac ((show Ev G _ σ' _ _ (.ref td) by walk_at "ev") _ (Zap (ZgH ht' hlk fun rs ys hrs hp hso => ?_))) (by rfl)) (by rfl) (by rfl) (by decide)) (by rfl) (by walk_at "u") (by decide) (by rfl) (by decide) (by rfl) (by intro n_; rfl))
 have hys : ys = (Za3 (tags.map (·.1))).map Zad := ZbJ (by rw [ZgS] at hp; exact hp) hso
 subst hys
 have hSm : ∀ c ∈ Za3 (tags.map (·.1)), ∃ t, tags.lookup c = some t := fun c hc => ZgX ((ZbX _).mem_iff.mp hc)
 have u2 := Zaa (o := .lst (((Za3 (tags.map (·.1))).map Zad).map AV.str)) hrs
 rw [<- ZaW] at u2 ⊢
 generalize hS : Za3 (tags.map (·.1)) = S at e3 hok2 hSm u2 ⊢
 have hSl : S.length <= 63 := by (refine rS hS (rE ((ZbX _).length_eq) (rE (Zqt _) ?_))); omega
 have hrl : (σ'.set rs (.lst (Zae S))) rs = some (.lst (Zae S)) := Sig.set_self
 generalize σ'.set rs (.lst (Zae S)) = σ₃ at u2 hrl ⊢
 have hc3 := u2 _ _ hc'
 have ht3 := u2 _ _ ht'
 refine e95 ((Zae S).length) (fun i => (Zae S).getD i .none) (fun σ' => Sees G σ' rs (.lst (Zae S))) (fun i => plT tags (S.getD i 0)) (fun i => .str (Zad (S.getD i 0))) (fun u ru => ?_) (by (refine rE (ZaV _) (rE sizeLine_eq ?_)); omega) (fun σ' up => .inl (up _ _ hrl)) ⟨⟨fun i C σ' hi up' hC => .inr ⟨_, rfl, ?_⟩, fun i C σ' hi ht up' hC => ?_⟩, fun D hD => ?_⟩
 ·subst ru
  exact Zdh (.inl hrl)
 ·rw [ZaV] at hi
  rw [Zcz hi] at hC
  refine o21 (hSm _ (Zfg hi)) fun t hlk => ?_
  rw [show plT tags (S.getD i 0) = decide (t.str ∈ plainN) from by unfold plT; exact rE hlk rfl]
  generalize S.getD i 0 = c at hC hlk ⊢
  exact ZnR (x := t.str) (ZbR (x := .ref td) (y := .str (Zad c)) (ZbV (c := ro.L + 1) (by rfl) (up' _ _ hc3) (by rfl) (by rfl) (by decide)) (ZbT hC (by rfl) (by rfl) (by rfl) (by rfl) (by decide)) (ZjQ (up' _ _ ht3) (by (refine rE (Zc3 _ _) (rE hlk ?_)); rfl) (by intro n_ n_; walk_at "u"))) (by rfl) (by refine rE sizeLine_eq ?_; exact of_decide_eq_true (by kernel_rfl)) (by walk_at "u")
 ·rw [ZaV] at hi
  rw [Zcz hi] at hC
  exact ZbT hC (by rfl) (by rfl) (by rfl) (by rfl) (by decide)
 have hpl : (S.filter (plT tags)).map (fun c => AV.str (Zad c)) = Zae lp := by (refine rE e4 ?_; rewrite [Zf7]; refine rE hS ?_); rfl
 refine rE (ZaV _) ?_; refine rE (ZfG 0 S (plT tags) (fun c => .str (Zad c))) ?_; refine rE hpl ?_
 refine Zex (v := .ref D) rfl ?_ (by rfl)
 have u3 := Zaa (o := .lst (Zae lp)) hD
 have hDl : (σ₃.set D (.lst (Zae lp))) D = some (.lst (Zae lp)) := Sig.set_self
 generalize σ₃.set D (.lst (Zae lp)) = σ₄ at u3 hDl ⊢
 have uA : ∀ b o, σ b = some o -> σ₄ b = some o := fun b o e => u3 _ _ (u2 _ _ (u1 _ _ (up _ _ e)))
 have hf4 := u3 _ _ (u2 _ _ h2)
 have hc4 := u3 _ _ hc3
 have ht4 := u3 _ _ ht3
 have hokp : okL lp = true := by refine rE e4 ?_; exact Zq4.mpr fun c hc => Zq4.mp hok2 c (hS ▸ (Zrg.mp hc).1)
 refine ZaI (v := .bool true) (Zli (Zc6 (a := true) (b := true) (fun Q' q' => ?_) fun n_ => Zfd (fun Q' q' => ?_))) (q σ₄ uA)
 ·refine ZbE (Zkh ((show Ev G _ σ₄ _ _ (.ref fa) by exact ZaN (by rfl) (by rfl) (by decide)) _ (Zfu (Zfh hK) (by rfl) (by decide) (Zac ((show Ev G _ σ₄ _ _ (.ref td) by walk_at "ev") _ (Zap (ZgH ht4 hlk fun r5 ys hr5 hp hso A B ra rb => ?_))) (by rfl)) (by rfl) (by rfl) (by decide))) (by walk_at "u"))
  have hys : ys = (Za3 (tags.map (·.1))).map Zad := ZbJ (by rw [ZgS] at hp; exact hp) hso
  rw [hS] at hys
  subst hys
  have u5 := Zaa (o := .lst ((S.map Zad).map AV.str)) hr5
  refine Zk3 (d := .list ((S.map Zad).map PyData.str)) (e := .list ((S.map Zad).map PyData.str)) (.lst (.inl (u5 _ _ (by (refine rS (ZaW _) (rS e3 ?_)); exact hf4))) (ADs.strs _)) (.lst (.inl Sig.set_self) (ADs.strs _)) (ZaY _ (Zbx hok2)) (ZaY _ (Zbx hok2)) ra rb ?_
  have e : PyData.eqv (.list ((S.map Zad).map PyData.str)) (.list ((S.map Zad).map PyData.str)) = true := by
   refine (?_ : PyData.eqvAll _ _ = true)
   refine rE (Zed _ _) ?_; exact decide_eq_true rfl
  refine rE e ?_
  exact e52 σ₄ _ u5 (fun n_ n_ e => e) q'
 ·refine ZbE (Zkh (Zay (Zbu hK) (Zbr hK) (Zac ((show Ev G _ σ₄ _ _ (.ref k.t) by exact ZaN (by rfl) (by rfl) (by decide)) _ (Zac ((show Ev G _ σ₄ _ _ (.ref sa) by exact ZaN (by rfl) (by rfl) (by decide)) _ (Zac (ZaE ((show EvA G _ σ₄ _ _ _ (plainN.map AV.str) from ZbW (by rfl) (by rfl)) _ (Zrb (by refine rE sizeLine_eq ?_; exact of_decide_eq_true (by kernel_rfl)) fun xa hxa => Zap ?_))) (by rfl))) (by rfl))) (by rfl)) (by rfl) (by rfl) (by decide)) (by walk_at "u"))
  have u5 := Zaa (o := .tup (plainN.map AV.str)) hxa
  have hx : (σ₄.set xa (.tup (plainN.map AV.str))) xa = some (.tup (plainN.map AV.str)) := Sig.set_self
  generalize σ₄.set xa (.tup (plainN.map AV.str)) = σ₅ at u5 hx ⊢
  have u05 : ∀ b o, σ b = some o -> σ₅ b = some o := fun b o e => u5 _ _ (uA _ _ e)
  refine ZcA hK (h.mono u05) (by walk_at "rm") (u05 _ _ hs) hz hx e2 fun r σ6 u6 hr hr' => ?_
  refine (show Ev G _ σ6 _ _ (.ref D) by exact ZaN (by rfl) (by rfl) (by decide)) _ fun A B ra rb => ?_
  refine Zk3 (d := .list ((lp.map Zad).map PyData.str)) (e := .list ((lp.map Zad).map PyData.str)) (.lst (.inl (by refine rS (ZaW _) ?_; exact hr')) (ADs.strs _)) (.lst (.inl (by refine rS (ZaW _) ?_; exact u6 _ _ (u5 _ _ hDl))) (ADs.strs _)) (ZaY _ (Zbx hokp)) (ZaY _ (Zbx hokp)) ra rb ?_
  have e : PyData.eqv (.list ((lp.map Zad).map PyData.str)) (.list ((lp.map Zad).map PyData.str)) = true := by
   refine (?_ : PyData.eqvAll _ _ = true)
   refine rE (Zed _ _) ?_; exact decide_eq_true rfl
  refine rE e ?_
  exact e52 σ₄ _ (fun b o e => u6 _ _ (u5 _ _ e)) (fun n_ n_ e => e) q'
end
section
variable {G : Glo} {Γ : Amb} {σ : Sig} {m : Loc} {k : Cfg} {z : Var} {w : PW} {o i : Expr}
theorem ZkE (hK : Is G) (h : Zab k z σ w) (rm : Γ.Room 1) (e : Znt w 0 w.st = true) : EvF G Γ σ m (.ref 648) [.ref k.t, .ref k.sit] (.bool true) := by
 walk_at "defV"
 walk_at "asg"
 refine Zgu (fun σ' m' => σ' = σ) ((show Ev G _ σ _ _ (.ref k.sit) by walk_at "ev") _ ?_) (fun σ' m' hh => ?_) (by rfl) (by intro n_; rfl)
 rotate_left
 ·subst hh
  exact ZaI (v := .bool true) (by walk_at "ev") (ZcD rfl)
 refine ⟨w.st.length, fun i => .int (w.st.getD i 0 : Nat), fun σ' => Sees G σ' k.sit (.lst (w.st.map nv)), fun i σ' m' => σ' = σ /\ ∃ a : Nat, HasL [("tree", .ref k.t), ("items", .ref k.sit), ("at", .int a)] m' /\ Znt w a (w.st.drop i) = true, fun u ru => ?_, ⟨rfl, 0, ⟨rfl, rfl, rfl, trivial⟩, e⟩, fun i σ' m' hh => ?_, fun i σ' m' hi hh => ?_, fun σ' m' hh => hh.1⟩
 ·subst ru
  exact ZfZ (.inl (h.obj .sit _ rfl))
 ·refine rE hh.1 ?_; exact .inl (h.obj .sit _ rfl)
 ·refine o20 hh fun y0 r1 => ?_; clear hh; subst y0; refine o31 r1 fun a hm hw => ?_; clear r1
  refine (?_ : W G _ FRl _ _ σ' (put "node" (.int (w.st.getD i 0 : Nat)) m'))
  rw [Zf0 hi, Znt, Zri] at hw
  generalize w.st.getD i 0 = c at hw ⊢
  refine o20 hw fun h1 h2 => ?_; clear hw
  split at h1
  case h_2 => exact nC h1
  rename_i p l hp hl
  rw [Zri, decide_eq_true_eq, decide_eq_true_eq] at h1
  refine o20 h1 fun y0 hlast => ?_; clear h1; subst y0
  refine Zbb (l := [("node", .int c), ("tree", .ref k.t), ("items", .ref k.sit), ("at", .int a)]) ⟨rfl, hm.1, hm.2.1, hm.2.2.1, trivial⟩ ?_
  have hne : l ≠ [] := by intro q; rw [q] at hlast; injection hlast
  refine Za8 (b := false) (Zbk (ZaD (a := false) (b := false) (Zai (by walk_at "evt") (by refine rE Zbp ?_; exact decide_eq_false (fun q => q rfl))) fun n_ => ZaD (a := false) (b := false) (Zai (Zga (l := l) (ε := Amb.env _) (by exact (show Ev G _ σ' _ _ (.ref (adr k z (.kid a))) by walk_at "ev")) (.inl (ZlR h hl)) (by walk_at "u")) (decide_eq_false hne)) fun n_ => ZaD (a := false) (b := false) (Zai (by walk_at "evt") (by refine rE Zbp ?_; exact decide_eq_false (fun q => q rfl))) fun n_ => ZaQ)) (fun hb => absurd hb (by decide)) (fun n_ => Zah ?_)
  walk_at "asg"
  exact Zah ⟨rfl, c, ⟨rfl, rfl, rfl, trivial⟩, h2⟩
end
section
variable {G : Glo} {Γ : Amb} {σ σ₀ : Sig} {m : Loc} {k : Cfg} {z : Var} {w : PW} {o i : Expr}
structure Cre (σ₀ σ : Sig) (L : List (Addr × AO)) : Prop where
 nodup : (L.map (·.1)).Nodup
 has : ∀ p ∈ L, σ p.1 = some p.2
 fresh : ∀ p ∈ L, σ₀ p.1 = none
 keep : ∀ b o, σ₀ b = some o -> σ b = some o
theorem Cre.refl : Cre σ σ [] := ⟨.nil, fun n_ h => absurd h Zq1, fun n_ h => absurd h Zq1, fun n_ n_ e => e⟩
theorem Cre.new {L : List (Addr × AO)} (c : Cre σ₀ σ L) {a : Addr} {o : AO} (h : σ a = none) : Cre σ₀ (σ.set a o) ((a, o) :: L) := by
 have k := Zaa (o := o) h
 refine ⟨ZqH.mpr ⟨fun q => ?_, c.nodup⟩, fun p hp => ?_, fun p hp => ?_, fun b o e => k _ _ (c.keep _ _ e)⟩
 ·refine o31 (ZqO.mp q) fun p hp e => ?_
  have := c.has p hp
  rw [e, h] at this; exact nA this
 ·rcases ZqD.mp hp with rfl | hp
  ·exact Sig.set_self
  ·exact k _ _ (c.has p hp)
 ·rcases ZqD.mp hp with rfl | hp
  ·induction q : σ₀ a with
   | none => rfl
   | some o' => rw [c.keep _ _ q] at h; exact nB h
  ·exact c.fresh p hp
theorem Cre.turn {L : List (Addr × AO)} {d : Addr} {o o' : AO} (c : Cre σ₀ σ ((d, o) :: L)) : Cre σ₀ (σ.set d o') ((d, o') :: L) := by
 have n := ZqH.mp c.nodup
 refine ⟨c.nodup, fun p hp => ?_, fun p hp => ?_, fun b o'' e => ?_⟩
 ·rcases ZqD.mp hp with rfl | hp
  ·exact Sig.set_self
  ·refine (?_ : (σ.set d o') p.1 = _)
   rw [Sig.set_ne (fun q : p.1 = d => n.1 (show d ∈ L.map (·.1) from q ▸ ZqL (f := (·.1)) hp))]
   exact c.has p (.tail _ hp)
 ·rcases ZqD.mp hp with rfl | hp
  ·exact c.fresh (d, o) (.head _)
  ·exact c.fresh p (.tail _ hp)
 ·rw [Sig.set_ne (fun q => by have := c.fresh (d, o) (.head _); rw [q, this] at e; exact nA e)]; exact c.keep _ _ e
theorem Cre.perm {L L' : List (Addr × AO)} (c : Cre σ₀ σ L) (p : L.Perm L') : Cre σ₀ σ L' := ⟨(p.map (·.1)).nodup_iff.mp c.nodup, fun q hq => c.has q (p.mem_iff.mpr hq), fun q hq => c.fresh q (p.mem_iff.mpr hq), c.keep⟩
theorem Cre.step {L : List (Addr × AO)} {d a : Addr} {o o' oa : AO} (c : Cre σ₀ σ ((d, o) :: L)) (h : σ a = none) : Cre σ₀ ((σ.set a oa).set d o') ((d, o') :: (a, oa) :: L) :=
 ((c.new h (o := oa)).perm (.swap _ _ _)).turn
theorem Cre.trans {σ' : Sig} {L L' : List (Addr × AO)} (c : Cre σ₀ σ L) (c' : Cre σ σ' L') : Cre σ₀ σ' (L' ++ L) := by
 refine ⟨?_, fun p hp => ?_, fun p hp => ?_, fun b o e => c'.keep _ _ (c.keep _ _ e)⟩
 ·refine rE ZqB ?_; rw [ZqK]
  refine ⟨c'.nodup, c.nodup, fun a ha b hb e => ?_⟩
  refine o31 (ZqO.mp ha) fun p hp y2 => ?_; subst y2
  refine o31 (ZqO.mp hb) fun q hq y2 => ?_; subst y2
  have h1 := c'.fresh p hp
  have h2 := c.has q hq
  rw [<- e, h1] at h2; exact nA h2
 ·rcases ZqJ.mp hp with hp | hp
  ·exact c'.has p hp
  ·exact c'.keep _ _ (c.has p hp)
 ·rcases ZqJ.mp hp with hp | hp
  ·induction q : σ₀ p.1 with
   | none => rfl
   | some o' => have := c'.fresh p hp; rw [c.keep _ _ q] at this; exact nB this
  ·exact c.fresh p hp
structure SetOk (K : Frag) (C : Addr) (attr : Str) : Prop where
 hs : findIn K (.ref C) "__setattr__" = some (some (.builtin "object.__setattr__"))
 hp : plainOver K C = true
 ht : takerIn K C attr = some none
 hh : hasDictIn K C = true
theorem Is.setOk {C : Addr} {attr : Str} (hK : Is G) (h : SetOk (nzhd.heap_39 G.w.params) C attr) : SetOk G.K C attr := by refine rE hK.k ?_; exact h
theorem Zit {o value : Expr} {attr : Str} {p' pos : Pos} {Q : AF -> Sig -> Loc -> Prop}
  (h : W G Γ VR (eval value Γ.env) (fun v σ₁ mc => W G Γ VR (eval o Γ.env) (fun x σ₂ md => ∀ A V, VR x A -> VR v V -> W G Γ UR (setAttr A attr V) (fun n_ => Q .next) σ₂ md) σ₁ mc) σ m)
  (hs : swapsWith value (some (.Attribute o attr p')) pos.line Γ.env = pure false) : W G Γ FRl (exec (.Assign [.Attribute o attr p'] value pos) Γ.env) Q σ m := Zbi fun s hR Q' kk => by
 refine plainObj_wpAny_Assign_Attribute (h.use hR fun v va h₁ tk1 σ₁ mc rv hR₁ kp₁ za => ?_) hs
 refine W.use (s := { s with heap := h₁, toks := tk1 }) za hR₁ fun x xa h₂ tka σ₂ md rx hR₂ kp₂ zb => ?_
 refine W.use (s := { s with heap := h₂, toks := tka }) (zb x v rx rv) hR₂ fun u ua h₄ tk4 σ₄ mi ru hR₄ kp₄ zd => ?_
 exact kk .next .next h₄ tk4 σ₄ mi rfl hR₄ ((kp₁.trans kp₂).trans kp₄) zd
theorem ZjX {o value : Expr} {attr : Str} {p' pos : Pos} {rest : List Stmt} {Q : AF -> Sig -> Loc -> Prop} {x C d : Addr}
  (h : W G Γ VR (eval value Γ.env) (fun v σ₁ mc => ∃ es, Ev G Γ σ₁ mc o (.ref x) /\ σ₁ x = some (.ins C d) /\ σ₁ d = some (.dic es) /\ es.lookup attr = none /\ es.length < 900 /\ W G Γ FRl (execs rest Γ.env) Q (σ₁.set d (.dic (es ++ [(attr, v)]))) mc) σ m)
  (ok : SetOk G.K C attr) (hs : swapsWith value (some (.Attribute o attr p')) pos.line Γ.env = pure false) : W G Γ FRl (execs (.Assign [.Attribute o attr p'] value pos :: rest) Γ.env) Q σ m :=
 Zan (Zit (Q := ZbA G Γ rest Γ.env Q) (Zat h fun v σ₁ mc hp => (by (refine o71 hp fun es h1 h2 h3 h4 h5 h6 => ?_; clear hp); exact h1 _ fun A V rA rV => ZkQ h2 h3 h4 h5 ok.hs ok.hp ok.ht ok.hh rA rV h6)) hs)
theorem Za5 {o : Expr} {attr : Str} {p' p pos : Pos} {rest : List Stmt} {Q : AF -> Sig -> Loc -> Prop} {x C d : Addr} {es : List (Str × AV)} {L : List (Addr × AO)} (c : Cre σ₀ σ ((d, .dic es) :: L)) (hx : (x, .ins C d) ∈ L) (ho : ∀ σ', Ev G Γ σ' m o (.ref x)) (hn : es.lookup attr = none) (hz : es.length < 900)
  (h : ∀ a σ', Cre σ₀ σ' ((d, .dic (es ++ [(attr, .ref a)])) :: (a, .lst []) :: L) -> (x, .ins C d) ∈ (a, AO.lst []) :: L -> W G Γ FRl (execs rest Γ.env) Q σ' m)
  (ok : SetOk G.K C attr) (hs : swapsWith (.List [] p) (some (.Attribute o attr p')) pos.line Γ.env = pure false) : W G Γ FRl (execs (.Assign [.Attribute o attr p'] (.List [] p) pos :: rest) Γ.env) Q σ m :=
 ZjX (ZbS fun a ha => ⟨es, ho _, Zaa ha _ _ (c.has _ (.tail _ hx)), Zaa ha _ _ (c.has (d, .dic es) (.head _)), hn, hz, h a _ (c.step ha) (.tail _ hx)⟩) ok hs
theorem ZjA {o : Expr} {attr : Str} {p' p pos : Pos} {rest : List Stmt} {Q : AF -> Sig -> Loc -> Prop} {x C d : Addr} {es : List (Str × AV)} {L : List (Addr × AO)} (c : Cre σ₀ σ ((d, .dic es) :: L)) (hx : (x, .ins C d) ∈ L) (ho : ∀ σ', Ev G Γ σ' m o (.ref x)) (hn : es.lookup attr = none) (hz : es.length < 900)
  (h : ∀ a σ', Cre σ₀ σ' ((d, .dic (es ++ [(attr, .ref a)])) :: (a, .dct []) :: L) -> (x, .ins C d) ∈ (a, AO.dct []) :: L -> W G Γ FRl (execs rest Γ.env) Q σ' m)
  (ok : SetOk G.K C attr) (hs : swapsWith (.Dict [] [] p) (some (.Attribute o attr p')) pos.line Γ.env = pure false) : W G Γ FRl (execs (.Assign [.Attribute o attr p'] (.Dict [] [] p) pos :: rest) Γ.env) Q σ m :=
 ZjX (Zjd fun a ha => ⟨es, ho _, Zaa ha _ _ (c.has _ (.tail _ hx)), Zaa ha _ _ (c.has (d, .dic es) (.head _)), hn, hz, h a _ (c.step ha) (.tail _ hx)⟩) ok hs
theorem ZaR {o value : Expr} {attr : Str} {p' pos : Pos} {rest : List Stmt} {Q : AF -> Sig -> Loc -> Prop} {x C d : Addr} {es : List (Str × AV)} {L : List (Addr × AO)} {v : AV} (c : Cre σ₀ σ ((d, .dic es) :: L)) (hx : (x, .ins C d) ∈ L) (ho : ∀ σ', Ev G Γ σ' m o (.ref x)) (hv : Ev G Γ σ m value v) (hn : es.lookup attr = none) (hz : es.length < 900)
  (h : ∀ σ', Cre σ₀ σ' ((d, .dic (es ++ [(attr, v)])) :: L) -> W G Γ FRl (execs rest Γ.env) Q σ' m)
  (ok : SetOk G.K C attr) (hs : swapsWith value (some (.Attribute o attr p')) pos.line Γ.env = pure false) : W G Γ FRl (execs (.Assign [.Attribute o attr p'] value pos :: rest) Γ.env) Q σ m :=
 ZjX (hv _ ⟨es, ho _, c.has _ (.tail _ hx), c.has (d, .dic es) (.head _), hn, hz, h _ c.turn⟩) ok hs
theorem Zoz (P : Params) : findIn (nzhd.heap_39 P) (.ref 189) "__setattr__" = some (some (.builtin "object.__setattr__")) /\ plainOver (nzhd.heap_39 P) 189 = true /\ hasDictIn (nzhd.heap_39 P) 189 = true := ⟨by kernel_rfl, by kernel_rfl, by kernel_rfl⟩
theorem ZpK (P : Params) : findIn (nzhd.heap_39 P) (.ref 377) "__setattr__" = some (some (.builtin "object.__setattr__")) /\ plainOver (nzhd.heap_39 P) 377 = true /\ hasDictIn (nzhd.heap_39 P) 377 = true := ⟨by kernel_rfl, by kernel_rfl, by kernel_rfl⟩
theorem ZpP (P : Params) : findIn (nzhd.heap_39 P) (.ref 501) "__setattr__" = some (some (.builtin "object.__setattr__")) /\ plainOver (nzhd.heap_39 P) 501 = true /\ hasDictIn (nzhd.heap_39 P) 501 = true := ⟨by kernel_rfl, by kernel_rfl, by kernel_rfl⟩
theorem Zpr (P : Params) : findIn (nzhd.heap_39 P) (.ref 579) "__setattr__" = some (some (.builtin "object.__setattr__")) /\ plainOver (nzhd.heap_39 P) 579 = true /\ hasDictIn (nzhd.heap_39 P) 579 = true := ⟨by kernel_rfl, by kernel_rfl, by kernel_rfl⟩
theorem ZpI {attr : Str} (hK : Is G) (ht : takerIn (nzhd.heap_39 G.w.params) 189 attr = some none) : SetOk G.K 189 attr := hK.setOk ((by (refine o30 (Zoz G.w.params) fun a b c => ?_); exact ⟨a, b, ht, c⟩))
theorem Zqg {attr : Str} (hK : Is G) (ht : takerIn (nzhd.heap_39 G.w.params) 377 attr = some none) : SetOk G.K 377 attr := hK.setOk ((by (refine o30 (ZpK G.w.params) fun a b c => ?_); exact ⟨a, b, ht, c⟩))
theorem ZnF {attr : Str} (hK : Is G) (ht : takerIn (nzhd.heap_39 G.w.params) 501 attr = some none) : SetOk G.K 501 attr := hK.setOk ((by (refine o30 (ZpP G.w.params) fun a b c => ?_); exact ⟨a, b, ht, c⟩))
theorem Zgy {attr : Str} (hK : Is G) (ht : takerIn (nzhd.heap_39 G.w.params) 579 attr = some none) : SetOk G.K 579 attr := hK.setOk ((by (refine o30 (Zpr G.w.params) fun a b c => ?_); exact ⟨a, b, ht, c⟩))
theorem Is.make {C fI : Addr} (hK : Is G) (h : makesIn (nzhd.heap_39 G.w.params) C = true /\ findIn (nzhd.heap_39 G.w.params) (.ref C) "__init__" = some (some (.ref fI)) /\ isFn (nzhd.heap_39 G.w.params) (.ref fI) = true) : makesIn G.K C = true /\ findIn G.K (.ref C) "__init__" = some (some (.ref fI)) /\ isFn G.K (.ref fI) = true := by refine rE hK.k ?_; exact h
theorem Zmj {t : Addr} (hK : Is G) (rm : Γ.Room 3) {Q : AV -> Sig -> Loc -> Prop} (q : ∀ s sd it σ', Cre σ σ' [(sd, .dic [("tree", .ref t), ("items", .ref it)]), (it, .lst []), (s, .ins 189 sd)] -> Q (.ref s) σ' m) : FC G Γ (.ref 189) [.ref t] Q σ m := by
 refine o30 (hK.make (C := 189) (fI := 102) ⟨by kernel_rfl, by kernel_rfl, by kernel_rfl⟩) fun h1 h2 h3 => ?_
 refine ZjF (Amb.Room.le rm (by decide)) h1 h2 h3 fun x d e1 e2 => ?_
 have rm' : Γ.tc.Room 2 := rm.tc
 refine ZjO (names := ["self", "tree"]) (dv := []) (ds := []) (Is.lk hK (by rfl)) (Is.cd hK (by rfl)) (Amb.Room.le rm' (ZqQ _)) .nil (by walk_at "binds") (by decide) (by rfl) (by rfl) (by rfl) (by rfl) (by rfl) ?_
 intro n_ n_
 have c0 : Cre σ ((σ.set d (.dic [])).set x (.ins 189 d)) [(d, .dic []), (x, .ins 189 d)] := ((Cre.refl.new e1).new e2).perm (.swap _ _ _)
 generalize (σ.set d (.dic [])).set x (.ins 189 d) = σ₁ at c0 ⊢
 refine ZaR (x := x) c0 (.head _) (fun n_ => by walk_at "ev") (by walk_at "ev") (by kernel_rfl) (ZqG (by kernel_rfl)) (fun σ₂ c1 => ?_) (ZpI hK (by kernel_rfl)) (by rfl)
 refine Za5 (x := x) c1 (.head _) (fun n_ => by walk_at "ev") (by kernel_rfl) (ZqG (by kernel_rfl)) (fun it σ₃ c2 n_ => ?_) (ZpI hK (by kernel_rfl)) (by rfl)
 exact Zah ⟨rfl, q x d it σ₃ c2⟩
theorem Zgq {t : Addr} (hK : Is G) (rm : Γ.Room 3) {Q : AV -> Sig -> Loc -> Prop} (q : ∀ s sd it σ', Cre σ σ' [(sd, .dic [("tree", .ref t), ("items", .ref it)]), (it, .lst []), (s, .ins 377 sd)] -> Q (.ref s) σ' m) : FC G Γ (.ref 377) [.ref t] Q σ m := by
 refine o30 (hK.make (C := 377) (fI := 311) ⟨by kernel_rfl, by kernel_rfl, by kernel_rfl⟩) fun h1 h2 h3 => ?_
 refine ZjF (Amb.Room.le rm (by decide)) h1 h2 h3 fun x d e1 e2 => ?_
 have rm' : Γ.tc.Room 2 := rm.tc
 refine ZjO (names := ["self", "tree"]) (dv := []) (ds := []) (Is.lk hK (by rfl)) (Is.cd hK (by rfl)) (Amb.Room.le rm' (ZqQ _)) .nil (by walk_at "binds") (by decide) (by rfl) (by rfl) (by rfl) (by rfl) (by rfl) ?_
 intro n_ n_
 have c0 : Cre σ ((σ.set d (.dic [])).set x (.ins 377 d)) [(d, .dic []), (x, .ins 377 d)] := ((Cre.refl.new e1).new e2).perm (.swap _ _ _)
 generalize (σ.set d (.dic [])).set x (.ins 377 d) = σ₁ at c0 ⊢
 refine ZaR (x := x) c0 (.head _) (fun n_ => by walk_at "ev") (by walk_at "ev") (by kernel_rfl) (ZqG (by kernel_rfl)) (fun σ₂ c1 => ?_) (Zqg hK (by kernel_rfl)) (by rfl)
 refine Za5 (x := x) c1 (.head _) (fun n_ => by walk_at "ev") (by kernel_rfl) (ZqG (by kernel_rfl)) (fun it σ₃ c2 n_ => ?_) (Zqg hK (by kernel_rfl)) (by rfl)
 exact Zah ⟨rfl, q x d it σ₃ c2⟩
end
section
variable {G : Glo} {Γ : Amb} {σ σ₀ : Sig} {m : Loc} {k : Cfg} {z : Var} {w : PW} {o i : Expr}
theorem Cre.turnAt {A B : List (Addr × AO)} {d : Addr} {o o' : AO} (c : Cre σ₀ σ (A ++ (d, o) :: B)) : Cre σ₀ (σ.set d o') (A ++ (d, o') :: B) :=
 ((c.perm Zr0).turn (o' := o')).perm Zr0.symm
theorem Zc8 {a b : Addr} {o o' : AO} (h : σ a = none) (hb : σ b = some o) : (σ.set b o') a = none := by
 rw [Sig.set_ne (fun q => by rw [q, hb] at h; exact nB h)]; exact h
theorem ZkI {a b : Addr} {o' : AO} (h : σ a = none) (hb : a ≠ b) : (σ.set b o') a = none := by refine rE (Sig.set_ne hb) ?_; exact h
theorem Zna (hK : Is G) (rm : Γ.Room 4) {Q : AV -> Sig -> Loc -> Prop}
  (q : ∀ t td kinds spaces names attrs texts parents children contents a1 a2 σ', Cre σ σ' [(a2, .lst []), (a1, .lst []), (td, .dic [("kinds", .ref kinds), ("spaces", .ref spaces), ("names", .ref names), ("attrs", .ref attrs), ("texts", .ref texts), ("parents", .ref parents), ("children", .ref children), ("contents", .ref contents)]),
   (contents, .dct []), (children, .lst [.ref a2]), (parents, .lst [.int (-1)]), (texts, .lst [.str ""]), (attrs, .lst [.ref a1]), (names, .lst [.str ""]), (spaces, .lst [.str ""]), (kinds, .lst [.str "document"]), (t, .ins 501 td)] -> Q (.ref t) σ' m) : FC G Γ (.ref 501) [] Q σ m := by
 refine o30 (hK.make (C := 501) (fI := 402) ⟨by kernel_rfl, by kernel_rfl, by kernel_rfl⟩) fun h1 h2 h3 => ?_
 refine ZjF (Amb.Room.le rm (by decide)) h1 h2 h3 fun x d e1 e2 => ?_
 have rm' : Γ.tc.Room 3 := rm.tc
 refine ZjO (names := ["self"]) (dv := []) (ds := []) (Is.lk hK (by rfl)) (Is.cd hK (by rfl)) (Amb.Room.le rm' (ZqQ _)) .nil (by walk_at "binds") (by decide) (by rfl) (by rfl) (by rfl) (by rfl) (by rfl) ?_
 intro n_ n_
 have c0 : Cre σ ((σ.set d (.dic [])).set x (.ins 501 d)) [(d, .dic []), (x, .ins 501 d)] := ((Cre.refl.new e1).new e2).perm (.swap _ _ _)
 have m0 : (x, AO.ins 501 d) ∈ [(x, AO.ins 501 d)] := .head _
 generalize (σ.set d (.dic [])).set x (.ins 501 d) = σ₁ at c0 ⊢
 refine Za5 (x := x) c0 m0 (fun n_ => by walk_at "ev") (by kernel_rfl) (ZqG (by kernel_rfl)) (fun kinds σ₂ c1 m1 => ?_) (ZnF hK (by kernel_rfl)) (by rfl)
 refine Za5 (x := x) c1 m1 (fun n_ => by walk_at "ev") (by kernel_rfl) (ZqG (by kernel_rfl)) (fun spaces σ₃ c2 m2 => ?_) (ZnF hK (by kernel_rfl)) (by rfl)
 refine Za5 (x := x) c2 m2 (fun n_ => by walk_at "ev") (by kernel_rfl) (ZqG (by kernel_rfl)) (fun names σ₄ c3 m3 => ?_) (ZnF hK (by kernel_rfl)) (by rfl)
 refine Za5 (x := x) c3 m3 (fun n_ => by walk_at "ev") (by kernel_rfl) (ZqG (by kernel_rfl)) (fun attrs σ₅ c4 m4 => ?_) (ZnF hK (by kernel_rfl)) (by rfl)
 refine Za5 (x := x) c4 m4 (fun n_ => by walk_at "ev") (by kernel_rfl) (ZqG (by kernel_rfl)) (fun texts σ6 c5 m5 => ?_) (ZnF hK (by kernel_rfl)) (by rfl)
 refine Za5 (x := x) c5 m5 (fun n_ => by walk_at "ev") (by kernel_rfl) (ZqG (by kernel_rfl)) (fun parents σ₇ c6 m6 => ?_) (ZnF hK (by kernel_rfl)) (by rfl)
 refine Za5 (x := x) c6 m6 (fun n_ => by walk_at "ev") (by kernel_rfl) (ZqG (by kernel_rfl)) (fun children σ₈ c7 m7 => ?_) (ZnF hK (by kernel_rfl)) (by rfl)
 refine ZjA (x := x) c7 m7 (fun n_ => by walk_at "ev") (by kernel_rfl) (ZqG (by kernel_rfl)) (fun contents σ₉ c8 m8 => ?_) (ZnF hK (by kernel_rfl)) (by rfl)
 clear c0 c1 c2 c3 c4 c5 c6 c7
 simp only [Zq2, ZqT] at c8
 have hx := c8.has (x, .ins 501 d) (.tail _ m8)
 have hd := c8.has (d, _) (.head _)
 dsimp only at hx hd
 have hMF : Zbh G σ₉ x "add" 411 := ⟨501, Zam hx hd (by kernel_rfl), ZgT hK⟩
 refine o31 hMF fun C i1 i2 => ?_; clear hMF
 refine Zcm (ZgI ((show Ev G _ σ₉ _ _ (.ref x) by walk_at "ev") _ ⟨x, C, _, rfl, i1, i2, ?_⟩) (by rfl) (by rfl)) (by rfl) (by rfl)
 refine Zac ((show Ev G _ σ₉ _ _ (.str "document") by walk_at "ev") _ (Zap ?_)) (by rfl)
 have gk := c8.has (kinds, .lst []) (by walk_at "mem")
 have gs := c8.has (spaces, .lst []) (by walk_at "mem")
 have gn := c8.has (names, .lst []) (by walk_at "mem")
 have ga := c8.has (attrs, .lst []) (by walk_at "mem")
 have gt := c8.has (texts, .lst []) (by walk_at "mem")
 have gp := c8.has (parents, .lst []) (by walk_at "mem")
 have gc := c8.has (children, .lst []) (by walk_at "mem")
 have nd := c8.nodup
 simp only [ZqP, ZsP, ZqH, ZqD, Zq1, or_false, not_or, Zsh] at nd
 have l0 : ([] : List AV).length < LIM := by decide
 refine ZlG (k := ⟨0, 0, x, d, 0, 0, 0, 0, kinds, spaces, names, attrs, texts, parents, children, contents, 0, 0, 0, 0, 0, 0, 0⟩) (lk := []) (ls := []) (ln := []) (la := []) (lt := []) (lp := []) (lc := []) (l := []) (at_ := 403) (kd := "document") (sp := "") (nm := "") (tx := "") (dv := [.str "", .str "", .ref 403, .str ""]) (ds := [.str "" 731, .str "" 732, .ref 403, .str "" 733]) hK rfl (.cons ⟨_, rfl⟩ (.cons ⟨_, rfl⟩ (.cons rfl (.cons ⟨_, rfl⟩ .nil)))) (by walk_at "bindsAt") (by walk_at "rm") ⟨hx, hd⟩ gk gs gn ga gt gp gc (by
  simp only [ZqH, ZqD, Zq1, or_false, not_or, Zsh]
  have f : ∀ {a b : Addr}, ¬ a = b -> ¬ b = a := fun h q => h q.symm
  obtain ⟨_, _, ⟨n1, n2, n3, n4, n5, n6, _⟩, ⟨p1, p2, p3, p4, p5, _⟩, ⟨q1, q2, q3, q4, _⟩, ⟨r1, r2, r3, _⟩, ⟨s1, s2, _⟩, ⟨u1, _⟩, _⟩ := nd
  exact ⟨⟨f u1, f s2, f r3, f q4, f p5, f n6⟩, ⟨f s1, f r2, f q3, f p4, f n5⟩, ⟨f r1, f q2, f p3, f n4⟩, ⟨f q1, f p2, f n3⟩, ⟨f p1, f n2⟩, f n1, not_false, trivial⟩) ⟨l0, l0, l0, l0, l0, l0, l0⟩ (.inr hK.s403) (by decide) fun a1 a2 ha1 ha2 h12 => ?_
 refine Zah ⟨rfl, q x d kinds spaces names attrs texts parents children contents a1 a2 _ ?_⟩
 have t1 := Cre.turnAt (A := [_, _, _, _, _, _, _, _]) (d := kinds) (o' := .lst [.str "document"]) c8
 have t2 := Cre.turnAt (A := [_, _, _, _, _, _, _]) (d := spaces) (o' := .lst [.str ""]) t1
 have t3 := Cre.turnAt (A := [_, _, _, _, _, _]) (d := names) (o' := .lst [.str ""]) t2
 have n3 : ∀ {a}, σ₉ a = none -> (((σ₉.set kinds (.lst [.str "document"])).set spaces (.lst [.str ""])).set names (.lst [.str ""])) a = none := fun h => Zc8 (Zc8 (Zc8 h gk) (t1.has (spaces, .lst []) (by walk_at "mem"))) (t2.has (names, .lst []) (by walk_at "mem"))
 have t4 := t3.new (o := .lst []) (n3 ha1)
 have t5 := Cre.turnAt (A := [_, _, _, _, _, _]) (d := attrs) (o' := .lst [.ref a1]) t4
 have t6 := Cre.turnAt (A := [_, _, _, _, _]) (d := texts) (o' := .lst [.str ""]) t5
 have t7 := Cre.turnAt (A := [_, _, _, _]) (d := parents) (o' := .lst [.int (-1)]) t6
 have t8 := t7.new (a := a2) (o := .lst []) (Zc8 (Zc8 (Zc8 (ZkI (n3 ha2) (Ne.symm h12)) (t4.has (attrs, .lst []) (by walk_at "mem"))) (t5.has (texts, .lst []) (by walk_at "mem"))) (t6.has (parents, .lst []) (by walk_at "mem")))
 have t9 := Cre.turnAt (A := [_, _, _, _]) (d := children) (o' := .lst [.ref a2]) t8
 exact t9
end
section
variable {G : Glo} {Γ : Amb} {σ σ₀ : Sig} {m : Loc} {k : Cfg} {z : Var} {w : PW} {o i : Expr}
theorem Zhl {o value : Expr} {attr : Str} {p' pos : Pos} {rest : List Stmt} {Q : AF -> Sig -> Loc -> Prop} {x C d : Addr} {es : List (Str × AV)} {L : List (Addr × AO)} (c : Cre σ₀ σ ((d, .dic es) :: L)) (hx : (x, .ins C d) ∈ L) (ho : ∀ σ', Ev G Γ σ' m o (.ref x)) (hn : es.lookup attr = none) (hz : es.length < 900)
  (h : W G Γ VR (eval value Γ.env) (fun v σ₁ mc => mc = m /\ ∃ LT, Cre σ σ₁ LT /\ ∀ σ₂, Cre σ₀ σ₂ ((d, .dic (es ++ [(attr, v)])) :: (LT ++ L)) -> (x, .ins C d) ∈ LT ++ L -> W G Γ FRl (execs rest Γ.env) Q σ₂ m) σ m)
  (ok : SetOk G.K C attr) (hs : swapsWith value (some (.Attribute o attr p')) pos.line Γ.env = pure false) : W G Γ FRl (execs (.Assign [.Attribute o attr p'] value pos :: rest) Γ.env) Q σ m :=
 ZjX (x := x) (C := C) (d := d) (Zat h fun v σ₁ mc hp => by
  refine o20 hp fun e r1 => ?_; clear hp; refine o31 r1 fun LT c' hh => ?_; clear r1
  refine rE e ?_
  have cc := (c.trans c').perm Zr0
  exact e71 es (ho _) (cc.has _ (.tail _ (Zqv _ hx))) (cc.has (d, .dic es) (.head _)) hn hz (hh _ cc.turn (Zqv _ hx))) ok hs
noncomputable def ixS : Sl -> Nat
 | .err => 0
 | .fit => 1
 | .sit => 2
 | .kid _ => 3
 | .children => 5
 | .parents => 6
 | .texts => 7
 | .attrs => 8
 | .names => 9
 | .spaces => 10
 | .kinds => 11
noncomputable def unS : Nat -> Sl
 | 0 => .err
 | 1 => .fit
 | 2 => .sit
 | 5 => .children
 | 6 => .parents
 | 7 => .texts
 | 8 => .attrs
 | 9 => .names
 | 10 => .spaces
 | 11 => .kinds
 | _ => .kid 0
theorem ZlQ {l : List Addr} (h : l.Nodup) {i j : Nat} {a : Addr} (h1 : l[i]? = some a) (h2 : l[j]? = some a) : i = j :=
 (List.getElem?_inj (ZqU.mp h1).1 h).mp (h1.trans h2.symm)
theorem Zfj {z : Var} {i : Nat} {l : List AV} (h : val (mk ZeO) z (.kid i) = some l) : i = 0 /\ l = [] := by
 induction i using Zd9 with
 | zero => (replace h := sO h; subst h); exact ⟨rfl, rfl⟩
 | succ i => injection h
theorem Zfc {k : Cfg} {a1 a2 : Addr} {sl : Sl} {l : List AV} (h : val (mk ZeO) ⟨[a2], [a1], []⟩ sl = some l) : [k.err, k.fit, k.sit, a2, a1, k.children, k.parents, k.texts, k.attrs, k.names, k.spaces, k.kinds][ixS sl]? = some (adr k ⟨[a2], [a1], []⟩ sl) := by
 induction sl with
 | kid i => (refine o20 (Zfj h) fun y0 n_ => ?_; subst y0); rfl
 | kinds | spaces | names | attrs | texts | parents | children | sit | fit | err => rfl
theorem Zqq : (("" : Str)) = txt [] := by kernel_rfl
theorem Zlf {z : Var} {sl : Sl} {l : List AV} (h : val (mk ZeO) z sl = some l) : unS (ixS sl) = sl := by
 induction sl with
 | kid i => (refine o20 (Zfj h) fun y0 n_ => ?_; subst y0); rfl
 | kinds | spaces | names | attrs | texts | parents | children | sit | fit | err => rfl
theorem ZiW {k : Cfg} {a1 a2 : Addr} (hf : Fix k σ) (nd : [k.err, k.fit, k.sit, a2, a1, k.children, k.parents, k.texts, k.attrs, k.names, k.spaces, k.kinds].Nodup)
  (h1 : σ k.err = some (.lst [])) (h2 : σ k.fit = some (.lst [])) (h3 : σ k.sit = some (.lst [])) (h4 : σ a2 = some (.lst [])) (h5 : σ a1 = some (.lst [])) (h6 : σ k.children = some (.lst [.ref a2])) (h7 : σ k.parents = some (.lst [.int (-1)])) (h8 : σ k.texts = some (.lst [.str ""])) (h9 : σ k.attrs = some (.lst [.ref a1])) (h10 : σ k.names = some (.lst [.str ""])) (h11 : σ k.spaces = some (.lst [.str ""])) (h12 : σ k.kinds = some (.lst [.str "document"])) :
  Zab k ⟨[a2], [a1], []⟩ σ ZeO := by
 refine ⟨hf, fun sl l e => ?_, fun sl sl' l l' e1 e2 e => (Zlf e1).symm.trans ((congrArg unS (ZlQ nd (Zfc e1) (e ▸ Zfc e2))).trans (Zlf e2)), rfl, rfl, rfl, fun i a c e1 e2 => ?_, fun sl l e => ?_⟩
 ·induction sl with
  | kid i => (refine o20 (Zfj e) fun y0 y1 => ?_; subst y0; subst y1); exact h4
  | kinds => (replace e := sO e; subst e); exact h12
  | spaces => (replace e := sO e; subst e); exact h11
  | names => (replace e := sO e; subst e); exact h10
  | attrs => (replace e := sO e; subst e); exact h9
  | texts => (replace e := sO e; subst e); rw [Zqq] at h8; exact h8
  | parents => (replace e := sO e; subst e); exact h7
  | children => (replace e := sO e; subst e); exact h6
  | sit => (replace e := sO e; subst e); exact h3
  | fit => (replace e := sO e; subst e); exact h2
  | err => (replace e := sO e; subst e); exact h1
 ·induction i using Zd9 with
  | zero =>
   (replace e1 := sO e1; subst e1); (replace e2 := sO e2; subst e2)
   refine ⟨h5, fun sl l e q => ?_⟩
   have := ZlQ nd (Zfc e) (show _[4]? = some _ from congrArg some q)
   cases sl <;> cases this
  | succ i => injection e1
 ·induction sl with
  | kid i => (refine o20 (Zfj e) fun y0 y1 => ?_; subst y0; subst y1); exact Zrq _
  | kinds | spaces | names | attrs | texts | parents | children | sit | fit | err => (replace e := sO e; subst e); first | exact (by decide : 1 <= LIM) | exact (by decide : 0 <= LIM)
theorem ZiT {ra : Addr} (hK : Is G) (rm : Γ.Room 6) {Q : AV -> Sig -> Loc -> Prop} (q : ∀ k z σ', Zab k z σ' ZeO -> (∀ b o, σ b = some o -> σ' b = some o) -> (∀ a, Own k z (mk ZeO) a -> σ a = none) -> (∀ b, σ b ≠ none -> b ≠ k.contents) -> Q (.ref k.b) σ' m) : FC G Γ (.ref 579) [.ref ra] Q σ m := by
 refine o30 (hK.make (C := 579) (fI := 527) ⟨by kernel_rfl, by kernel_rfl, by kernel_rfl⟩) fun h1 h2 h3 => ?_
 refine ZjF (Amb.Room.le rm (by decide)) h1 h2 h3 fun x d e1 e2 => ?_
 have rm' : Γ.tc.Room 5 := rm.tc
 refine ZjO (names := ["self", "rules", "is_scripting"]) (dv := [.bool false]) (ds := [.bool false]) (Is.lk hK (by rfl)) (Is.cd hK (by rfl)) (Amb.Room.le rm' (ZqQ _)) (.cons rfl .nil) (by walk_at "binds") (by decide) (by rfl) (by rfl) (by rfl) (by rfl) (by rfl) ?_
 intro n_ n_
 have c0 : Cre σ ((σ.set d (.dic [])).set x (.ins 579 d)) [(d, .dic []), (x, .ins 579 d)] := ((Cre.refl.new e1).new e2).perm (.swap _ _ _)
 have m0 : (x, AO.ins 579 d) ∈ [(x, AO.ins 579 d)] := .head _
 generalize (σ.set d (.dic [])).set x (.ins 579 d) = σ₁ at c0 ⊢
 refine ZaR (x := x) c0 m0 (fun n_ => by walk_at "ev") (by walk_at "ev") (by kernel_rfl) (ZqG (by kernel_rfl)) (fun σ₂ c1 => ?_) (Zgy hK (by kernel_rfl)) (by rfl)
 clear c0
 refine Zhl (x := x) c1 m0 (fun n_ => by walk_at "ev") (by kernel_rfl) (ZqG (by kernel_rfl)) ?_ (Zgy hK (by kernel_rfl)) (by rfl)
 refine Zay (Zpo hK) (hK.keep (by kernel_rfl)) (Zap (Zna hK (by walk_at "rm") fun t td kinds spaces names attrs texts parents children contents a1 a2 σ₃ ct => ⟨rfl, _, ct, fun σ₄ c2 m2 => ?_⟩)) (by rfl) (by rfl) (by decide)
 clear c1 ct
 have hx2 := c2.has (x, .ins 579 d) (.tail _ m2)
 have hd2 := c2.has (d, _) (.head _)
 dsimp only at hx2 hd2
 have ht2 : ZbB G σ₄ x "tree" (.ref t) := ⟨579, Zao hx2 hd2 (by kernel_rfl), Zcg hK, rfl⟩
 refine Zhl (x := x) c2 m2 (fun n_ => by walk_at "ev") (by kernel_rfl) (ZqG (by kernel_rfl)) ?_ (Zgy hK (by kernel_rfl)) (by rfl)
 refine Zay (Zje hK) (hK.keep (by kernel_rfl)) (Zac ((show Ev G _ σ₄ _ _ (.ref t) from Zho (by walk_at "ev") ht2 (by walk_at "u")) _ (Zap (Zmj hK (by walk_at "rm") fun s sd sit σ₅ cs => ⟨rfl, _, cs, fun σ6 c3 m3 => ?_⟩))) (by rfl)) (by rfl) (by rfl) (by decide)
 clear c2 cs ht2 hx2 hd2
 have hx2 := c3.has (x, .ins 579 d) (.tail _ m3)
 have hd2 := c3.has (d, _) (.head _)
 dsimp only at hx2 hd2
 have ht2 : ZbB G σ6 x "tree" (.ref t) := ⟨579, Zao hx2 hd2 (by kernel_rfl), Zcg hK, rfl⟩
 refine Zhl (x := x) c3 m3 (fun n_ => by walk_at "ev") (by kernel_rfl) (ZqG (by kernel_rfl)) ?_ (Zgy hK (by kernel_rfl)) (by rfl)
 refine Zay (ZhW hK) (hK.keep (by kernel_rfl)) (Zac ((show Ev G _ σ6 _ _ (.ref t) from Zho (by walk_at "ev") ht2 (by walk_at "u")) _ (Zap (Zgq hK (by walk_at "rm") fun f fd fit σ₇ cs => ⟨rfl, _, cs, fun σ₈ c4 m4 => ?_⟩))) (by rfl)) (by rfl) (by rfl) (by decide)
 clear c3 cs ht2 hx2 hd2
 refine ZaR (x := x) c4 m4 (fun n_ => by walk_at "ev") (by walk_at "ev") (by kernel_rfl) (ZqG (by kernel_rfl)) (fun σ₂ c5 => ?_) (Zgy hK (by kernel_rfl)) (by rfl)
 refine ZaR (x := x) c5 m4 (fun n_ => by walk_at "ev") (by walk_at "ev") (by kernel_rfl) (ZqG (by kernel_rfl)) (fun σ₂ c6 => ?_) (Zgy hK (by kernel_rfl)) (by rfl)
 refine Za5 (x := x) c6 m4 (fun n_ => by walk_at "ev") (by kernel_rfl) (ZqG (by kernel_rfl)) (fun modes σ₈ c7 m7 => ?_) (Zgy hK (by kernel_rfl)) (by rfl)
 refine ZaR (x := x) c7 m7 (fun n_ => by walk_at "ev") (by walk_at "ev") (by kernel_rfl) (ZqG (by kernel_rfl)) (fun σ₂ c8 => ?_) (Zgy hK (by kernel_rfl)) (by rfl)
 refine ZaR (x := x) c8 m7 (fun n_ => by walk_at "ev") (by walk_at "ev") (by kernel_rfl) (ZqG (by kernel_rfl)) (fun σ₂ c9 => ?_) (Zgy hK (by kernel_rfl)) (by rfl)
 refine ZjA (x := x) c9 m7 (fun n_ => by walk_at "ev") (by kernel_rfl) (ZqG (by kernel_rfl)) (fun owners σ₉ c10 m10 => ?_) (Zgy hK (by kernel_rfl)) (by rfl)
 refine ZaR (x := x) c10 m10 (fun n_ => by walk_at "ev") (by walk_at "ev") (by kernel_rfl) (ZqG (by kernel_rfl)) (fun σ₂ c11 => ?_) (Zgy hK (by kernel_rfl)) (by rfl)
 refine ZaR (x := x) c11 m10 (fun n_ => by walk_at "ev") (by walk_at "ev") (by kernel_rfl) (ZqG (by kernel_rfl)) (fun σ₂ c12 => ?_) (Zgy hK (by kernel_rfl)) (by rfl)
 refine ZaR (x := x) c12 m10 (fun n_ => by walk_at "ev") (by walk_at "ev") (by kernel_rfl) (ZqG (by kernel_rfl)) (fun σ₂ c13 => ?_) (Zgy hK (by kernel_rfl)) (by rfl)
 refine ZaR (x := x) c13 m10 (fun n_ => by walk_at "ev") (by walk_at "ev") (by kernel_rfl) (ZqG (by kernel_rfl)) (fun σ₂ c14 => ?_) (Zgy hK (by kernel_rfl)) (by rfl)
 refine ZaR (x := x) c14 m10 (fun n_ => by walk_at "ev") (by walk_at "ev") (by kernel_rfl) (ZqG (by kernel_rfl)) (fun σ₂ c15 => ?_) (Zgy hK (by kernel_rfl)) (by rfl)
 refine Za5 (x := x) c15 m10 (fun n_ => by walk_at "ev") (by kernel_rfl) (ZqG (by kernel_rfl)) (fun err σ₂ c16 m16 => ?_) (Zgy hK (by kernel_rfl)) (by rfl)
 refine Za5 (x := x) c16 m16 (fun n_ => by walk_at "ev") (by kernel_rfl) (ZqG (by kernel_rfl)) (fun pending σ₂ c17 m17 => ?_) (Zgy hK (by kernel_rfl)) (by rfl)
 refine ZaR (x := x) c17 m17 (fun n_ => by walk_at "ev") (by walk_at "ev") (by kernel_rfl) (ZqG (by kernel_rfl)) (fun σ₂ c18 => ?_) (Zgy hK (by kernel_rfl)) (by rfl)
 refine ZaR (x := x) c18 m17 (fun n_ => by walk_at "ev") (by walk_at "ev") (by kernel_rfl) (ZqG (by kernel_rfl)) (fun σ₂ c19 => ?_) (Zgy hK (by kernel_rfl)) (by rfl)
 refine ZaR (x := x) c19 m17 (fun n_ => by walk_at "ev") (by walk_at "ev") (by kernel_rfl) (ZqG (by kernel_rfl)) (fun σ₂ c20 => ?_) (Zgy hK (by kernel_rfl)) (by rfl)
 refine ZaR (x := x) c20 m17 (fun n_ => by walk_at "ev") (by walk_at "ev") (by kernel_rfl) (ZqG (by kernel_rfl)) (fun σ₂ c21 => ?_) (Zgy hK (by kernel_rfl)) (by rfl)
 clear c4 c5 c6 c7 c8 c9 c10 c11 c12 c13 c14 c15 c16 c17 c18 c19 c20
 simp only [Zq2, ZqT] at c21
 have hasx : ∀ {p : Addr × AO}, p ∈ _ -> σ₂ p.1 = some p.2 := fun {p} hp => c21.has p hp
 have nd := c21.nodup
 have sub : [err, fit, sit, a2, a1, children, parents, texts, attrs, names, spaces, kinds].Sublist _ := .cons d <| .cons pending <| .cons_cons err <| .cons owners <| .cons modes <| .cons fd <| .cons_cons fit <| .cons f <| .cons sd <| .cons_cons sit <| .cons s <| .cons_cons a2 <| .cons_cons a1 <| .cons td <| .cons contents <| .cons_cons children <| .cons_cons parents <| .cons_cons texts <| .cons_cons attrs <| .cons_cons names <| .cons_cons spaces <| .cons_cons kinds <| .cons t <| .cons x .slnil
 have nl := nd.sublist sub
 refine Zah ⟨rfl, q ⟨x, d, t, td, s, sd, f, fd, kinds, spaces, names, attrs, texts, parents, children, contents, sit, fit, err, ra, modes, owners, pending⟩ ⟨[a2], [a1], []⟩ σ₂ ?_ c21.keep ?_ ?_⟩
 ·exact ZiW ⟨hasx (p := (x, .ins 579 d)) (by walk_at "mem"), hasx (p := (d, _)) (.head _), hasx (p := (t, .ins 501 td)) (by walk_at "mem"), hasx (p := (td, .dic (tdict ⟨x, d, t, td, s, sd, f, fd, kinds, spaces, names, attrs, texts, parents, children, contents, sit, fit, err, ra, modes, owners, pending⟩))) (by walk_at "mem"), hasx (p := (s, .ins 189 sd)) (by walk_at "mem"), hasx (p := (sd, .dic [("tree", .ref t), ("items", .ref sit)])) (by walk_at "mem"), hasx (p := (f, .ins 377 fd)) (by walk_at "mem"), hasx (p := (fd, .dic [("tree", .ref t), ("items", .ref fit)])) (by walk_at "mem"), hasx (p := (contents, .dct [])) (by walk_at "mem")⟩ nl
   (hasx (p := (err, .lst [])) (by walk_at "mem")) (hasx (p := (fit, .lst [])) (by walk_at "mem")) (hasx (p := (sit, .lst [])) (by walk_at "mem")) (hasx (p := (a2, .lst [])) (by walk_at "mem")) (hasx (p := (a1, .lst [])) (by walk_at "mem")) (hasx (p := (children, .lst [.ref a2])) (by walk_at "mem")) (hasx (p := (parents, .lst [.int (-1)])) (by walk_at "mem")) (hasx (p := (texts, .lst [.str ""])) (by walk_at "mem")) (hasx (p := (attrs, .lst [.ref a1])) (by walk_at "mem")) (hasx (p := (names, .lst [.str ""])) (by walk_at "mem")) (hasx (p := (spaces, .lst [.str ""])) (by walk_at "mem")) (hasx (p := (kinds, .lst [.str "document"])) (by walk_at "mem"))
 ·intro a ow
  have : a ∈ [err, fit, sit, a2, a1, children, parents, texts, attrs, names, spaces, kinds] := by
   rcases ow with ⟨sl, l, hv, rfl⟩ | ha
   ·exact ZrF (Zfc (k := ⟨x, d, t, td, s, sd, f, fd, kinds, spaces, names, attrs, texts, parents, children, contents, sit, fit, err, ra, modes, owners, pending⟩) hv)
   ·refine rE (ZqI.mp ha) ?_; simp
  have key : ∀ {L : List (Addr × AO)}, Cre σ σ₂ L -> a ∈ L.map (·.1) -> σ a = none := fun c h => by
   refine o31 (ZqO.mp h) fun p hp y2 => ?_; subst y2
   exact c.fresh p hp
  exact key c21 (sub.mem this)
 ·intro b hb e
  have := c21.fresh (contents, .dct []) (by walk_at "mem")
  exact hb (e ▸ this)
end
section
variable {G : Glo} {Γ : Amb} {σ σ₀ : Sig} {m : Loc} {k : Cfg} {z : Var} {w : PW} {o i : Expr}
theorem ZiZ {a b : Int} (hb : b ≠ 0) : EvB G Γ σ m .Mod (.int a) (.int b) (.int (a.fmod b)) := fun A B Q ra rb q => Zqd hb ra rb q
theorem Zm3 {a b : Int} (hb : b ≠ 0) (hb2 : b.natAbs < 1073741824) : EvB G Γ σ m .FloorDiv (.int a) (.int b) (.int (a.fdiv b)) := fun A B Q ra rb q => by
 refine o21 ra fun t y1 => ?_; clear ra; subst y1
 refine o21 rb fun u y1 => ?_; clear rb; subst y1
 exact ZeF (av := .int (a.fdiv b)) (fun s Q' k => PyProof.Rows.floordiv_int hb (k _ _ ⟨_, rfl⟩) (.inl (PyProof.noPylong_small hb2))) q
theorem Zo9 {f : Value} {vs : List AV} {v : AV} (h : ∀ Q : AV -> Sig -> Loc -> Prop, (∀ σ', (∀ b o, σ b = some o -> σ' b = some o) -> Q v σ' m) -> FC G Γ f vs Q σ m) : EvF G Γ σ m f vs v := fun Q q us r =>
 ZbE (Zat (h (fun v' σ' m' => v' = v /\ m' = m /\ ∀ b o, σ b = some o -> σ' b = some o) (fun σ' up => ⟨rfl, rfl, up⟩) us r) fun b σ' m' hp => by
  refine o30 hp fun e1 e2 e3 => ?_; clear hp
  subst e1; subst e2
  exact e52 σ m' e3 (fun n_ n_ e => e) q)
noncomputable def Zmr (e : Ent) : PyData := .tuple [.str (Zad e.1), .list ((e.2.1.map Zad).map PyData.str), .list ((e.2.2.map Zad).map PyData.str)]
theorem ZmD {e : Ent} (h : okE e = true) : PyData.canLay0 (Zmr e) = true /\ PyData.depth (Zmr e) <= 2 := by
 unfold okE at h
 rw [Zri, Zri, decide_eq_true_eq] at h
 refine o20 h fun y0 h3 => ?_; clear h; (refine o20 y0 fun h1 h2 => ?_; clear y0)
 have f : ∀ {l : List Nat}, okL l = true -> PyData.canLay0 (.list ((l.map Zad).map PyData.str)) = true /\ PyData.depth (.list ((l.map Zad).map PyData.str)) <= 1 := fun {l} hl => by
  have a := SeqAt.canLay_of_shaped (ZaY _ (Zbx hl))
  refine ⟨a, ?_⟩
  rewrite [PyData.depth]; refine rE (depthAll_strs' _) ?_; exact ZqQ _
 refine o20 (f h2) fun a1 a2 => ?_
 refine o20 (f h3) fun b1 b2 => ?_
 constructor
 ·simp only [Zmr, PyData.canLay0, PyData.canLayAll0, ZcP h1, Zsq, Zsr] at a1 b1 ⊢
  refine rE a1 (rE b1 ?_); rfl
 ·simp only [Zmr, PyData.depth, PyData.depthAll] at a2 b2 ⊢
  omega
theorem Zf3 {es : List Ent} (h : es.all okE = true) : SeqAt.shaped (.list (es.map Zmr)) = true := by
 have f : PyData.canLayAll0 (es.map Zmr) = true /\ PyData.depthAll (es.map Zmr) <= 2 := by
  induction es with
  | nil => exact ⟨rfl, Zrq _⟩
  | cons e r ih =>
   rw [List.all_cons, Zri] at h
   refine o20 (ih h.2) fun i1 i2 => ?_
   refine o20 (ZmD h.1) fun j1 j2 => ?_
   refine ⟨by (refine rE ZqP ?_; rewrite [PyData.canLayAll0]; refine rE j1 (rE i1 ?_)); rfl, ?_⟩
   refine rE ZqP ?_; rw [PyData.depthAll]
   omega
 unfold SeqAt.shaped
 rewrite [PyData.canLay0]; refine rE f.1 ?_; rewrite [PyData.depth]; refine rE (Zsq _) (rE decide_eq_true_eq ?_)
 omega
theorem Zi3 {α : Type} {f : α -> PyData} (h : ∀ x, PyData.eqv (f x) (f x) = true) : ∀ l : List α, PyData.eqvAll (l.map f) (l.map f) = true := by
 refine @Zbg _ _ ?_ ?_
 ·exact rfl
 ·intro x r ih
  (refine rE ZqP ?_; rewrite [PyData.eqvAll]; refine rE (h _) (rE (ih) ?_)); rfl
theorem ZmM (es : List Ent) : PyData.eqv (.list (es.map Zmr)) (.list (es.map Zmr)) = true := by
 refine (?_ : PyData.eqvAll _ _ = true)
 refine Zi3 (fun e => ?_) es
 have f : ∀ l : List Nat, PyData.eqv (.list ((l.map Zad).map PyData.str)) (.list ((l.map Zad).map PyData.str)) = true := fun l => by
  refine (?_ : PyData.eqvAll _ _ = true)
  refine rE (Zed _ _) ?_; exact decide_eq_true rfl
 refine (?_ : PyData.eqvAll _ _ = true)
 rewrite [PyData.eqvAll, PyData.eqvAll, PyData.eqvAll]; refine rE (f _) (rE (f _) ?_)
 simp [PyData.eqv, PyData.eqvAll]
theorem ZlX {N : Addr -> Prop} {a : Addr} {rs : List Addr} {es : List Ent} (e : σ a = some (.lst (rs.map AV.ref))) (h : ToldR N σ rs es) : AD G σ (.ref a) (.list (es.map Zmr)) := by
 refine .lst (.inl e) ?_
 clear e
 induction h with
 | nil => exact .nil
 | cons t _ ih =>
  refine o62 t fun la lb h1 h2 h3 n_ => ?_; clear t
  rw [ZaW] at h2 h3
  exact .cons (.tup (.inl h1) (.cons (.str _) (.cons (.lst (.inl h2) (ADs.strs _)) (.cons (.lst (.inl h3) (ADs.strs _)) .nil)))) ih
structure LA (k : Cfg) (z : Var) (σ : Sig) (s : LS) (st td ta cl : Addr) : Prop where
 world : Zab k z σ s.w
 state : StateAt k z s.w σ st s.fs s.bs s.sp ta
 told : TL k z s.w σ ta s.told
 tags : σ td = some (.dct (ZbF s.tags))
 tdc : td ≠ k.contents
 cell : σ cl = some (.cel (some (.ref k.t)))
 small : s.fs.length <= LIM /\ s.bs.length <= LIM
theorem LA.cellStay {B : Addr -> Prop} {z' : Var} {w' : PW} {σ' : Sig} {s : LS} {st td ta cl : Addr} (a : LA k z σ s st td ta cl) (x : ExtB B k z s.w σ z' w' σ') (hB : ∀ b, B b -> ∀ v, σ b ≠ some (.cel v)) : σ' cl = some (.cel (some (.ref k.t))) :=
 x.keep _ _ a.cell (fun ow => by (refine o21 (a.world.own ow) fun l hl => ?_); exact clN rfl hl a.cell rfl) fun b => hB _ b _ a.cell
theorem LA.grow {σ' : Sig} {s : LS} {st td ta cl : Addr} (a : LA k z σ s st td ta cl) (up : ∀ b o, σ b = some o -> σ' b = some o) : LA k z σ' s st td ta cl := by
 have x : Zcr k z s.w σ z s.w σ' := Ext.more up
 have xb : ExtB (fun n_ => False) k z s.w σ z s.w σ' := ExtB.of x fun n_ q => q.elim
 exact ⟨a.world.mono up, a.state.ext a.world xb (fun n_ q => q.elim) fun n_ q => q.elim, a.told.ext a.world xb fun n_ q => q.elim, up _ _ a.tags, a.tdc, up _ _ a.cell, a.small⟩
theorem ZhQ {s s' : LS} {t : Tag} {c : Nat} (e : ZeJ s t c = some s') (h : s.fs.length <= LIM /\ s.bs.length <= LIM) : s'.fs.length <= LIM /\ s'.bs.length <= LIM /\ s'.told = s.told := by
 unfold ZeJ at e
 split at e
 ·exact nA e
 rename_i hg
 simp only [Zr8, not_or, decide_eq_true_eq, Zsw, Zsa, Zsi, ZsX] at hg
 refine o20 hg fun y0 hg4 => ?_; clear hg; (refine o20 y0 ?_; clear y0; intro y0 hg3; obtain ⟨hg1, hg2⟩ := y0)
 split at e
 ·split at e
  ·(replace e := sO e; subst e); exact ⟨h.1, h.2, rfl⟩
  ·refine bE e fun r n_ e => ?_
   (replace e := sO e; subst e)
   refine ⟨h.1, ?_, rfl⟩
   refine (?_ : (s.bs ++ [(t, c)]).length <= LIM)
   refine rE Zqu ?_; exact hg3
 ·split at e
  ·(replace e := sO e; subst e); exact ⟨h.1, h.2, rfl⟩
  ·refine bE e fun r n_ e => ?_
   refine bE e fun r n_ e => ?_
   split at e
   ·refine bE e fun r n_ e => ?_
    (replace e := sO e; subst e)
    refine ⟨?_, h.2, rfl⟩
    refine (?_ : (s.fs ++ [(t, c)]).length <= LIM)
    refine rE Zqu ?_; exact hg4
   ·(replace e := sO e; subst e); exact ⟨h.1, h.2, rfl⟩
theorem Zm6 (l : List (Tag × Nat)) (t : Tag) : (upTo l t).length <= l.length := by
 unfold upTo
 split
 ·exact ZqQ _
 ·refine rE ZrY ?_; exact Nat.min_le_right _ _
theorem ZiI (l : List (Tag × Nat)) (t : Tag) : (without l t).length <= l.length := by
 unfold without
 split
 ·exact ZqQ _
 ·exact List.length_eraseIdx_le _ _
theorem ZkF {s s' : LS} {t : Tag} (e : ZnH s t = some s') (h : s.fs.length <= LIM /\ s.bs.length <= LIM) : s'.fs.length <= LIM /\ s'.bs.length <= LIM /\ s'.told = s.told /\ s'.tags = s.tags := by
 unfold ZnH at e
 split at e
 ·split at e
  ·refine bE e fun r n_ e => ?_
   (replace e := sO e; subst e)
   exact ⟨h.1, Zrj (Zm6 _ _) h.2, rfl, rfl⟩
  ·(replace e := sO e; subst e); exact ⟨h.1, h.2, rfl, rfl⟩
 ·refine bE e fun r n_ e => ?_
  (replace e := sO e; subst e)
  exact ⟨Zrj (ZiI _ _) h.1, h.2, rfl, rfl⟩
theorem ZiM {s s' : LS} {c : Nat} (e : Zf6 s c = some s') : s'.fs = s.fs /\ s'.bs = s.bs /\ s'.tags = s.tags /\ s'.sp = s.sp := by
 unfold Zf6 at e
 split at e
 case isFalse => exact nA e
 refine bE e fun r n_ e => ?_
 refine bE e fun r n_ e => ?_
 (replace e := sO e; subst e)
 exact ⟨rfl, rfl, rfl, rfl⟩
variable {s s' : LS} {st td ta cl : Addr} {t : Tag} {c : Nat}
theorem ZmY (hK : Is G) (rm : Γ.Room 6) (a : LA k z σ s st td ta cl) (ht : t.isB = true \/ t.isF = true \/ t = .span) (e : ZeJ s t c = some s') {Q : AV -> Sig -> Loc -> Prop} (q : ∀ r z' σ', LA k z' σ' s' r td ta cl -> (∀ b es, b ≠ td -> σ b = some (.dct es) -> σ' b = some (.dct es)) -> Q (.ref r) σ' m) : FC G Γ (.ref 607) [.ref k.b, .str t.str, .str (Zad c), .ref st, .ref td] Q σ m := by
 refine o20 a.told fun y0 hno => ?_; (refine o31 y0 fun rt hta n_ => ?_; clear y0)
 refine Zmm hK a.world rm a.state hta hno a.tags a.tdc ht e fun r z' σ' h' x st' td' => q r z' σ' ?_ fun b es hb eb => x.keep _ _ eb (fun ow => by (refine o21 (a.world.own ow) fun l hl => ?_); exact clN rfl hl eb rfl) hb
 refine o30 (ZhQ e a.small) fun m1 m2 m3 => ?_
 refine ⟨h', st', ?_, td', a.tdc, a.cellStay x (fun b e v q => by exact clN e q a.tags rfl), ⟨m1, m2⟩⟩
 refine rE m3 ?_
 exact a.told.ext (B := (· = td)) a.world x fun b (e : b = td) => ⟨(fun l q => by exact clN e q a.tags rfl), (fun l q => by exact clN e q a.tags rfl)⟩
theorem ZpL (hK : Is G) (rm : Γ.Room 7) (a : LA k z σ s st td ta cl) (e : ZnH s t = some s') {Q : AV -> Sig -> Loc -> Prop} (q : ∀ r z' σ', LA k z' σ' s' r td ta cl -> Q (.ref r) σ' m) : FC G Γ (.ref 612) [.ref k.b, .str t.str, .ref st] Q σ m := by
 refine o20 a.told fun y0 hno => ?_; (refine o31 y0 fun rt hta n_ => ?_; clear y0)
 refine ZiV hK a.world rm a.state hta hno a.small e fun r z' σ' h' x st' => q r z' σ' ?_
 refine o40 (ZkF e a.small) fun m1 m2 m3 m4 => ?_
 have xb : ExtB (fun n_ => False) k z s.w σ z' s'.w σ' := ExtB.of x fun n_ q => q.elim
 refine ⟨h', st', ?_, ?_, a.tdc, a.cellStay xb (fun n_ q => q.elim), ⟨m1, m2⟩⟩
 ·refine rE m3 ?_; exact a.told.ext a.world xb fun n_ q => q.elim
 ·refine rE m4 ?_; exact Zb3 a.world x a.tags (AO.nl rfl)
theorem Zlu (hK : Is G) (rm : Γ.Room 6) (a : LA k z σ s st td ta cl) (e : Zf6 s c = some s') {Q : AV -> Sig -> Loc -> Prop} (q : ∀ z' σ', LA k z' σ' s' st td ta cl -> Q .none σ' m) : FC G Γ (.ref 617) [.ref k.b, .str (Zad c), .ref st, .ref ta] Q σ m := by
 refine o20 (id a.told) fun y0 hno => ?_; (refine o31 y0 fun rt hta n_ => ?_; clear y0)
 refine Zm1 hK a.world rm a.state a.told a.small e fun z' σ' h' x t' => q z' σ' ?_
 refine o40 (ZiM e) fun m1 m2 m3 m4 => ?_
 refine ⟨h', ?_, t', ?_, a.tdc, a.cellStay x (fun b e v q => by exact clN e q hta rfl), by (refine rE m1 (rE m2 ?_)); exact a.small⟩
 ·refine rE m1 (rE m2 (rE m4 ?_))
  exact a.state.ext a.world x (fun b e l q => by exact clN e q hta rfl) fun b e => .inl e
 ·refine rE m3 ?_
  exact x.keep _ _ a.tags (fun ow => by (refine o21 (a.world.own ow) fun l hl => ?_); exact clN rfl hl a.tags rfl) fun q => by have := a.tags; rw [q, hta] at this; cases this
end
section
variable {G : Glo} {Γ : Amb} {σ σ₀ : Sig} {m : Loc} {k : Cfg} {z : Var} {w : PW} {o i : Expr}
noncomputable def ZnM (j : Nat) : Int := usualL.getD j 0
noncomputable def ZnI (ns : List Int) (j : Nat) : Int := if j < ns.length then ns.getD j 0 else ZnM j
noncomputable def dOf (ns : List Int) (j : Nat) : Nat := (ZnI ns j % 36).toNat
theorem ZpD {ns : List Int} {j : Nat} (h : j < 16) : (if j < ns.length then ns[j]? else usualL[j]?) = some (ZnI ns j) := by
 unfold ZnI ZnM
 split
 ·rename_i q
  refine rE ZqE (rE (ZqA q) ?_); rfl
 ·refine rE ZqE ?_
  have : j < usualL.length := h
  refine rE (ZqA this) ?_; rfl
theorem Zm7 (ns : List Int) (j : Nat) : (ZnI ns j).fmod 6 = ((dOf ns j % 6 : Nat) : Int) := by
 rw [ZrE _ (by decide)]; exact dgm _ 6 (by decide)
theorem Zl9 (ns : List Int) (j : Nat) : (ZnI ns j).fmod 12 = ((dOf ns j % 12 : Nat) : Int) := by
 rw [ZrE _ (by decide)]; exact dgm _ 12 (by decide)
theorem ZoK (ns : List Int) (j : Nat) : ((ZnI ns j).fdiv 12).fmod 3 = ((dOf ns j / 12 % 3 : Nat) : Int) := by
 rw [ZrE _ (by decide), Int.fdiv_eq_ediv_of_nonneg _ (by decide)]; exact dgd _
theorem ZpR (d : Nat) : allN[d % 6]? = some (ZdK d).str /\ ((ZdK d).isB = true \/ (ZdK d).isF = true \/ ZdK d = .span) := by
 unfold ZdK
 have : d % 6 < 6 := Nat.mod_lt _ (by decide)
 generalize d % 6 = e at this
 match e, this with
 | 0, _ => exact ⟨rfl, .inr (.inl rfl)⟩
 | 1, _ => exact ⟨rfl, .inr (.inl rfl)⟩
 | 2, _ => exact ⟨rfl, .inr (.inl rfl)⟩
 | 3, _ => exact ⟨rfl, .inl rfl⟩
 | 4, _ => exact ⟨rfl, .inl rfl⟩
 | 5, _ => exact ⟨rfl, .inr (.inr rfl)⟩
theorem WorldZ.setCel {wd : Wd} (h : WorldZ k z σ wd) {d : Addr} {v v' : Option AV} (e : σ d = some (.cel v)) : WorldZ k z (σ.set d (.cel v')) wd := by
 have ne : ∀ {a : Addr} {o : AO}, σ a = some o -> o.isC = false -> (σ.set d (.cel v')) a = some o := fun {a o} e1 n => by
  rw [Sig.set_ne (fun q => by rw [q, e] at e1; (replace e1 := sO e1; subst e1); injection n)]; exact e1
 refine ⟨⟨ne h.fix.b rfl, ne h.fix.bd rfl, ne h.fix.t rfl, ne h.fix.td rfl, ne h.fix.s rfl, ne h.fix.sd rfl, ne h.fix.f rfl, ne h.fix.fd rfl, ne h.fix.contents rfl⟩, fun sl l q => ne (h.obj sl l q) rfl, h.inj, h.lk, h.la, h.le, fun i a c q1 q2 => ?_, h.small⟩
 refine o20 (h.att i a c q1 q2) fun r1 r2 => ?_
 refine ⟨?_, r2⟩
 induction c with
 | none => exact ne (o := .lst []) r1 rfl
 | some c => (refine o31 r1 fun p h1 h2 => ?_; clear r1); exact e31 p (ne h1 rfl) (ne h2 rfl)
theorem Zmu {xs : List Str} : ∀ {ns ls : List Nat}, Zjt w xs ns = some ls -> ns.filter (ltT w xs) = ls /\ ∀ n ∈ ns, ∃ d, w.nd[n]? = some d := by
 refine @Zbv _ _ ?_ ?_
 ·intro ls h
  (replace h := sO h; subst h); exact ⟨rfl, noM⟩
 ·intro n r ih ls h
  refine bE h fun d hd h => ?_
  refine bE h fun l' hl h => ?_
  refine o20 (ih hl) fun i1 i2 => ?_
  have h := ZqC h
  refine ⟨?_, fun n' hn => ?_⟩
  ·by_cases hx : d.name ∈ xs
   ·rw [if_pos hx] at h
    refine rE Zq7 ?_; rewrite [if_pos (by unfold ltT; refine rE hd ?_; exact decide_eq_true hx)]; refine rE i1 ?_; exact h
   ·rw [if_neg hx] at h
    refine rE Zq7 ?_; rewrite [if_neg (by unfold ltT; refine rE hd ?_; simpa using hx)]; refine rE i1 ?_; exact h
  ·rcases ZqD.mp hn with rfl | hn
   ·exact ⟨_, hd⟩
   ·exact i2 _ hn
theorem Zl3 {root body : Nat} {s : LS} {qb : Bool} {sn : List Nat} {ot : List Ent} (h : Zh1 root body s (qb, sn, ot) = some true) :
  qb = true /\ s.w.ch[0]? = some [root] /\ s.w.ch[root]? = some [body] /\ ot = s.told /\ s.told.all okE = true /\ s.tags.length < 64 /\ okL (s.tags.map (·.1)) = true /\ okL (s.fs.map (·.2)) = true /\ okL (s.bs.map (·.2)) = true /\ sn.length <= LIM /\ s.fs.length <= LIM /\ s.bs.length <= LIM /\ s.told.length <= LIM /\
  ∃ la lp, ZaB s.w allN sn = some la /\ ZaB s.w plainN sn = some lp /\ Zjt s.w fN s.w.st = some s.w.fm /\ ZaB s.w fN s.w.fm = some (s.fs.map (·.2)) /\ ZaB s.w bN s.w.st = some (s.bs.map (·.2)) /\ Zbd [] la = Za3 (s.tags.map (·.1)) /\ lp = Zf7 s.tags /\ Znt s.w 0 s.w.st = true /\ s.w.st.take 2 = [root, body] := by
 unfold Zh1 at h
 split at h
 case isFalse => cases h
 rename_i c
 refine o80 c fun c1 c2 c3 c4 c5 c6 c7 r7 => ?_; clear c; refine o60 r7 fun c8 c9 c10 c11 c12 c13 => ?_; clear r7
 refine bE h fun la e1 h => ?_
 refine bE h fun lp e2 h => ?_
 refine bE h fun ff e3 h => ?_
 refine bE h fun lf e4 h => ?_
 refine bE h fun lb e5 h => ?_
 have h := ZqC h
 simp only [Zri, decide_eq_true_eq] at h
 refine o20 h fun y0 d7 => ?_; clear h; (refine o20 y0 ?_; clear y0; intro y0 d6; obtain ⟨⟨⟨⟨d1, d2⟩, d3⟩, d4⟩, d5⟩ := y0)
 subst d5; subst d6; subst d7
 exact ⟨c1, c2, c3, c4, c5, c6, c7, c8, c9, c10, c11, c12, c13, la, lp, e1, e2, e3, e4, e5, d1, d2, d3, d4⟩
theorem Zij {e x : Expr} {p pos : Pos} {a : Addr} {l : List Nat} {n : Nat} (he : Ev G Γ σ m e (.ref a)) (hx : Ev G Γ σ m x (.int n)) (hl : Sees G σ a (.lst (l.map nv))) (hst : starEach [x] Γ.env = (false, eval x Γ.env) :: starEach [] Γ.env) (hm : behindInMarks .NotEq (.List [x] p) = false) : EvT G Γ σ m (.Compare e [.NotEq] [.List [x] p] pos) (!decide (l = [n])) := fun Q q =>
 ZbE (ZbI (he _ (Zf1 (Zac (hx _ (Zap (Zrb Ze4 fun b hb A B ra rb => ZkB (.lst (hl.mono (Zaa hb)) (ADs.nats l)) (.lst (.inl Sig.set_self) (ADs.nats [n])) (ZaP l) (ZaP [n]) ra rb ⟨_, rfl, σ, m, Zaa hb, fun n_ n_ e => e, by
  refine rE (Zd7 _ _) ?_; exact q⟩))) hst))) hm)
theorem Zqr : (("Q" : Str)) = Zad 81 := by kernel_rfl
theorem ZjN (l : List Nat) : PyData.eqv (.list ((l.map Zad).map PyData.str)) (.list ((l.map Zad).map PyData.str)) = true := by
 refine (?_ : PyData.eqvAll _ _ = true)
 refine rE (Zed _ _) ?_; exact decide_eq_true rfl
theorem ZgU (ps : List (Tag × Nat)) : (ps.map fun p => if true = true then Zad p.2 else p.1.str) = (ps.map (·.2)).map Zad := by refine rE ZqV ?_; rfl
noncomputable def Zqm (G : Glo) (a : Addr) (d : Nat) : Prop := ∀ {name qual : Str} {params : Arguments} {body : List Stmt} {scope : Scope} {dV kV doc pm cdv ct oc : Value} {an od : Option Addr} {osl : Array (Option Value)},
 G.K.lookup 653 = some ⟨oc, od, .func (fnOf name qual params body scope dV kV doc pm an cdv ct), osl⟩ -> ∀ (r : Rm) (f : Addr) (cdv' : Value), (ofC qual scope f cdv' r).Room d ->
  W G (ofC qual scope f cdv' r) FRl (execs body (Amb.env (ofC qual scope f cdv' r))) (fun fl n_ n_ => Zgj fl = .bool true) (Sig.set (fun n_ => none) (r.L + 1) (.cel none)) [("script", .ref a)]
theorem Znc {a : Addr} {d : Nat} {name qual : Str} {params : Arguments} {body : List Stmt} {scope : Scope} {dV kV doc pm cdv ct oc : Value} {an od : Option Addr} {osl : Array (Option Value)}
  (ho : G.K.lookup 653 = some ⟨oc, od, .func (fnOf name qual params body scope dV kV doc pm an cdv ct), osl⟩)
  (h : ∀ (r : Rm) (f : Addr) (cdv' : Value), (ofC qual scope f cdv' r).Room d ->
  W G (ofC qual scope f cdv' r) FRl (execs body (Amb.env (ofC qual scope f cdv' r))) (fun fl n_ n_ => Zgj fl = .bool true) (Sig.set (fun n_ => none) (r.L + 1) (.cel none)) [("script", .ref a)]) : Zqm G a d := fun ho' => by
 have e := ZqC (ho.symm.trans ho')
 injection e with e1 e2 e3 e4
 injection e3 with e3
 have eb := congrArg FuncData.body e3
 have es := congrArg FuncData.scope e3
 have eq' := congrArg FuncData.qualname e3
 dsimp only [fnOf] at eb es eq'
 injection eb
 subst_vars
 exact h
theorem Zm5 {a : Addr} {ns : List Int} (hK : Is G) (hst : G.st a = some (.lst (ns.map AV.int))) (hz : ns.length <= sizeLine) (hl : ZpY (dOf ns) = some true) : Zqm G a 50 := by
 refine Znc (Is.lk hK (by rfl)) ?_
 intro rj f cdv rm
 have hc : (Sig.set (fun n_ => none) (rj.L + 1) (.cel none)) (rj.L + 1) = some (.cel none) := Sig.set_self
 generalize (Sig.set (fun n_ => none) (rj.L + 1) (.cel none)) = σ at hc ⊢
 refine bE hl fun y0 hini hl => ?_; obtain ⟨root, body, w0⟩ := y0
 refine bE hl fun s1 hsteps hl => ?_
 refine bE hl fun s2 hsig hl => ?_
 refine bE hl fun y0 hread hl => ?_; obtain ⟨qb, sn, ot⟩ := y0
 refine bE hini fun y0 hi1 hini => ?_; obtain ⟨r1, w1⟩ := y0
 refine bE hini fun w2 hi2 hini => ?_
 refine bE hini fun w3 hi3 hini => ?_
 refine bE hini fun y0 hi4 hini => ?_; obtain ⟨b1, w4⟩ := y0
 cases hini
 dsimp only at *
 -- builder
 refine Zan (Zax (Zay (Zmf hK) (hK.keep (by kernel_rfl)) (Zac (Zjd fun ra hra => Zap ?_) (by rfl)) (by rfl) (by rfl) (by decide)) (by rfl) (by rfl))
 have u0 := Zaa (o := .dct []) hra
 have hc0 := u0 _ _ hc
 generalize σ.set ra (.dct []) = σ₁ at u0 hc0 ⊢
 refine ZiT hK (by walk_at "rm") fun k z σ₂ h₂ u2 own2 con2 => ?_
 have hc2 := u2 _ _ hc0
 -- tree
 refine Zan (Zhg ((show Ev G _ σ₂ _ _ (.ref k.t) by walk_at "ev") _ fun u ru => Zfy (v := .ref k.t) (c := rj.L + 1) ru (by rfl) hc2 ?_ (by rfl)) (by rfl))
 have h₃ : Zab k z (σ₂.set (rj.L + 1) (.cel (some (.ref k.t)))) ZeO := h₂.setCel hc2
 have hc3 : (σ₂.set (rj.L + 1) (.cel (some (.ref k.t)))) (rj.L + 1) = some (.cel (some (.ref k.t))) := Sig.set_self
 generalize σ₂.set (rj.L + 1) (.cel (some (.ref k.t))) = σ₃ at h₃ hc3 ⊢
 -- root
 refine Zcn (Zak (by walk_at "ev") (by walk_at "meth") (vs := [.str "html"]) (by walk_at "eva") (Ze0 (t := .html) (c := none) (at_ := 412) (l := []) hK h₃ (by walk_at "rm") (.inr hK.s412) rfl hi1 (dv := [.str "html", .ref 412]) (ds := [.str "html" 746, .ref 412]) rfl (.cons ⟨_, rfl⟩ (.cons rfl .nil)) (by walk_at "bindsAt")) (by rfl) (by rfl)) (fun zd σ₄ h₄ xd => ?_) (by rfl) (by rfl)
 have hc4 := Zb3 h₃ xd hc3 (AO.nl rfl)
 refine Zal (Zak (by walk_at "ev") (by walk_at "meth") (vs := [.int 0, .int r1]) (by walk_at "eva") (by exact ZbZ (p := 0) hK h₄ (by walk_at "rm") hi2) (by rfl) (by rfl)) (fun ze σ₅ h₅ xe => ?_) (by rfl) (by rfl)
 have hc5 := Zb3 h₄ xe hc4 (AO.nl rfl)
 refine Zal (Zak (by walk_at "ev") (by walk_at "meth") (vs := [.int r1]) (by walk_at "eva") (ZgM hK h₅ (by walk_at "rm") hi3) (by rfl) (by rfl)) (fun zg σ6 h₆ x6 => ?_) (by rfl) (by rfl)
 have hc6 := Zb3 h₅ x6 hc5 (AO.nl rfl)
 refine Zcn (ZaU (Za4 hK) (Za6 hK) (vs := [.ref k.b, .str "body"]) (by walk_at "eva") (by exact ZfU (t := .body) hK h₆ (by walk_at "rm") hi4) (by rfl) (by rfl) (by decide)) (fun zf σ₇ h₇ xf => ?_) (by rfl) (by rfl)
 have hc7 := Zb3 h₆ xf hc6 (AO.nl rfl)
 clear h₂ h₃ h₄ h₅ h₆ xd xe x6 xf hc2 hc3 hc4 hc5 hc6 u2 own2 con2 u0 hc0
 -- tags, told, state
 refine Zan (Zax (Zjd fun td htd => ?_) (by rfl) (by rfl))
 have u8 := Zaa (o := .dct []) htd
 have td8 : (σ₇.set td (.dct [])) td = some (.dct []) := Sig.set_self
 generalize σ₇.set td (.dct []) = σ₈ at u8 td8 ⊢
 refine Zan (Zax (ZbS fun ta hta => ?_) (by rfl) (by rfl))
 have u9 := Zaa (o := .lst []) hta
 have ta9 : (σ₈.set ta (.lst [])) ta = some (.lst []) := Sig.set_self
 generalize σ₈.set ta (.lst []) = σ₉ at u9 ta9 ⊢
 refine Zan (Zax (ZaE (Zac (ZbS fun fa hfa => Zac (ZbS fun ba hba => Zac (ZcH _ (Zap (Zrb Ze1 fun st hst' => ?_))) (by rfl)) (by rfl)) (by rfl))) (by rfl) (by rfl))
 have u10 := Zaa (o := .lst []) hfa
 have u11 := Zaa (o := .lst []) hba
 have fa10 : (σ₉.set fa (.lst [])) fa = some (.lst []) := Sig.set_self
 have ba11 : ((σ₉.set fa (.lst [])).set ba (.lst [])) ba = some (.lst []) := Sig.set_self
 have u12 := Zaa (o := .tup [.ref fa, .ref ba, .int 0]) hst'
 have st12 : (((σ₉.set fa (.lst [])).set ba (.lst [])).set st (.tup [.ref fa, .ref ba, .int 0])) st = some (.tup [.ref fa, .ref ba, .int 0]) := Sig.set_self
 have nfa : fa ≠ ta := fun q => by rw [q, ta9] at hfa; exact nB hfa
 have nba : ba ≠ ta := fun q => by rw [q, u10 _ _ ta9] at hba; exact nB hba
 have up : ∀ b o, σ₇ b = some o -> (((σ₉.set fa (.lst [])).set ba (.lst [])).set st (.tup [.ref fa, .ref ba, .int 0])) b = some o := fun b o e => u12 _ _ (u11 _ _ (u10 _ _ (u9 _ _ (u8 _ _ e))))
 have fresh : ∀ b, σ₇ b = none -> ¬ Own k zf (mk w4) b := fun b e ow => by (refine o21 (h₇.own ow) fun l hl => ?_); rw [e] at hl; exact nA hl
 have old : ∀ {b : Addr} {τ : Sig}, (∀ b o, σ₇ b = some o -> τ b = some o) -> τ b = none -> σ₇ b = none := fun {b τ} u e => by
  induction q : σ₇ b with
  | none => rfl
  | some o => rw [u _ _ q] at e; exact nB e
 have la0 : LA k zf (((σ₉.set fa (.lst [])).set ba (.lst [])).set st (.tup [.ref fa, .ref ba, .int 0])) ⟨w4, [], [], 0, [], []⟩ st td ta (rj.L + 1) := by
  refine ⟨h₇.mono up, ⟨fa, ba, st12, ⟨⟨[], u12 _ _ (u11 _ _ fa10), .nil⟩, fresh _ (old (fun b o e => u9 _ _ (u8 _ _ e)) hfa)⟩, ⟨⟨[], u12 _ _ ba11, .nil⟩, fresh _ (old (fun b o e => u10 _ _ (u9 _ _ (u8 _ _ e))) hba)⟩, nfa, nba⟩, ⟨⟨[], u12 _ _ (u11 _ _ (u10 _ _ ta9)), .nil⟩, fresh _ (old u8 hta)⟩, u12 _ _ (u11 _ _ (u10 _ _ (u9 _ _ td8))), fun q => ?_, up _ _ hc7, Zrq _, Zrq _⟩
  have := h₇.fix.contents
  rw [<- q, htd] at this; exact nA this
 generalize ((σ₉.set fa (.lst [])).set ba (.lst [])).set st (.tup [.ref fa, .ref ba, .int 0]) = σ₁₂ at la0 ⊢
 clear u8 u9 u10 u11 u12 st12 up fresh old fa10 ba11 td8 ta9 hfa hba hst' hta htd nfa nba hc7 h₇
 -- the loop
 refine Zgu (fun σ' m' => ∃ z st, LA k z σ' s1 st td ta (rj.L + 1) /\ HasL [("builder", .ref k.b), ("root", .int r1), ("body", .int b1), ("tags", .ref td), ("told", .ref ta), ("state", .ref st)] m') (Zce (Zdu hK) (by rfl) (by decide) ((show EvA G _ σ₁₂ _ _ _ [.int (16 : Nat)] from Zas ZcH Zbc (by rfl)) _ (ZdU fun rr hr => ?_)) (by rfl) (by rfl) (by decide)) (fun σ' m' hh => ?_) (by rfl) (by intro n_; rfl)
 ·have ur := Zaa (o := .rng 0 (16 : Nat) 1) hr
  have la1 : LA k zf (σ₁₂.set rr (.rng 0 (16 : Nat) 1)) ⟨w4, [], [], 0, [], []⟩ st td ta (rj.L + 1) := la0.grow ur
  refine ⟨16, fun i => .int i, fun n_ => True, fun i σ' m' => ∃ z st s, LA k z σ' s st td ta (rj.L + 1) /\ Zig (16 - i) i s (dOf ns) = some s1 /\ HasL [("script", .ref a), ("builder", .ref k.b), ("root", .int r1), ("body", .int b1), ("tags", .ref td), ("told", .ref ta), ("state", .ref st)] m', fun u ru => ?_, ⟨zf, st, _, la1, hsteps, rfl, rfl, rfl, rfl, rfl, rfl, rfl, trivial⟩, fun n_ n_ n_ n_ => trivial, fun i σ' m' hi hh => ?_, fun σ' m' hh => ?_⟩
  ·subst ru
   exact ZoT Sig.set_self (by refine rE sizeLine_eq ?_; decide)
  ·refine o63 hh fun z st s la e hm => ?_; clear hh
   refine (?_ : W G _ FRl _ _ σ' (put "k" (.int i) m'))
   rw [show 16 - i = (16 - (i + 1)) + 1 from sB hi] at e
   refine bE e fun s' e1 e2 => ?_
   refine Zbb (l := [("k", .int i), ("script", .ref a), ("builder", .ref k.b), ("root", .int r1), ("body", .int b1), ("tags", .ref td), ("told", .ref ta), ("state", .ref st)]) ⟨rfl, hm.1, hm.2.1, hm.2.2.1, hm.2.2.2.1, hm.2.2.2.2.1, hm.2.2.2.2.2.1, hm.2.2.2.2.2.2.1, trivial⟩ ?_
   have hdl : (allN.map AV.str).length <= sizeLine := by refine rE sizeLine_eq ?_; exact of_decide_eq_true (by kernel_rfl)
   refine o20 (ZpR (dOf ns i)) fun ht1 ht2 => ?_
   have m6 := Zm7 ns i
   have m12 := Zl9 ns i
   have mdv := ZoK ns i
   unfold Zmz at e1
   refine ZaS (v := .int (ZnI ns i)) (Zcw (vs := [.ref a, .int i]) (Zfr hK) (Zf4 hK) (by walk_at "eva") (Zls hK (by walk_at "rm") (.inr hst) hz (ZpD hi)) (by rfl) (by rfl) (by decide)) ?_ (by rfl) (by rfl)
   generalize ZnI ns i = dg at m6 m12 mdv ⊢
   generalize dOf ns i = dn at m6 m12 mdv ht1 ht2 e1 ⊢
   refine Zan (Zax (ZnU (ZaE ((show EvA G _ σ' _ _ _ (allN.map AV.str) from ZbW (by rfl) (by rfl)) _ (Zrb hdl fun tp htp => ?_)))) (by rfl) (by rfl))
   have la2 := la.grow (Zaa (o := .tup (allN.map AV.str)) htp)
   have htp2 : (σ'.set tp (.tup (allN.map AV.str))) tp = some (.tup (allN.map AV.str)) := Sig.set_self
   generalize σ'.set tp (.tup (allN.map AV.str)) = σ₂ at la2 htp2 ⊢
   refine (show Ev G _ σ₂ _ _ (.int ((dn % 6 : Nat) : Int)) from Zcf (ZgA (by walk_at "ev") ZcH (ZiZ (by decide))) (congrArg AV.int m6)) _ fun A B ra rb => Zhq (.inl htp2) hdl (Zbm AV.str ht1) (by intro n_ n_; walk_at "u") A B _ ra rb ?_
   suffices H : ∀ za σ₁ r sA, LA k za σ₁ sA r td ta (rj.L + 1) -> (if dn / 12 % 3 ≠ 1 then Zf6 sA (65 + i) else some sA) = some s' -> _ from by
    refine Za8 (b := decide (dn % 12 < 6)) (Zai (Zbt (ZgA (by walk_at "ev") ZcH (ZiZ (by decide))) ZcH (ZdG rfl) (by walk_at "u")) (by (refine rE Zgc (rE m12 ?_)); exact decide_eq_decide.mpr (cLt _ 6))) (fun hb => ?_) (fun hb => ?_)
    ·rw [if_pos (of_decide_eq_true hb)] at e1
     refine bE e1 fun sA eA e3 => ?_
     refine Zan (Zax (Zay (Zgi hK) (Zfz hK) ((show EvA G _ σ₂ _ _ _ [.ref k.b, .str (ZdK dn).str, .str (Zad (97 + i)), .ref st, .ref td] from Zas (by walk_at "ev") (Zas (by walk_at "ev") (Zas (ZbC (id := "chr") (vs := [.int ((97 + i : Nat) : Int)]) (Zpe hK) (by rfl) (by decide) (Zas (Zcf (v := .int (97 + (i : Int))) (by walk_at "ev") (congrArg AV.int (by omega))) Zbc (by rfl)) (ZlD (by omega)) (by rfl) (by rfl) (by decide)) (Zas (by walk_at "ev") (Zas (by walk_at "ev") Zbc (by rfl)) (by rfl)) (by rfl)) (by rfl)) (by rfl)) _ (ZmY hK (by walk_at "rm") la2 ht2 eA fun r zc σ₃ la3 n_ => ?_)) (by rfl) (by rfl) (by decide)) (by rfl) (by rfl))
     exact Zah (H zc σ₃ r sA la3 e3)
    ·rw [if_neg (of_decide_eq_false hb)] at e1
     refine bE e1 fun sA eA e3 => ?_
     refine Zan (Zax (Zay (ZhZ hK) (ZhM hK) ((show EvA G _ σ₂ _ _ _ [.ref k.b, .str (ZdK dn).str, .ref st] by walk_at "eva") _ (ZpL hK (by walk_at "rm") la2 eA fun r zc σ₃ la3 => ?_)) (by rfl) (by rfl) (by decide)) (by rfl) (by rfl))
     exact Zah (H zc σ₃ r sA la3 e3)
   intro za σ₁ r sA la3 e3
   refine Za8 (b := decide (dn / 12 % 3 ≠ 1)) (Zai (Zbt (ZgA (ZgA (by walk_at "ev") ZcH (Zm3 (by decide) (by decide))) ZcH (ZiZ (by decide))) ZcH (ZdG rfl) (by walk_at "u")) (by (refine rE Zbp (rE mdv ?_)); exact decide_eq_decide.mpr (cNe _ 1))) (fun hb => ?_) (fun hb => Zah ?_)
   ·rw [if_pos (of_decide_eq_true hb)] at e3
    refine Zcm (Zay (Zek hK) (Zet hK) ((show EvA G _ σ₁ _ _ _ [.ref k.b, .str (Zad (65 + i)), .ref r, .ref ta] from Zas (by walk_at "ev") (Zas (ZbC (id := "chr") (vs := [.int ((65 + i : Nat) : Int)]) (Zpe hK) (by rfl) (by decide) (Zas (Zcf (v := .int (65 + (i : Int))) (by walk_at "ev") (congrArg AV.int (by omega))) Zbc (by rfl)) (ZlD (by omega)) (by rfl) (by rfl) (by decide)) (Zas (by walk_at "ev") (Zas (by walk_at "ev") Zbc (by rfl)) (by rfl)) (by rfl)) (by rfl)) _ (Zlu hK (by walk_at "rm") la3 e3 fun zd σ₄ la4 => ?_)) (by rfl) (by rfl) (by decide)) (by rfl) (by rfl)
    refine Zah ?_
    exact Zah ⟨zd, r, s', la4, e2, rfl, rfl, rfl, rfl, rfl, rfl, rfl, trivial⟩
   ·rw [if_neg (of_decide_eq_false hb)] at e3
    (replace e3 := sO e3; subst e3)
    exact Zah ⟨za, r, _, la3, e2, rfl, rfl, rfl, rfl, rfl, rfl, rfl, trivial⟩
  ·refine o63 hh fun z st s la e hm => ?_; clear hh
   (replace e := sO e; subst e)
   exact e42 z st la hm.2
 refine o42 hh fun z st la hm => ?_; clear hh
 refine Zbb hm ?_
 refine o80 (Zl3 hl) fun y0 c2 c3 y3 c5 c6 c7 r7 => ?_; subst y0; subst y3; refine o70 r7 fun c8 c9 c10 c11 c12 c13 r6 => ?_; clear r7; refine o82 r6 fun l1 l2 e1 e2 e3 e4 e5 r7 => ?_; clear r6; refine o40 r7 fun d1 d2 d3 d4 => ?_; clear r7
 clear hl hsteps hm
 refine Zcm (Zay (Zek hK) (Zet hK) ((show EvA G _ σ' _ _ _ [.ref k.b, .str (Zad 81), .ref st, .ref ta] from Zas (by walk_at "ev") (Zas (Zcf ZeS (congrArg AV.str Zqr)) (Zas (by walk_at "ev") (Zas (by walk_at "ev") Zbc (by rfl)) (by rfl)) (by rfl)) (by rfl)) _ (Zlu hK (by walk_at "rm") la hsig fun z σ₀ la => ?_)) (by rfl) (by rfl) (by decide)) (by rfl) (by rfl)
 clear hsig
 refine Zan (Zax (ZbS fun sa hsa => ?_) (by rfl) (by rfl))
 have u1 := Zaa (o := .lst []) hsa
 have sa1 : (σ₀.set sa (.lst [])) sa = some (.lst []) := Sig.set_self
 generalize σ₀.set sa (.lst []) = σ₁ at u1 sa1 ⊢
 refine Zan (Zax (ZbS fun oa hoa => ?_) (by rfl) (by rfl))
 have u2 := Zaa (o := .lst []) hoa
 have oa2 : (σ₁.set oa (.lst [])) oa = some (.lst []) := Sig.set_self
 generalize σ₁.set oa (.lst []) = σ₂ at u2 oa2 ⊢
 have u02 : ∀ b o, σ₀ b = some o -> σ₂ b = some o := fun b o e => u2 _ _ (u1 _ _ e)
 have nso : sa ≠ oa := fun q => by rw [<- q, sa1] at hoa; exact nB hoa
 have hoa0 : σ₀ oa = none := by
  induction q : σ₀ oa with
  | none => rfl
  | some o => rw [u1 _ _ q] at hoa; exact nB hoa
 have fresh : ∀ b, σ₀ b = none -> ¬ Own k z (mk s2.w) b := fun b e ow => by (refine o21 (la.world.own ow) fun l hl => ?_); rw [e] at hl; exact nA hl
 have h2 : Zab k z σ₂ s2.w := la.world.mono u02
 have tc2 := u02 _ _ la.cell
 have rs : RS k z s2.w s2.tags td sa oa σ₂ [] [] := ⟨h2, u2 _ _ sa1, fresh _ hsa, nso, ⟨[], oa2, .nil⟩, fresh _ hoa0, u02 _ _ la.tags⟩
 have c2' : s2.w.ch[((0 : Nat))]? = some [r1] := c2
 refine Za8 (b := false) (Zbk (ZaD (a := false) (b := false) (Zai (Zij (l := [r1]) (n := r1) (a := adr k z (.kid 0)) (ZaT (y := .int (0 : Nat)) (by walk_at "ev") (by exact ZcH) (ZgO h2 c2' (by intro n_ n_; walk_at "u"))) (by walk_at "ev") (.inl (ZlR h2 c2')) (by rfl) (by walk_at "u")) (by refine rE (decide_eq_true rfl) ?_; rfl)) fun n_ => ZaD (a := false) (b := false) (Zai (Zij (l := [b1]) (n := b1) (a := adr k z (.kid r1)) (by walk_at "ev") (by walk_at "ev") (.inl (ZlR h2 c3)) (by rfl) (by walk_at "u")) (by refine rE (decide_eq_true rfl) ?_; rfl)) fun n_ => ZaQ)) (fun hb => absurd hb (by decide)) (fun n_ => Zah ?_)
 -- read
 refine Zan (Zp6 (ZhF (Zg5 (Zjy (Zjv (Zay (Zeo hK) (Zem hK) ?_ (by rfl) (by rfl) (by decide)) (by rfl))))))
 refine Zac ((show Ev G _ σ₂ _ _ (.ref k.t) by walk_at "ev") _ ?_) (by rfl)
 refine Zac ((show Ev G _ σ₂ _ _ (.int b1) by walk_at "ev") _ ?_) (by rfl)
 refine Zac (ZbS fun ba hba => ?_) (by rfl)
 have u3 := Zaa (o := .lst []) hba
 have lb3 : LO k z s2.w sa oa (σ₂.set ba (.lst [])) ba [] := LO.fresh rs hba Sig.set_self
 generalize σ₂.set ba (.lst []) = σ₃ at u3 lb3 ⊢
 refine Zac (ZbS fun fa hfa => ?_) (by rfl)
 have rs3 := rs.grow u3
 have u4 := Zaa (o := .lst []) hfa
 have lf4 : LO k z s2.w sa oa (σ₃.set fa (.lst [])) fa [] := LO.fresh rs3 hfa Sig.set_self
 have lb4 : LO k z s2.w sa oa (σ₃.set fa (.lst [])) ba [] := lb3.keep (Rkp.of u4)
 have rs4 := rs3.grow u4
 generalize σ₃.set fa (.lst []) = σ₄ at u4 lf4 lb4 rs4 ⊢
 have u04 : ∀ b o, σ₀ b = some o -> σ₄ b = some o := fun b o e => u4 _ _ (u3 _ _ (u02 _ _ e))
 refine Zac ((show Ev G _ σ₄ _ _ (.ref td) by walk_at "ev") _ ?_) (by rfl)
 refine Zac ((show Ev G _ σ₄ _ _ (.ref sa) by walk_at "ev") _ ?_) (by rfl)
 refine Zac ((show Ev G _ σ₄ _ _ (.ref oa) by walk_at "ev") _ (Zap ?_)) (by rfl)
 refine Zmy hK 40 (by walk_at "rm") rs4 lb4 lf4 hread _ fun σ₅ rs5 kp5 => ?_
 have u05 : ∀ b o, σ₀ b = some o -> σ₅ b = some o := fun b o e => kp5 _ _ (u04 _ _ e) (fun q => by rw [q, hsa] at e; exact nA e) fun q => by rw [q, hoa0] at e; exact nA e
 clear rs rs3 rs4 lb3 lf4 lb4 u3 u4 hba hfa kp5 u04 tc2 h2 u02 u1 u2 sa1 oa2 hoa
 have la5 := la.grow u05
 have h5 := la5.world
 have tc5 := la5.cell
 intro u ru
 refine ZbO (b := true) ru ?_
 refine (?_ : W G _ Eq (allTrue .Or _ _) _ σ₅ _)
 refine o31 rs5.out fun ro eo to => ?_
 refine o20 la5.told fun y0 nt => ?_; (refine o31 y0 fun rt et tt => ?_; clear y0)
 refine (show ZhP G _ σ₅ _ .Or _ false from ZaD (a := false) (b := false) (Zai (Zbt (by walk_at "ev") (by walk_at "ev") (Zn2 (ZlX eo to) (ZlX et tt) (Zf3 c5) (Zf3 c5)) (by walk_at "u")) (by refine rE (ZmM _) ?_; rfl)) fun n_ => ZaQ) _ ?_
 refine (?_ : W G _ FRl (execs [] _) _ σ₅ _)
 refine Zah ?_
 refine (?_ : W G _ FRl (execs _ _) _ σ₅ _)
 have seen5 := rs5.seen
 refine Za8 (b := false) (Zbk (ZaD (a := false) (b := false) (Zgg (b := true) (Zeu (v := .bool true) (Zcw (Zch hK) (Zcq hK) (vs := [.ref k.t, .ref sa, .ref td]) (by walk_at "eva") (Zo9 fun Q q => ZfE hK h5 (by walk_at "rm") seen5 c10 la5.tags c6 c7 e1 e2 d1 d2 q) (by rfl) (by rfl) (by decide)) Zdf (by rfl))) fun n_ => ZaD (a := false) (b := false) (Zgg (b := true) (Zeu (v := .bool true) (Zcw (ZeK hK) (ZeW hK) (vs := [.ref k.t, .ref k.sit]) (by walk_at "eva") (ZkE hK h5 (by walk_at "rm") d3) (by rfl) (by rfl) (by decide)) Zdf (by rfl))) fun n_ => ZaQ)) (fun hb => absurd hb (by decide)) (fun n_ => Zah ?_)
 walk_at "asg"
 clear seen5 rs5 eo to et tt nt
 have hsit := ZlT h5
 have hfit := Zl1 h5
 have hlst : s2.w.st.length <= LIM := ZpU h5
 have hlfm : s2.w.fm.length <= LIM := ZpZ h5
 have two : 2 <= s2.w.st.length := by
  have := congrArg Zrn d4
  rw [ZrY] at this
  simp at this; omega
 have tk2 : (s2.w.st.map nv).take 2 = [r1, b1].map nv := by (refine rS ZsK ?_; exact rE d4 rfl)
 refine Za8 (b := false) (fun Q q => ?_) (fun hb => absurd hb (by decide)) (fun n_ => Zah ?_)
 ·refine ZbE (ZbI (ZoM (a := k.sit) (l := s2.w.st.map nv) (j := 2) ((show Ev G _ σ₅ _ _ (.ref k.sit) by walk_at "ev") _ (ZcH _ ⟨rfl, rfl, .inl hsit, by refine rE (Zqt _) ?_; exact two, by refine rE (Zqt _) ?_; exact ZaK hlst, fun r hr => ?_⟩))) (by walk_at "u"))
  have u6 := Zaa (o := .lst ((s2.w.st.map nv).take 2)) hr
  have hr6 : (σ₅.set r (.lst ((s2.w.st.map nv).take 2))) r = some (.lst ([r1, b1].map nv)) := by (refine rE Sig.set_self ?_; exact rE tk2 rfl)
  generalize σ₅.set r (.lst ((s2.w.st.map nv).take 2)) = σ6 at u6 hr6 ⊢
  refine Zf1 (Zac ((show Ev G _ σ6 _ _ (.int r1) by walk_at "ev") _ (Zac ((show Ev G _ σ6 _ _ (.int b1) by walk_at "ev") _ (Zap (Zrb Zdw fun b hb A B ra rb => ?_))) (by rfl))) (by rfl))
  refine ZkB (.lst (.inl (Zaa hb _ _ hr6)) (ADs.nats [r1, b1])) (.lst (.inl Sig.set_self) (ADs.nats [r1, b1])) (ZaP _) (ZaP _) ra rb ⟨_, rfl, σ₅, _, fun b o e => Zaa hb _ _ (u6 _ _ e), fun n_ n_ e => e, ?_⟩
  refine rE (Zd7 _ _) (rE (decide_eq_true rfl) ?_); exact q
 refine o20 (Zmu e3) fun pk1 pk2 => ?_
 refine Za8 (b := false) (fun Q q => ?_) (fun hb => absurd hb (by decide)) (fun n_ => Zah ?_)
 ·refine ZbE (ZbI ((show Ev G _ σ₅ _ _ (.ref k.fit) by walk_at "ev") _ (Ziq ((show Ev G _ σ₅ _ _ (.ref k.sit) by walk_at "ev") _ ?_) (by walk_at "u") (by decide) (by rfl) (by decide) (by rfl) (by intro n_; rfl))) (by walk_at "u"))
  refine e95 ((s2.w.st.map nv).length) (fun i => (s2.w.st.map nv).getD i .none) (fun σ' => Sees G σ' k.sit (.lst (s2.w.st.map nv))) (fun i => ltT s2.w fN (s2.w.st.getD i 0)) (fun i => nv (s2.w.st.getD i 0)) (fun u ru => ?_) (by refine rE (Zqt _) ?_; exact ZaK hlst) (fun σ' up => .inl (up _ _ hsit)) ⟨⟨fun i C σ' hi up' hC => .inr ⟨_, rfl, ?_⟩, fun i C σ' hi ht up' hC => ?_⟩, fun D hD => ?_⟩
  ·subst ru
   exact Zdh (.inl hsit)
  ·have hi : i < s2.w.st.length := by rw [Zqt] at hi; exact hi
   rw [Zht hi] at hC
   refine o21 (pk2 (s2.w.st.getD i 0) (Zfg hi)) fun dd hd => ?_
   have h' : Zab k z σ' s2.w := h5.mono up'
   rw [show ltT s2.w fN (s2.w.st.getD i 0) = decide (dd.name ∈ fN) from by unfold ltT; exact rE hd rfl]
   generalize s2.w.st.getD i 0 = c at hC hd ⊢
   exact ZnR (x := dd.name) (ZbR (x := .ref k.names) (y := .int c) (Zge (ZbV (c := rj.L + 1) (by rfl) (up' _ _ tc5) (by rfl) (by rfl) (by decide)) (Zei hK h') (by walk_at "u")) (ZbT hC (by rfl) (by rfl) (by rfl) (by rfl) (by decide)) (Zi7 h' hd (by intro n_ n_; walk_at "u"))) (by rfl) (by refine rE sizeLine_eq ?_; exact of_decide_eq_true (by kernel_rfl)) (by walk_at "u")
  ·have hi : i < s2.w.st.length := by rw [Zqt] at hi; exact hi
   rw [Zht hi] at hC
   exact ZbT hC (by rfl) (by rfl) (by rfl) (by rfl) (by decide)
  ·refine rE (Zqt _) (rE (ZfG 0 s2.w.st (ltT s2.w fN) nv) (rE pk1 ?_))
   intro A B ra rb
   refine ZkB (.lst (.inl (Zaa hD _ _ hfit)) (ADs.nats _)) (.lst (.inl Sig.set_self) (ADs.nats _)) (ZaP _) (ZaP _) ra rb ⟨_, rfl, σ₅, _, Zaa hD, fun n_ n_ e => e, ?_⟩
   refine rE (Zd7 _ _) (rE (decide_eq_true rfl) ?_); exact q
 refine o72 la5.state.ex fun pfa pba hst5 pf5 pb5 n_ n_ => ?_
 refine Za8 (b := false) (fun Q q => ?_) (fun hb => absurd hb (by decide)) (fun n_ => Zah ?_)
 ·refine ZbE (ZbI (Zay (Zbu hK) (Zbr hK) (Zac ((show Ev G _ σ₅ _ _ (.ref k.t) by walk_at "ev") _ (Zac ((show Ev G _ σ₅ _ _ (.ref k.fit) by walk_at "ev") _ (Zac (ZaE ((show EvA G _ σ₅ _ _ _ (fN.map AV.str) from ZbW (by rfl) (by rfl)) _ (Zrb (by refine rE sizeLine_eq ?_; exact of_decide_eq_true (by kernel_rfl)) fun xa hxa => Zap ?_))) (by rfl))) (by rfl))) (by rfl)) (by rfl) (by rfl) (by decide)) (by walk_at "u"))
  have u6 := Zaa (o := .tup (fN.map AV.str)) hxa
  have hx : (σ₅.set xa (.tup (fN.map AV.str))) xa = some (.tup (fN.map AV.str)) := Sig.set_self
  generalize σ₅.set xa (.tup (fN.map AV.str)) = σ6 at u6 hx ⊢
  refine ZcA hK (h5.mono u6) (by walk_at "rm") (u6 _ _ hfit) hlfm hx e4 fun r σ₇ u7 hr hr' => ?_
  have u57 : ∀ b o, σ₅ b = some o -> σ₇ b = some o := fun b o e => u7 _ _ (u6 _ _ e)
  have pf7 : ZbG σ₇ pfa s2.fs := (by (refine o31 pf5.1 fun rs a b => ?_); exact ⟨rs, u57 _ _ a, b.mono u57⟩)
  refine Zcp true (ZaT (by walk_at "ev") (by walk_at "ev") (Zdc (.inl (u57 _ _ hst5)) Ze1 (by intro n_ n_; walk_at "u"))) pf7 c11 (fun D hD A B ra rb => ?_) (fun n_ => rfl) (fun n_ => rfl) (by intro n_ n_ n_; walk_at "u") (by walk_at "u") (by decide) (by rfl) (by decide) (by rfl) (by intro n_; rfl)
  refine rE (ZgU _) ?_
  refine ZkB (.lst (.inl (Zaa hD _ _ (by refine rS (ZaW _) ?_; exact hr'))) (ADs.strs _)) (.lst (.inl Sig.set_self) (ADs.strs _)) (ZaY _ (Zbx c8)) (ZaY _ (Zbx c8)) ra rb ⟨_, rfl, σ₅, _, fun b o e => Zaa hD _ _ (u57 _ _ e), fun n_ n_ e => e, ?_⟩
  refine rE (ZjN _) ?_; exact q
 refine ZaI (v := .bool true) (fun Q q => ?_) rfl
 refine ZbE (Zkh (Zay (Zbu hK) (Zbr hK) (Zac ((show Ev G _ σ₅ _ _ (.ref k.t) by walk_at "ev") _ (Zac ((show Ev G _ σ₅ _ _ (.ref k.sit) by walk_at "ev") _ (Zac (ZaE ((show EvA G _ σ₅ _ _ _ (bN.map AV.str) from ZbW (by rfl) (by rfl)) _ (Zrb (by refine rE sizeLine_eq ?_; exact of_decide_eq_true (by kernel_rfl)) fun xa hxa => Zap ?_))) (by rfl))) (by rfl))) (by rfl)) (by rfl) (by rfl) (by decide)) (by walk_at "u"))
 have u6 := Zaa (o := .tup (bN.map AV.str)) hxa
 have hx : (σ₅.set xa (.tup (bN.map AV.str))) xa = some (.tup (bN.map AV.str)) := Sig.set_self
 generalize σ₅.set xa (.tup (bN.map AV.str)) = σ6 at u6 hx ⊢
 refine ZcA hK (h5.mono u6) (by walk_at "rm") (u6 _ _ hsit) hlst hx e5 fun r σ₇ u7 hr hr' => ?_
 have u57 : ∀ b o, σ₅ b = some o -> σ₇ b = some o := fun b o e => u7 _ _ (u6 _ _ e)
 have pb7 : ZbG σ₇ pba s2.bs := (by (refine o31 pb5.1 fun rs a b => ?_); exact ⟨rs, u57 _ _ a, b.mono u57⟩)
 refine Zcp true (ZaT (by walk_at "ev") (by walk_at "ev") (Zcb (.inl (u57 _ _ hst5)) Ze1 (by intro n_ n_; walk_at "u"))) pb7 c12 (fun D hD A B ra rb => ?_) (fun n_ => rfl) (fun n_ => rfl) (by intro n_ n_ n_; walk_at "u") (by walk_at "u") (by decide) (by rfl) (by decide) (by rfl) (by intro n_; rfl)
 refine rE (ZgU _) ?_
 refine Zk3 (.lst (.inl (Zaa hD _ _ (by refine rS (ZaW _) ?_; exact hr'))) (ADs.strs _)) (.lst (.inl Sig.set_self) (ADs.strs _)) (ZaY _ (Zbx c9)) (ZaY _ (Zbx c9)) ra rb ?_
 refine rE (ZjN _) ?_
 exact e52 σ₅ _ (fun b o e => Zaa hD _ _ (u57 _ _ e)) (fun n_ n_ e => e) q
end
section
theorem law_top {prog : Program} {w : World} {p : Program} {loose : List Str} {mean : ExcName -> Option Value} {mg mb : Str -> Option Value} {s₁ : Shared} {sa : Addr} {vs : List Value} {ns : List Int}
  (KX : (nzhd.heap_39 w.params).In s₁.heap) (T : Top p loose mean mg mb s₁.heap) (hL : s₁.heap.IsList sa vs.toArray) (hI : IntsAre vs ns) (w1 : Well w.params s₁.heap (.ref sa) (ofPy (PyData.list (ns.map PyData.int)))) (hlen : ns.length <= 63)
  {name qual : Str} {params : Arguments} {body : List Stmt} {scope : Scope} {dV kV doc pm cdv ct oc : Value} {an od : Option Addr} {osl : Array (Option Value)}
  (ho : (nzhd.heap_39 w.params).lookup 653 = some ⟨oc, od, .func (fnOf name qual params body scope dV kV doc pm an cdv ct), osl⟩) (hk : scope.kind = .function)
  {f : Addr} {cdv' : Value} {h₁ : Heap} {tk1 : Nat} {cell : Obj} {mv : Str -> Option Value} (F : Fr s₁.heap s₁.heap.objs.size h₁ mv) (hmv : mv "script" = some (.ref sa)) (N0 : News s₁.heap s₁.heap.objs.size h₁ [(s₁.heap.objs.size + 1, cell)]) (hcell : cell.data = .cell none)
  (hl : ZpY (dOf ns) = some true) {Q : Flow -> Shared -> Prop} {E : Value -> Shared -> Prop}
  (hq : ∀ fl h' tk, retV fl = .bool true -> (∀ b o, s₁.heap.get? b = some o -> h'.get? b = some o) -> Q fl { s₁ with heap := h', toks := tk }) :
  wpAny (model prog w) (callerA.deeper (envX qual scope s₁.heap.objs.size f cdv' (cellsFrom (s₁.heap.objs.size + 1) scope.names []))) (execs body (envX qual scope s₁.heap.objs.size f cdv' (cellsFrom (s₁.heap.objs.size + 1) scope.names []))) Q E { s₁ with heap := h₁, toks := tk1 } := by
 refine o41 (id hL) fun ol hol hcl r3 => ?_; refine o21 r3 fun nl hdl => ?_; clear r3
 have hobj : s₁.heap.get? sa = some { cls := .type "list", data := .seq vs.toArray } := by
  unfold ofPy at w1
  cases w1 with
  | list h1 h2 =>
   rw [hol] at h1
   obtain rfl := ZqC h1
   refine rE hol ?_
   injection hdl with hd1 hd2
   exact rE hd1 rfl
 have ne : ∀ {t : Addr} {n : Nat} {a : Array Value}, (nzhd.heap_39 w.params).lookup t = some { cls := .type "tuple", data := .seq a n } -> sa ≠ t := fun {t n a} h e => by
  have := KX _ _ h
  rw [<- e, hobj] at this
  injection this with this
  injection this with this _
  injection this with this
  exact absurd this (by decide)
 let st : Addr -> Option AO := fun a => if a = 73 \/ a = 403 \/ a = 412 then some (.tup []) else if a = sa then some (.lst (ns.map AV.int)) else none
 let G : Glo := ⟨prog, w, nzhd.heap_39 w.params, p, loose, mean, mg, mb, st⟩
 have l73 : (nzhd.heap_39 w.params).lookup 73 = some { cls := .type "tuple", data := .seq #[] } := by rfl
 have l403 : (nzhd.heap_39 w.params).lookup 403 = some { cls := .type "tuple", data := .seq #[] } := by rfl
 have l412 : (nzhd.heap_39 w.params).lookup 412 = some { cls := .type "tuple", data := .seq #[] } := by rfl
 have gst : ∀ t : Addr, (t = 73 \/ t = 403 \/ t = 412) -> G.st t = some (.tup []) := fun t h => if_pos h
 have hK : Is G := ⟨rfl, gst 73 (Or.inl rfl), gst 403 (Or.inr (Or.inl rfl)), gst 412 (Or.inr (Or.inr rfl))⟩
 have hsa : G.st sa = some (.lst (ns.map AV.int)) := by
  show (if _ then _ else _) = _
  rewrite [if_neg (fun h => by rcases h with e | e | e; exact ne l73 e; exact ne l403 e; exact ne l412 e)]; exact rE (if_pos rfl) rfl
 have sv : ∀ {vs : List Value} {ns : List Int}, IntsAre vs ns -> VRs (ns.map AV.int) vs := fun h => by
  induction h with
  | nil => exact .nil
  | cons n t _ ih => exact .cons ⟨t, rfl⟩ ih
 have ok : (⟨callerA.deeper (envX qual scope s₁.heap.objs.size f cdv' (cellsFrom (s₁.heap.objs.size + 1) scope.names [])), callerA, s₁.heap, s₁.heap, [], qual, scope, s₁.heap.objs.size, f, cdv', cellsFrom (s₁.heap.objs.size + 1) scope.names []⟩ : Amb).Ok G := by
  refine ⟨below_caller _, KX, T, rfl, hk, rfl, by show (4 : Nat) + 3 + 200 < 9900; decide, fun a o e => ?_⟩
  have e : (if a = 73 \/ a = 403 \/ a = 412 then some (.tup []) else if a = sa then some (.lst (ns.map AV.int)) else none) = some o := e
  split at e
  ·rename_i h
   (replace e := sO e; subst e)
   rcases h with rfl | rfl | rfl
   ·exact e31 _ (KX _ _ l73) ⟨[], 0, rfl, .nil⟩
   ·exact e31 _ (KX _ _ l403) ⟨[], 0, rfl, .nil⟩
   ·exact e31 _ (KX _ _ l412) ⟨[], 0, rfl, .nil⟩
  ·split at e
   ·rename_i h
    (replace e := sO e; subst e)
    refine rE h ?_
    exact e31 _ hobj ⟨vs, 0, rfl, sv hI⟩
   ·exact nA e
 have hR : R G ⟨callerA.deeper (envX qual scope s₁.heap.objs.size f cdv' (cellsFrom (s₁.heap.objs.size + 1) scope.names [])), callerA, s₁.heap, s₁.heap, [], qual, scope, s₁.heap.objs.size, f, cdv', cellsFrom (s₁.heap.objs.size + 1) scope.names []⟩ (Sig.set (fun n_ => none) (s₁.heap.objs.size + 1) (.cel none)) [("script", .ref sa)] h₁ := by
  refine ⟨ok, mv, _, F, N0, fun x v e => ?_, fun a o e => ?_⟩
  ·rw [ZqW] at e
   split at e
   ·rename_i h
    (replace e := sO e; subst e)
    refine rE (eq_of_beq h) ?_
    exact e31 _ hmv rfl
   ·injection e
  ·by_cases q : a = s₁.heap.objs.size + 1
   ·subst q
    rw [Sig.set_self] at e
    (replace e := sO e; subst e)
    exact e41 cell (.head _) ⟨none, hcell, rfl⟩ (ZrC (modules_low T.nolimit) (Zsp _))
   ·rw [Sig.set_ne q] at e; exact nA e
 have rm : (⟨callerA.deeper (envX qual scope s₁.heap.objs.size f cdv' (cellsFrom (s₁.heap.objs.size + 1) scope.names [])), callerA, s₁.heap, s₁.heap, [], qual, scope, s₁.heap.objs.size, f, cdv', cellsFrom (s₁.heap.objs.size + 1) scope.names []⟩ : Amb).Room 50 :=
  ⟨by show 1 + 300 + 1 + 50 < 1000; decide, by show 4 + 3 + 8 * 50 + 200 < 9900; decide⟩
 have key := Zm5 hK hsa (by refine rE sizeLine_eq ?_; omega) hl ho ⟨_, _, _, _, _, _⟩ _ _ rm
 refine W.use (s := { s₁ with heap := h₁, toks := tk1 }) key hR fun fl b h' tk σ' m' r hR' kp e => ?_
 have hx := Zg0 r
 have e : Zgj b = .bool true := e
 rw [e] at hx
 refine o20 hR' fun n_ r1 => ?_; clear hR'; refine o42 r1 fun n_ n_ F' n_ => ?_; clear r1
 exact hq fl h' tk hx F'.keep
end
end Nz
namespace NzP
open PySem Nz
inductive Fo where
 | nil
 | nd (n : Nat) (d : Nd) (s : List Nat) (k r : Fo)
theorem foR {P : Fo -> Prop} (h0 : P .nil) (h1 : ∀ n d s k r, P k -> P r -> P (.nd n d s k r)) : ∀ F, P F := fun F => Fo.rec h0 h1 F
theorem foI {P : Fo -> Prop} (h0 : P .nil) (h1 : ∀ n d s k r, P k -> P r -> P (.nd n d s k r)) : ∀ {F}, P F := fun {F} => Fo.rec h0 h1 F
noncomputable def Fo.app : Fo -> Fo -> Fo
 | .nil, g => g
 | .nd n d s k r, g => .nd n d s k (r.app g)
noncomputable def Fo.heads : Fo -> List Nat
 | .nil => []
 | .nd n _ _ _ r => n :: r.heads
noncomputable def Fo.flat : Fo -> List (Nat × Nd)
 | .nil => []
 | .nd n d _ k r => (n, d) :: (k.flat ++ r.flat)
noncomputable def Fo.ids (F : Fo) : List Nat := F.flat.map (·.1)
theorem Zft : Fo.nil.ids = [] := rfl
theorem Zdn {n d s k r} : (Fo.nd n d s k r).ids = n :: (k.ids ++ r.ids) := by simp [Fo.ids, Fo.flat]
theorem Zes : ∀ F : Fo, F.app .nil = F := by
 refine @foR _ ?_ ?_
 ·exact rfl
 ·intro n d s k r ihk ihr
  (rewrite [Fo.app]; exact rE (ihr) rfl)
theorem ZlH : ∀ F G H : Fo, (F.app G).app H = F.app (G.app H) := by
 refine @foR _ ?_ ?_
 ·intro G H
  exact rfl
 ·intro n d s k r ihk ihr G H
  (rewrite [Fo.app, Fo.app, Fo.app]; exact rE (ihr _ _) rfl)
theorem ZaJ : ∀ F G : Fo, (F.app G).heads = F.heads ++ G.heads := by
 refine @foR _ ?_ ?_
 ·intro G
  exact rfl
 ·intro n d s k r ihk ihr G
  (rewrite [Fo.app, Fo.heads, Fo.heads]; refine rE (ihr _) ?_); rfl
theorem Zec : ∀ F G : Fo, (F.app G).flat = F.flat ++ G.flat := by
 refine @foR _ ?_ ?_
 ·intro G
  exact rfl
 ·intro n d s k r ihk ihr G
  (rewrite [Fo.app, Fo.flat, Fo.flat]; refine rE (ihr _) ?_); simp
theorem Zcx (F G : Fo) : (F.app G).ids = F.ids ++ G.ids := by simp [Fo.ids, Zec]
theorem ZbP : ∀ {F : Fo} {i : Nat}, i ∈ F.heads -> i ∈ F.ids
 | .nd n d s k r, i, h => by
  refine rE Zdn ?_
  rcases ZqD.mp h with h | h
  ·exact h ▸ Zqz
  ·exact Zqw _ (Zqv _ (ZbP h))
noncomputable def HoldF (w : PW) : Int -> Fo -> Prop
 | _, .nil => True
 | p, .nd n d s k r => w.nd[n]? = some d /\ w.tx[n]? = some s /\ w.pa[n]? = some p /\ w.ch[n]? = some k.heads /\ HoldF w n k /\ HoldF w p r
noncomputable def Same (w w' : PW) (l : List Nat) : Prop := ∀ i ∈ l, w'.nd[i]? = w.nd[i]? /\ w'.tx[i]? = w.tx[i]? /\ w'.pa[i]? = w.pa[i]? /\ w'.ch[i]? = w.ch[i]?
theorem Same.sub {w w' : PW} {l l' : List Nat} (h : Same w w' l) (s : ∀ i, i ∈ l' -> i ∈ l) : Same w w' l' := fun i hi => h i (s i hi)
theorem HoldF.same {w w' : PW} : ∀ {F : Fo} {p : Int}, HoldF w p F -> Same w w' F.ids -> HoldF w' p F := by
 refine @foI _ ?_ ?_
 ·intros; trivial
 ·intro n d s k r ihk ihr p hp e
  refine o60 hp fun h1 h2 h3 h4 h5 h6 => ?_; clear hp
  rw [Zdn] at e
  refine o40 (e n Zqz) fun e1 e2 e3 e4 => ?_
  exact ⟨e1.trans h1, e2.trans h2, e3.trans h3, e4.trans h4, ihk h5 (e.sub fun i hi => Zqw _ (Zqx _ hi)), ihr h6 (e.sub fun i hi => Zqw _ (Zqv _ hi))⟩
theorem HoldF.parent {w w' : PW} {q : Int} : ∀ {F : Fo} {p : Int}, HoldF w p F -> F.ids.Nodup -> (∀ i ∈ F.ids, w'.nd[i]? = w.nd[i]? /\ w'.tx[i]? = w.tx[i]? /\ w'.ch[i]? = w.ch[i]? /\ w'.pa[i]? = if i ∈ F.heads then some q else w.pa[i]?) -> HoldF w' q F := by
 refine @foI _ ?_ ?_
 ·intros; trivial
 ·intro n d s k r ihk ihr p hp nd e
  refine o60 hp fun h1 h2 h3 h4 h5 h6 => ?_; clear hp
  rw [Zdn] at e nd
  refine o40 (e n Zqz) fun e1 e2 e3 e4 => ?_
  refine o20 (ZqH.mp nd) fun n1 n2 => ?_
  refine o30 (ZqK.mp n2) fun n3 n4 n5 => ?_
  rw [if_pos (show n ∈ (Fo.nd n d s k r).heads from Zqz)] at e4
  refine ⟨e1.trans h1, e2.trans h2, e4, e3.trans h4, h5.same fun i hi => ?_, ihr h6 n4 fun i hi => ?_⟩
  ·refine o40 (e i (Zqw _ (Zqx _ hi))) fun a b c f => ?_
   rw [if_neg] at f
   ·exact ⟨a, b, f, c⟩
   ·intro x
    rcases ZqD.mp x with x | x
    ·exact n1 (x ▸ Zqx _ hi)
    ·exact n5 i hi i (ZbP x) rfl
  ·refine o40 (e i (Zqw _ (Zqv _ hi))) fun a b c f => ?_
   refine ⟨a, b, c, f.trans ?_⟩
   have : (i ∈ (Fo.nd n d s k r).heads) ↔ i ∈ r.heads := by
    refine (?_ : i ∈ n :: r.heads ↔ _)
    rw [ZqD]
    exact ⟨fun x => x.resolve_left fun x => n1 (x ▸ Zqv _ hi), .inr⟩
   simp only [this]
theorem HoldF_app {w : PW} : ∀ {F G : Fo} {p : Int}, HoldF w p (F.app G) ↔ HoldF w p F /\ HoldF w p G := by
 refine @foI _ ?_ ?_
 ·intro G p
  simp [Fo.app, HoldF]
 ·intro n d s k r ihk ihr G p
  simp [Fo.app, HoldF, ihr, and_assoc]
structure Fr where
 n : Nat
 d : Nd
 k : Fo
noncomputable def Zaf : List Fr -> Fo
 | [] => .nil
 | f :: r => .nd f.n f.d [] (f.k.app (Zaf r)) .nil
noncomputable def hd : List Fr -> List Nat
 | [] => []
 | f :: _ => [f.n]
theorem Za1 : ∀ fs : List Fr, (Zaf fs).heads = hd fs := by
 refine @Zbg _ _ ?_ ?_
 ·exact rfl
 ·intro f r ih
  exact rfl
theorem Zcj (a : Fr) (B : List Fr) : ∀ A : List Fr, Zaf (A ++ a :: B) = Zaf (A ++ [{ a with k := a.k.app (Zaf B) }])
 | [] => by simp [Zaf, Zes]
 | f :: A => by (refine rE ZqT (rE ZqT ?_); rewrite [Zaf, Zaf]; exact rE (Zcj a B A) rfl)
theorem Zdb (f : Fr) (r : List Fr) : (Zaf (f :: r)).flat = (f.n, f.d) :: (f.k.flat ++ (Zaf r).flat) := by simp [Zaf, Fo.flat, Zec]
theorem ZfP : ∀ A B : List Fr, (Zaf (A ++ B)).flat = (Zaf A).flat ++ (Zaf B).flat := by
 refine @Zbg _ _ ?_ ?_
 ·intro B
  exact rfl
 ·intro f A ih B
  (refine rE ZqT (rE (Zdb _ _) (rE (Zdb _ _) (rE (ih B) ?_)))); simp
theorem Zag (f : Fr) (r : List Fr) : (Zaf (f :: r)).ids = f.n :: (f.k.ids ++ (Zaf r).ids) := by simp [Fo.ids, Zdb]
theorem Zaj (A B : List Fr) : (Zaf (A ++ B)).ids = (Zaf A).ids ++ (Zaf B).ids := by simp [Fo.ids, ZfP]
theorem ZnG (A : List Fr) (a : Fr) (B : List Fr) : hd (A ++ a :: B) = hd (A ++ [a]) := by induction A <;> rfl
noncomputable def Zka (w : PW) (a : Nat) (l : List Nat) (b : Nat) (p : Int) : PW := { w with ch := w.ch.set a l, pa := w.pa.set b p }
theorem Zbz {w : PW} {a b : Nat} {l : List Nat} {p : Int} {is : List Nat} (ha : a ∉ is) (hb : b ∉ is) : Same w (Zka w a l b p) is := fun i hi =>
 ⟨rfl, rfl, ZqX (show b ≠ i from fun q => hb (q ▸ hi)), ZqX (show a ≠ i from fun q => ha (q ▸ hi))⟩
theorem ZaH {α : Type} {l : List α} {i : Nat} {x : α} (h : l[i]? = some x) : i < l.length := (ZqU.mp h).1
theorem Zlb {w : PW} {a b : Fr} {B : List Fr} : ∀ {A : List Fr} {p : Int}, HoldF w p (Zaf (A ++ a :: b :: B)) -> (Zaf (A ++ a :: b :: B)).ids.Nodup -> HoldF (Zka w a.n a.k.heads b.n (-1)) p (Zaf (A ++ [a])) /\ HoldF (Zka w a.n a.k.heads b.n (-1)) (-1) (Zaf (b :: B)) := by
 refine @Zbv _ _ ?_ ?_
 ·intro p h1_ nd
  refine o60 h1_ fun h1 h2 h3 h4 h5 n_ => ?_; clear h1_
  rw [Zq2, Zag, Zag] at nd
  have q1 := (ZqH.mp nd).1
  have q2 := (ZqK.mp (ZqH.mp nd).2)
  refine o20 (HoldF_app.mp h5) fun h6 h7 => ?_
  refine o60 h7 fun g1 g2 g3 g4 g5 n_ => ?_; clear h7
  have hab : a.n ≠ b.n := fun x => q1 (by refine rE x ?_; exact Zqv _ Zqz)
  have hb := ZqH.mp q2.2.1
  refine ⟨⟨h1, h2, ?_, ?_, ?_, trivial⟩, g1, g2, ?_, ?_, ?_, trivial⟩
  ·exact (ZqX (Ne.symm hab)).trans h3
  ·show (w.ch.set _ _)[_]? = _
   refine rE (Zre (ZaH h4)) ?_; simp [Zaf, Zes]
  ·refine (?_ : HoldF _ _ (a.k.app .nil))
   refine rE (Zes _) ?_
   exact h6.same (Zbz (fun x => q1 (Zqx _ x)) fun x => q2.2.2 _ x _ Zqz rfl)
  ·exact Zre (ZaH g3)
  ·exact (ZqX hab).trans g4
  ·exact g5.same (Zbz (fun x => q1 (Zqv _ (Zqw _ (by rwa [Zcx] at x)))) fun x => hb.1 (by rwa [Zcx] at x))
 ·intro f A ih p h1_ nd
  refine o60 h1_ fun h1 h2 h3 h4 h5 n_ => ?_; clear h1_
  rw [ZqT, Zag] at nd
  have q1 := (ZqH.mp nd).1
  have q2 := (ZqK.mp (ZqH.mp nd).2)
  refine o20 (HoldF_app.mp h5) fun h6 h7 => ?_
  refine o20 (ih h7 q2.2.1) fun i1 i2 => ?_
  have ma : a.n ∈ (Zaf (A ++ a :: b :: B)).ids := by (refine rE (Zaj _ _) (rE (Zag _ _) ?_)); exact Zqv _ Zqz
  have mb : b.n ∈ (Zaf (A ++ a :: b :: B)).ids := by (refine rE (Zaj _ _) (rE (Zag _ _) (rE (Zag _ _) ?_))); exact Zqv _ (Zqw _ (Zqv _ Zqz))
  refine ⟨⟨h1, h2, ?_, ?_, ?_, trivial⟩, i2⟩
  ·exact (ZqX (show b.n ≠ f.n from fun x => q1 (Zqv _ (x ▸ mb)))).trans h3
  ·refine (ZqX (show a.n ≠ f.n from fun x => q1 (Zqv _ (x ▸ ma)))).trans (h4.trans ?_)
   refine (?_ : some ((f.k.app (Zaf (A ++ a :: b :: B))).heads) = some ((f.k.app (Zaf (A ++ [a]))).heads))
   refine rE (ZaJ _ _) (rE (ZaJ _ _) (rE (Za1 _) (rE (Za1 _) ?_))); exact rE (ZnG _ _ _) rfl
  ·exact HoldF_app.mpr ⟨h6.same (Zbz (fun x => q2.2.2 _ x _ ma rfl) fun x => q2.2.2 _ x _ mb rfl), i1⟩
theorem ZgV {w : PW} {a b : Fr} {B : List Fr} {q : Int} : ∀ {A : List Fr} {p : Int}, HoldF w p (Zaf (A ++ [a])) -> HoldF w q (Zaf (b :: B)) -> (Zaf (A ++ a :: b :: B)).ids.Nodup -> HoldF (Zka w a.n (a.k.heads ++ [b.n]) b.n a.n) p (Zaf (A ++ a :: b :: B)) := by
 refine @Zbv _ _ ?_ ?_
 ·intro p h1_ h2_ nd
  refine o60 h1_ fun h1 h2 h3 h4 h5 n_ => ?_; clear h1_
  refine o60 h2_ fun g1 g2 g3 g4 g5 n_ => ?_; clear h2_
  rw [Zq2, Zag, Zag] at nd
  have q1 := (ZqH.mp nd).1
  have q2 := (ZqK.mp (ZqH.mp nd).2)
  have h6 := (HoldF_app.mp h5).1
  have hab : a.n ≠ b.n := fun x => q1 (by refine rE x ?_; exact Zqv _ Zqz)
  have hb := ZqH.mp q2.2.1
  refine ⟨h1, h2, ?_, ?_, HoldF_app.mpr ⟨?_, g1, g2, ?_, ?_, ?_, trivial⟩, trivial⟩
  ·exact (ZqX (Ne.symm hab)).trans h3
  ·show (w.ch.set _ _)[_]? = _
   refine rE (Zre (ZaH h4)) (rE (ZaJ _ _) ?_); rfl
  ·exact h6.same (Zbz (fun x => q1 (Zqx _ x)) fun x => q2.2.2 _ x _ Zqz rfl)
  ·exact Zre (ZaH g3)
  ·exact (ZqX hab).trans g4
  ·exact g5.same (Zbz (fun x => q1 (Zqv _ (Zqw _ (by rwa [Zcx] at x)))) fun x => hb.1 (by rwa [Zcx] at x))
 ·intro f A ih p h1_ g nd
  refine o60 h1_ fun h1 h2 h3 h4 h5 n_ => ?_; clear h1_
  rw [ZqT, Zag] at nd
  have q1 := (ZqH.mp nd).1
  have q2 := (ZqK.mp (ZqH.mp nd).2)
  refine o20 (HoldF_app.mp h5) fun h6 h7 => ?_
  have i1 := ih h7 g q2.2.1
  have ma : a.n ∈ (Zaf (A ++ a :: b :: B)).ids := by (refine rE (Zaj _ _) (rE (Zag _ _) ?_)); exact Zqv _ Zqz
  have mb : b.n ∈ (Zaf (A ++ a :: b :: B)).ids := by (refine rE (Zaj _ _) (rE (Zag _ _) (rE (Zag _ _) ?_))); exact Zqv _ (Zqw _ (Zqv _ Zqz))
  refine ⟨h1, h2, ?_, ?_, ?_, trivial⟩
  ·exact (ZqX (show b.n ≠ f.n from fun x => q1 (Zqv _ (x ▸ mb)))).trans h3
  ·refine (ZqX (show a.n ≠ f.n from fun x => q1 (Zqv _ (x ▸ ma)))).trans (h4.trans ?_)
   refine (?_ : some ((f.k.app (Zaf (A ++ [a]))).heads) = some ((f.k.app (Zaf (A ++ a :: b :: B))).heads))
   refine rE (ZaJ _ _) (rE (ZaJ _ _) (rE (Za1 _) (rE (Za1 _) ?_))); exact rS (ZnG A a (b :: B)) rfl
  ·exact HoldF_app.mpr ⟨h6.same (Zbz (fun x => q2.2.2 _ x _ ma rfl) fun x => q2.2.2 _ x _ mb rfl), i1⟩
theorem Zhf {w : PW} {a : Fr} {B : List Fr} {p : Int} (h : HoldF w p (Zaf (a :: B))) : w.pa[a.n]? = some p := h.2.2.1
theorem Zgo {w : PW} {a : Fr} {B : List Fr} : ∀ {A : List Fr} {p : Int}, HoldF w p (Zaf (A ++ a :: B)) -> w.nd[a.n]? = some a.d /\ w.tx[a.n]? = some [] /\ w.ch[a.n]? = some (a.k.heads ++ hd B) := by
 refine @Zbv _ _ ?_ ?_
 ·intro p h1_
  refine o60 h1_ fun h1 h2 h3 h4 h5 n_ => ?_; clear h1_
  exact ⟨h1, h2, by (refine rE h4 (rE (ZaJ _ _) ?_); exact rE (Za1 _) rfl)⟩
 ·intro f A ih p h1_
  refine o60 h1_ fun h1 h2 h3 h4 h5 n_ => ?_; clear h1_
  exact ih (HoldF_app.mp h5).2
theorem ZiU {w : PW} {a b : Fr} {B : List Fr} : ∀ {A : List Fr} {p : Int}, HoldF w p (Zaf (A ++ a :: b :: B)) -> w.pa[b.n]? = some (a.n : Int) := by
 refine @Zbv _ _ ?_ ?_
 ·intro p h1_
  refine o60 h1_ fun h1 h2 h3 h4 h5 n_ => ?_; clear h1_
  exact Zhf (HoldF_app.mp h5).2
 ·intro f A ih p h1_
  refine o60 h1_ fun h1 h2 h3 h4 h5 n_ => ?_; clear h1_
  exact ih (HoldF_app.mp h5).2
theorem Zb9 {w : PW} : ∀ (m : Nat) {A : List Fr} {a : Fr} {B : List Fr} {f : Nat}, A.length = m -> HoldF w (-1) (Zaf (A ++ a :: B)) -> m < f -> Zbj w f a.n = some ((A.map Fr.n).reverse) := by
 intro m
 induction m with
 | zero =>
  intro A a B f hl h hf
  induction A using ZcU with
  | cons _ _ => simp at hl
  | nil =>
   induction f using Zd9 with
   | zero => omega
   | succ f => (rewrite [Zbj]; refine rE (Zhf h) ?_); rfl
 | succ m ih =>
  intro A a B f hl h hf
  obtain ⟨A', c, rfl⟩ : ∃ A' c, A = A' ++ [c] := ⟨A.dropLast, A.getLast (by intro q; rw [q] at hl; simp at hl), (Zq3 _).symm⟩
  rw [ZqN, Zrh] at h
  induction f using Zd9 with
  | zero => omega
  | succ f =>
   rewrite [Zbj]; refine rE (ZiU h) ?_
   dsimp only
   rewrite [if_neg (by omega), if_neg (by omega)]; refine rE (ZrR _) ?_; rw [ih (by simpa using hl) h (by omega)]
   simp
end NzP
namespace NzP
open PySem Nz
theorem ZjV : ∀ {n : Nat} {l : List Nat}, l.Nodup -> (∀ i ∈ l, i < n) -> l.length <= n
 | 0, [], _, _ => ZqQ _
 | 0, x :: _, _, h => absurd (h x Zqz) (Nat.not_lt_zero _)
 | n + 1, l, hn, h => by
  have h1 := ZjV (n := n) (l := l.erase n) (hn.erase n) fun i hi => by
   have := h i (ZsC hi)
   have : i ≠ n := fun q => by subst q; exact (hn.not_mem_erase) hi
   omega
  by_cases hm : n ∈ l
  ·rw [List.length_erase_of_mem hm] at h1; omega
  ·rw [ZrT hm] at h1; omega
structure Len (w : PW) : Prop where
 tx : w.tx.length = w.nd.length
 pa : w.pa.length = w.nd.length
 ch : w.ch.length = w.nd.length
structure Alt (w w' : PW) : Prop where
 nd : w'.nd = w.nd
 tx : w'.tx = w.tx
 pa : w'.pa.length = w.pa.length
 ch : w'.ch.length = w.ch.length
 st : w'.st = w.st
 fm : w'.fm = w.fm
 er : w'.er = w.er
theorem Alt.refl {w : PW} : Alt w w := ⟨rfl, rfl, rfl, rfl, rfl, rfl, rfl⟩
theorem Alt.trans {w w₁ w₂ : PW} (a : Alt w w₁) (b : Alt w₁ w₂) : Alt w w₂ := ⟨b.nd.trans a.nd, b.tx.trans a.tx, b.pa.trans a.pa, b.ch.trans a.ch, b.st.trans a.st, b.fm.trans a.fm, b.er.trans a.er⟩
theorem Alt.len {w w' : PW} (a : Alt w w') (h : Len w) : Len w' := ⟨by (refine rE a.tx (rE a.nd ?_)); exact h.tx, by (refine rE a.pa (rE a.nd ?_)); exact h.pa, by (refine rE a.ch (rE a.nd ?_)); exact h.ch⟩
theorem Alt.set {w : PW} {a b : Nat} {l : List Nat} {p : Int} : Alt w { w with ch := w.ch.set a l, pa := w.pa.set b p } := ⟨rfl, rfl, Zra, Zra, rfl, rfl, rfl⟩
theorem HoldF.lt {w : PW} : ∀ {F : Fo} {p : Int}, HoldF w p F -> ∀ i ∈ F.ids, i < w.nd.length := by
 refine @foI _ ?_ ?_
 ·exact fun n_ i hi => noH hi
 ·intro n d s k r ihk ihr p hp i hi
  refine o60 hp fun h1 h2 h3 h4 h5 h6 => ?_; clear hp
  rw [Zdn] at hi
  rcases ZqD.mp hi with rfl | hi
  ·exact ZaH h1
  ·rcases ZqJ.mp hi with hi | hi
   ·exact ihk h5 i hi
   ·exact ihr h6 i hi
theorem HoldF.small {w : PW} {F : Fo} {p : Int} (h : HoldF w p F) (nd : F.ids.Nodup) : F.ids.length <= w.nd.length := ZjV nd h.lt
noncomputable def addW (w : PW) (d : Nd) (t : List Nat) : PW := { w with nd := w.nd ++ [d], tx := w.tx ++ [t], pa := w.pa ++ [-1], ch := w.ch ++ [[]] }
theorem ZjC {w : PW} {d : Nd} {t : List Nat} (h : Len w) (hz : w.nd.length < LIM) : Zgm w d t = some (w.nd.length, addW w d t) := by
 unfold Zgm
 rw [if_pos ⟨hz, by refine rE h.tx ?_; exact hz, by refine rE h.pa ?_; exact hz, by refine rE h.ch ?_; exact hz⟩]; rfl
theorem Zhp {w : PW} {d : Nd} {t : List Nat} (h : Len w) : Len (addW w d t) := by
 constructor <;> simp [addW, h.tx, h.pa, h.ch]
theorem Zff {w : PW} {d : Nd} {t : List Nat} {l : List Nat} (h : Len w) (hl : ∀ i ∈ l, i < w.nd.length) : Same w (addW w d t) l := fun i hi => by
 have := hl i hi
 refine ⟨ZqZ this, ZqZ (by refine rE h.tx ?_; exact this), ZqZ (by refine rE h.pa ?_; exact this), ZqZ (by refine rE h.ch ?_; exact this)⟩
theorem Zhc {w : PW} {d : Nd} {t : List Nat} (h : Len w) : HoldF (addW w d t) (-1) (.nd w.nd.length d t .nil .nil) := by
 refine ⟨?_, ?_, ?_, ?_, trivial, trivial⟩
 ·simp [addW]
 ·simp [addW, <- h.tx]
 ·simp [addW, <- h.pa]
 ·show (w.ch ++ [[]])[w.nd.length]? = some []
  simp [<- h.ch]
noncomputable def Half (w : PW) (M T : List Fr) : Prop := HoldF w (-1) (Zaf (M ++ T)) \/ (HoldF w (-1) (Zaf M) /\ HoldF w (-1) (Zaf T))
theorem Half.same {w w' : PW} {M T : List Fr} (h : Half w M T) (e : Same w w' (Zaf (M ++ T)).ids) : Half w' M T := by
 rw [Zaj] at e
 rcases h with h | ⟨h1, h2⟩
 ·exact .inl (h.same (by refine rE (Zaj _ _) ?_; exact e))
 ·exact .inr ⟨h1.same (e.sub fun i hi => Zqx _ hi), h2.same (e.sub fun i hi => Zqv _ hi)⟩
theorem Zbe {a : Fr} {A B : List Fr} : a.n ∈ (Zaf (A ++ a :: B)).ids := by
 refine rE (Zaj _ _) (rE (Zag _ _) ?_); exact Zqv _ Zqz
theorem Zbs {A B : List Fr} (h : (Zaf (A ++ B)).ids.Nodup) : (Zaf A).ids.Nodup /\ (Zaf B).ids.Nodup /\ ∀ i, i ∈ (Zaf A).ids -> i ∉ (Zaf B).ids := by
 rw [Zaj] at h
 refine o30 (ZqK.mp h) fun a b c => ?_
 exact ⟨a, b, fun i h1 h2 => c i h1 i h2 rfl⟩
theorem ZfF {w : PW} {A : List Fr} {a b : Fr} {B : List Fr} (h : Half w (A ++ [a]) (b :: B)) (nd : (Zaf (A ++ a :: b :: B)).ids.Nodup) :
  ∃ w₁, ZbQ w b.n = some w₁ /\ HoldF w₁ (-1) (Zaf (A ++ [a])) /\ HoldF w₁ (-1) (Zaf (b :: B)) /\ Alt w w₁ /\ ∀ l : List Nat, (∀ i ∈ l, i ∉ (Zaf (A ++ a :: b :: B)).ids) -> Same w w₁ l := by
 rcases h with h | ⟨h1, h2⟩
 ·rw [ZqN, Zrh] at h
  refine o20 (Zlb h nd) fun c1 c2 => ?_
  refine e61 _ ?_ c1 c2 (.set) (fun l hl => Zbz (fun q => hl _ q Zbe) fun q => hl _ q (by rw [show A ++ a :: b :: B = (A ++ [a]) ++ b :: B from by simp]; exact Zbe))
  unfold ZbQ
  refine rE (ZiU h) ?_
  dsimp only
  rewrite [if_neg (by omega), if_neg (by omega)]; refine rE (ZrR _) (rE ((Zgo h).2.2) ?_)
  have hb : b.n ∉ a.k.heads := fun q => by
   rw [Zaj, Zag] at nd
   have := (ZqK.mp (ZqH.mp (ZqK.mp nd).2.1).2).2.2 _ (ZbP q) b.n (by refine rE (Zag _ _) ?_; exact Zqz)
   exact this rfl
  dsimp only
  refine rE (show hd (b :: B) = [b.n] from rfl) (rE (if_pos (Zqv _ Zqz)) (rE (ZrO _ hb) ?_))
  simp [Zka]
 ·refine e61 w ?_ h1 h2 (.refl) (fun l n_ i n_ => ⟨rfl, rfl, rfl, rfl⟩)
  unfold ZbQ
  refine rE (Zhf h2) ?_
  rfl
theorem Zd0 {w w₁ : PW} {p n : Nat} {ab l : List Nat} (h1 : n ≠ p) (h2 : Zbj w 1000 p = some ab) (h3 : n ∉ ab) (h4 : ZbQ w n = some w₁) (h5 : w₁.ch[p]? = some l) (h6 : l.length < LIM) (h7 : n < w₁.pa.length) :
  Za7 w p n = some (Zka w₁ p (l ++ [n]) n p) := by
 unfold Za7
 refine rE (if_neg h1) (rE h2 ?_)
 dsimp only [Zqy]
 refine rE (if_neg h3) (rE h4 ?_)
 dsimp only [Zqy]
 refine rE h5 ?_
 dsimp only [Zqy]
 refine rE (if_pos ⟨h6, h7⟩) ?_; rfl
theorem Zfe : ∀ {A B : List Fr} {i : Nat}, i ∈ A.map Fr.n -> i ∈ (Zaf (A ++ B)).ids
 | f :: A, B, i, h => by
  refine rE ZqT (rE (Zag _ _) ?_)
  rcases ZqD.mp h with h | h
  ·refine rE h ?_; exact Zqz
  ·exact Zqw _ (Zqv _ (Zfe h))
theorem ZdJ {w : PW} {C D : List Fr} {p b : Fr} {B : List Fr} (h : Half w (C ++ p :: D) (b :: B)) (nd : (Zaf (C ++ p :: (D ++ b :: B))).ids.Nodup) (hl : Len w) (hz : w.nd.length < LIM) (hC : C.length < 1000) :
  ∃ w', Za7 w p.n b.n = some w' /\ HoldF w' (-1) (Zaf (C ++ { p with k := p.k.app (Zaf D) } :: b :: B)) /\ Alt w w' /\ ∀ l : List Nat, (∀ i ∈ l, i ∉ (Zaf (C ++ p :: (D ++ b :: B))).ids) -> Same w w' l := by
 obtain ⟨A, a, hA⟩ : ∃ A a, C ++ p :: D = A ++ [a] := ⟨(C ++ p :: D).dropLast, (C ++ p :: D).getLast (by simp), (Zq3 _).symm⟩
 have e : C ++ p :: (D ++ b :: B) = A ++ a :: b :: B := by (rewrite [show C ++ p :: (D ++ b :: B) = (C ++ p :: D) ++ b :: B from by simp]; refine rE hA ?_); simp
 have e2 : C ++ p :: (D ++ b :: B) = (C ++ p :: D) ++ b :: B := by simp
 have hab : Zbj w 1000 p.n = some ((C.map Fr.n).reverse) := by
  rcases h with h | ⟨h, _⟩
  ·rw [<- e2] at h; exact Zb9 C.length rfl h hC
  ·exact Zb9 C.length rfl h hC
 rw [hA] at h
 have nd2 := nd
 rw [e] at nd2
 refine o61 (ZfF h nd2) fun w₁ d1 d2 d3 d4 d5 => ?_
 rw [<- hA] at d2
 have n3 := nd
 rw [e2] at n3
 refine o30 (Zbs n3) fun m1 m2 m3 => ?_
 have hb : b.n ∈ (Zaf (b :: B)).ids := by refine rE (Zag _ _) ?_; exact Zqz
 have nbp : b.n ≠ p.n := fun q => m3 p.n Zbe (q ▸ hb)
 have nbC : b.n ∉ (C.map Fr.n).reverse := fun q => m3 b.n (Zfe (Zsu.mp q)) hb
 have hch := (Zgo d2).2.2
 have hl1 := d4.len hl
 have hsz := d2.small m1
 have hbl := d3.lt _ hb
 rw [d4.nd] at hsz hbl
 have hsz2 : (p.k.heads ++ hd D).length < LIM := by
  have h1 : (p.k.heads ++ hd D).length <= (Zaf (C ++ p :: D)).ids.length := by
   refine rE (Zaj _ _) (rE (Zag _ _) (rE Zqu (rE Zqu (rE ZqF (rE Zqu ?_)))))
   have q1 : p.k.heads.length <= p.k.ids.length := by
    generalize p.k = F
    induction F with
    | nil => exact ZqQ _
    | nd n d s k r ih1 ih2 => refine rE Zdn ?_; simp [Fo.heads]; omega
   have q2 : (hd D).length <= (Zaf D).ids.length := by
    induction D using ZcU with
    | nil => exact Zrq _
    | cons f r => refine rE (Zag _ _) ?_; simp [hd]
   omega
  omega
 refine e51 _ (Zd0 nbp hab nbC d1 hch hsz2 (by (refine rE hl1.pa (rE d4.nd ?_)); exact hbl)) ?_ (d4.trans .set) (fun l hh => ?_)
 ·rw [Zcj] at d2
  have := ZgV (A := C) (a := { p with k := p.k.app (Zaf D) }) d2 d3 (by
   refine rE (Zaj _ _) (rE (Zag _ _) (rE (Zcx _ _) ?_))
   rw [Zaj, Zag, Zaj] at nd
   simpa [ZqN] using nd)
  rw [ZaJ, Za1] at this
  exact this
 ·refine fun i hi => ?_
  refine o40 (d5 l (fun i hi => e ▸ hh i hi) i hi) fun a1 a2 a3 a4 => ?_
  refine o40 (Zbz (w := w₁) (a := p.n) (b := b.n) (l := p.k.heads ++ hd D ++ [b.n]) (p := p.n) (is := l) (fun q => hh _ q Zbe) (fun q => hh _ q (by refine rE e2 ?_; exact Zbe)) i hi) fun b1 b2 b3 b4 => ?_
  exact ⟨b1.trans a1, b2.trans a2, b3.trans a3, b4.trans a4⟩
theorem Zil {w : PW} {M : List Fr} {x b : Fr} {B : List Fr} (h : Half w M (b :: B)) (hM : M ≠ []) (hx : HoldF w (-1) (Zaf [x])) (hk : x.k = .nil) (nd : (Zaf (M ++ b :: B)).ids.Nodup) (nx : x.n ∉ (Zaf (M ++ b :: B)).ids) (hl : Len w) :
  ∃ w', Za7 w x.n b.n = some w' /\ HoldF w' (-1) (Zaf M) /\ HoldF w' (-1) (Zaf (x :: b :: B)) /\ Alt w w' := by
 obtain ⟨A, a, rfl⟩ : ∃ A a, M = A ++ [a] := ⟨M.dropLast, M.getLast hM, (Zq3 _).symm⟩
 rw [ZqN, Zrh] at nd nx
 refine o61 (ZfF h nd) fun w₁ d1 d2 d3 d4 d5 => ?_
 have e2 : A ++ a :: b :: B = (A ++ [a]) ++ b :: B := by simp
 have n3 := nd
 rw [e2] at n3
 refine o30 (Zbs n3) fun m1 m2 m3 => ?_
 have hb : b.n ∈ (Zaf (b :: B)).ids := by refine rE (Zag _ _) ?_; exact Zqz
 have hbM : b.n ∈ (Zaf (A ++ a :: b :: B)).ids := by refine rE e2 ?_; exact Zbe
 have nbx : b.n ≠ x.n := fun q => nx (q ▸ hbM)
 have hx1 : HoldF w₁ (-1) (Zaf [x]) := hx.same (d5 _ fun i hi => by
  rw [Zag, hk] at hi
  rcases ZqD.mp hi with rfl | hi
  ·exact nx
  ·cases hi)
 have hab : Zbj w 1000 x.n = some [] := by
  have := Zb9 (w := w) 0 (A := []) (a := x) (B := []) (f := 1000) rfl hx (by decide)
  exact this
 have hl1 := d4.len hl
 have hbl := d3.lt _ hb
 have hch : w₁.ch[x.n]? = some [] := by have := hx1.2.2.2.1; rw [hk] at this; exact this
 refine e51 _ (Zd0 nbx hab (Zq1) d1 hch (by decide) (by refine rE hl1.pa ?_; exact hbl)) ?_ ?_ (d4.trans .set)
 ·exact d2.same (Zbz (fun q => nx (by (refine rE e2 (rE (Zaj _ _) ?_)); exact Zqx _ q)) fun q => m3 _ q hb)
 ·have := ZgV (A := []) (a := x) hx1 d3 (by
   refine rE (Zq2 _) (rE (Zag _ _) (rE hk ?_))
   refine ZqH.mpr ⟨fun q => nx (by (refine rE e2 (rE (Zaj _ _) ?_)); exact Zqv _ q), m2⟩)
  rw [hk] at this
  exact this
theorem Zdv {w w' : PW} {p : Fr} {K : Fo} : ∀ {A : List Fr} {q : Int}, HoldF w q (Zaf (A ++ [p])) -> w'.nd[p.n]? = w.nd[p.n]? -> w'.tx[p.n]? = w.tx[p.n]? -> w'.pa[p.n]? = w.pa[p.n]? -> w'.ch[p.n]? = some K.heads -> HoldF w' p.n K -> Same w w' (Zaf A).ids -> HoldF w' q (Zaf (A ++ [{ p with k := K }])) := by
 refine @Zbv _ _ ?_ ?_
 ·intro q h1_ a b c d e n_
  refine o60 h1_ fun h1 h2 h3 h4 h5 n_ => ?_; clear h1_
  exact ⟨a.trans h1, b.trans h2, c.trans h3, by (refine rE d (rE (ZaJ _ _) (rE (Za1 _) ?_))); simp [hd], by refine (?_ : HoldF w' p.n (K.app .nil)); refine rE (Zes _) ?_; exact e, trivial⟩
 ·intro f A ih q h1_ a b c d e s
  refine o60 h1_ fun h1 h2 h3 h4 h5 n_ => ?_; clear h1_
  rw [Zag] at s
  refine o40 (s f.n Zqz) fun s1 s2 s3 s4 => ?_
  refine o20 (HoldF_app.mp h5) fun h6 h7 => ?_
  refine ⟨s1.trans h1, s2.trans h2, s3.trans h3, s4.trans (h4.trans ?_), HoldF_app.mpr ⟨h6.same (s.sub fun i hi => Zqw _ (Zqx _ hi)), ih h7 a b c d e (s.sub fun i hi => Zqw _ (Zqv _ hi))⟩, trivial⟩
  refine (?_ : some ((f.k.app (Zaf (A ++ [p]))).heads) = some ((f.k.app (Zaf (A ++ [_]))).heads))
  refine rE (ZaJ _ _) (rE (ZaJ _ _) (rE (Za1 _) (rE (Za1 _) ?_)))
  induction A <;> rfl
theorem Zgw : ∀ (l : List Nat) {w : PW} {b x : Nat} {e : List Nat}, w.ch[b]? = some l -> w.ch[x]? = some e -> w.pa[x]? = some (-1) -> (∀ c ∈ l, w.pa[c]? = some (b : Int)) -> l.Nodup -> x ∉ l -> b ≠ x -> e.length + l.length <= LIM ->
  ∃ w', Zck w x l = some w' /\ Alt w w' /\ (∀ i, w'.ch[i]? = if i = b then some [] else if i = x then some (e ++ l) else w.ch[i]?) /\ ∀ i, w'.pa[i]? = if i ∈ l then some (x : Int) else w.pa[i]? := by
 refine @Zbg _ _ ?_ ?_
 ·intro w b x e h1 h2 h3 h4 h5 h6 h7 h8
  exact ⟨w, rfl, .refl, fun i => by
   by_cases q : i = b
   ·refine rE (if_pos q) (rE q ?_); exact rE h1 rfl
   ·refine rE (if_neg q) ?_
    by_cases q2 : i = x
    ·refine rE (if_pos q2) (rE q2 (rE h2 ?_)); exact rE (ZqR _) rfl
    ·exact rE (if_neg q2) rfl, fun i => by exact rE (if_neg Zq1) rfl⟩
 ·intro n r ih w b x e h1 h2 h3 h4 h5 h6 h7 h8
  refine o20 (ZqH.mp h5) fun n1 n2 => ?_
  have hnx : n ≠ x := fun q => h6 (q ▸ Zqz)
  have hab : Zbj w 1000 x = some [] := by (rewrite [Zbj]; refine rE h3 ?_); rfl
  have hpn := h4 n Zqz
  have hdet : ZbQ w n = some (Zka w b r n (-1)) := by
   unfold ZbQ
   refine rE hpn ?_
   dsimp only
   rewrite [if_neg (by omega), if_neg (by omega)]; refine rE (ZrR _) (rE h1 ?_)
   dsimp only
   refine rE (if_pos Zqz) (rE (ZsG _ _) ?_); rfl
  have hch : (Zka w b r n (-1)).ch[x]? = some e := (ZqX h7).trans h2
  have hln : n < (Zka w b r n (-1)).pa.length := by refine (?_ : n < (w.pa.set _ _).length); refine rE Zra ?_; exact ZaH hpn
  have hins := Zd0 hnx hab Zq1 hdet hch (by rw [ZqF] at h8; omega) hln
  have hnb : x < w.ch.length := ZaH h2
  have hbb : b < w.ch.length := ZaH h1
  have hnn : n < w.pa.length := ZaH hpn
  generalize hw2 : Zka (Zka w b r n (-1)) x (e ++ [n]) n x = w₂ at hins
  have c2 : ∀ i, w₂.ch[i]? = if i = x then some (e ++ [n]) else if i = b then some r else w.ch[i]? := fun i => by
   refine rS hw2 ?_
   show ((w.ch.set b r).set x (e ++ [n]))[i]? = _
   refine rE Zsn (rE Zsn (rE Zra ?_))
   by_cases q : x = i
   ·refine rE (if_pos q) (rE (if_pos hnb) ?_); exact rE (if_pos q.symm) rfl
   ·refine rE (if_neg q) (rE (if_neg (Ne.symm q)) ?_)
    by_cases q2 : b = i
    ·refine rE (if_pos q2) (rE (if_pos hbb) ?_); exact rE (if_pos q2.symm) rfl
    ·refine rE (if_neg q2) ?_; exact rE (if_neg (Ne.symm q2)) rfl
  have p2 : ∀ i, w₂.pa[i]? = if i = n then some (x : Int) else w.pa[i]? := fun i => by
   refine rS hw2 ?_
   show ((w.pa.set n (-1)).set n x)[i]? = _
   refine rE (List.set_set _) (rE Zsn ?_)
   by_cases q : n = i
   ·refine rE (if_pos q) (rE (if_pos hnn) ?_); exact rE (if_pos q.symm) rfl
   ·refine rE (if_neg q) ?_; exact rE (if_neg (Ne.symm q)) rfl
  have a2 : Alt w w₂ := by refine rS hw2 ?_; exact Alt.trans .set .set
  refine o51 (ih (w := w₂) (b := b) (x := x) (e := e ++ [n]) (by (refine rE (c2 _) (rE (if_neg h7) ?_); exact rE (if_pos rfl) rfl)) (by (refine rE (c2 _) ?_; exact rE (if_pos rfl) rfl)) (by (refine rE (p2 _) (rE (if_neg (Ne.symm hnx)) ?_)); exact h3)
   (fun c hc => by (refine rE (p2 _) ?_; rw [if_neg (fun q : c = n => n1 (q ▸ hc))]); exact h4 c (Zqw _ hc)) n2 (fun q => h6 (Zqw _ q)) h7 (by (refine rE Zqu (rE ZqY ?_)); rw [ZqF] at h8; omega)) fun w' i1 i2 i3 i4 => ?_
  refine e51 w' ?_ (a2.trans i2) (fun i => ?_) (fun i => ?_)
  ·rewrite [Zck]; refine rE hins ?_; exact i1
  ·refine rE (i3 _) (rE (c2 _) ?_)
   by_cases q : i = b
   ·refine rE (if_pos q) ?_; exact rE (if_pos q) rfl
   ·refine rE (if_neg q) (rE (if_neg q) (rE (if_neg q) ?_))
    by_cases q2 : i = x
    ·refine rE (if_pos q2) (rE (if_pos q2) ?_); simp
    ·refine rE (if_neg q2) (rE (if_neg q2) ?_); exact rE (if_neg q2) rfl
  ·refine rE (i4 _) (rE (p2 _) ?_)
   by_cases q : i ∈ r
   ·refine rE (if_pos q) ?_; exact rE (if_pos (Zqw _ q)) rfl
   ·refine rE (if_neg q) ?_
    by_cases q2 : i = n
    ·refine rE (if_pos q2) ?_; exact rE (if_pos (q2 ▸ Zqz)) rfl
    ·refine rE (if_neg q2) ?_; exact rE (if_neg (fun x => (ZqD.mp x).elim q2 q)) rfl
theorem HoldF.paH {w : PW} : ∀ {F : Fo} {p : Int}, HoldF w p F -> ∀ i ∈ F.heads, w.pa[i]? = some p := by
 refine @foI _ ?_ ?_
 ·exact fun n_ i hi => noH hi
 ·intro n d s k r ihk ihr p hp i hi
  refine o60 hp fun h1 h2 h3 h4 h5 h6 => ?_; clear hp
  rcases ZqD.mp hi with rfl | hi
  ·exact h3
  ·exact ihr h6 i hi
theorem Zjh : ∀ {F : Fo}, F.ids.Nodup -> F.heads.Nodup := by
 refine @foI _ ?_ ?_
 ·intro n_
  exact .nil
 ·intro n d s k r ihk ihr h
  rw [Zdn] at h
  refine o20 (ZqH.mp h) fun h1 h2 => ?_
  exact ZqH.mpr ⟨fun q => h1 (Zqv _ (ZbP q)), ihr (ZqK.mp h2).2.1⟩
theorem ZeH : ∀ F : Fo, F.heads.length <= F.ids.length := by
 refine @foR _ ?_ ?_
 ·exact ZqQ _
 ·intro n d s k r ihk ihr
  refine rE Zdn ?_; have := ihr; simp [Fo.heads]; omega
theorem Zne {w : PW} {X : List Fr} {b x : Fr} (h : HoldF w (-1) (Zaf (X ++ [b]))) (hx : HoldF w (-1) (Zaf [x])) (hk : x.k = .nil) (nd : (Zaf (X ++ [b])).ids.Nodup) (nx : x.n ∉ (Zaf (X ++ [b])).ids) (hl : Len w) (hz : w.nd.length < LIM) :
  ∃ w', Zk6 w b.n x.n = some w' /\ HoldF w' (-1) (Zaf (X ++ [{ b with k := .nil }])) /\ HoldF w' (-1) (Zaf [{ x with k := b.k }]) /\ Alt w w' := by
 have nbx : b.n ≠ x.n := fun q => nx (q ▸ Zbe)
 refine o30 (Zbs nd) fun m1 m2 m3 => ?_
 rw [Zag] at m2
 have hkids : HoldF w b.n b.k := by
  have : ∀ {X : List Fr} {p : Int}, HoldF w p (Zaf (X ++ [b])) -> HoldF w b.n b.k := by
   intro X
   induction X with
   | nil => intro p h; exact (HoldF_app.mp h.2.2.2.2.1).1
   | cons f X ih => intro p h; exact ih (HoldF_app.mp h.2.2.2.2.1).2
  exact this h
 have hbk := (Zgo h).2.2
 rw [show hd ([] : List Fr) = [] from rfl, ZqR] at hbk
 have hxc : w.ch[x.n]? = some [] := by have := hx.2.2.2.1; rw [hk] at this; exact this
 have hxp := Zhf hx
 refine o20 (ZqH.mp m2) fun k1 k2 => ?_
 rw [show (Zaf ([] : List Fr)).ids = [] from rfl, ZqR] at k1 k2
 have hsub : ∀ i ∈ b.k.ids, i ∈ (Zaf (X ++ [b])).ids := fun i hi => by (refine rE (Zaj _ _) (rE (Zag _ _) ?_)); exact Zqv _ (Zqw _ (Zqx _ hi))
 have hxk : x.n ∉ b.k.ids := fun q => nx (hsub _ q)
 have hkX : ∀ i ∈ (Zaf X).ids, i ∉ b.k.heads := fun i hi q => m3 i hi (by refine rE (Zag _ _) ?_; exact Zqw _ (Zqx _ (ZbP q)))
 have hbX : b.n ∉ (Zaf X).ids := fun q => m3 _ q (by refine rE (Zag _ _) ?_; exact Zqz)
 have hxX : x.n ∉ (Zaf X).ids := fun q => nx (by refine rE (Zaj _ _) ?_; exact Zqx _ q)
 refine o51 (Zgw b.k.heads hbk hxc hxp (hkids.paH) (Zjh k2) (fun q => hxk (ZbP q)) nbx (by
  have := ZeH b.k
  have := hkids.small k2
  simp; omega)) fun w' i1 i2 i3 i4 => ?_
 refine e51 w' ?_ ?_ ?_ i2
 ·unfold Zk6
  rw [show Zbj w 1000 x.n = some [] from by (rewrite [Zbj]; refine rE hxp ?_); rfl]
  dsimp only [Zqy]
  refine rE (if_neg Zq1) (rE hbk ?_)
  exact i1
 ·refine Zdv h (by exact rE i2.nd rfl) (by exact rE i2.tx rfl) (by (refine rE (i4 _) ?_; rw [if_neg fun q => k1 (ZbP q)])) (by (refine rE (i3 _) (rE (if_pos rfl) ?_)); rfl) trivial fun i hi => ⟨by exact rE i2.nd rfl, by exact rE i2.tx rfl, by (refine rE (i4 _) ?_; exact rE (if_neg (hkX i hi)) rfl), ?_⟩
  refine rE (i3 _) ?_; rw [if_neg (fun q : i = b.n => hbX (q ▸ hi)), if_neg (fun q : i = x.n => hxX (q ▸ hi))]
 ·have hx1 := hx.1
  have hx2 := hx.2.1
  refine ⟨by refine rE i2.nd ?_; exact hx1, by refine rE i2.tx ?_; exact hx2, by (refine rE (i4 _) ?_; rw [if_neg fun q => hxk (ZbP q)]); exact hxp, ?_, ?_, trivial⟩
  ·refine rE (i3 _) (rE (if_neg (Ne.symm nbx)) (rE (if_pos rfl) (rE (ZaJ _ _) ?_))); simp [Zaf, Fo.heads]
  ·refine (?_ : HoldF w' x.n (b.k.app .nil))
   refine rE (Zes _) ?_
   refine hkids.parent k2 fun i hi => ⟨by exact rE i2.nd rfl, by exact rE i2.tx rfl, ?_, i4 i⟩
   refine rE (i3 _) ?_; rw [if_neg (fun q : i = b.n => k1 (q ▸ hi)), if_neg (fun q : i = x.n => hxk (q ▸ hi))]
end NzP
namespace NzP
open PySem Nz
theorem ZmZ {l l' : List Nat} (h : l.Perm l') : Za3 l = Za3 l' := ZcR ((ZbX l).trans h) (Zdp l)
noncomputable def bl : Nd -> List Nat
 | .el t (some c) => if t.isB then [c] else []
 | _ => []
noncomputable def fl : Nd -> List Nat
 | .el t (some c) => if t.isF then [c] else []
 | _ => []
noncomputable def blZ (Z : List Fr) : List Nat := Z.flatMap fun f => bl f.d
noncomputable def flZ (Z : List Fr) : List Nat := Z.flatMap fun f => fl f.d
theorem Zod (A B : List Fr) : blZ (A ++ B) = blZ A ++ blZ B := Zrl
theorem ZoG (A B : List Fr) : flZ (A ++ B) = flZ A ++ flZ B := Zrl
theorem Zhk (a : Fr) (B : List Fr) : blZ (a :: B) = bl a.d ++ blZ B := Zrc
theorem ZhL (a : Fr) (B : List Fr) : flZ (a :: B) = fl a.d ++ flZ B := Zrc
noncomputable def ZaM : List Nat -> List Nat -> Fo -> List Ent
 | _, _, .nil => []
 | bs, fs, .nd n d s k r => s.map (fun c => (c, bs, Za3 fs)) ++ (ZaM (bs ++ bl d) (fs ++ fl d) k ++ ZaM bs fs r)
theorem ZbM {bs fs : List Nat} : ∀ F G : Fo, ZaM bs fs (F.app G) = ZaM bs fs F ++ ZaM bs fs G := by
 refine @foR _ ?_ ?_
 ·intro G
  exact rfl
 ·intro n d s k r ihk ihr G
  (rewrite [Fo.app, ZaM, ZaM]; refine rE (ihr _) ?_); simp
theorem ZgN : ∀ (F : Fo) {bs fs fs' : List Nat}, fs.Perm fs' -> ZaM bs fs F = ZaM bs fs' F := by
 refine @foR _ ?_ ?_
 ·intro n_ n_ n_ n_
  exact rfl
 ·intro n d s k r ihk ihr bs fs fs' h
  (rewrite [ZaM, ZaM]; refine rE (ZmZ h) (rE (ihk (h.append_right _)) ?_); exact rE (ihr h) rfl)
noncomputable def Za2 : List Nat -> List Nat -> List Fr -> List Ent
 | _, _, [] => []
 | bs, fs, f :: r => ZaM (bs ++ bl f.d) (fs ++ fl f.d) f.k ++ Za2 (bs ++ bl f.d) (fs ++ fl f.d) r
theorem ZdC : ∀ (Z : List Fr) {bs fs : List Nat}, ZaM bs fs (Zaf Z) = Za2 bs fs Z := by
 refine @Zbg _ _ ?_ ?_
 ·intro n_ n_
  exact rfl
 ·intro f r ih bs fs
  (rewrite [Zaf, ZaM]; refine rE (ZbM _ _) (rE (ih) ?_); rw [Za2]); simp [ZaM]
theorem Za9 : ∀ (A B : List Fr) {bs fs : List Nat}, Za2 bs fs (A ++ B) = Za2 bs fs A ++ Za2 (bs ++ blZ A) (fs ++ flZ A) B := by
 refine @Zbg _ _ ?_ ?_
 ·intro B bs fs
  simp [Za2, blZ, flZ]
 ·intro f A ih B bs fs
  (refine rE ZqT ?_; rewrite [Za2, Za2]; refine rE (ih B) (rE (Zhk _ _) (rE (ZhL _ _) ?_))); simp
theorem Zj7 : ∀ (Z : List Fr) {bs fs fs' : List Nat}, fs.Perm fs' -> Za2 bs fs Z = Za2 bs fs' Z := by
 refine @Zbg _ _ ?_ ?_
 ·intro n_ n_ n_ n_
  exact rfl
 ·intro f r ih bs fs fs' h
  (rewrite [Za2, Za2]; refine rE (ZgN f.k (h.append_right _)) ?_; exact rE (ih (h.append_right _)) rfl)
theorem Zie : ∀ (Z : List Fr) {bs fs : List Nat}, (∀ f ∈ Z, f.k = .nil) -> Za2 bs fs Z = [] := by
 refine @Zbg _ _ ?_ ?_
 ·intro n_ n_ n_
  exact rfl
 ·intro f r ih bs fs h
  (rewrite [Za2]; refine rE (h f Zqz) ?_; refine rE (ih fun g hg => h g (Zqw _ hg)) ?_); rfl
noncomputable def Dep (m : Nat) (d : Nd) : Prop := m < 14 /\ (3 <= m -> d = .tx \/ ∃ t c, d = .el t (some c))
theorem Dep.mono {m m' : Nat} {d : Nd} (h : Dep m d) (q : m' <= m) : Dep m' d := ⟨by have := h.1; omega, fun z => h.2 (by omega)⟩
noncomputable def DF : Nat -> Fo -> Prop
 | _, .nil => True
 | m, .nd n d s k r => Dep m d /\ DF (m + 1) k /\ DF m r
theorem Zgl {m : Nat} : ∀ F G : Fo, DF m (F.app G) ↔ DF m F /\ DF m G := by
 refine @foR _ ?_ ?_
 ·intro G
  simp [Fo.app, DF]
 ·intro n d s k r ihk ihr G
  rw [Fo.app, DF, DF, ihr, and_assoc, and_assoc]
theorem ZlM : ∀ (F : Fo) {m m' : Nat}, m' <= m -> DF m F -> DF m' F := by
 refine @foR _ ?_ ?_
 ·intro n_ n_ n_ n_
  exact trivial
 ·intro n d s k r ihk ihr m m' h h3_
  refine o30 h3_ fun a b c => ?_; clear h3_
  exact ⟨a.mono h, ihk (by omega) b, ihr h c⟩
noncomputable def DFZ : Nat -> List Fr -> Prop
 | _, [] => True
 | m, f :: r => Dep m f.d /\ DF (m + 1) f.k /\ DFZ (m + 1) r
theorem Zg9 : ∀ (Z : List Fr) {m : Nat}, DF m (Zaf Z) ↔ DFZ m Z := by
 refine @Zbg _ _ ?_ ?_
 ·intro n_
  exact Iff.rfl
 ·intro f r ih m
  rw [Zaf, DF, Zgl, ih, DFZ]; simp [DF]
theorem Zc5 : ∀ (A B : List Fr) {m : Nat}, DFZ m (A ++ B) ↔ DFZ m A /\ DFZ (m + A.length) B := by
 refine @Zbg _ _ ?_ ?_
 ·intro B m
  simp [DFZ]
 ·intro f A ih B m
  (refine rE ZqT ?_; rewrite [DFZ, DFZ, ih B]; refine rE ZqF ?_; rw [and_assoc, and_assoc, show m + 1 + A.length = m + (A.length + 1) from by omega])
theorem Zmv : ∀ (Z : List Fr) {m m' : Nat}, m' <= m -> DFZ m Z -> DFZ m' Z := by
 refine @Zbg _ _ ?_ ?_
 ·intro n_ n_ n_ n_
  exact trivial
 ·intro f r ih m m' h h3_
  refine o30 h3_ fun a b c => ?_; clear h3_
  exact ⟨a.mono h, ZlM f.k (by omega) b, ih (by omega) c⟩
theorem ZkJ : ∀ (Z : List Fr) {m : Nat}, (∀ f ∈ Z, f.k = .nil) -> (∀ f ∈ Z, ∃ t c, f.d = .el t (some c) /\ t.isF = true) -> m + Z.length <= 14 -> DFZ m Z := by
 refine @Zbg _ _ ?_ ?_
 ·intro n_ n_ n_ n_
  exact trivial
 ·intro f r ih m h hd hl
  exact ⟨⟨by rw [ZqF] at hl; omega, fun n_ => .inr (by (refine o42 (hd f Zqz) fun t c e n_ => ?_); exact e32 t c e)⟩, by refine rE (h f Zqz) ?_; trivial, ih (fun g hg => h g (Zqw _ hg)) (fun g hg => hd g (Zqw _ hg)) (by rw [ZqF] at hl; omega)⟩
theorem Zlx : ∀ (Z : List Fr) {m : Nat}, DFZ m Z -> Z ≠ [] -> m + Z.length <= 14
 | [f], m, ⟨a, _, _⟩, _ => by have := a.1; simp; omega
 | f :: g :: r, m, ⟨a, _, c⟩, _ => by have := Zlx (g :: r) c (by simp); simp at *; omega
noncomputable def TF : Bool -> Fo -> Prop
 | _, .nil => True
 | a, .nd n .tx s k r => a = false /\ s ≠ [] /\ k = .nil /\ TF true r
 | a, .nd n (.el _ _) s k r => s = [] /\ TF false k /\ TF false r
 | a, .nd n .doc s k r => s = [] /\ TF false k /\ TF false r
noncomputable def TFZ (Z : List Fr) : Prop := ∀ f ∈ Z, f.d ≠ .tx /\ TF false f.k
noncomputable def Zph : Fo -> Prop
 | .nd _ .tx _ _ _ => False
 | _ => True
theorem Znz : ∀ {F : Fo} {a b : Bool}, Zph F -> TF a F -> TF b F
 | .nil, _, _, _, _ => trivial
 | .nd n (.el _ _) s k r, _, _, _, h => h
 | .nd n .doc s k r, _, _, _, h => h
theorem Zfl {G : Fo} (hG : Zph G) : ∀ {F : Fo} {a : Bool}, TF a (F.app G) ↔ TF a F /\ TF false G
 | .nil, a => ⟨fun h => ⟨trivial, Znz hG h⟩, fun h => Znz hG h.2⟩
 | .nd n .tx s k r, a => by rw [Fo.app, TF, TF, Zfl hG (F := r)]; simp only [and_assoc]
 | .nd n (.el _ _) s k r, a => by rw [Fo.app, TF, TF, Zfl hG (F := r)]; simp only [and_assoc]
 | .nd n .doc s k r, a => by rw [Fo.app, TF, TF, Zfl hG (F := r)]; simp only [and_assoc]
theorem ZgE : ∀ {Z : List Fr}, (∀ f ∈ Z, f.d ≠ .tx) -> Zph (Zaf Z) := by
 refine @Zbv _ _ ?_ ?_
 ·intro n_
  exact trivial
 ·intro x0 r ih h
  obtain ⟨n, d, k⟩ := x0
  induction d with
  | tx => exact absurd rfl (h _ Zqz)
  | doc => trivial
  | el _ _ => trivial
theorem Zni : ∀ {Z : List Fr} {a : Bool}, TFZ Z -> TF a (Zaf Z) := by
 refine @Zbv _ _ ?_ ?_
 ·intro n_ n_
  exact trivial
 ·intro x0 r ih a h
  obtain ⟨n, d, k⟩ := x0
  have h0 := h _ Zqz
  have hr : TFZ r := fun g hg => h g (Zqw _ hg)
  have hk : TF false (k.app (Zaf r)) := (Zfl (ZgE fun f hf => (hr f hf).1)).mpr ⟨h0.2, ih hr⟩
  induction d with
  | tx => exact absurd rfl h0.1
  | doc => exact ⟨rfl, hk, trivial⟩
  | el _ _ => exact ⟨rfl, hk, trivial⟩
theorem ZiA {k : Fo} {Z : List Fr} (h : TF false k) (hZ : TFZ Z) : TF false (k.app (Zaf Z)) := (Zfl (ZgE fun f hf => (hZ f hf).1)).mpr ⟨h, Zni hZ⟩
noncomputable def lt : Nd -> List (Nat × Tag)
 | .el t (some c) => [(c, t)]
 | _ => []
noncomputable def lts (F : Fo) : List (Nat × Tag) := F.flat.flatMap fun p => lt p.2
theorem ZfJ (F G : Fo) : lts (F.app G) = lts F ++ lts G := by unfold lts; (refine rE (Zec _ _) ?_; exact rE Zrl rfl)
noncomputable def ltZ (Z : List Fr) : List (Nat × Tag) := lts (Zaf Z)
theorem ZaF (f : Fr) (r : List Fr) : ltZ (f :: r) = lt f.d ++ (lts f.k ++ ltZ r) := by
 unfold ltZ lts
 refine rE (Zdb _ _) ?_
 simp
theorem Zl4 : ltZ [] = [] := rfl
theorem Zb2 (A B : List Fr) : ltZ (A ++ B) = ltZ A ++ ltZ B := by unfold ltZ lts; (refine rE (ZfP _ _) ?_; exact rE Zrl rfl)
noncomputable def plain (p : Nat × Tag) : Bool := decide (p.2.str ∈ plainN)
structure Rep (L L' : List (Nat × Tag)) : Prop where
 ded : Zbd [] (L'.map (·.1)) = Zbd [] (L.map (·.1))
 pl : L'.filter plain = L.filter plain
 sub : ∀ p ∈ L', p ∈ L
theorem Rep.refl {L : List (Nat × Tag)} : Rep L L := ⟨rfl, rfl, fun n_ h => h⟩
theorem Rep.trans {L La Lb : List (Nat × Tag)} (a : Rep L La) (b : Rep La Lb) : Rep L Lb := ⟨b.ded.trans a.ded, b.pl.trans a.pl, fun p h => a.sub p (b.sub p h)⟩
theorem Zf8 : ∀ (l l' acc : List Nat), Zbd acc (l ++ l') = Zbd (Zbd acc l) l' := by
 refine @Zbg _ _ ?_ ?_
 ·intro l' acc
  exact rfl
 ·intro x r ih l' acc
  (refine rE ZqT ?_; rewrite [Zbd, Zbd]; exact rE (ih _ _) rfl)
theorem mem_dedup : ∀ {l acc : List Nat} {x : Nat}, x ∈ Zbd acc l ↔ x ∈ acc \/ x ∈ l := by
 refine @Zbv _ _ ?_ ?_
 ·intro acc x
  simp [Zbd]
 ·intro y r ih acc x
  rw [Zbd, ih, ZqD]
  by_cases h : y ∈ acc
  ·refine rE (if_pos h) ?_
   constructor
   ·rintro (a | a)
    ·exact .inl a
    ·exact .inr (.inr a)
   ·rintro (a | rfl | a)
    ·exact .inl a
    ·exact .inl h
    ·exact .inr a
  ·refine rE (if_neg h) ?_; rw [ZqJ, ZqI, or_assoc]
theorem Zk8 : ∀ {l acc : List Nat}, (∀ x ∈ l, x ∈ acc) -> Zbd acc l = acc := by
 refine @Zbv _ _ ?_ ?_
 ·intro acc n_
  exact rfl
 ·intro x r ih acc h
  (rewrite [Zbd]; refine rE (if_pos (h x Zqz)) ?_); exact ih fun y hy => h y (Zqw _ hy)
theorem Rep.ins {A M B : List (Nat × Tag)} (h : ∀ p ∈ M, p ∈ A) (hp : ∀ p ∈ M, plain p = false) : Rep (A ++ B) (A ++ M ++ B) := by
 refine ⟨?_, ?_, fun p hq => ?_⟩
 ·refine rE ZqB (rE ZqB (rE ZqB (rE (Zf8 _ _ _) (rE (Zf8 _ _ _) (rE (Zf8 _ _ _) ?_))))); rw [Zk8 (l := M.map (·.1))]
  intro x hx
  refine o31 (ZqO.mp hx) fun p hp y2 => ?_; subst y2
  exact mem_dedup.mpr (.inr (ZqL (h p hp)))
 ·refine rE (Zq6 _ _) (rE (Zq6 _ _) (rE (Zq6 _ _) ?_)); rw [(Zrv (l := M) (p := plain)).mpr fun p h => by refine rE (hp p h) ?_; decide]; exact rE (ZqR _) rfl
 ·rcases ZqJ.mp hq with hq | hq
  ·rcases ZqJ.mp hq with hq | hq
   ·exact Zqx _ hq
   ·exact Zqx _ (h p hq)
  ·exact Zqv _ hq
structure Keep (Z Z' : List Fr) : Prop where
 read : Za2 [] [] Z' = Za2 [] [] Z
 tf : TFZ Z -> TFZ Z'
 df : DFZ 0 Z -> DFZ 0 Z'
 rep : Rep (ltZ Z) (ltZ Z')
theorem Keep.refl {Z : List Fr} : Keep Z Z := ⟨rfl, id, id, .refl⟩
theorem Keep.trans {Z Za Zb : List Fr} (a : Keep Z Za) (b : Keep Za Zb) : Keep Z Zb := ⟨b.read.trans a.read, fun h => b.tf (a.tf h), fun h => b.df (a.df h), a.rep.trans b.rep⟩
noncomputable def into (a : Fr) (B : List Fr) : Fr := { a with k := a.k.app (Zaf B) }
theorem Zhh (A : List Fr) (a : Fr) (B : List Fr) : Keep (A ++ a :: B) (A ++ [into a B]) := by
 refine ⟨?_, fun h => ?_, fun h => ?_, ?_⟩
 ·refine rE (Za9 _ _) (rE (Za9 _ _) ?_); rw [Za2, Za2]
  refine (?_ : _ ++ (ZaM _ _ (a.k.app (Zaf B)) ++ []) = _)
  refine rE (ZbM _ _) (rE (ZdC _) (rE (ZqR _) ?_)); rfl
 ·intro f hf
  rcases ZqJ.mp hf with hf | hf
  ·exact h f (Zqx _ hf)
  ·refine rE (ZqI.mp hf) ?_
   have ha := h a (Zqv _ Zqz)
   exact ⟨ha.1, ZiA ha.2 fun g hg => h g (Zqv _ (Zqw _ hg))⟩
 ·rw [Zc5] at h ⊢
  refine o40 h fun h1 h2 h3 h4 => ?_; clear h
  exact ⟨h1, h2, (Zgl _ _).mpr ⟨h3, (Zg9 _).mpr h4⟩, trivial⟩
 ·refine rE (Zb2 _ _) (rE (Zb2 _ _) (rE (ZaF _ _) (rE (ZaF _ _) (rE Zl4 ?_))))
  refine (?_ : Rep _ (ltZ A ++ (lt a.d ++ (lts (a.k.app (Zaf B)) ++ []))))
  refine rE (ZfJ _ _) (rE (ZqR _) ?_); exact .refl
theorem ZcL {t : Tag} (h : t.isF = true) {c : Nat} : plain (c, t) = false := by
 have : decide (t.str ∈ plainN) = false := by
  cases t
  all_goals first | (cases h; done) | skip
  all_goals kernel_rfl
 exact this
theorem Zk5 {C D D' B : List Fr} {com s b : Fr} {m n : Nat} (hs : ∃ t c, s.d = .el t (some c) /\ t.isF = true) (hD : ∀ f ∈ D, bl f.d = []) (hb : fl b.d = []) (hf : flZ D' = flZ D) (hbD : blZ D' = []) (hk : ∀ f ∈ D', f.k = .nil) (hl : D'.length <= D.length) (hel : ∀ f ∈ D', ∃ t c, f.d = .el t (some c) /\ t.isF = true) (hsub : ∀ f ∈ D', ∃ g ∈ D, f.d = g.d) :
  Keep (C ++ com :: s :: (D ++ b :: B)) (C ++ into com (s :: D) :: (D' ++ { n := b.n, d := b.d, k := .nil } :: { n := m, d := s.d, k := b.k } :: B)) := by
 refine o42 hs fun t c hsd hst => ?_; clear hs
 have hbs : bl s.d = [] := by refine rE hsd ?_; refine (?_ : (if t.isB = true then _ else _) = _); induction t <;> first | rfl | injection hst
 have hblD : blZ D = [] := Zst.mpr hD
 refine ⟨?_, fun h => ?_, fun h => ?_, ?_⟩
 ·refine rE (Za9 _ _) (rE (Za9 _ _) ?_)
  congr 1
  rw [Za2, Za2, Za2]
  refine (?_ : ZaM _ _ (com.k.app (Zaf (s :: D))) ++ Za2 _ _ (D' ++ _) = _)
  refine rE (ZbM _ _) (rE (ZdC _) ?_); rewrite [Za2]; refine rE (Za9 _ _) (rE (Za9 _ _) (rE (Zie D' hk) ?_)); rw [Za2, Za2, Za2]
  simp only [into, hbs, hblD, hbD, hf, hb, ZqR, ZaM, Zq2, ZqN]
  have e : ∀ x : List Nat, (x ++ (fl com.d ++ (flZ D ++ fl s.d))).Perm (x ++ (fl com.d ++ (fl s.d ++ flZ D))) := fun x => (ZrU _ (ZrU _ List.perm_append_comm))
  refine rE (ZgN b.k (e _)) ?_; exact rE (Zj7 B (e _)) rfl
 ·have hc := h com (Zqv _ Zqz)
  have hss := h s (Zqv _ (Zqw _ Zqz))
  have hbb := h b (Zqv _ (Zqw _ (Zqw _ (Zqv _ Zqz))))
  have hDD : TFZ (s :: D) := fun f hf => by
   rcases ZqD.mp hf with rfl | hf
   ·exact hss
   ·exact h f (Zqv _ (Zqw _ (Zqw _ (Zqx _ hf))))
  intro f hf
  rcases ZqJ.mp hf with hf | hf
  ·exact h f (Zqx _ hf)
  ·rcases ZqD.mp hf with rfl | hf
   ·exact ⟨hc.1, ZiA hc.2 hDD⟩
   ·rcases ZqJ.mp hf with hf | hf
    ·refine o42 (hel f hf) fun t c e n_ => ?_
     exact ⟨by refine rE e ?_; nofun, by refine rE (hk f hf) ?_; trivial⟩
    ·rcases ZqD.mp hf with rfl | hf
     ·exact ⟨hbb.1, trivial⟩
     ·rcases ZqD.mp hf with rfl | hf
      ·exact ⟨hss.1, hbb.2⟩
      ·exact h f (Zqv _ (Zqw _ (Zqw _ (Zqv _ (Zqw _ hf)))))
 ·rw [Zc5] at h ⊢
  refine o60 h fun h1 h2 h3 h4 h5 h6 => ?_; clear h
  rw [Zc5] at h6
  refine o40 h6 ?_; clear h6; intro h6 h7 h8 h9
  refine ⟨h1, h2, (Zgl _ _).mpr ⟨h3, (Zg9 _).mpr ⟨h4, h5, h6⟩⟩, (Zc5 _ _).mpr ⟨ZkJ D' hk hel (by have := h7.1; omega), h7.mono (by omega), trivial, ⟨by have := h7.1; omega, fun n_ => .inr ⟨t, c, hsd⟩⟩, ZlM _ (by omega) h8, Zmv _ (by omega) h9⟩⟩
 ·have e1 : ltZ (C ++ com :: s :: (D ++ b :: B)) = (ltZ C ++ (lt com.d ++ lts com.k) ++ ltZ (s :: D)) ++ (lt b.d ++ (lts b.k ++ ltZ B)) := by
   refine rE (Zb2 _ _) (rE (ZaF _ _) (rE (ZaF _ _) (rE (Zb2 _ _) (rE (ZaF _ _) (rE (ZaF _ _) ?_))))); simp
  have e2 : ltZ (C ++ into com (s :: D) :: (D' ++ { n := b.n, d := b.d, k := .nil } :: { n := m, d := s.d, k := b.k } :: B)) = (ltZ C ++ (lt com.d ++ lts com.k) ++ ltZ (s :: D)) ++ ltZ D' ++ (lt b.d ++ (lt s.d ++ (lts b.k ++ ltZ B))) := by
   refine rE (Zb2 _ _) (rE (ZaF _ _) (rE (Zb2 _ _) (rE (ZaF _ _) (rE (ZaF _ _) ?_))))
   refine (?_ : _ ++ (lt com.d ++ (lts (com.k.app (Zaf (s :: D))) ++ _)) = _)
   refine rE (ZfJ _ _) ?_
   refine (?_ : _ ++ (lt com.d ++ ((lts com.k ++ ltZ (s :: D)) ++ _)) = _)
   have : lts Fo.nil = [] := rfl
   simp [this]
  refine rE e1 (rE e2 ?_)
  have pf : ∀ p ∈ ltZ D', plain p = false /\ p ∈ ltZ (s :: D) := by
   intro p hp
   have : ∀ {X : List Fr}, (∀ f ∈ X, f.k = .nil) -> p ∈ ltZ X -> ∃ f ∈ X, p ∈ lt f.d := by
    intro X
    induction X with
    | nil => intro n_ h; cases h
    | cons f r ih =>
     intro h hp
     rw [ZaF, h f Zqz] at hp
     rcases ZqJ.mp hp with hp | hp
     ·exact e31 f Zqz hp
     ·refine o31 (ih (fun g hg => h g (Zqw _ hg)) hp) fun g hg q => ?_
      exact e31 g (Zqw _ hg) q
   refine o31 (this hk hp) fun f hf q => ?_
   refine o42 (hel f hf) fun t' c' e ht => ?_
   refine o31 (hsub f hf) fun g hg eg => ?_
   have q' := q
   rw [e] at q
   refine rE (ZqI.mp q) ?_
   refine ⟨ZcL ht, ?_⟩
   have mem : ∀ {X : List Fr}, g ∈ X -> (c', t') ∈ ltZ X := by
    intro X
    induction X with
    | nil => intro h; cases h
    | cons f r ih =>
     intro h
     refine rE (ZaF _ _) ?_
     rcases ZqD.mp h with rfl | h
     ·refine rS eg (rE e ?_); exact Zqx _ (ZqI.mpr rfl)
     ·exact Zqv _ (Zqv _ (ih h))
   exact mem (Zqw _ hg)
  have r1 := Rep.ins (A := ltZ C ++ (lt com.d ++ lts com.k) ++ ltZ (s :: D)) (M := ltZ D') (B := lt b.d ++ (lts b.k ++ ltZ B)) (fun p hp => Zqv _ (pf p hp).2) fun p hp => (pf p hp).1
  have r2 := Rep.ins (A := (ltZ C ++ (lt com.d ++ lts com.k) ++ ltZ (s :: D)) ++ ltZ D' ++ lt b.d) (M := lt s.d) (B := lts b.k ++ ltZ B) (fun p hp => by
   refine Zqx _ (Zqx _ (Zqv _ ?_))
   refine rE (ZaF _ _) ?_; exact Zqx _ hp) (fun p hp => by
   rw [hsd] at hp; refine rE (ZqI.mp hp) ?_; exact ZcL hst)
  refine r1.trans ?_
  simp only [ZqN] at r2 ⊢
  exact r2
end NzP
namespace NzP
open PySem Nz
structure Tr (w : PW) (Z : List Fr) : Prop where
 hold : HoldF w (-1) (Zaf Z)
 nodup : (Zaf Z).ids.Nodup
 len : Len w
theorem Tr.nd {w : PW} {A B : List Fr} {a : Fr} (T : Tr w (A ++ a :: B)) : w.nd[a.n]? = some a.d := (Zgo T.hold).1
theorem Tr.lt {w : PW} {Z : List Fr} (T : Tr w Z) : ∀ i ∈ (Zaf Z).ids, i < w.nd.length := T.hold.lt
theorem Tr.into {w : PW} {A B : List Fr} {a : Fr} (T : Tr w (A ++ a :: B)) : Tr w (A ++ [into a B]) := by
 have e : Zaf (A ++ a :: B) = Zaf (A ++ [NzP.into a B]) := Zcj a B A
 exact ⟨e ▸ T.hold, e ▸ T.nodup, T.len⟩
theorem Zbo {Z : List Fr} {f : Fr} (h : f ∈ Z) : ∃ A B, Z = A ++ f :: B := List.append_of_mem h
theorem Tr.nd' {w : PW} {Z : List Fr} (T : Tr w Z) {f : Fr} (h : f ∈ Z) : w.nd[f.n]? = some f.d := by
 refine o32 (Zbo h) fun A B y2 => ?_; subst y2
 exact T.nd
theorem Tr.same {w w' : PW} {Z : List Fr} (T : Tr w Z) (h1 : w'.nd = w.nd) (h2 : w'.tx = w.tx) (h3 : w'.pa = w.pa) (h4 : w'.ch = w.ch) : Tr w' Z :=
 ⟨T.hold.same fun i n_ => ⟨by exact rE h1 rfl, by exact rE h2 rfl, by exact rE h3 rfl, by exact rE h4 rfl⟩, T.nodup, ⟨by (refine rE h2 (rE h1 ?_)); exact T.len.tx, by (refine rE h3 (rE h1 ?_)); exact T.len.pa, by (refine rE h4 (rE h1 ?_)); exact T.len.ch⟩⟩
theorem ZjD {Z : List Fr} {i : Nat} (h : i ∈ Z.map Fr.n) : i ∈ (Zaf Z).ids := by
 have := Zfe (B := []) h
 rwa [ZqR] at this
theorem Zbn : ∀ {Z : List Fr}, (Zaf Z).ids.Nodup -> (Z.map Fr.n).Nodup := by
 refine @Zbv _ _ ?_ ?_
 ·intro n_
  exact .nil
 ·intro f r ih h
  rw [Zag] at h
  refine o20 (ZqH.mp h) fun h1 h2 => ?_
  exact ZqH.mpr ⟨fun q => h1 (Zqv _ (ZjD q)), ih (ZqK.mp h2).2.1⟩
theorem Zi0 {w : PW} {b : Fr} : ∀ {X : List Fr} {p : Int}, HoldF w p (Zaf (X ++ [b])) -> HoldF w b.n b.k := by
 refine @Zbv _ _ ?_ ?_
 ·intro p h
  exact (HoldF_app.mp h.2.2.2.2.1).1
 ·intro f X ih p h
  exact ih (HoldF_app.mp h.2.2.2.2.1).2
theorem ZjT (p : Fr) : ({ p with k := p.k.app (Zaf []) } : Fr) = p := by
 obtain ⟨n, d, k⟩ := p
 refine (?_ : (⟨n, d, k.app .nil⟩ : Fr) = _)
 exact rE (Zes _) rfl
theorem Zoh (n : Nat) (d : Nd) : (Zaf [⟨n, d, .nil⟩]).ids = [n] := by refine rE (Zag _ _) ?_; rfl
theorem Zl6 {w : PW} {Z : List Fr} (T : Tr w Z) (d : Nd) : (Zaf (Z ++ [⟨w.nd.length, d, .nil⟩])).ids.Nodup := by
 refine rE (Zaj _ _) (rE (Zoh _ _) ?_); rw [ZqK]
 refine ⟨T.nodup, by simp, fun a ha b hb e => ?_⟩
 rw [ZqI] at hb
 have := T.lt a ha
 omega
theorem ZoA {w : PW} {A : List Fr} {p : Fr} {t : Tag} {c : Option Nat} (T : Tr w (A ++ [p])) (hst : w.st.getLast? = some p.n) (hz : w.nd.length + 1 < LIM) (hs : w.st.length < LIM) (hA : A.length < 1000) :
  ∃ w', elM w t c = some (w.nd.length, w') /\ Tr w' (A ++ p :: [⟨w.nd.length, .el t c, .nil⟩]) /\ w'.st = w.st ++ [w.nd.length] /\ w'.fm = w.fm /\ w'.nd = w.nd ++ [.el t c] /\ w'.er = w.er := by
 have e1 := ZjC (d := .el t c) (t := []) T.len (by omega)
 have L1 := Zhp (d := .el t c) (t := []) T.len
 have H1 := T.hold.same (Zff (d := .el t c) (t := []) T.len T.hold.lt)
 have N1 : HoldF (NzP.addW w (.el t c) []) (-1) (Zaf [⟨w.nd.length, .el t c, .nil⟩]) := Zhc T.len
 have nd := Zl6 T (.el t c)
 rw [ZqN, Zrh] at nd
 refine o51 (ZdJ (C := A) (D := []) (p := p) (b := ⟨w.nd.length, .el t c, .nil⟩) (B := []) (.inr ⟨H1, N1⟩) nd L1 (by refine (?_ : (w.nd ++ [_]).length < LIM); refine rE Zqu ?_; exact hz) hA) fun w2 e2 h2 a2 n_ => ?_
 rw [ZjT] at h2
 refine e71 { w2 with st := w2.st ++ [w.nd.length] } ?_ ⟨h2.same fun i n_ => ⟨rfl, rfl, rfl, rfl⟩, nd, ?_⟩ ?_ a2.fm a2.nd a2.er
 ·unfold elM
  refine rE hst ?_
  dsimp only [Zqy]
  refine rE e1 ?_
  dsimp only [Zqy]
  refine rE e2 ?_
  dsimp only [Zqy]
  unfold Zkt
  rw [if_pos (by refine rE a2.st ?_; exact hs)]
 ·have := a2.len L1
  exact ⟨this.tx, this.pa, this.ch⟩
 ·refine (?_ : w2.st ++ _ = _)
  refine rE a2.st ?_; rfl
theorem Zog : ∀ F : Fo, F = .nil \/ ∃ (G : Fo) (n : Nat) (d : Nd) (s : List Nat) (k : Fo), F = G.app (.nd n d s k .nil) := by
 refine @foR _ ?_ ?_
 ·exact .inl rfl
 ·intro n d s k r ihk ihr
  rcases ihr with h | ⟨G, n', d', s', k', h⟩
  ·subst h; exact .inr ⟨Fo.nil, n, d, s, k, rfl⟩
  ·subst h; exact .inr ⟨Fo.nd n d s k G, n', d', s', k', rfl⟩
theorem Zlv : ∀ (F : Fo) {bs fs bs' fs' : List Nat}, (ZaM bs fs F).length = (ZaM bs' fs' F).length := by
 refine @foR _ ?_ ?_
 ·intro n_ n_ n_ n_
  exact rfl
 ·intro n d s k r ihk ihr n_ n_ n_ n_
  (rewrite [ZaM, ZaM]; refine rE Zqu (rE Zqu (rE Zqu (rE Zqu (rE (Zqt _) (rE (Zqt _) ?_))))); rw [ihk, ihr])
theorem ZiC {w : PW} {A : List Fr} {p : Fr} {c : Nat} (T : Tr w (A ++ [p])) (hst : w.st.getLast? = some p.n) (hd : ∃ t l, p.d = .el t l) (hz : w.nd.length + 1 < LIM) (hA : A.length < 1000) (htf : TF false p.k) (hrd : (ZaM [] [] p.k).length < LIM) (hlast : p.k = .nil \/ ∃ (G : Fo) (n : Nat) (d : Nd) (s : List Nat) (k : Fo), p.k = G.app (.nd n d s k .nil) /\ d ≠ .tx) :
  ∃ w' k', ZbU w p.n c = some w' /\ Tr w' (A ++ [{ p with k := k' }]) /\ w'.st = w.st /\ w'.fm = w.fm /\ w'.er = w.er /\ (w'.nd = w.nd \/ w'.nd = w.nd ++ [.tx]) /\ (∀ bs fs, ZaM bs fs k' = ZaM bs fs p.k ++ [(c, bs, Za3 fs)]) /\ TF false k' /\ (∀ m, m < 14 -> DF m p.k -> DF m k') /\ lts k' = lts p.k := by
 refine o32 hd fun td ld hpd => ?_; clear hd
 have hnd := T.nd
 have hch := (Zgo T.hold).2.2
 rw [show NzP.hd ([] : List Fr) = [] from rfl, ZqR] at hch
 have hk := Zi0 T.hold
 have npk : p.n ∉ p.k.ids := fun q => by
  have := T.nodup
  rw [Zaj, Zag] at this
  exact (ZqH.mp (ZqK.mp this).2.1).1 (Zqx _ q)
 have kin : ∀ i ∈ p.k.ids, i ∈ (Zaf (A ++ [p])).ids := fun i hi => by (refine rE (Zaj _ _) (rE (Zag _ _) ?_)); exact Zqv _ (Zqw _ (Zqx _ hi))
 have kA : ∀ i ∈ p.k.ids, i ∉ (Zaf A).ids := fun i hi q => (Zbs T.nodup).2.2 i q (by refine rE (Zag _ _) ?_; exact Zqw _ (Zqx _ hi))
 have pA : p.n ∉ (Zaf A).ids := fun q => (Zbs T.nodup).2.2 _ q (by refine rE (Zag _ _) ?_; exact Zqz)
 have pin : p.n ∈ (Zaf (A ++ [p])).ids := Zbe
 have knd : p.k.ids.Nodup := by
  have := T.nodup
  rw [Zaj, Zag] at this
  exact (ZqK.mp (ZqH.mp (ZqK.mp this).2.1).2).1
 have e1 := ZjC (d := .tx) (t := [c]) T.len (by omega)
 have L1 := Zhp (d := .tx) (t := [c]) T.len
 have H1 := T.hold.same (Zff (d := .tx) (t := [c]) T.len T.hold.lt)
 have N1 := Zhc (d := .tx) (t := [c]) T.len
 have K1 := Zi0 H1
 have nn : w.nd.length ∉ (Zaf (A ++ [p])).ids := fun q => Zq8 _ (T.lt _ q)
 have hch1 := (Zgo H1).2.2
 rw [show NzP.hd ([] : List Fr) = [] from rfl, ZqR] at hch1
 have hab := Zb9 A.length (A := A) (a := p) (B := []) (f := 1000) rfl H1 hA
 have hdet : ZbQ (NzP.addW w .tx [c]) w.nd.length = some (NzP.addW w .tx [c]) := by unfold ZbQ; rw [N1.2.2.1]; rfl
 have hsz : p.k.heads.length < LIM := by
  have h1 := ZeH p.k
  have h2 := hk.small knd
  omega
 have hins := Zd0 (w := NzP.addW w .tx [c]) (p := p.n) (n := w.nd.length) (fun q => nn (q ▸ pin)) hab (fun q => nn (Zfe (B := [p]) (Zsu.mp q))) hdet hch1 hsz (by refine rE L1.pa ?_; refine (?_ : _ < (w.nd ++ [_]).length); simp)
 have npn : p.n ≠ w.nd.length := fun q => nn (q ▸ pin)
 refine e92 (Zka (NzP.addW w .tx [c]) p.n (p.k.heads ++ [w.nd.length]) w.nd.length p.n) (p.k.app (.nd w.nd.length .tx [c] .nil .nil)) ?_ ⟨Zdv H1 rfl rfl ?_ ?_ (HoldF_app.mpr ⟨K1.same (Zbz npk fun q => nn (kin _ q)), N1.1, N1.2.1, ?_, ?_, trivial, trivial⟩) (Zbz pA fun q => nn (by refine rE (Zaj _ _) ?_; exact Zqx _ q)), ?_, ?_⟩ rfl rfl rfl (.inr rfl) ⟨fun bs fs => ?_, ?_, fun m hm h => ?_, ?_⟩
 ·unfold ZbU
  refine rE e1 ?_
  exact hins
 ·exact ZqX (Ne.symm npn)
 ·show ((NzP.addW w .tx [c]).ch.set _ _)[_]? = _
  refine rE (Zre (ZaH hch1)) (rE (ZaJ _ _) ?_); rfl
 ·exact Zre (ZaH N1.2.2.1)
 ·exact (ZqX npn).trans N1.2.2.2.1
 ·have := T.nodup
  rw [Zaj, Zag] at this ⊢
  refine (?_ : ((Zaf A).ids ++ p.n :: ((p.k.app (.nd w.nd.length .tx [c] .nil .nil)).ids ++ _)).Nodup)
  refine rE (Zcx _ _) (rE Zdn ?_)
  have e : (Zaf A).ids ++ p.n :: (p.k.ids ++ w.nd.length :: (Fo.nil.ids ++ Fo.nil.ids) ++ (Zaf []).ids) = (Zaf (A ++ [p])).ids ++ [w.nd.length] := by
   refine rE (Zaj _ _) (rE (Zag _ _) ?_); simp [Zft, Zaf]
  refine rE e ?_; rw [ZqK]
  refine ⟨T.nodup, by simp, fun a ha b hb e => ?_⟩
  rw [ZqI] at hb
  exact nn (hb ▸ e ▸ ha)
 ·have := Alt.len (w' := Zka (NzP.addW w .tx [c]) p.n (p.k.heads ++ [w.nd.length]) w.nd.length p.n) .set L1
  exact this
 ·refine rE (ZbM _ _) ?_; simp [ZaM]
 ·rcases hlast with h | ⟨G, n, d, s, k, h, hd⟩
  ·refine rE h ?_; exact ⟨rfl, by simp, rfl, trivial⟩
  ·rw [h] at htf ⊢
   refine rE (ZlH _ _ _) ?_
   have hG : Zph (.nd n d s k .nil) := by induction d <;> first | exact absurd rfl hd | trivial
   have hG' : Zph ((Fo.nd n d s k .nil).app (.nd w.nd.length .tx [c] .nil .nil)) := by induction d <;> first | exact absurd rfl hd | trivial
   refine o20 ((Zfl hG).mp htf) fun f1 f2 => ?_
   refine (Zfl hG').mpr ⟨f1, ?_⟩
   induction d with
   | tx => exact absurd rfl hd
   | doc => exact ⟨f2.1, f2.2.1, rfl, by simp, rfl, trivial⟩
   | el _ _ => exact ⟨f2.1, f2.2.1, rfl, by simp, rfl, trivial⟩
 ·exact (Zgl _ _).mpr ⟨h, ⟨hm, fun n_ => .inl rfl⟩, trivial, trivial⟩
 ·refine rE (ZfJ _ _) ?_; simp [lts, Fo.flat, NzP.lt]
theorem Zoi {w : PW} {A : List Fr} {p : Fr} {c : Nat} (T : Tr w (A ++ [p])) (hst : w.st.getLast? = some p.n) (hd : ∃ t l, p.d = .el t l) (hz : w.nd.length + 1 < LIM) (hA : A.length < 1000) (htf : TF false p.k) (hrd : (ZaM [] [] p.k).length < LIM) :
  ∃ w' k', Zey w c = some w' /\ Tr w' (A ++ [{ p with k := k' }]) /\ w'.st = w.st /\ w'.fm = w.fm /\ w'.er = w.er /\ (w'.nd = w.nd \/ w'.nd = w.nd ++ [.tx]) /\ (∀ bs fs, ZaM bs fs k' = ZaM bs fs p.k ++ [(c, bs, Za3 fs)]) /\ TF false k' /\ (∀ m, m < 14 -> DF m p.k -> DF m k') /\ lts k' = lts p.k := by
 have hnd := T.nd
 have hch := (Zgo T.hold).2.2
 rw [show NzP.hd ([] : List Fr) = [] from rfl, ZqR] at hch
 have hk := Zi0 T.hold
 have npk : p.n ∉ p.k.ids := fun q => by
  have := T.nodup
  rw [Zaj, Zag] at this
  exact (ZqH.mp (ZqK.mp this).2.1).1 (Zqx _ q)
 have kin : ∀ i ∈ p.k.ids, i ∈ (Zaf (A ++ [p])).ids := fun i hi => by (refine rE (Zaj _ _) (rE (Zag _ _) ?_)); exact Zqv _ (Zqw _ (Zqx _ hi))
 have kA : ∀ i ∈ p.k.ids, i ∉ (Zaf A).ids := fun i hi q => (Zbs T.nodup).2.2 i q (by refine rE (Zag _ _) ?_; exact Zqw _ (Zqx _ hi))
 have pA : p.n ∉ (Zaf A).ids := fun q => (Zbs T.nodup).2.2 _ q (by refine rE (Zag _ _) ?_; exact Zqz)
 have pin : p.n ∈ (Zaf (A ++ [p])).ids := Zbe
 have knd : p.k.ids.Nodup := by
  have := T.nodup
  rw [Zaj, Zag] at this
  exact (ZqK.mp (ZqH.mp (ZqK.mp this).2.1).2).1
 rcases Zog p.k with hl | ⟨G, n, d, s, k, hl⟩
 ·have key := ZiC T hst hd hz hA htf hrd (c := c) (.inl hl)
  rw [show ZbU w p.n c = Zey w c from ?_] at key
  ·exact key
  symm
  refine o32 hd fun td ld hpd => ?_; clear hd
  unfold Zey
  refine rE hst ?_; dsimp only [Zqy]
  refine rE hnd (rE hpd ?_); dsimp only [Zqy]
  refine rE hch (rE hl ?_); rfl
 ·have hlast : p.k.heads.getLast? = some n := by (refine rE hl (rE (ZaJ _ _) ?_)); simp [Fo.heads]
  rw [hl] at hk
  refine o20 (HoldF_app.mp hk) fun hkG hkn => ?_
  refine o60 hkn fun n1 n2 n3 n4 n5 n_ => ?_; clear hkn
  induction d with
  | tx =>
   refine o32 hd fun td ld hpd => ?_; clear hd
   have hs : s.length < LIM := by
    have : (ZaM [] [] p.k).length = (ZaM [] [] G).length + (s.length + (ZaM [] [] k).length) := by (refine rE hl (rE (ZbM _ _) ?_)); simp [ZaM, bl, fl]
    omega
   have hsig : Zey w c = some { w with tx := w.tx.set n (s ++ [c]) } := by
    unfold Zey
    refine rE hst ?_; dsimp only [Zqy]
    refine rE hnd (rE hpd ?_); dsimp only [Zqy]
    refine rE hch ?_; dsimp only [Zqy]
    refine rE hlast ?_; dsimp only [Zqy]
    refine rE n1 ?_; dsimp only [Zqy]
    refine rE n2 ?_; dsimp only [Zqy]
    exact rE (if_pos hs) rfl
   have hids : p.k.ids = G.ids ++ n :: (k.ids ++ []) := by (refine rE hl (rE (Zcx _ _) (rE Zdn ?_))); rfl
   have nG : n ∉ G.ids /\ n ∉ k.ids := by
    rw [hids] at knd
    refine o30 (ZqK.mp knd) fun n_ b c => ?_
    exact ⟨fun q => c n q n Zqz rfl, fun q => (ZqH.mp b).1 (Zqx _ q)⟩
   have hnin : n ∈ p.k.ids := by refine rE hids ?_; exact Zqv _ Zqz
   have same : ∀ {l : List Nat}, n ∉ l -> Same w { w with tx := w.tx.set n (s ++ [c]) } l := fun h i hi => ⟨rfl, ZqX (fun q : n = i => h (q ▸ hi)), rfl, rfl⟩
   have hflat : (G.app (.nd n .tx (s ++ [c]) k .nil)).flat = p.k.flat := by (refine rE hl (rE (Zec _ _) (rE (Zec _ _) ?_))); rfl
   obtain ⟨f1, f2, f3, f4, f5⟩ : TF false G /\ s ≠ [] /\ k = .nil /\ True /\ ∀ s', s' ≠ [] -> TF false (G.app (.nd n .tx s' .nil .nil)) := by
    rw [hl] at htf
    clear hk hkG n1 n2 n3 n4 n5 hids nG hnin hsig hs hflat hlast
    have : ∀ (G : Fo) (a : Bool), TF a (G.app (.nd n .tx s k .nil)) -> TF a G /\ s ≠ [] /\ k = .nil /\ ∀ s', s' ≠ [] -> TF a (G.app (.nd n .tx s' .nil .nil)) := by
     intro G
     induction G with
     | nil => intro a h; exact ⟨trivial, h.2.1, h.2.2.1, fun s' hs' => ⟨h.1, hs', rfl, trivial⟩⟩
     | nd m d s₁ kc r _ ih =>
      intro a h
      induction d with
      | tx => (refine o40 (ih true h.2.2.2) fun i1 i2 i3 i4 => ?_); exact ⟨⟨h.1, h.2.1, h.2.2.1, i1⟩, i2, i3, fun s' hs' => ⟨h.1, h.2.1, h.2.2.1, i4 s' hs'⟩⟩
      | doc => (refine o40 (ih false h.2.2) fun i1 i2 i3 i4 => ?_); exact ⟨⟨h.1, h.2.1, i1⟩, i2, i3, fun s' hs' => ⟨h.1, h.2.1, i4 s' hs'⟩⟩
      | el _ _ => (refine o40 (ih false h.2.2) fun i1 i2 i3 i4 => ?_); exact ⟨⟨h.1, h.2.1, i1⟩, i2, i3, fun s' hs' => ⟨h.1, h.2.1, i4 s' hs'⟩⟩
    refine o40 (this G false htf) fun a b c d => ?_
    exact ⟨a, b, c, trivial, d⟩
   refine e92 _ (G.app (.nd n .tx (s ++ [c]) k .nil)) hsig ⟨Zdv T.hold rfl ?_ rfl ?_ (HoldF_app.mpr ⟨hkG.same (same nG.1), n1, Zre (ZaH n2), n3, n4, n5.same (same nG.2), trivial⟩) (same fun q => kA _ hnin q), ?_, ⟨by refine (?_ : (w.tx.set _ _).length = _); refine rE Zra ?_; exact T.len.tx, T.len.pa, T.len.ch⟩⟩ rfl rfl rfl (.inl rfl) ⟨fun bs fs => ?_, ?_, fun m hm h => ?_, ?_⟩
   ·exact ZqX (fun q : n = p.n => npk (q ▸ hnin))
   ·show w.ch[p.n]? = _
    refine rE hch (rE hl (rE (ZaJ _ _) (rE (ZaJ _ _) ?_))); rfl
   ·have := T.nodup
    rw [Zaj, Zag] at this ⊢
    refine (?_ : ((Zaf A).ids ++ p.n :: ((G.app (.nd n .tx (s ++ [c]) k .nil)).ids ++ _)).Nodup)
    have e : (G.app (.nd n .tx (s ++ [c]) k .nil)).ids = p.k.ids := by unfold Fo.ids; exact rE hflat rfl
    refine rE e ?_; exact this
   ·refine rE hl (rE (ZbM _ _) (rE (ZbM _ _) (rE f3 ?_))); simp [ZaM, bl, fl]
   ·refine rE f3 ?_; exact f5 _ (by simp)
   ·rw [hl, Zgl] at h
    exact (Zgl _ _).mpr ⟨h.1, h.2.1, h.2.2.1, trivial⟩
   ·unfold lts; exact rE hflat rfl
  | doc =>
   have key := ZiC T hst hd hz hA htf hrd (c := c) (.inr ⟨G, n, _, s, k, hl, nofun⟩)
   rw [show ZbU w p.n c = Zey w c from ?_] at key
   ·exact key
   symm
   refine o32 hd fun td ld hpd => ?_; clear hd
   unfold Zey
   refine rE hst ?_; dsimp only [Zqy]
   refine rE hnd (rE hpd ?_); dsimp only [Zqy]
   refine rE hch ?_; dsimp only [Zqy]
   refine rE hlast ?_; dsimp only [Zqy]
   exact rE n1 rfl
  | el _ _ =>
   have key := ZiC T hst hd hz hA htf hrd (c := c) (.inr ⟨G, n, _, s, k, hl, nofun⟩)
   rw [show ZbU w p.n c = Zey w c from ?_] at key
   ·exact key
   symm
   refine o32 hd fun td ld hpd => ?_; clear hd
   unfold Zey
   refine rE hst ?_; dsimp only [Zqy]
   refine rE hnd (rE hpd ?_); dsimp only [Zqy]
   refine rE hch ?_; dsimp only [Zqy]
   refine rE hlast ?_; dsimp only [Zqy]
   exact rE n1 rfl
end NzP
namespace NzP
open PySem Nz
theorem Zdz {A B : List Nat} {x : Nat} (h : x ∉ A) : (A ++ x :: B).idxOf x = A.length := by
 refine rE List.idxOf_append (rE (if_neg h) (rE ZsE ?_)); exact rE (Nat.zero_add _) rfl
theorem Zd8 {A B : List Nat} {x : Nat} (h : x ∉ A) : (A ++ x :: B).erase x = A ++ B := by
 refine rE (ZrO _ h) ?_; exact rE (ZsG _ _) rfl
theorem ZiL {α : Type} {A B : List α} {x y : α} {n : Nat} (h : n = A.length) : (A ++ x :: B).set n y = A ++ y :: B := by
 subst h
 refine rE (List.set_append_right _ _ (ZqQ _)) (rE (Zse _) ?_); rfl
theorem ZaO {α : Type} {A B : List α} {x : α} {n : Nat} (h : n = A.length) : (A ++ x :: B)[n]? = some x := by
 subst h
 refine rE (Zro (ZqQ _)) (rE (Zse _) ?_); rfl
theorem ZjH {α : Type} {A B : List α} {n : Nat} (h : n = A.length) : (A ++ B).take n = A := by subst h; simp
theorem ZmJ {α : Type} {A B : List α} {n : Nat} (h : n = A.length) : (A ++ B).drop n = B := by subst h; simp
theorem Zk1 {A B : List Nat} {x n : Nat} (h : n = A.length) : Nz.putAt (A ++ B) n x = A ++ x :: B := by
 unfold Nz.putAt; (refine rE (ZjH h) ?_; exact rE (ZmJ h) rfl)
theorem Zb8 {α : Type} {A : List α} {x : α} : (A ++ [x]).getLast? = some x := by simp
theorem snocs {α : Type} (l : List α) : l = [] \/ ∃ G x, l = G ++ [x] := by
 by_cases h : l = []
 ·exact .inl h
 ·exact .inr ⟨l.dropLast, l.getLast h, (Zq3 h).symm⟩
theorem Zaz {A B : List Nat} {x : Nat} (h : (A ++ x :: B).Nodup) : x ∉ A /\ x ∉ B := by
 refine o30 (ZqK.mp h) fun n_ b c => ?_
 exact ⟨fun q => c x q x Zqz rfl, (ZqH.mp b).1⟩
theorem Zjj {w : PW} {F1 : List Nat} (h1 : ∀ x ∈ F1, x ∈ w.st) : ∀ (n : Nat) (F2 : List Nat), F2.length = n -> ∀ F3, w.fm = F1 ++ F2 ++ F3 -> (∀ x ∈ F2, x ∉ w.st) -> ZfI w (F1.length + n) = some F1.length := by
 refine @Zms _ ?_ ?_
 ·intro F2 hn F3 hf h2
  induction F2 using ZcU with
  | cons _ _ => injection hn
  | nil =>
   rcases snocs F1 with rfl | ⟨G, x, rfl⟩
   ·rfl
   ·refine rE Zqu (rE ZqY (rE (ZrV _) ?_)); rw [ZfI]
    refine rE hf (rE (ZqR _) (rE (ZqN _ _ _) (rE Zrh (rE (ZaO rfl) ?_))))
    dsimp only [Zqy]
    rw [if_pos (h1 x (by simp))]
 ·intro n ih F2 hn F3 hf h2
  obtain ⟨G, x, rfl⟩ : ∃ G x, F2 = G ++ [x] := ⟨F2.dropLast, F2.getLast (by intro q; rw [q] at hn; injection hn), (Zq3 _).symm⟩
  have hG : G.length = n := by simpa using hn
  refine rS (ZrL _ _ _) ?_; rewrite [ZfI]; refine rE hf ?_; rw [show F1 ++ (G ++ [x]) ++ F3 = (F1 ++ G) ++ x :: F3 from by simp, ZaO (by (refine rE Zqu ?_; exact rE hG rfl))]
  dsimp only [Zqy]
  rw [if_neg (h2 x (by simp))]
  exact ih G hG (x :: F3) (by refine rE hf ?_; simp) fun y hy => h2 y (Zqx _ hy)
theorem Zn0 : ∀ (F2 : List Nat) {w : PW} {A : List Fr} {p : Fr} {F1 : List Nat} {ds : List Nd}, Tr w (A ++ [p]) -> w.st.getLast? = some p.n -> w.fm = F1 ++ F2 -> F2.map (fun x => w.nd[x]?) = ds.map some -> (∀ d ∈ ds, ∃ t c, d = .el t (some c)) -> w.nd.length + F2.length + 1 < LIM -> w.st.length + F2.length < LIM -> A.length + F2.length < 1000 ->
  ∃ w' X, Zid F2.length F1.length w = some w' /\ Tr w' (A ++ p :: X) /\ w'.st = w.st ++ X.map Fr.n /\ w'.fm = F1 ++ X.map Fr.n /\ w'.nd = w.nd ++ ds /\ w'.er = w.er /\ X.map Fr.d = ds /\ ∀ f ∈ X, f.k = .nil := by
 refine @Zbg _ _ ?_ ?_
 ·intro w A p F1 ds T hst hf hd n_ n_ n_ n_
  induction ds using ZcU with
  | cons _ _ => injection hd
  | nil => exact e92 w [] rfl T (by simp) (by simpa using hf) (by simp) rfl ⟨rfl, noM⟩
 ·intro x F2 ih w A p F1 ds T hst hf hd hel hz hs hA
  induction ds using ZcU with
  | nil => injection hd
  | cons d ds =>
  simp only [ZqP, Zrm] at hd
  refine o20 hd ?_; clear hd; intro hx hd
  refine o32 (hel d Zqz) fun t c y2 => ?_; subst y2
  rw [ZqF] at hz hs hA
  refine o71 (ZoA (t := t) (c := some c) T hst (by omega) (by omega) (by omega)) fun w1 e1 T1 s1 f1 n1 r1 => ?_
  have T1' : Tr { w1 with fm := F1 ++ w.nd.length :: F2 } ((A ++ [p]) ++ [⟨w.nd.length, .el t (some c), .nil⟩]) := by
   refine rE (ZqN _ _ _) (rE Zrh ?_)
   exact T1.same rfl rfl rfl rfl
  have hlen : w1.nd.length = w.nd.length + 1 := by refine rE n1 ?_; simp
  refine o82 (ih (F1 := F1 ++ [w.nd.length]) (ds := ds) T1' (by show w1.st.getLast? = _; refine rE s1 ?_; simp) (by simp) (by
   rw [<- hd]
   refine Zrk fun y hy => ?_
   show w1.nd[y]? = _
   rw [n1]
   refine ZqZ ?_
   have : w.nd[y]? ∈ ds.map some := by rw [<- hd]; exact ZqL hy
   obtain ⟨d', _, e⟩ := ZqO.mp this
   exact ZaH e.symm) (fun d hd => hel d (Zqw _ hd)) (by refine (?_ : w1.nd.length + _ + 1 < _); omega) (by refine (?_ : w1.st.length + _ < _); refine rE s1 ?_; simp; omega) (by simp; omega)) fun w' X i1 i2 i3 i4 i5 r7 => ?_; refine o30 r7 fun i6 i7 i8 => ?_; clear r7
  refine e92 w' (⟨w.nd.length, .el t (some c), .nil⟩ :: X) ?_ ?_ ?_ ?_ ?_ (i6.trans r1) ⟨by (refine rE ZqP ?_; exact rE i7 rfl), fun f hf => ?_⟩
  ·refine rE ZqF ?_; rewrite [Zid]; refine rE hf (rE (ZaO rfl) ?_)
   dsimp only [Zqy]
   refine rE hx ?_
   dsimp only [Zqy]
   refine rE e1 ?_
   dsimp only [Zqy]
   refine rE f1 (rE hf ?_); rewrite [if_pos (by simp)]; refine rE (ZiL rfl) ?_
   rw [Zqu, ZqY] at i1
   exact i1
  ·rw [ZqN, Zrh] at i2; exact i2
  ·refine rE i3 ?_; refine (?_ : w1.st ++ _ = _); refine rE s1 ?_; simp
  ·refine rE i4 ?_; simp
  ·refine rE i5 ?_; refine (?_ : w1.nd ++ ds = _); refine rE n1 ?_; simp
  ·rcases ZqD.mp hf with rfl | hf
   ·rfl
   ·exact i8 f hf
theorem ZhN {n : Nat} {P : List Nat} : ∀ (m : Nat) (Q : List Nat), Q.length = m -> ∀ (f : Nat), n ∉ Q -> m < f -> Zmt f (P ++ n :: Q) n = some P := by
 intro m
 induction m with
 | zero =>
  intro Q hQ f n_ hf
  obtain rfl := Zq9 hQ
  induction f using Zd9 with
  | zero => omega
  | succ f =>
   rewrite [Zmt]; refine rE Zb8 ?_
   dsimp only [Zqy]
   refine rE (if_pos rfl) ?_; exact rE Zrz rfl
 | succ m ih =>
  intro Q' hQ f hn hf
  obtain ⟨Q, x, rfl⟩ : ∃ G x, Q' = G ++ [x] := (snocs Q').resolve_left fun q => by rw [q] at hQ; injection hQ
  induction f using Zd9 with
  | zero => omega
  | succ f =>
   rewrite [Zmt, show P ++ n :: (Q ++ [x]) = (P ++ n :: Q) ++ [x] from by simp]; refine rE Zb8 ?_
   dsimp only [Zqy]
   rewrite [if_neg (fun q => hn (by refine rE q ?_; simp))]; refine rE Zrz ?_
   exact ih Q (by simpa using hQ) f (fun q => hn (Zqx _ q)) (by omega)
theorem Zc7 {t : Tag} {c : Option Nat} : (Nd.el t c).isTag t = true := decide_eq_true rfl
theorem Zhs {t u : Tag} (h : t.str = u.str) : t = u := by
 induction t <;> induction u <;> first | rfl | (exfalso; revert h; decide)
theorem isTag_iff {t u : Tag} {c : Option Nat} : (Nd.el u c).isTag t = true ↔ u = t := by
 constructor
 ·intro h; exact Zhs (of_decide_eq_true h)
 ·rintro rfl; exact Zc7
theorem ZdO {t u : Tag} {c : Option Nat} (h : u ≠ t) : (Nd.el u c).isTag t = false := by
 induction q : (Nd.el u c).isTag t with
 | false => rfl
 | true => exact absurd (isTag_iff.mp q) h
theorem Zjw {w : PW} {t : Tag} {n : Nat} {P : List Nat} {d : Nd} (hn : w.nd[n]? = some d) (hd : d.isTag t = true) : ∀ (m : Nat) (Q : List Nat), Q.length = m -> ∀ (f : Nat) (w' : PW), w'.nd = w.nd -> w'.st = P ++ n :: Q -> (∀ x ∈ Q, ∃ e, w.nd[x]? = some e /\ e.isTag t = false) -> m < f -> ZeT t f w' = some { w' with st := P } := by
 intro m
 induction m with
 | zero =>
  intro Q hQ f w' e1 e2 n_ hf
  obtain rfl := Zq9 hQ
  induction f using Zd9 with
  | zero => omega
  | succ f =>
   rewrite [ZeT]; refine rE e2 (rE Zb8 ?_)
   dsimp only [Zqy]
   refine rE e1 (rE hn ?_)
   dsimp only [Zqy]
   refine rE (if_pos hd) ?_; exact rE Zrz rfl
 | succ m ih =>
  intro Q' hQ f w' e1 e2 hq hf
  obtain ⟨Q, x, rfl⟩ : ∃ G x, Q' = G ++ [x] := (snocs Q').resolve_left fun q => by rw [q] at hQ; injection hQ
  induction f using Zd9 with
  | zero => omega
  | succ f =>
   refine o31 (hq x (by simp)) fun e h1 h2 => ?_
   rewrite [ZeT]; refine rE e2 ?_; rewrite [show P ++ n :: (Q ++ [x]) = (P ++ n :: Q) ++ [x] from by simp]; refine rE Zb8 ?_
   dsimp only [Zqy]
   refine rE e1 (rE h1 ?_)
   dsimp only [Zqy]
   rewrite [if_neg (by refine rE h2 ?_; decide)]; refine rE Zrz ?_
   have key := ih Q (by simpa using hQ) f { w' with st := P ++ n :: Q } e1 rfl (fun y hy => hq y (Zqx _ hy)) (by omega)
   dsimp only at key
   rw [e1] at key
   exact key
theorem ZgW {w : PW} {t : Tag} : ∀ (n : Nat) (F : List Nat), F.length = n -> ∀ F3, w.fm = F ++ F3 -> (∀ x ∈ F, ∃ e, w.nd[x]? = some e /\ e.isTag t = false) -> Ze2 w t n = some none := by
 refine @Zms _ ?_ ?_
 ·intro F hn F3 hf h
  exact rfl
 ·intro n ih F hn F3 hf h
  obtain ⟨G, x, rfl⟩ : ∃ G x, F = G ++ [x] := ⟨F.dropLast, F.getLast (by intro q; rw [q] at hn; injection hn), (Zq3 _).symm⟩
  have hG : G.length = n := by simpa using hn
  refine o31 (h x (by simp)) fun e h1 h2 => ?_
  rewrite [Ze2]; refine rE hf ?_; rewrite [show G ++ [x] ++ F3 = G ++ x :: F3 from by simp]; refine rE (ZaO hG.symm) ?_
  dsimp only [Zqy]
  refine rE h1 ?_
  dsimp only [Zqy]
  rw [if_neg (by refine rE h2 ?_; decide)]
  exact ih G hG (x :: F3) (by refine rE hf ?_; simp) fun y hy => h y (Zqx _ hy)
theorem Zj5 {w : PW} {t : Tag} {F : List Nat} {s : Nat} {d : Nd} (hs : w.nd[s]? = some d) (hd : d.isTag t = true) : ∀ (n : Nat) (Y : List Nat), Y.length = n -> ∀ F3, w.fm = F ++ s :: (Y ++ F3) -> (∀ x ∈ Y, ∃ e, w.nd[x]? = some e /\ e.isTag t = false) -> Ze2 w t (F.length + 1 + n) = some (some s) := by
 refine @Zms _ ?_ ?_
 ·intro Y hn F3 hf h
  refine rE (ZrV _) ?_; rewrite [Ze2]; refine rE hf (rE (ZaO rfl) ?_)
  dsimp only [Zqy]
  refine rE hs ?_
  dsimp only [Zqy]
  exact rE (if_pos hd) rfl
 ·intro n ih Y hn F3 hf h
  obtain ⟨G, x, rfl⟩ : ∃ G x, Y = G ++ [x] := ⟨Y.dropLast, Y.getLast (by intro q; rw [q] at hn; injection hn), (Zq3 _).symm⟩
  have hG : G.length = n := by simpa using hn
  refine o31 (h x (by simp)) fun e h1 h2 => ?_
  refine rS (ZrL _ _ _) ?_; rewrite [Ze2]; refine rE hf ?_; rw [show F ++ s :: (G ++ [x] ++ F3) = (F ++ s :: G) ++ x :: F3 from by simp, ZaO (by simp [hG]; omega)]
  dsimp only [Zqy]
  refine rE h1 ?_
  dsimp only [Zqy]
  rw [if_neg (by refine rE h2 ?_; decide)]
  exact ih G hG (x :: F3) (by refine rE hf ?_; simp) fun y hy => h y (Zqx _ hy)
theorem ZiG {w : PW} {P : List Nat} {s : Nat} : ∀ (n : Nat) (Q : List Nat), Q.length = n -> ∀ Q3, w.st = P ++ s :: (Q ++ Q3) -> (∀ x ∈ Q, ∃ e, w.nd[x]? = some e /\ e.isTag .html = false) -> ZdX w s (P.length + 1 + n) = some true := by
 refine @Zms _ ?_ ?_
 ·intro Q hn Q3 hf h
  refine rE (ZrV _) ?_; rewrite [ZdX]; refine rE hf (rE (ZaO rfl) ?_)
  dsimp only [Zqy]
  exact rE (if_pos rfl) rfl
 ·intro n ih Q hn Q3 hf h
  obtain ⟨G, x, rfl⟩ : ∃ G x, Q = G ++ [x] := ⟨Q.dropLast, Q.getLast (by intro q; rw [q] at hn; injection hn), (Zq3 _).symm⟩
  have hG : G.length = n := by simpa using hn
  refine o31 (h x (by simp)) fun e h1 h2 => ?_
  refine rS (ZrL _ _ _) ?_; rewrite [ZdX]; refine rE hf ?_; rw [show P ++ s :: (G ++ [x] ++ Q3) = (P ++ s :: G) ++ x :: Q3 from by simp, ZaO (by simp [hG]; omega)]
  dsimp only [Zqy]
  by_cases hx : x = s
  ·exact rE (if_pos hx) rfl
  ·refine rE (if_neg hx) (rE h1 ?_)
   dsimp only [Zqy]
   rw [if_neg (by refine rE h2 ?_; decide)]
   exact ih G hG (x :: Q3) (by refine rE hf ?_; simp) fun y hy => h y (Zqx _ hy)
theorem Zma {w : PW} : ∀ (Q P : List Nat), w.st = P ++ Q -> (∀ x ∈ Q, ∃ e, w.nd[x]? = some e /\ e.special = false) -> ZkY w Q.length P.length = some none := by
 refine @Zbg _ _ ?_ ?_
 ·intro P hf h
  exact rfl
 ·intro x Q ih P hf h
  refine o31 (h x Zqz) fun e h1 h2 => ?_
  refine rE ZqF ?_; rewrite [ZkY]; refine rE hf (rE (ZaO rfl) ?_)
  dsimp only [Zqy]
  refine rE h1 ?_
  dsimp only [Zqy]
  rw [if_neg (by refine rE h2 ?_; decide)]
  have := ih (P ++ [x]) (by refine rE hf ?_; simp) fun y hy => h y (Zqw _ hy)
  rw [Zqu, ZqY] at this
  exact this
theorem Zlp {w : PW} {b : Nat} {R : List Nat} {d : Nd} (hb : w.nd[b]? = some d) (hd : d.special = true) : ∀ (Q P : List Nat) (f : Nat), w.st = P ++ Q ++ b :: R -> (∀ x ∈ Q, ∃ e, w.nd[x]? = some e /\ e.special = false) -> Q.length < f -> ZkY w f P.length = some (some b) := by
 refine @Zbg _ _ ?_ ?_
 ·intro P f hf h hl
  induction f using Zd9 with
  | zero => cases hl
  | succ f =>
   rw [ZqR] at hf
   rewrite [ZkY]; refine rE hf (rE (ZaO rfl) ?_)
   dsimp only [Zqy]
   refine rE hb ?_
   dsimp only [Zqy]
   exact rE (if_pos hd) rfl
 ·intro x Q ih P f hf h hl
  refine o31 (h x Zqz) fun e h1 h2 => ?_
  induction f using Zd9 with
  | zero => cases hl
  | succ f =>
   rewrite [ZkY]; refine rE hf ?_; rewrite [show P ++ x :: Q ++ b :: R = P ++ x :: (Q ++ b :: R) from by simp]; refine rE (ZaO rfl) ?_
   dsimp only [Zqy]
   refine rE h1 ?_
   dsimp only [Zqy]
   rw [if_neg (by refine rE h2 ?_; decide)]
   have := ih (P ++ [x]) f (by refine rE hf ?_; simp) (fun y hy => h y (Zqw _ hy)) (by rw [ZqF] at hl; omega)
   rw [Zqu, ZqY] at this
   exact this
end NzP
namespace NzP
open PySem Nz
noncomputable def Zcl : Nd -> Bool
 | .el t (some _) => t.isF
 | _ => false
noncomputable def fmt (Z : List Fr) : List Nat := (Z.filter fun f => Zcl f.d).map Fr.n
theorem ZaC (A B : List Fr) : fmt (A ++ B) = fmt A ++ fmt B := by unfold fmt; (refine rE (Zq6 _ _) ?_; exact rE ZqB rfl)
theorem Zar (a : Fr) (B : List Fr) : fmt (a :: B) = (if Zcl a.d then [a.n] else []) ++ fmt B := by
 unfold fmt
 refine rE Zq7 ?_
 split <;> rfl
theorem Zhn {Z : List Fr} {i : Nat} (h : i ∈ fmt Z) : ∃ f ∈ Z, f.n = i /\ Zcl f.d = true := by
 refine o31 (ZqO.mp h) fun f hf e => ?_
 refine o20 (Zrg.mp hf) fun h1 h2 => ?_
 exact e41 f h1 e h2
theorem ZdD {d : Nd} (h : Zcl d = true) : ∃ t c, d = .el t (some c) /\ t.isF = true := by
 induction d with
 | el t c => induction c with
  | none => injection h
  | some c => exact e42 t c rfl h
 | doc => injection h
 | tx => injection h
theorem Zlq {w : PW} {M T : List Fr} (h : Half w M T) {f : Fr} (hf : f ∈ M) : w.nd[f.n]? = some f.d := by
 refine o32 (Zbo hf) fun A B y2 => ?_; subst y2
 rcases h with h | ⟨h, _⟩
 ·rw [ZqN, ZqT] at h; exact (Zgo h).1
 ·exact (Zgo h).1
theorem Zly {w : PW} {M T : List Fr} (h : Half w M T) : ∀ i ∈ (Zaf (M ++ T)).ids, i < w.nd.length := fun i hi => by
 rcases h with h | ⟨h1, h2⟩
 ·exact h.lt i hi
 ·rw [Zaj] at hi
  rcases ZqJ.mp hi with hi | hi
  ·exact h1.lt i hi
  ·exact h2.lt i hi
theorem ZhV {w w' : PW} {M T : List Fr} (h : Half w M T) (h1 : w'.nd = w.nd) (h2 : w'.tx = w.tx) (h3 : w'.pa = w.pa) (h4 : w'.ch = w.ch) : Half w' M T := h.same fun i n_ => ⟨by exact rE h1 rfl, by exact rE h2 rfl, by exact rE h3 rfl, by exact rE h4 rfl⟩
theorem Zku {s : Nat} {M : List Fr} (hM : M ≠ []) {P FA FB : List Nat} {bf : Fr} {B : List Fr} : ∀ (n : Nat) (D : List Fr), D.length = n -> ∀ {w : PW} {X : List Fr} {k last : Nat} {mark : Int},
  Half w M (X ++ bf :: B) -> (Zaf (M ++ (X ++ bf :: B))).ids.Nodup -> Len w -> (∀ f ∈ D, f ∈ M) ->
  w.st = P ++ s :: (D.map Fr.n ++ (X ++ bf :: B).map Fr.n) -> w.fm = FA ++ s :: (fmt D ++ (X.map Fr.n ++ FB)) ->
  (P ++ s :: D.map Fr.n).Nodup -> (FA ++ s :: fmt D).Nodup -> (∀ f ∈ D, Zcl f.d = false -> f.n ∉ FA /\ f.n ≠ s /\ f.n ∉ fmt D /\ f.n ∉ FB) ->
  ((X = [] /\ last = bf.n) \/ ∃ x Y, X = x :: Y /\ last = x.n /\ mark = ((FA.length + 1 + (fmt D).length + X.length : Nat) : Int)) -> k + n <= 3 -> w.nd.length + n + 1 < LIM ->
  ∃ w' X' last' mark', ZcF s bf.n (P.length + n) k w last mark = some (w', last', mark') /\
   ((X' ++ X = [] /\ last' = bf.n /\ mark' = mark) \/ ∃ x Y, X' ++ X = x :: Y /\ last' = x.n /\ mark' = ((FA.length + 1 + (X' ++ X).length : Nat) : Int)) /\
   Half w' M (X' ++ X ++ bf :: B) /\ (Zaf (M ++ (X' ++ X ++ bf :: B))).ids.Nodup /\ Len w' /\ w'.st = P ++ s :: (X' ++ X ++ bf :: B).map Fr.n /\ w'.fm = FA ++ s :: ((X' ++ X).map Fr.n ++ FB) /\
   X'.map Fr.d = (D.filter fun f => Zcl f.d).map Fr.d /\ (∀ f ∈ X', f.k = .nil /\ w.nd.length <= f.n) /\ (∃ ds, w'.nd = w.nd ++ ds /\ ds.length <= n) /\ w'.er = w.er := by
 intro n
 induction n with
 | zero =>
  intro D hD w X k last mark h nd hl hDM hst hfm n_ n_ n_ hlast hk hz
  obtain rfl := Zq9 hD
  refine e94 w [] last mark ?_ ?_ h nd ⟨hl, hst, hfm, rfl, noM, ⟨[], by simp, by simp⟩, rfl⟩
  ·unfold ZcF
   refine rE hst (rE (ZrV _) (rE (ZaO rfl) ?_))
   dsimp only [Zqy]
   exact rE (if_pos rfl) rfl
  ·rcases hlast with ⟨a, b⟩ | ⟨x, Y, a, b, c⟩
   ·exact .inl ⟨a, b, rfl⟩
   ·refine .inr ⟨x, Y, a, b, ?_⟩
    refine rE c ?_; simp [fmt]
 | succ n ih =>
  intro D' hD w X k last mark h nd hl hDM hst hfm hn1 hn2 hsp hlast hk hz
  obtain ⟨D, x, rfl⟩ : ∃ G x, D' = G ++ [x] := (snocs D').resolve_left fun q => by rw [q] at hD; injection hD
  have hDn : D.length = n := by simpa using hD
  have hxM : x ∈ M := hDM x (by simp)
  have hxd := Zlq h hxM
  have xin : x.n ∈ (Zaf M).ids := by (refine o32 (Zbo hxM) fun A B e => ?_); refine rE e ?_; exact Zbe
  have xout : x.n ∉ (X ++ bf :: B).map Fr.n := fun q => (Zbs nd).2.2 _ xin (ZjD q)
  have xP : x.n ∉ P ++ s :: D.map Fr.n := by
   rw [ZqB, show P ++ s :: (D.map Fr.n ++ [x].map Fr.n) = (P ++ s :: D.map Fr.n) ++ x.n :: [] from by simp] at hn1
   exact (Zaz hn1).1
  have hn1' : (P ++ s :: D.map Fr.n).Nodup := by
   rw [ZqB, show P ++ s :: (D.map Fr.n ++ [x].map Fr.n) = (P ++ s :: D.map Fr.n) ++ x.n :: [] from by simp] at hn1
   exact (ZqK.mp hn1).1
  have xs : x.n ≠ s := fun q => xP (by refine rE q ?_; simp)
  have hn2' : (FA ++ s :: fmt D).Nodup := by
   rw [ZaC, show FA ++ s :: (fmt D ++ fmt [x]) = (FA ++ s :: fmt D) ++ fmt [x] from by simp] at hn2
   exact (ZqK.mp hn2).1
  have hsp' : ∀ f ∈ D, Zcl f.d = false -> f.n ∉ FA /\ f.n ≠ s /\ f.n ∉ fmt D /\ f.n ∉ FB := fun f hf e => by
   refine o40 (hsp f (Zqx _ hf) e) fun a b c d => ?_
   exact ⟨a, b, fun q => c (by refine rE (ZaC _ _) ?_; exact Zqx _ q), d⟩
  have hst' : w.st = (P ++ s :: D.map Fr.n) ++ x.n :: (X ++ bf :: B).map Fr.n := by refine rE hst ?_; simp
  have hidx : P.length + (n + 1) = (P ++ s :: D.map Fr.n).length := by simp [hDn]
  unfold ZcF
  refine rE hst' (rE (ZaO hidx) ?_)
  dsimp only [Zqy]
  refine rE (if_neg xs) ?_
  by_cases hF : Zcl x.d = true
  ·refine o42 (ZdD hF) fun t c hxe ht => ?_
   have hfx : fmt (D ++ [x]) = fmt D ++ [x.n] := by (refine rE (ZaC _ _) (rE (Zar _ _) (rE (if_pos hF) ?_))); rfl
   rw [hfx] at hfm hn2
   have hfm' : w.fm = (FA ++ s :: fmt D) ++ x.n :: (X.map Fr.n ++ FB) := by refine rE hfm ?_; simp
   have xF : x.n ∉ FA ++ s :: fmt D := by
    rw [show FA ++ s :: (fmt D ++ [x.n]) = (FA ++ s :: fmt D) ++ x.n :: [] from by simp] at hn2
    exact (Zaz hn2).1
   have e1 := ZjC (d := x.d) (t := []) hl (by omega)
   rewrite [if_pos (by refine rE hfm' ?_; simp), if_neg (by omega)]; refine rE hxd (rE hxe ?_)
   dsimp only
   rw [hxe] at e1
   refine rE e1 ?_
   dsimp only
   have L1 := Zhp (d := .el t (some c)) (t := []) hl
   have H1 : Half (NzP.addW w (.el t (some c)) []) M (X ++ bf :: B) := h.same (Zff hl (Zly h))
   have N1 : HoldF (NzP.addW w (.el t (some c)) []) (-1) (Zaf [⟨w.nd.length, .el t (some c), .nil⟩]) := Zhc hl
   obtain ⟨h0, tl, hT, hlh⟩ : ∃ h0 tl, X ++ bf :: B = h0 :: tl /\ last = h0.n := by
    rcases hlast with ⟨a, b⟩ | ⟨y, Y, a, b, _⟩
    ·refine rE a ?_; exact e42 bf B rfl b
    ·refine rE a ?_; exact e42 y (Y ++ bf :: B) rfl b
   have nn : w.nd.length ∉ (Zaf (M ++ (X ++ bf :: B))).ids := fun q => Zq8 _ (Zly h _ q)
   have H1' : Half { NzP.addW w (.el t (some c)) [] with fm := (w.fm.set (w.fm.idxOf x.n) w.nd.length), st := w.st.set (P.length + n + 1) w.nd.length } M (h0 :: tl) := by
    refine rS hT ?_; exact ZhV H1 rfl rfl rfl rfl
   refine o51 (Zil H1' hM (x := ⟨w.nd.length, .el t (some c), .nil⟩) (N1.same fun i n_ => ⟨rfl, rfl, rfl, rfl⟩) rfl (by refine rS hT ?_; exact nd) (by refine rS hT ?_; exact nn) ⟨L1.tx, L1.pa, L1.ch⟩) fun w2 e2 h2 h3 a2 => ?_
   have hi : w.fm.idxOf x.n = (FA ++ s :: fmt D).length := by refine rE hfm' ?_; exact Zdz xF
   have hst2 : w2.st = P ++ s :: (D.map Fr.n ++ ((⟨w.nd.length, .el t (some c), .nil⟩ :: X) ++ bf :: B).map Fr.n) := by
    refine rE a2.st ?_
    refine (?_ : (w.st.set (P.length + n + 1) w.nd.length) = _)
    refine rE hst' ?_; rw [ZiL (by refine rS hidx ?_; rfl)]; simp
   have hfm2 : w2.fm = FA ++ s :: (fmt D ++ ((⟨w.nd.length, .el t (some c), .nil⟩ :: X).map Fr.n ++ FB)) := by
    refine rE a2.fm ?_
    refine (?_ : w.fm.set (w.fm.idxOf x.n) w.nd.length = _)
    refine rE hi (rE hfm' (rE (ZiL rfl) ?_)); simp
   have hlen2 : w2.nd.length = w.nd.length + 1 := by refine rE a2.nd ?_; refine (?_ : (w.nd ++ [_]).length = _); simp
   have nd2 : (Zaf (M ++ ((⟨w.nd.length, .el t (some c), .nil⟩ :: X) ++ bf :: B))).ids.Nodup := by
    refine rE ZqT ?_
    rw [Zaj] at nd nn ⊢
    refine rE (Zag _ _) ?_
    refine (?_ : ((Zaf M).ids ++ w.nd.length :: (Zaf (X ++ bf :: B)).ids).Nodup)
    rw [ZqJ, not_or] at nn
    refine o30 (ZqK.mp nd) fun d1 d2 d3 => ?_
    refine ZqK.mpr ⟨d1, ZqH.mpr ⟨nn.2, d2⟩, fun a ha b hb e => ?_⟩
    rcases ZqD.mp hb with rfl | hb
    ·exact nn.1 (e ▸ ha)
    ·exact d3 a ha b hb e
   have hmk : (if last = bf.n then ((w.fm.idxOf x.n : Nat) : Int) + 1 else mark) = ((FA.length + 1 + (fmt D).length + (⟨w.nd.length, .el t (some c), .nil⟩ :: X : List Fr).length : Nat) : Int) := by
    rcases hlast with ⟨a, b⟩ | ⟨y, Y, a, b, cc⟩
    ·refine rE (if_pos b) (rE hi (rE a ?_)); simp; omega
    ·rewrite [if_neg]; refine rE cc (rE hfx ?_)
     ·simp; omega
     ·refine rE b ?_
      intro q
      rw [a] at nd
      have := Zbn (Zbs nd).2.1
      rw [ZqT, ZqP, ZqH] at this
      exact this.1 (by refine rE q ?_; simp)
   refine o84 (ih D hDn (X := ⟨w.nd.length, .el t (some c), .nil⟩ :: X) (k := k + 1) (.inr ⟨h2, by (refine rE ZqT (rE hT ?_)); exact h3⟩) nd2 (a2.len ⟨L1.tx, L1.pa, L1.ch⟩) (fun f hf => hDM f (Zqx _ hf)) hst2 hfm2 hn1' hn2' hsp' (.inr ⟨_, X, rfl, rfl, hmk⟩) (by omega) (by omega)) fun w' X' last' mark' i1 i2 i3 r7 => ?_; refine o80 r7 fun i4 i5 i6 i7 i8 i9 y6 i12 => ?_; clear r7; (refine o31 y6 fun ds i10 i11 => ?_; clear y6)
   have ass : ∀ Y : List Fr, X' ++ (⟨w.nd.length, .el t (some c), .nil⟩ :: X) ++ Y = (X' ++ [⟨w.nd.length, .el t (some c), .nil⟩]) ++ X ++ Y := fun Y => by simp
   have ass2 : X' ++ (⟨w.nd.length, .el t (some c), .nil⟩ :: X) = (X' ++ [⟨w.nd.length, .el t (some c), .nil⟩]) ++ X := by simp
   rw [ass2] at i2 i7
   rw [ass] at i3 i4 i6
   refine e94 w' (X' ++ [⟨w.nd.length, .el t (some c), .nil⟩]) last' mark' ?_ ?_ i3 i4 ⟨i5, i6, i7, ?_, fun f hf => ?_, ⟨.el t (some c) :: ds, ?_, by simpa using i11⟩, i12.trans a2.er⟩
   ·rw [hlh] at i1 ⊢
    exact Eq.trans (congrArg (fun o : Option PW => Zqy o fun w₂ => ZcF s bf.n (P.length + n) (k + 1) w₂ w.nd.length (if h0.n = bf.n then ((w.fm.idxOf x.n : Nat) : Int) + 1 else mark)) e2) i1
   ·rcases i2 with ⟨q, _⟩ | q
    ·exact absurd q (by simp)
    ·exact .inr q
   ·refine rE ZqB (rE i8 (rE (Zq6 _ _) (rE ZqB ?_)))
    congr 1
    refine rE Zq7 (rE (if_pos hF) ?_)
    refine (?_ : [Nd.el t (some c)] = [x.d])
    exact rE hxe rfl
   ·rcases ZqJ.mp hf with hf | hf
    ·exact ⟨(i9 f hf).1, by have := (i9 f hf).2; omega⟩
    ·refine rE (ZqI.mp hf) ?_; exact ⟨rfl, ZqQ _⟩
   ·refine rE i10 (rE a2.nd ?_); refine (?_ : (w.nd ++ [_]) ++ ds = _); simp
  ·have hF : Zcl x.d = false := by simpa using hF
   have hfx : fmt (D ++ [x]) = fmt D := by (refine rE (ZaC _ _) (rE (Zar _ _) ?_); rw [if_neg (by refine rE hF ?_; decide)]); simp [fmt]
   refine o40 (hsp x (by simp) hF) fun s1 s2 s3 s4 => ?_
   rw [hfx] at hfm s3
   have xnf : x.n ∉ w.fm := by
    refine rE hfm ?_
    simp only [ZqJ, ZqD, not_or]
    refine ⟨s1, s2, s3, fun q => xout ?_, s4⟩
    refine rE ZqB ?_; exact Zqx _ q
   refine rE (if_neg xnf) ?_
   have hst2 : ((P ++ s :: D.map Fr.n) ++ x.n :: (X ++ bf :: B).map Fr.n).erase x.n = P ++ s :: (D.map Fr.n ++ (X ++ bf :: B).map Fr.n) := by refine rE (Zd8 xP) ?_; simp
   refine o84 (ih D hDn (w := { w with st := ((P ++ s :: D.map Fr.n) ++ x.n :: (X ++ bf :: B).map Fr.n).erase x.n }) (X := X) (k := k + 1) (last := last) (mark := mark) (ZhV h rfl rfl rfl rfl) nd ⟨hl.tx, hl.pa, hl.ch⟩ (fun f hf => hDM f (Zqx _ hf)) hst2 hfm hn1' hn2' hsp' (by rw [hfx] at hlast; exact hlast) (by omega) (by refine (?_ : w.nd.length + n + 1 < LIM); omega)) fun w' X' last' mark' i1 i2 i3 r7 => ?_; refine o80 r7 fun i4 i5 i6 i7 i8 i9 y6 i12 => ?_; clear r7; (refine o31 y6 fun ds i10 i11 => ?_; clear y6)
   refine e94 w' X' last' mark' i1 i2 i3 i4 ⟨i5, i6, i7, ?_, i9, ⟨ds, i10, by omega⟩, i12⟩
   refine rE i8 (rE (Zq6 _ _) (rE Zq7 ?_)); rw [if_neg (by refine rE hF ?_; decide)]
   simp
end NzP
namespace NzP
open PySem Nz
theorem ZlF {w : PW} {c0 com s b : Fr} {C D B : List Fr} {pop : List Nat} (T : Tr w (c0 :: C ++ com :: s :: (D ++ b :: B))) (hst : w.st = (C ++ com :: s :: (D ++ b :: B)).map Fr.n) (hfm : w.fm = fmt (c0 :: C ++ com :: s :: (D ++ b :: B)) ++ pop)
  (hpop : ∀ x ∈ pop, x ∉ (c0 :: C ++ com :: s :: (D ++ b :: B)).map Fr.n) (hs : Zcl s.d = true) (hb : Zcl b.d = false) (hD : D.length <= 3) (hz : w.nd.length + 8 < LIM) (hZ : C.length + D.length + B.length < 900) (hfl : w.fm.length < LIM) :
  ∃ w' X q, ZcN w s.n b.n = some w' /\ Tr w' (c0 :: C ++ into com (s :: D) :: (X ++ { n := b.n, d := b.d, k := .nil } :: { n := q, d := s.d, k := b.k } :: B)) /\
   w'.st = (C ++ into com (s :: D) :: (X ++ { n := b.n, d := b.d, k := .nil } :: { n := q, d := s.d, k := b.k } :: B)).map Fr.n /\
   w'.fm = fmt (c0 :: C ++ into com (s :: D) :: (X ++ { n := b.n, d := b.d, k := .nil } :: { n := q, d := s.d, k := b.k } :: B)) ++ pop /\
   X.map Fr.d = (D.filter fun f => Zcl f.d).map Fr.d /\ (∀ f ∈ X, f.k = .nil /\ w.nd.length <= f.n) /\ (∃ ds, w'.nd = w.nd ++ ds /\ ds.length <= 4) /\ w'.er = w.er /\ w.nd.length <= q := by
 -- the lists
 have nm := Zbn T.nodup
 have nst : w.st.Nodup := by
  refine rE hst ?_
  rw [ZqT, ZqP] at nm
  exact (ZqH.mp nm).2
 have hst1 : w.st = (C.map Fr.n ++ [com.n]) ++ s.n :: (D.map Fr.n ++ ([] ++ b :: B).map Fr.n) := by refine rE hst ?_; simp
 have hfm1 : w.fm = fmt (c0 :: C ++ [com]) ++ s.n :: (fmt D ++ (([] : List Fr).map Fr.n ++ (fmt B ++ pop))) := by
  refine rE hfm ?_; rewrite [show c0 :: C ++ com :: s :: (D ++ b :: B) = (c0 :: C ++ [com]) ++ s :: (D ++ b :: B) from by simp]; refine rE (ZaC (c0 :: C ++ [com]) (s :: (D ++ b :: B))) (rE (Zar s _) (rE (if_pos hs) (rE (ZaC D (b :: B)) (rE (Zar b B) ?_)))); rw [if_neg (by refine rE hb ?_; decide)]
  simp
 have nfm : (fmt (c0 :: C ++ [com]) ++ s.n :: fmt D).Nodup := by
  have e : fmt (c0 :: C ++ com :: s :: (D ++ b :: B)) = (fmt (c0 :: C ++ [com]) ++ s.n :: fmt D) ++ fmt B := by
   rewrite [show c0 :: C ++ com :: s :: (D ++ b :: B) = (c0 :: C ++ [com]) ++ s :: (D ++ b :: B) from by simp]; refine rE (ZaC (c0 :: C ++ [com]) (s :: (D ++ b :: B))) (rE (Zar s _) (rE (if_pos hs) (rE (ZaC D (b :: B)) (rE (Zar b B) ?_)))); rw [if_neg (by refine rE hb ?_; decide)]
   simp
  have : (fmt (c0 :: C ++ com :: s :: (D ++ b :: B))).Nodup := nm.sublist (Zsx _ Zr9)
  rw [e] at this
  exact (ZqK.mp this).1
 have sP : s.n ∉ C.map Fr.n ++ [com.n] := by rw [hst1] at nst; exact (Zaz nst).1
 have hst2 : w.st = ((C.map Fr.n ++ [com.n]) ++ s.n :: D.map Fr.n) ++ b.n :: B.map Fr.n := by refine rE hst1 ?_; simp
 have bP : b.n ∉ (C.map Fr.n ++ [com.n]) ++ s.n :: D.map Fr.n := by rw [hst2] at nst; exact (Zaz nst).1
 have hixs : w.st.idxOf s.n = (C.map Fr.n ++ [com.n]).length := by refine rE hst1 ?_; exact Zdz sP
 have hixb : w.st.idxOf b.n = ((C.map Fr.n ++ [com.n]) ++ s.n :: D.map Fr.n).length := by refine rE hst2 ?_; exact Zdz bP
 have hsst : s.n ∈ w.st := by refine rE hst1 ?_; simp
 have hbst : b.n ∈ w.st := by refine rE hst2 ?_; simp
 have sF : s.n ∉ fmt (c0 :: C ++ [com]) := (Zaz nfm).1
 have hpl : Nz.placeOf w.fm s.n = ((fmt (c0 :: C ++ [com])).length : Int) := by
  unfold Nz.placeOf
  rewrite [if_pos (by refine rE hfm1 ?_; simp)]; refine rE hfm1 ?_; exact rE (Zdz sF) rfl
 have ndM : (Zaf ((c0 :: C ++ com :: s :: D) ++ ([] ++ b :: B))).ids.Nodup := by
  have := T.nodup
  rw [show c0 :: C ++ com :: s :: (D ++ b :: B) = (c0 :: C ++ com :: s :: D) ++ ([] ++ b :: B) from by simp] at this
  exact this
 have H0 : Half w (c0 :: C ++ com :: s :: D) ([] ++ b :: B) := .inl (by
  have := T.hold
  rw [show c0 :: C ++ com :: s :: (D ++ b :: B) = (c0 :: C ++ com :: s :: D) ++ ([] ++ b :: B) from by simp] at this
  exact this)
 have nP : ((C.map Fr.n ++ [com.n]) ++ s.n :: D.map Fr.n).Nodup := by rw [hst2] at nst; exact (ZqK.mp nst).1
 have hsp : ∀ f ∈ D, Zcl f.d = false -> f.n ∉ fmt (c0 :: C ++ [com]) /\ f.n ≠ s.n /\ f.n ∉ fmt D /\ f.n ∉ fmt B ++ pop := by
  intro f hf e
  have uniq : ∀ g ∈ (c0 :: C ++ com :: s :: (D ++ b :: B)), g.n = f.n -> g.d = f.d := fun g hg en => by
   have h1 := T.nd' hg
   have h2 := T.nd' (f := f) (by simp [hf])
   rw [en, h2] at h1
   exact (ZqC h1).symm
  have no : ∀ {Y : List Fr}, (∀ g ∈ Y, g ∈ (c0 :: C ++ com :: s :: (D ++ b :: B))) -> f.n ∉ fmt Y := fun hY q => by
   refine o41 (Zhn q) fun g hg en eF => ?_
   rw [uniq g (hY g hg) en, e] at eF
   exact nC eF
  refine ⟨no fun g hg => ?_, fun q => ?_, no fun g hg => by simp [hg], fun q => ?_⟩
  ·rcases ZqJ.mp hg with hg | hg
   ·exact Zqx _ hg
   ·refine rE (ZqI.mp hg) ?_; simp
  ·have := uniq s (by simp) q.symm
   rw [this, e] at hs; exact nC hs
  ·rcases ZqJ.mp q with q | q
   ·exact no (fun g hg => by simp [hg]) q
   ·exact hpop _ q (ZqL (by simp [hf]))
 refine o84 (Zku (s := s.n) (M := c0 :: C ++ com :: s :: D) (by simp) (P := C.map Fr.n ++ [com.n]) (FA := fmt (c0 :: C ++ [com])) (FB := fmt B ++ pop) (bf := b) (B := B) D.length D rfl (X := []) (k := 0) (last := b.n) (mark := Nz.placeOf w.fm s.n)
  H0 ndM T.len (fun f hf => by simp [hf]) hst1 hfm1 nP nfm hsp (.inl ⟨rfl, rfl⟩) (by omega) (by omega)) fun w1 X last mark i1 i2 i3 r7 => ?_; refine o80 r7 fun i4 i5 i6 i7 i8 i9 y6 i12 => ?_; clear r7; (refine o31 y6 fun ds i10 i11 => ?_; clear y6)
 rw [ZqR] at i2 i3 i4 i6 i7
 have hXl : X.length <= D.length := by
  have := congrArg Zrn i8
  rw [Zqt, Zqt] at this
  refine rE this ?_; exact Zry _ _
 have hXF : ∀ f ∈ X, Zcl f.d = true := fun f hf => by
  have : f.d ∈ (D.filter fun f => Zcl f.d).map Fr.d := by refine rS i8 ?_; exact ZqL hf
  refine o31 (ZqO.mp this) fun g hg e => ?_
  refine rS e ?_; exact (Zrg.mp hg).2
 have fX : fmt X = X.map Fr.n := by
  unfold fmt
  exact rE (Zru.mpr hXF) rfl
 -- last under com
 obtain ⟨h0, tl, hT, hlh⟩ : ∃ h0 tl, X ++ b :: B = h0 :: tl /\ last = h0.n := by
  rcases i2 with ⟨a, e, _⟩ | ⟨y, Y, a, e, _⟩
  ·refine rE a ?_; exact e42 b B rfl e
  ·refine rE a ?_; exact e42 y (Y ++ b :: B) rfl e
 have hl1 : w1.nd.length <= w.nd.length + 3 := by (refine rE i10 (rE Zqu ?_)); omega
 have nd1 : (Zaf (c0 :: C ++ com :: ((s :: D) ++ h0 :: tl))).ids.Nodup := by
  refine rS hT ?_
  rw [show c0 :: C ++ com :: s :: D ++ (X ++ b :: B) = c0 :: C ++ com :: ((s :: D) ++ (X ++ b :: B)) from by simp] at i4
  exact i4
 rw [hT] at i3
 refine o51 (ZdJ (C := c0 :: C) (D := s :: D) (p := com) (b := h0) (B := tl) i3 nd1 i5 (by omega) (by simp; omega)) fun w2 e2 h2 a2 n_ => ?_
 rw [<- hT] at h2
 have h2 : HoldF w2 (-1) (Zaf (c0 :: C ++ into com (s :: D) :: (X ++ b :: B))) := h2
 have nd2 : (Zaf (c0 :: C ++ into com (s :: D) :: (X ++ b :: B))).ids.Nodup := by
  rw [<- hT] at nd1
  have e : (Zaf (c0 :: C ++ into com (s :: D) :: (X ++ b :: B))).ids = (Zaf (c0 :: C ++ com :: ((s :: D) ++ (X ++ b :: B)))).ids := by
   refine rE (Zaj (c0 :: C) (into com (s :: D) :: (X ++ b :: B))) (rE (Zaj (c0 :: C) (com :: ((s :: D) ++ (X ++ b :: B)))) (rE (Zag (into com (s :: D)) _) (rE (Zag com _) (rE (Zaj (s :: D) (X ++ b :: B)) ?_))))
   refine (?_ : _ ++ com.n :: ((com.k.app (Zaf (s :: D))).ids ++ _) = _)
   refine rE (Zcx _ _) ?_; simp
  refine rE e ?_; exact nd1
 have L2 := a2.len i5
 have T2 : Tr w2 (c0 :: C ++ into com (s :: D) :: (X ++ b :: B)) := ⟨h2, nd2, L2⟩
 have hl2 : w2.nd.length = w1.nd.length := by exact rE a2.nd rfl
 -- the new subject
 have hsd : w2.nd[s.n]? = some s.d := by
  refine rE a2.nd ?_
  exact Zlq i3 (by simp)
 refine o42 (ZdD hs) fun t c hse hst' => ?_
 have e3 := ZjC (d := s.d) (t := []) L2 (by omega)
 have L3 := Zhp (d := s.d) (t := []) L2
 have H3 := h2.same (Zff (d := s.d) (t := []) L2 h2.lt)
 have N3 : HoldF (NzP.addW w2 s.d []) (-1) (Zaf [⟨w2.nd.length, s.d, .nil⟩]) := Zhc L2
 have eZ : Zaf (c0 :: C ++ into com (s :: D) :: (X ++ b :: B)) = Zaf ((c0 :: C ++ into com (s :: D) :: X) ++ [into b B]) := by
  rw [show c0 :: C ++ into com (s :: D) :: (X ++ b :: B) = (c0 :: C ++ into com (s :: D) :: X) ++ b :: B from by simp]
  exact Zcj b B _
 rw [eZ] at H3
 have nd3 := nd2
 rw [eZ] at nd3
 have nn : w2.nd.length ∉ (Zaf ((c0 :: C ++ into com (s :: D) :: X) ++ [into b B])).ids := fun q => by
  rw [<- eZ] at q
  exact Zq8 _ (h2.lt _ q)
 refine o51 (Zne (X := c0 :: C ++ into com (s :: D) :: X) (b := into b B) (x := ⟨w2.nd.length, s.d, .nil⟩) H3 N3 rfl nd3 nn L3 (by refine (?_ : (w2.nd ++ [_]).length < LIM); simp; omega)) fun w4 e4 h4 k4 a4 => ?_
 -- under the block
 have K4 : HoldF w4 (-1) (Zaf (⟨w2.nd.length, s.d, b.k⟩ :: B)) := by
  have e : Zaf (⟨w2.nd.length, s.d, b.k⟩ :: B) = Zaf [⟨w2.nd.length, s.d, (into b B).k⟩] := Zcj ⟨w2.nd.length, s.d, b.k⟩ B []
  refine rE e ?_; exact k4
 have L4 := a4.len L3
 have hl4 : w4.nd.length = w2.nd.length + 1 := by refine rE a4.nd ?_; refine (?_ : (w2.nd ++ [_]).length = _); simp
 have nd5 : (Zaf (c0 :: C ++ into com (s :: D) :: (X ++ ⟨b.n, b.d, .nil⟩ :: ⟨w2.nd.length, s.d, b.k⟩ :: B))).ids.Nodup := by
  have e : (Zaf (c0 :: C ++ into com (s :: D) :: (X ++ ⟨b.n, b.d, .nil⟩ :: ⟨w2.nd.length, s.d, b.k⟩ :: B))).ids.Perm (w2.nd.length :: (Zaf (c0 :: C ++ into com (s :: D) :: (X ++ b :: B))).ids) := by
   rewrite [show c0 :: C ++ into com (s :: D) :: (X ++ ⟨b.n, b.d, .nil⟩ :: ⟨w2.nd.length, s.d, b.k⟩ :: B) = (c0 :: C ++ into com (s :: D) :: X) ++ ⟨b.n, b.d, .nil⟩ :: ⟨w2.nd.length, s.d, b.k⟩ :: B from by simp, show c0 :: C ++ into com (s :: D) :: (X ++ b :: B) = (c0 :: C ++ into com (s :: D) :: X) ++ b :: B from by simp]; refine rE (Zaj (c0 :: C ++ into com (s :: D) :: X) (⟨b.n, b.d, .nil⟩ :: ⟨w2.nd.length, s.d, b.k⟩ :: B)) (rE (Zaj (c0 :: C ++ into com (s :: D) :: X) (b :: B)) (rE (Zag ⟨b.n, b.d, .nil⟩ _) (rE (Zag ⟨w2.nd.length, s.d, b.k⟩ _) (rE (Zag b _) ?_))))
   refine (?_ : ((Zaf (c0 :: C ++ into com (s :: D) :: X)).ids ++ b.n :: (w2.nd.length :: (b.k.ids ++ (Zaf B).ids))).Perm _)
   refine List.Perm.trans ?_ Zr0
   exact ZrU _ (List.Perm.swap _ _ _)
  refine e.symm.nodup_iff.mp (ZqH.mpr ⟨?_, nd2⟩)
  refine rE eZ ?_; exact nn
 have nd5' : (Zaf ((c0 :: C ++ into com (s :: D) :: X) ++ ⟨b.n, b.d, .nil⟩ :: ([] ++ ⟨w2.nd.length, s.d, b.k⟩ :: B))).ids.Nodup := by
  rw [show (c0 :: C ++ into com (s :: D) :: X) ++ ⟨b.n, b.d, .nil⟩ :: ([] ++ ⟨w2.nd.length, s.d, b.k⟩ :: B) = c0 :: C ++ into com (s :: D) :: (X ++ ⟨b.n, b.d, .nil⟩ :: ⟨w2.nd.length, s.d, b.k⟩ :: B) from by simp]
  exact nd5
 refine o51 (ZdJ (C := c0 :: C ++ into com (s :: D) :: X) (D := []) (p := ⟨b.n, b.d, .nil⟩) (b := ⟨w2.nd.length, s.d, b.k⟩) (B := B) (.inr ⟨h4, K4⟩) nd5' L4 (by omega) (by simp; omega)) fun w5 e5 h5 a5 n_ => ?_
 rw [ZjT] at h5
 have h5' : HoldF w5 (-1) (Zaf (c0 :: C ++ into com (s :: D) :: (X ++ ⟨b.n, b.d, .nil⟩ :: ⟨w2.nd.length, s.d, b.k⟩ :: B))) := by
  rw [show c0 :: C ++ into com (s :: D) :: (X ++ ⟨b.n, b.d, .nil⟩ :: ⟨w2.nd.length, s.d, b.k⟩ :: B) = (c0 :: C ++ into com (s :: D) :: X) ++ ⟨b.n, b.d, .nil⟩ :: ⟨w2.nd.length, s.d, b.k⟩ :: B from by simp]
  exact h5
 have L5 := a5.len L4
 -- the lists again
 have st5 : w5.st = (C.map Fr.n ++ [com.n]) ++ s.n :: (X ++ b :: B).map Fr.n := by (refine rE a5.st (rE a4.st ?_)); refine (?_ : w2.st = _); (refine rE a2.st ?_; exact rE i6 rfl)
 have fm5 : w5.fm = fmt (c0 :: C ++ [com]) ++ s.n :: (X.map Fr.n ++ (fmt B ++ pop)) := by (refine rE a5.fm (rE a4.fm ?_)); refine (?_ : w2.fm = _); (refine rE a2.fm ?_; exact rE i7 rfl)
 have er5 : w5.er = w.er := by (refine rE a5.er (rE a4.er ?_)); refine (?_ : w2.er = _); (refine rE a2.er ?_; exact rE i12 rfl)
 have nd5e : w5.nd = w.nd ++ (ds ++ [s.d]) := by (refine rE a5.nd (rE a4.nd ?_)); refine (?_ : w2.nd ++ [s.d] = _); (refine rE a2.nd (rE i10 ?_)); simp
 have fe : w5.fm.erase s.n = (fmt (c0 :: C ++ [com]) ++ X.map Fr.n) ++ (fmt B ++ pop) := by (refine rE fm5 (rE (Zd8 sF) ?_)); simp
 have se : w5.st.erase s.n = ((C.map Fr.n ++ [com.n]) ++ X.map Fr.n) ++ b.n :: B.map Fr.n := by (refine rE st5 (rE (Zd8 sP) ?_)); simp
 have bX : b.n ∉ (C.map Fr.n ++ [com.n]) ++ X.map Fr.n := by
  have n2 := Zbn nd2
  rw [show c0 :: C ++ into com (s :: D) :: (X ++ b :: B) = (c0 :: C ++ into com (s :: D) :: X) ++ b :: B from by simp, ZqB, ZqP] at n2
  have := (Zaz n2).1
  intro q
  refine this ?_
  refine rE ZqB (rE ZqP ?_)
  rcases ZqJ.mp q with q | q
  ·rcases ZqJ.mp q with q | q
   ·exact Zqx _ (Zqw _ q)
   ·refine rE (ZqI.mp q) ?_; exact Zqv _ Zqz
  ·exact Zqv _ (Zqw _ q)
 have ib : (w5.st.erase s.n).idxOf b.n = ((C.map Fr.n ++ [com.n]) ++ X.map Fr.n).length := by refine rE se ?_; exact Zdz bX
 have hp5 : Nz.placeOf w5.fm s.n = ((fmt (c0 :: C ++ [com])).length : Int) := by
  unfold Nz.placeOf
  rewrite [if_pos (by refine rE fm5 ?_; simp)]; refine rE fm5 ?_; exact rE (Zdz sF) rfl
 have hmark : (if Nz.placeOf w5.fm s.n < mark then some (mark - 1) else some mark) = some (((fmt (c0 :: C ++ [com]) ++ X.map Fr.n).length : Nat) : Int) := by
  refine rE hp5 ?_
  rcases i2 with ⟨a, _, e⟩ | ⟨y, Y, a, _, e⟩
  ·refine rE e (rE hpl ?_); rewrite [if_neg (by omega)]; refine rE a ?_; simp
  ·refine rE e ?_; rw [if_pos (by refine rE a ?_; simp; omega)]
   congr 1
   simp; omega
 have lens : (w5.fm.erase s.n).length < LIM := by
  have e1 : w5.fm.length <= w.fm.length := by
   refine rE fm5 (rE hfm1 ?_)
   have : X.length <= (fmt D).length := by
    have := congrArg Zrn i8
    unfold fmt
    simpa using ZrS this
   simp; omega
  have := ZrG (a := s.n) (l := w5.fm)
  omega
 have lens2 : (w5.st.erase s.n).length < LIM := by
  refine rE se ?_
  have : (900 : Nat) + 10 < LIM := by decide
  simp; omega
 refine e93 { w5 with fm := Nz.putAt (w5.fm.erase s.n) (fmt (c0 :: C ++ [com]) ++ X.map Fr.n).length w2.nd.length, st := Nz.putAt (w5.st.erase s.n) ((w5.st.erase s.n).idxOf b.n + 1) w2.nd.length } X w2.nd.length ?_ ⟨h5'.same fun i n_ => ⟨rfl, rfl, rfl, rfl⟩, nd5, ⟨L5.tx, L5.pa, L5.ch⟩⟩ ?_ ?_ i8 ⟨i9, ⟨ds ++ [s.d], nd5e, by simp; omega⟩, er5, by (refine rE a2.nd (rE i10 ?_)); simp⟩
 ·unfold ZcN
  rewrite [if_pos ⟨hsst, by refine rE hixs ?_; simp, hbst, by refine rE hixb ?_; simp only [Zqu, ZqF, Zqt, ZrP]; omega⟩]; refine rE hixs (rE hixb ?_)
  rw [show (C.map Fr.n ++ [com.n]).length - 1 = (C.map Fr.n).length from by simp, show ((C.map Fr.n ++ [com.n]) ++ s.n :: D.map Fr.n).length - 1 = (C.map Fr.n ++ [com.n]).length + D.length from by simp only [Zqu, ZqF, Zqt, ZrP]; omega]
  rw [show w.st[(C.map Fr.n).length]? = some com.n from by (refine rE hst1 (rE (ZqN _ _ _) (rE Zrh ?_))); exact ZaO rfl]
  dsimp only [Zqy]
  refine rE i1 ?_
  dsimp only [Zqy]
  refine rE hlh (rE e2 ?_)
  dsimp only [Zqy]
  refine rE hsd (rE hse ?_)
  dsimp only [Zqy]
  rw [hse] at e3 e4 e5
  refine rE e3 ?_
  dsimp only [Zqy]
  refine Eq.trans (congrArg (fun o : Option PW => Zqy o _) e4) ?_
  dsimp only [Zqy]
  refine Eq.trans (congrArg (fun o : Option PW => Zqy o _) e5) ?_
  dsimp only [Zqy]
  refine rE hmark ?_
  dsimp only [Zqy]
  refine rE (ZrR _) ?_; rw [if_pos ⟨by omega, by refine rE fe ?_; simp, lens, by refine rE se ?_; simp, lens2⟩]
 ·refine (?_ : Nz.putAt (w5.st.erase s.n) ((w5.st.erase s.n).idxOf b.n + 1) w2.nd.length = _)
  refine rE ib (rE se ?_); rw [show ((C.map Fr.n ++ [com.n]) ++ X.map Fr.n) ++ b.n :: B.map Fr.n = (((C.map Fr.n ++ [com.n]) ++ X.map Fr.n) ++ [b.n]) ++ B.map Fr.n from by simp, Zk1 (by simp only [Zqu, ZqF, Zqt, ZrP])]
  simp [into]
 ·refine (?_ : Nz.putAt (w5.fm.erase s.n) _ w2.nd.length = _)
  refine rE fe (rE (Zk1 rfl) ?_)
  rewrite [show c0 :: C ++ into com (s :: D) :: (X ++ ⟨b.n, b.d, .nil⟩ :: ⟨w2.nd.length, s.d, b.k⟩ :: B) = (c0 :: C ++ [into com (s :: D)]) ++ (X ++ ⟨b.n, b.d, .nil⟩ :: ⟨w2.nd.length, s.d, b.k⟩ :: B) from by simp]; refine rE (ZaC (c0 :: C ++ [into com (s :: D)]) _) (rE (ZaC X _) (rE (Zar ⟨b.n, b.d, .nil⟩ _) ?_)); rewrite [if_neg (show ¬ Zcl b.d = true by refine rE hb ?_; decide)]; refine rE (Zar ⟨w2.nd.length, s.d, b.k⟩ _) (rE (if_pos (show Zcl s.d = true from hs)) (rE fX ?_))
  refine rE (ZaC (c0 :: C) [com]) (rE (ZaC (c0 :: C) [into com (s :: D)]) (rE (Zar com _) (rE (Zar (into com (s :: D)) _) ?_)))
  refine (?_ : _ = (fmt (c0 :: C) ++ ((if Zcl com.d = true then [com.n] else []) ++ _)) ++ _ ++ _)
  simp only [ZqN, ZqT, Zq2]
end NzP
namespace NzP
open PySem Nz
noncomputable def Zee : Nd -> Bool
 | .el t (some _) => t.isB
 | _ => false
noncomputable def ZhY : Nd -> Bool
 | .el .span (some _) => true
 | _ => false
noncomputable def okd (d : Nd) : Prop := Zcl d = true \/ Zee d = true \/ ZhY d = true
structure Std (Z : List Fr) : Prop where
 ex : ∃ kb Z3, Z = ⟨0, .doc, .nil⟩ :: ⟨1, .el .html none, .nil⟩ :: ⟨2, .el .body none, kb⟩ :: Z3 /\ ∀ f ∈ Z3, okd f.d
theorem Std.mid {A B X : List Fr} {a : Fr} {k : Fo} (h : Std (A ++ a :: B)) (hA : 2 <= A.length) (hX : ∀ f ∈ X, okd f.d) : Std (A ++ { a with k := k } :: X) := by
 refine o42 h.ex fun kb Z3 e hz => ?_
 match A, hA with
 | x :: y :: A2, _ =>
  simp only [ZqT, Zrm] at e
  refine o30 e ?_; clear e; intro y0 y1 e; subst y0; subst y1
  induction A2 using ZcU with
  | nil =>
   simp only [Zq2, Zrm] at e
   refine o20 e fun y0 y1 => ?_; clear e; subst y0; subst y1
   exact ⟨k, X, rfl, hX⟩
  | cons z A3 =>
   simp only [ZqT, Zrm] at e
   refine o20 e fun y0 y1 => ?_; clear e; subst y0; subst y1
   refine ⟨kb, A3 ++ { a with k := k } :: X, rfl, fun f hf => ?_⟩
   rcases ZqJ.mp hf with hf | hf
   ·exact hz f (Zqx _ hf)
   ·rcases ZqD.mp hf with rfl | hf
    ·exact hz a (by simp)
    ·exact hX f hf
theorem Std.past {A B : List Fr} {a : Fr} (h : Std (A ++ a :: B)) (ha : okd a.d) : 3 <= A.length /\ ∀ f ∈ B, okd f.d := by
 refine o42 h.ex fun kb Z3 e hz => ?_
 match A with
 | [] =>
  simp only [Zq2, Zrm] at e
  refine o20 e fun y0 n_ => ?_; clear e; subst y0
  rcases ha with ha | ha | ha <;> injection ha
 | [x] =>
  simp only [ZqT, Zq2, Zrm] at e
  refine o30 e fun n_ y1 n_ => ?_; clear e; subst y1
  rcases ha with ha | ha | ha <;> injection ha
 | [x, y] =>
  simp only [ZqT, Zq2, Zrm] at e
  refine o40 e fun n_ n_ y2 n_ => ?_; clear e; subst y2
  rcases ha with ha | ha | ha <;> injection ha
 | x :: y :: z :: A3 =>
  simp only [ZqT, Zrm] at e
  refine o40 e fun n_ n_ n_ y3 => ?_; clear e; subst y3
  exact ⟨by simp, fun f hf => hz f (by simp [hf])⟩
theorem Zc2 {d : Nd} (h : okd d) : ∃ t c, d = .el t (some c) /\ (t.isF = true \/ t.isB = true \/ t = .span) := by
 induction d with
 | doc => rcases h with h | h | h <;> injection h
 | tx => rcases h with h | h | h <;> injection h
 | el t c =>
  induction c with
  | none => rcases h with h | h | h <;> (induction t <;> injection h)
  | some c =>
   refine e42 t c rfl ?_
   rcases h with h | h | h
   ·exact .inl h
   ·exact .inr (.inl h)
   ·induction t <;> first | exact .inr (.inr rfl) | injection h
theorem Znb {d : Nd} (h : okd d) : d.isTag .html = false := by
 refine o42 (Zc2 h) fun t c y2 ht => ?_; subst y2
 refine ZdO ?_
 rintro rfl
 rcases ht with h | h | h <;> injection h
theorem ZcC {d : Nd} (h : okd d) : d.special = Zee d := by
 refine o42 (Zc2 h) fun t c y2 ht => ?_; subst y2
 induction t <;> first | rfl | (rcases ht with h | h | h <;> injection h)
noncomputable def bd (Z : List Fr) : List Nd := (Z.filter fun f => Zee f.d).map Fr.d
noncomputable def cS (Z : List Fr) : Nat := (Z.filter fun f => ZhY f.d).length
theorem ZbD (A B : List Fr) : bd (A ++ B) = bd A ++ bd B := by unfold bd; (refine rE (Zq6 _ _) ?_; exact rE ZqB rfl)
theorem ZaG (a : Fr) (B : List Fr) : bd (a :: B) = (if Zee a.d then [a.d] else []) ++ bd B := by
 unfold bd; refine rE Zq7 ?_; split <;> rfl
theorem Zbq (A B : List Fr) : cS (A ++ B) = cS A + cS B := by unfold cS; (refine rE (Zq6 _ _) ?_; exact rE Zqu rfl)
theorem ZaL (a : Fr) (B : List Fr) : cS (a :: B) = (if ZhY a.d then 1 else 0) + cS B := by
 unfold cS; refine rE Zq7 ?_; split <;> simp; omega
theorem ZeV {Z : List Fr} (h : ∀ f ∈ Z, Zee f.d = false) : bd Z = [] := by
 unfold bd; rw [Zrv.mpr fun f hf => by refine rE (h f hf) ?_; decide]; rfl
theorem ZlC : ∀ {Z : List Fr}, (∀ f ∈ Z, okd f.d) -> Z.length = (fmt Z).length + cS Z + (bd Z).length := by
 refine @Zbv _ _ ?_ ?_
 ·intro n_
  exact rfl
 ·intro f r ih h
  have ih := ih fun g hg => h g (Zqw _ hg)
  refine rE (Zar _ _) (rE (ZaL _ _) (rE (ZaG _ _) (rE ZqF (rE ih (rE Zqu (rE Zqu ?_))))))
  refine o42 (Zc2 (h f Zqz)) fun t c e ht => ?_
  refine rE e ?_
  induction t <;> first | (simp [Zcl, ZhY, Zee, Tag.isF, Tag.isB]; omega) | (rcases ht with h | h | h <;> injection h)
theorem Std.len {Z : List Fr} (h : Std Z) : Z.length = 3 + (fmt Z).length + cS Z + (bd Z).length := by
 refine o42 h.ex fun kb Z3 y2 hz => ?_; subst y2
 refine rE ZqF (rE ZqF (rE ZqF (rE (ZlC hz) ?_)))
 refine rE (Zar _ _) (rE (Zar _ _) (rE (Zar _ _) (rE (ZaL _ _) (rE (ZaL _ _) (rE (ZaL _ _) (rE (ZaG _ _) (rE (ZaG _ _) (rE (ZaG _ _) ?_))))))))
 simp [Zcl, ZhY, Zee]; omega
structure St (w : PW) (Z : List Fr) (pop : List Nat) (fs : List (Tag × Nat)) : Prop where
 tr : Tr w Z
 std : Std Z
 st : w.st = (Z.drop 1).map Fr.n
 fm : w.fm = fmt Z ++ pop
 out : ∀ x ∈ pop, x ∉ Z.map Fr.n
 np : pop.Nodup
 fd : w.fm.map (fun x => w.nd[x]?) = fs.map fun p => some (Nd.el p.1 (some p.2))
 ff : ∀ p ∈ fs, p.1.isF = true
variable {w : PW} {Z : List Fr} {pop : List Nat} {fs : List (Tag × Nat)}
theorem St.len (h : St w Z pop fs) : w.fm.length = fs.length := by
 have := congrArg Zrn h.fd
 rwa [Zqt, Zqt] at this
theorem Zfb {Z : List Fr} {x : Nat} (h : x ∈ fmt Z) : x ∈ Z.map Fr.n := by
 refine o41 (Zhn h) fun f hf e n_ => ?_
 exact e ▸ ZqL hf
theorem St.nfm (h : St w Z pop fs) : w.fm.Nodup := by
 refine rE h.fm ?_; rw [ZqK]
 refine ⟨(Zbn h.tr.nodup).sublist (Zsx _ Zr9), h.np, fun a ha b hb e => ?_⟩
 exact h.out b hb (e ▸ Zfb ha)
theorem St.zlen (h : St w Z pop fs) : (fmt Z).length <= fs.length := by
 have := h.len
 rw [h.fm, Zqu] at this
 omega
theorem St.er (h : St w Z pop fs) (e : Nat) : St { w with er := e } Z pop fs := ⟨h.tr.same rfl rfl rfl rfl, h.std, h.st, h.fm, h.out, h.np, h.fd, h.ff⟩
theorem St.split {X Y : List (Tag × Nat)} {t : Tag} {c : Nat} (h : St w Z pop (X ++ (t, c) :: Y)) : ∃ FX s FY, w.fm = FX ++ s :: FY /\ FX.map (fun x => w.nd[x]?) = X.map (fun p => some (Nd.el p.1 (some p.2))) /\ w.nd[s]? = some (.el t (some c)) /\ FY.map (fun x => w.nd[x]?) = Y.map fun p => some (Nd.el p.1 (some p.2)) := by
 have := h.fd
 rw [ZqB, ZqP] at this
 refine o52 (ZrB.mp this) fun FX F2 e1 e2 e3 => ?_
 refine o52 (ZsH.mp e3) fun s FY y2 e4 e5 => ?_; subst y2
 exact e73 FX s FY e1 e2 e4 e5
theorem St.erase {X Y : List (Tag × Nat)} {t : Tag} {c : Nat} {FX FY : List Nat} {s : Nat} (h : St w Z pop (X ++ (t, c) :: Y)) (e : w.fm = FX ++ s :: FY) (e1 : FX.map (fun x => w.nd[x]?) = X.map (fun p => some (Nd.el p.1 (some p.2)))) (e2 : FY.map (fun x => w.nd[x]?) = Y.map fun p => some (Nd.el p.1 (some p.2))) (hs : s ∈ pop) :
  St { w with fm := w.fm.erase s } Z (pop.erase s) (X ++ Y) := by
 have n := h.nfm
 have sZ : s ∉ fmt Z := fun q => h.out s hs (Zfb q)
 refine ⟨h.tr.same rfl rfl rfl rfl, h.std, h.st, ?_, fun x hx => h.out x (ZsC hx), h.np.erase s, ?_, fun p hp => h.ff p ?_⟩
 ·refine (?_ : w.fm.erase s = _)
  refine rE h.fm ?_; exact rE (ZrO _ sZ) rfl
 ·show (w.fm.erase s).map (fun x => w.nd[x]?) = _
  rw [e] at n ⊢
  refine rE (Zd8 (Zaz n).1) (rE ZqB (rE ZqB (rE e1 ?_))); exact rE e2 rfl
 ·rcases ZqJ.mp hp with q | q
  ·exact Zqx _ q
  ·exact Zqv _ (Zqw _ q)
theorem St.down {A R : List Fr} {com : Fr} (h : St w (A ++ com :: R) pop fs) (hA : 2 <= A.length) (e : Nat) : St { w with st := ((A ++ [com]).drop 1).map Fr.n, er := e } (A ++ [into com R]) (fmt R ++ pop) fs := by
 have n := Zbn h.tr.nodup
 have fi : fmt (A ++ [into com R]) = fmt (A ++ [com]) := by
  refine rE (ZaC _ _) (rE (ZaC _ _) (rE (Zar _ _) (rE (Zar _ _) ?_))); rfl
 refine ⟨h.tr.into.same rfl rfl rfl rfl, h.std.mid hA noM, ?_, ?_, fun x hx => ?_, ?_, h.fd, h.ff⟩
 ·match A, hA with
  | a :: A', _ => simp [into]
 ·refine (?_ : w.fm = _)
  refine rE h.fm (rE fi ?_); rewrite [show A ++ com :: R = (A ++ [com]) ++ R from by simp]; refine rE (ZaC (A ++ [com]) R) ?_; exact rE (ZqN _ _ _) rfl
 ·have e : (A ++ [into com R]).map Fr.n = (A ++ [com]).map Fr.n := by simp [into]
  refine rE e ?_
  rw [show A ++ com :: R = (A ++ [com]) ++ R from by simp, ZqB] at n
  rcases ZqJ.mp hx with hx | hx
  ·intro q
   exact (ZqK.mp n).2.2 x q x (Zfb hx) rfl
  ·intro q
   refine h.out x hx ?_
   rewrite [show A ++ com :: R = (A ++ [com]) ++ R from by simp]; refine rE ZqB ?_
   exact Zqx _ q
 ·rw [ZqK]
  rw [show A ++ com :: R = (A ++ [com]) ++ R from by simp, ZqB] at n
  refine ⟨(ZqK.mp n).2.1.sublist (Zsx _ Zr9), h.np, fun a ha b hb e => ?_⟩
  refine h.out b hb ?_
  rewrite [show A ++ com :: R = (A ++ [com]) ++ R from by simp]; refine rE ZqB (rS e ?_)
  exact Zqv _ (Zfb ha)
theorem ZpG : ∀ (B : List Fr), (∀ f ∈ B, Zee f.d = false) \/ ∃ D b R, B = D ++ b :: R /\ (∀ f ∈ D, Zee f.d = false) /\ Zee b.d = true := by
 refine @Zbg _ _ ?_ ?_
 ·exact .inl noM
 ·intro f r ih
  induction h : Zee f.d with
  | true => exact .inr ⟨[], f, r, rfl, noM, h⟩
  | false =>
   rcases ih with q | ⟨D, b, R, e, h1, h2⟩
   ·refine .inl fun g hg => ?_
    rcases ZqD.mp hg with rfl | hg
    ·exact h
    ·exact q g hg
   ·refine .inr ⟨f :: D, b, R, by refine rE e ?_; rfl, fun g hg => ?_, h2⟩
    rcases ZqD.mp hg with rfl | hg
    ·exact h
    ·exact h1 g hg
theorem Zcu {d : Nd} (h : Zcl d = true) : Zee d = false /\ ZhY d = false := by
 refine o42 (ZdD h) fun t c y2 ht => ?_; subst y2
 induction t <;> first | exact ⟨rfl, rfl⟩ | injection ht
theorem ZmU {d : Nd} (h : Zee d = true) : Zcl d = false /\ ZhY d = false := by
 induction d with
 | el t c => induction c with
  | none => injection h
  | some c => induction t <;> first | exact ⟨rfl, rfl⟩ | injection h
 | doc => injection h
 | tx => injection h
theorem Zla {d : Nd} (h : Zcl d = false) : fl d = [] := by
 induction d with
 | el t c => induction c with
  | none => rfl
  | some c => refine (?_ : (if t.isF = true then [c] else []) = []); rw [show t.isF = false from h]; rfl
 | doc => rfl
 | tx => rfl
theorem Zi8 {d : Nd} (h : Zee d = false) : bl d = [] := by
 induction d with
 | el t c => induction c with
  | none => rfl
  | some c => refine (?_ : (if t.isB = true then [c] else []) = []); rw [show t.isB = false from h]; rfl
 | doc => rfl
 | tx => rfl
theorem ZgK : ∀ Z : List Fr, (Z.filter fun f => Zcl f.d).flatMap (fun f => fl f.d) = flZ Z := by
 refine @Zbg _ _ ?_ ?_
 ·exact rfl
 ·intro f r ih
  refine rE Zq7 (rE (ZhL _ _) (rS (ih) ?_))
  induction h : Zcl f.d with
  | true => (refine rE (if_pos rfl) ?_; exact rE Zrc rfl)
  | false => (rewrite [if_neg (by decide)]; refine rE (Zla h) ?_); rfl
theorem Zfn {w : PW} (h : w.er < LIM) : Ziz w = some { w with er := w.er + 1 } := if_pos h
end NzP
namespace NzP
open PySem Nz
theorem Zez : ∀ {A A' B B' : List Nat} {x : Nat}, A ++ x :: B = A' ++ x :: B' -> x ∉ A -> x ∉ A' -> A = A' /\ B = B'
 | [], [], _, _, _, h, _, _ => ⟨rfl, (Zr5 h).2⟩
 | [], y :: A', _, _, x, h, _, h2 => absurd (Zr5 h).1 (fun q => h2 (q ▸ Zqz))
 | y :: A, [], _, _, x, h, h1, _ => absurd (Zr5 h).1 (fun q => h1 (q ▸ Zqz))
 | y :: A, z :: A', _, _, x, h, h1, h2 => by
  refine o20 (Zr5 h) fun e1 e2 => ?_
  refine o20 (Zez e2 (fun q => h1 (Zqw _ q)) (fun q => h2 (Zqw _ q))) fun a b => ?_
  exact ⟨by (refine rE e1 ?_; exact rE a rfl), b⟩
theorem Zjs {A A' B B' : List Fr} {f g : Fr} (h : A ++ f :: B = A' ++ g :: B') (n : ((A ++ f :: B).map Fr.n).Nodup) (e : f.n = g.n) : B = B' := by
 have h2 := congrArg (Zss Fr.n) h
 have n2 := n
 rw [h] at n2
 rw [ZqB, ZqP] at n h2
 rw [ZqB, ZqP] at n2 h2
 rw [e] at h2 n
 have := congrArg Zrn (Zez h2 (Zaz n).1 (Zaz n2).1).1
 rw [Zqt, Zqt] at this
 have := (List.append_inj h this).2
 exact (Zr5 this).2
theorem Zhm {w : PW} {t : Tag} {F : List Nat} {Y : List (Tag × Nat)} (e : F.map (fun x => w.nd[x]?) = Y.map fun p => some (Nd.el p.1 (some p.2))) (h : ∀ p ∈ Y, p.1 ≠ t) : ∀ x ∈ F, ∃ d, w.nd[x]? = some d /\ d.isTag t = false := fun x hx => by
 have : w.nd[x]? ∈ Y.map fun p => some (Nd.el p.1 (some p.2)) := by refine rS e ?_; exact ZqL (f := fun x => w.nd[x]?) hx
 refine o31 (ZqO.mp this) fun p hp q => ?_
 exact e31 _ q.symm (ZdO (h p hp))
theorem ZjW {w w' : PW} {ds : List Nd} (e : w'.nd = w.nd ++ ds) {x : Nat} {d : Nd} (h : w.nd[x]? = some d) : w'.nd[x]? = some d := by
 refine rE e (rE (ZqZ (ZaH h)) ?_); exact h
theorem Zb0 {w w' : PW} {ds : List Nd} (e : w'.nd = w.nd ++ ds) {F : List Nat} {Y : List (Tag × Nat)} (h : F.map (fun x => w.nd[x]?) = Y.map fun p => some (Nd.el p.1 (some p.2))) : F.map (fun x => w'.nd[x]?) = Y.map fun p => some (Nd.el p.1 (some p.2)) := by
 refine rS h ?_
 refine Zrk fun x hx => ?_
 have : w.nd[x]? ∈ Y.map fun p => some (Nd.el p.1 (some p.2)) := by refine rS h ?_; exact ZqL (f := fun x => w.nd[x]?) hx
 refine o31 (ZqO.mp this) fun p hp q => ?_
 refine rS q ?_
 exact ZjW e q.symm
theorem ZmE {t : Tag} (ht : t.isF = true) : ∀ (f n : Nat) {w : PW} {Z : List Fr} {pop : List Nat} {X Y : List (Tag × Nat)} {c : Nat}, St w Z pop (X ++ (t, c) :: Y) -> (∀ p ∈ Y, p.1 ≠ t) ->
  (∀ A sf B, Z = A ++ sf :: B -> w.fm[X.length]? = some sf.n -> (bd B).length <= n) -> X.length + 1 + Y.length + cS Z <= 4 -> (bd Z).length <= 5 -> n < f -> w.nd.length + 8 * f + 16 < LIM -> w.er + 2 * f + 2 < LIM ->
  ∃ w' Z' pop', Zcc t f w = some w' /\ St w' Z' pop' (X ++ Y) /\ Keep Z Z' /\ bd Z' = bd Z /\ cS Z' <= cS Z /\ w'.nd.length <= w.nd.length + 8 * f /\ w'.er <= w.er + 2 * f /\ ∃ ds, w'.nd = w.nd ++ ds := by
 intro f
 induction f with
 | zero => intros; omega
 | succ f ih =>
  intro n w Z pop X Y c h hY hn h4 h5 hf hz he
  refine o73 h.split fun FX s FY e e1 es e2 => ?_
  have lX : FX.length = X.length := by simpa using congrArg Zrn e1
  have nfm := h.nfm
  have sFX : s ∉ FX := by rw [e] at nfm; exact (Zaz nfm).1
  have hfind : Ze2 w t w.fm.length = some (some s) := by
   have := Zj5 (F := FX) es Zc7 FY.length FY rfl [] (by refine rE e ?_; simp) (Zhm e2 hY)
   refine rE e (rE Zqu (rE ZqF ?_))
   rw [show FX.length + (FY.length + 1) = FX.length + 1 + FY.length from by omega]
   exact this
  have hsub : ∀ r, (if s ∈ w.st then (ZdX w s w.st.length).bind fun sc => if sc = true then (if cur w.st ≠ (s : Int) then Ziz w else some w).bind fun w₁ => some (some s, w₁) else (Ziz w).bind fun w₁ => some (none, w₁) else (Ziz w).bind fun w₁ => some (none, { w₁ with fm := w₁.fm.erase s })) = some r -> ZiK w t = some r := fun r q => by
   unfold ZiK
   refine rE hfind ?_
   exact q
  rw [Zcc]
  by_cases hs : s ∈ w.st
  ·-- it is open
   obtain ⟨sf, hsf, rfl⟩ : ∃ sf ∈ Z, sf.n = s := by
    rw [h.st] at hs
    refine o31 (ZqO.mp hs) fun sf q e => ?_
    exact e31 sf (ZrH q) e
   refine o32 (Zbo hsf) fun A B y2 => ?_; subst y2
   have sd : sf.d = .el t (some c) := ZqC (h.tr.nd.symm.trans es)
   have sF : Zcl sf.d = true := by refine rE sd ?_; exact ht
   refine o20 (h.std.past (.inl sF)) fun lA hB => ?_
   obtain ⟨c0, C, com, rfl, lC⟩ : ∃ c0 C com, A = c0 :: C ++ [com] /\ 1 <= C.length := by
    obtain ⟨G, com, rfl⟩ : ∃ G x, A = G ++ [x] := (snocs A).resolve_left fun q => by rw [q] at lA; simp at lA
    induction G using ZcU with
    | nil => simp at lA
    | cons c0 C => exact e53 c0 C com rfl (by simp at lA; omega)
   have zlen := h.std.len
   have flen := h.zlen
   rw [Zqu, ZqF] at flen
   have hZe : c0 :: C ++ [com] ++ sf :: B = c0 :: C ++ com :: sf :: B := by simp
   have nm := Zbn h.tr.nodup
   have hst : w.st = (C ++ [com]).map Fr.n ++ sf.n :: B.map Fr.n := by refine rE h.st ?_; simp
   have nst : w.st.Nodup := by
    refine rE hst ?_
    rw [ZqN, ZqT, ZqP] at nm
    have := (ZqH.mp nm).2
    simpa using this
   have sP : sf.n ∉ (C ++ [com]).map Fr.n := by rw [hst] at nst; exact (Zaz nst).1
   have hsB : sf.n ∉ B.map Fr.n := by rw [hst] at nst; exact (Zaz nst).2
   have hscope : ZdX w sf.n w.st.length = some true := by
    have := ZiG (w := w) (P := (C ++ [com]).map Fr.n) (s := sf.n) (B.map Fr.n).length (B.map Fr.n) rfl [] (by refine rE hst ?_; simp) (fun x hx => by
     refine o31 (ZqO.mp hx) fun g hg y2 => ?_; subst y2
     exact e31 g.d (h.tr.nd' (by simp [hg])) (Znb (hB g hg)))
    refine rE hst (rE Zqu (rE ZqF ?_)); rw [show ((C ++ [com]).map Fr.n).length + ((B.map Fr.n).length + 1) = ((C ++ [com]).map Fr.n).length + 1 + (B.map Fr.n).length from by omega]
    exact this
   obtain ⟨e', he1, he2⟩ : ∃ e', (if cur w.st ≠ (sf.n : Int) then Ziz w else some w) = some { w with er := e' } /\ e' <= w.er + 1 := by
    by_cases q : cur w.st ≠ (sf.n : Int)
    ·exact e31 (w.er + 1) (by (refine rE (if_pos q) ?_; rw [Zfn (by omega)])) (ZqQ _)
    ·exact e31 w.er (by exact rE (if_neg q) rfl) (Zsp _)
   refine rE (hsub (some sf.n, { w with er := e' }) (by
    refine rE (if_pos hs) (rE hscope ?_)
    dsimp only [Zqy]
    (refine rE (if_pos rfl) ?_; exact rE he1 rfl))) ?_
   dsimp only [Zqy]
   refine rE (if_pos hs) ?_
   have hix : w.st.idxOf sf.n = ((C ++ [com]).map Fr.n).length := by refine rE hst ?_; exact Zdz sP
   have hlen : w.st.length - (w.st.idxOf sf.n + 1) = (B.map Fr.n).length := by (refine rE hix (rE hst (rE Zqu (rE ZqF ?_)))); exact Nz.sF
   refine rE hlen (rE hix ?_)
   have hst2 : ({ w with er := e' } : PW).st = ((C ++ [com]).map Fr.n ++ [sf.n]) ++ B.map Fr.n := by refine (?_ : w.st = _); refine rE hst ?_; simp
   have hA : fmt (c0 :: C ++ [com] ++ sf :: B) = fmt (c0 :: C ++ [com]) ++ sf.n :: fmt B := by rw [ZaC, Zar, if_pos sF]; rfl
   have hfm2 : w.fm = fmt (c0 :: C ++ [com]) ++ sf.n :: (fmt B ++ pop) := by (refine rE h.fm (rE hA ?_)); simp
   have sA : sf.n ∉ fmt (c0 :: C ++ [com]) := by
    have := nfm
    rw [hfm2] at this
    exact (Zaz this).1
   refine o20 (Zez (e.symm.trans hfm2) sFX sA) fun eFX eFY => ?_
   rcases ZpG B with hnb | ⟨D, b, R, rfl, hD, hbB⟩
   ·-- no block
    have hfur : ZkY { w with er := e' } (B.map Fr.n).length (((C ++ [com]).map Fr.n).length + 1) = some none := by
     have := Zma (w := { w with er := e' }) (B.map Fr.n) ((C ++ [com]).map Fr.n ++ [sf.n]) hst2 (fun x hx => by
      refine o31 (ZqO.mp hx) fun g hg y2 => ?_; subst y2
      exact e31 g.d (h.tr.nd' (by simp [hg])) (by refine rE (ZcC (hB g hg)) ?_; exact hnb g hg))
     rw [Zqu, ZqY] at this
     exact this
    refine rE hfur ?_
    dsimp only [Zqy]
    have hpw : Zmt w.st.length w.st sf.n = some ((C ++ [com]).map Fr.n) := by
     refine rE hst ?_
     refine ZhN (B.map Fr.n).length (B.map Fr.n) rfl _ hsB ?_
     refine rE Zqu (rE ZqF ?_); omega
    refine rE hpw ?_
    dsimp only
    have hd := (hZe ▸ h : St w (c0 :: C ++ com :: sf :: B) pop (X ++ (t, c) :: Y)).down (by simp; omega) e'
    have hfin := St.erase (FX := FX) (FY := FY) hd e e1 e2 (Zqx _ (by (refine rE (Zar _ _) (rE (if_pos sF) ?_)); simp))
    refine e93 _ (c0 :: C ++ [into com (sf :: B)]) ((fmt (sf :: B) ++ pop).erase sf.n) rfl ?_ (hZe ▸ Zhh (c0 :: C) com (sf :: B)) ?_ ?_ ⟨by refine (?_ : w.nd.length <= _); omega, by refine (?_ : e' <= _); omega, [], by simp⟩
    ·have : ((c0 :: C ++ [com]).drop 1).map Fr.n = (C ++ [com]).map Fr.n := rfl
     rw [this] at hfin
     exact hfin
    ·refine rE (ZbD (c0 :: C ++ [com]) (sf :: B)) (rE (ZaG sf _) (rE ((Zcu sF).1) (rE (ZeV hnb) (rE (ZbD (c0 :: C) [into com (sf :: B)]) (rE (ZbD (c0 :: C) [com]) (rE (ZaG com _) (rE (ZaG (into com (sf :: B)) _) ?_)))))))
     refine (?_ : _ ++ ((if Zee com.d = true then [com.d] else []) ++ _) = _)
     simp
    ·refine rE (Zbq (c0 :: C ++ [com]) (sf :: B)) (rE (Zbq (c0 :: C) [into com (sf :: B)]) (rE (Zbq (c0 :: C) [com]) (rE (ZaL com _) (rE (ZaL (into com (sf :: B)) _) ?_))))
     refine (?_ : _ + ((if ZhY com.d = true then 1 else 0) + _) <= _)
     omega
   ·-- a block below it
    have hfur : ZkY { w with er := e' } ((D ++ b :: R).map Fr.n).length (((C ++ [com]).map Fr.n).length + 1) = some (some b.n) := by
     have := Zlp (w := { w with er := e' }) (b := b.n) (R := R.map Fr.n) (d := b.d) (h.tr.nd' (by simp)) (by rw [ZcC (hB b (by simp))]; exact hbB) (D.map Fr.n) ((C ++ [com]).map Fr.n ++ [sf.n]) ((D ++ b :: R).map Fr.n).length (by refine rE hst2 ?_; simp) (fun x hx => by
      refine o31 (ZqO.mp hx) fun g hg y2 => ?_; subst y2
      exact e31 g.d (h.tr.nd' (by simp [hg])) (by rw [ZcC (hB g (by simp [hg]))]; exact hD g hg)) (by simp)
     rw [Zqu, ZqY] at this
     exact this
    refine rE hfur ?_
    dsimp only [Zqy]
    refine o20 (ZmU hbB) fun bF bS => ?_
    have hZ2 : c0 :: C ++ [com] ++ sf :: (D ++ b :: R) = c0 :: C ++ com :: sf :: (D ++ b :: R) := by simp
    have hDl : D.length <= 3 := by
     have dl := ZlC (Z := D) fun g hg => hB g (by simp [hg])
     rw [ZeV hD, ZrP] at dl
     have c1 := Zbq (c0 :: C ++ [com]) (sf :: (D ++ b :: R))
     rw [ZaL sf, Zbq D] at c1
     have f1 := congrArg Zrn hA
     rw [ZaC D] at f1
     simp only [Zqu, ZqF] at f1
     omega
    have zl : C.length + D.length + R.length < 900 := by
     have : (c0 :: C ++ [com] ++ sf :: (D ++ b :: R)).length <= 3 + 4 + 4 + 5 := by omega
     simp at this; omega
    have hlim : w.fm.length < LIM := by
     have := h.len
     rw [Zqu, ZqF] at this
     have : (100 : Nat) < LIM := by decide
     omega
    refine o83 (ZlF (w := { w with er := e' }) (c0 := c0) (com := com) (s := sf) (b := b) (C := C) (D := D) (B := R) (pop := pop) (hZ2 ▸ (h.er e').tr) (by refine (?_ : w.st = _); (refine rE h.st (rE hZ2 ?_)); rfl) (by refine (?_ : w.fm = _); (refine rE h.fm ?_; exact rE hZ2 rfl)) (by refine rS hZ2 ?_; exact h.out) sF bF hDl (by refine (?_ : w.nd.length + 8 < LIM); omega) zl hlim) fun w' Xc q m1 m2 m3 m4 r7 => ?_; refine o50 r7 fun m5 m6 y2 m9 m10 => ?_; clear r7; (refine o31 y2 fun ds m7 m8 => ?_; clear y2)
    refine rE m1 ?_
    dsimp only
    -- the new state
    have hXF : ∀ g ∈ Xc, Zcl g.d = true := fun g hg => by
     have : g.d ∈ (D.filter fun f => Zcl f.d).map Fr.d := by refine rS m5 ?_; exact ZqL hg
     refine o31 (ZqO.mp this) fun u hu eu => ?_
     refine rS eu ?_; exact (Zrg.mp hu).2
    have fX : fmt Xc = Xc.map Fr.n := by unfold fmt; exact rE (Zru.mpr hXF) rfl
    have popl : ∀ x ∈ pop, x < w.nd.length := fun x hx => by
     have : w.nd[x]? ∈ w.fm.map (fun x => w.nd[x]?) := ZqL (f := fun x => w.nd[x]?) (by refine rE h.fm ?_; exact Zqv _ hx)
     rw [h.fd] at this
     refine o31 (ZqO.mp this) fun p n_ ep => ?_
     exact ZaH ep.symm
    obtain ⟨Y1, Y2, rfl, y1, y2⟩ : ∃ Y1 Y2, Y = Y1 ++ Y2 /\ (fmt D).map (fun x => w.nd[x]?) = Y1.map (fun p => some (Nd.el p.1 (some p.2))) /\ (fmt R ++ pop).map (fun x => w.nd[x]?) = Y2.map fun p => some (Nd.el p.1 (some p.2)) := by
     rw [eFY, ZaC, Zar, if_neg (by refine rE bF ?_; decide), Zq2, ZqN, ZqB] at e2
     refine o52 (ZrB.mp e2.symm) fun Y1 Y2 a b c => ?_
     exact e52 Y1 Y2 a b.symm c.symm
    have hXd : (Xc.map Fr.n).map (fun x => w'.nd[x]?) = Y1.map fun p => some (Nd.el p.1 (some p.2)) := by
     refine rS y1 ?_
     have a1 : (Xc.map Fr.n).map (fun x => w'.nd[x]?) = (Xc.map Fr.d).map some := by
      refine rE ZqV (rE ZqV ?_)
      exact Zrk fun g hg => m2.nd' (by simp [hg])
     refine rE a1 (rE m5 ?_)
     unfold fmt
     refine rE ZqV (rE ZqV ?_)
     exact Zrk fun g hg => (h.tr.nd' (by simp [(Zrg.mp hg).1])).symm
    have fZ' : fmt (c0 :: C ++ into com (sf :: D) :: (Xc ++ { n := b.n, d := b.d, k := .nil } :: { n := q, d := sf.d, k := b.k } :: R)) = fmt (c0 :: C ++ [com]) ++ (Xc.map Fr.n ++ q :: fmt R) := by
     refine rE (ZaC (c0 :: C) _) (rE (ZaC (c0 :: C) [com]) (rE (Zar (into com (sf :: D)) _) (rE (Zar com _) (rE (ZaC Xc _) (rE (Zar ⟨b.n, b.d, .nil⟩ _) ?_))))); rewrite [if_neg (show ¬ Zcl b.d = true by refine rE bF ?_; decide)]; refine rE (Zar ⟨q, sf.d, b.k⟩ _) (rE (if_pos (show Zcl sf.d = true from sF)) (rE fX ?_))
     refine (?_ : fmt (c0 :: C) ++ ((if Zcl com.d = true then [com.n] else []) ++ _) = _)
     simp [fmt]
    have hSt : St w' (c0 :: C ++ into com (sf :: D) :: (Xc ++ { n := b.n, d := b.d, k := .nil } :: { n := q, d := sf.d, k := b.k } :: R)) pop ((X ++ Y1) ++ (t, c) :: Y2) := by
     refine ⟨m2, ?_, m3, m4, fun x hx => ?_, h.np, ?_, fun p hp => h.ff p ?_⟩
     ·refine Std.mid (k := (into com (sf :: D)).k) (hZ2 ▸ h.std) (by simp; omega) fun g hg => ?_
      rcases ZqJ.mp hg with hg | hg
      ·exact .inl (hXF g hg)
      ·rcases ZqD.mp hg with rfl | hg
       ·exact .inr (.inl hbB)
       ·rcases ZqD.mp hg with rfl | hg
        ·exact .inl sF
        ·exact hB g (by simp [hg])
     ·have ox := h.out x hx
      have pl := popl x hx
      intro qx
      refine o31 (ZqO.mp qx) fun g hg y2 => ?_; subst y2
      rcases ZqJ.mp hg with hg | hg
      ·exact ox (ZqL (by simp at hg ⊢; rcases hg with hg | hg <;> simp [hg]))
      ·rcases ZqD.mp hg with rfl | hg
       ·exact ox (by simp [into])
       ·rcases ZqJ.mp hg with hg | hg
        ·have := (m6 g hg).2
         have : w.nd.length <= g.n := this
         omega
        ·rcases ZqD.mp hg with rfl | hg
         ·exact ox (by simp)
         ·rcases ZqD.mp hg with rfl | hg
          ·have : w.nd.length <= q := m10
           exact absurd pl (by refine (?_ : ¬ q < _); omega)
          ·exact ox (ZqL (by simp [hg]))
     ·have mq : w'.nd[q]? = some (.el t (some c)) := by refine rS sd ?_; exact m2.nd' (f := ⟨q, sf.d, b.k⟩) (by simp)
      have k1 := Zb0 m7 e1
      have k2 := Zb0 m7 y2
      rw [eFX] at k1
      have e5 : w'.fm = fmt (c0 :: C ++ [com]) ++ (Xc.map Fr.n ++ q :: (fmt R ++ pop)) := by (refine rE m4 (rE fZ' (rE (ZqN _ _ _) (rE (ZqN _ _ _) ?_)))); rfl
      refine rE e5 (rE (ZqB (l₁ := fmt (c0 :: C ++ [com]))) (rE (ZqB (l₁ := Xc.map Fr.n)) (rE ZqP (rE hXd (rE mq (rE k2 (rE k1 ?_)))))))
      simp
     ·simp only [ZqJ, ZqD] at hp ⊢
      rcases hp with (hp | hp) | hp | hp
      ·exact .inl hp
      ·exact .inr (.inr (.inl hp))
      ·exact .inr (.inl hp)
      ·exact .inr (.inr (.inr hp))
    have hcS : cS (c0 :: C ++ into com (sf :: D) :: (Xc ++ { n := b.n, d := b.d, k := .nil } :: { n := q, d := sf.d, k := b.k } :: R)) <= cS (c0 :: C ++ [com] ++ sf :: (D ++ b :: R)) := by
     have x0 : cS Xc = 0 := by
      unfold cS
      rw [Zrv.mpr fun g hg => by refine rE ((Zcu (hXF g hg)).2) ?_; decide]; rfl
     refine rE hZ2 (rE (Zbq (c0 :: C) _) (rE (Zbq (c0 :: C) _) (rE (ZaL com _) (rE (ZaL (into com (sf :: D)) _) (rE (ZaL sf _) (rE (Zbq Xc _) (rE (Zbq D _) (rE (ZaL b _) (rE (ZaL ⟨b.n, b.d, .nil⟩ _) (rE (ZaL ⟨q, sf.d, b.k⟩ _) (rE x0 ?_)))))))))))
     refine (?_ : _ + ((if ZhY com.d = true then 1 else 0) + (0 + ((if ZhY b.d = true then 1 else 0) + ((if ZhY sf.d = true then 1 else 0) + _)))) <= _)
     omega
    have hbd : bd (c0 :: C ++ into com (sf :: D) :: (Xc ++ { n := b.n, d := b.d, k := .nil } :: { n := q, d := sf.d, k := b.k } :: R)) = bd (c0 :: C ++ [com] ++ sf :: (D ++ b :: R)) := by
     have x0 : bd Xc = [] := ZeV fun g hg => (Zcu (hXF g hg)).1
     refine rE hZ2 (rE (ZbD (c0 :: C) _) (rE (ZbD (c0 :: C) _) (rE (ZaG com _) (rE (ZaG (into com (sf :: D)) _) (rE (ZaG sf _) (rE (ZbD Xc _) (rE (ZbD D _) (rE (ZaG b _) (rE (ZaG ⟨b.n, b.d, .nil⟩ _) (rE (ZaG ⟨q, sf.d, b.k⟩ _) (rE x0 (rE (ZeV hD) ?_))))))))))))
     refine (?_ : _ ++ ((if Zee com.d = true then [com.d] else []) ++ ([] ++ ((if Zee b.d = true then [b.d] else []) ++ ((if Zee sf.d = true then [sf.d] else []) ++ _)))) = _)
     refine rE ((Zcu sF).1) ?_
     simp
    have hsn : w.fm[X.length]? = some sf.n := by refine rE e ?_; exact ZaO lX.symm
    have hn1 := hn _ _ _ rfl hsn
    rw [ZbD D, ZeV hD, ZaG b, if_pos hbB] at hn1
    simp only [Zq2, Zqu, ZqY] at hn1
    have keep1 : Keep (c0 :: C ++ [com] ++ sf :: (D ++ b :: R)) (c0 :: C ++ into com (sf :: D) :: (Xc ++ { n := b.n, d := b.d, k := .nil } :: { n := q, d := sf.d, k := b.k } :: R)) := by
     refine rE hZ2 ?_
     refine Zk5 (n := 0) ⟨t, c, sd, ht⟩ (fun g hg => Zi8 (hD g hg)) (Zla bF) ?_ ?_ (fun g hg => (m6 g hg).1) ?_ (fun g hg => ZdD (hXF g hg)) fun g hg => ?_
     ·refine rS (ZgK D) ?_
      unfold flZ
      have : ∀ {U V : List Fr}, U.map Fr.d = V.map Fr.d -> U.flatMap (fun f => fl f.d) = V.flatMap (fun f => fl f.d) := fun {U V} q => by
       have a : ∀ W : List Fr, W.flatMap (fun f => fl f.d) = (W.map Fr.d).flatMap fl := fun W => by exact rE (Zsy _ _ _) rfl
       refine rE (a _) (rE (a _) ?_); exact rE q rfl
      exact this m5
     ·exact Zst.mpr fun g hg => Zi8 (Zcu (hXF g hg)).1
     ·have := congrArg Zrn m5
      rw [Zqt, Zqt] at this
      refine rE this ?_; exact Zry _ _
     ·have : g.d ∈ (D.filter fun f => Zcl f.d).map Fr.d := by refine rS m5 ?_; exact ZqL hg
      refine o31 (ZqO.mp this) fun u hu eu => ?_
      exact e31 u ((Zrg.mp hu).1) eu.symm
    have lY1 : Y1.length = Xc.length := by
     have := congrArg Zrn hXd
     simpa using this.symm
    have lfA : (fmt (c0 :: C ++ [com])).length = X.length := by (refine rS eFX ?_; exact rE lX rfl)
    have m8' : ds.length <= 4 := m8
    have ndl : w'.nd.length <= w.nd.length + 4 := by (refine rE m7 (rE Zqu ?_)); refine (?_ : w.nd.length + _ <= _); omega
    have erl : w'.er <= w.er + 1 := by refine rE m9 ?_; exact he2
    refine o83 (ih (n - 1) hSt (fun p hp => hY p (Zqv _ hp)) (fun A' sf' B' eZ' eq' => by
     have e5 : w'.fm = (fmt (c0 :: C ++ [com]) ++ Xc.map Fr.n) ++ q :: (fmt R ++ pop) := by (refine rE m4 (rE fZ' (rE (ZqN _ _ _) (rE (ZqN _ _ _) (rE (ZqN _ _ _) ?_))))); rfl
     rw [e5, ZaO (by rw [Zqu, Zqu, Zqt]; omega)] at eq'
     have eq' := ZqC eq'
     have := Zjs (A := c0 :: C ++ into com (sf :: D) :: (Xc ++ [{ n := b.n, d := b.d, k := .nil }])) (f := { n := q, d := sf.d, k := b.k }) (B := R) (A' := A') (g := sf') (B' := B') (by refine rS eZ' ?_; simp) (by
      have := Zbn m2.nodup
      simpa using this) eq'
     refine rS this ?_
     omega) (by refine rE Zqu ?_; simp only [Zqu] at h4; omega) (by refine rE hbd ?_; exact h5) (by omega) (by omega) (by omega)) fun w'' Z'' pop'' r1 r2 r3 r4 r7 => ?_; refine o40 r7 ?_; clear r7; intro r5 r6 r7 r3; refine o21 r3 fun ds2 r8 => ?_; clear r3
    refine e93 w'' Z'' pop'' r1 (by rw [ZqN] at r2; exact r2) (keep1.trans r3) (r4.trans hbd) (Zrj r5 hcS) ⟨by omega, by omega, ds ++ ds2, ?_⟩
    refine rE r8 (rE m7 ?_)
    refine (?_ : (w.nd ++ ds) ++ ds2 = _)
    simp
  ·-- a block ended it
   have sp : s ∈ pop := by
    have : s ∈ fmt Z ++ pop := by (refine rS h.fm (rE e ?_)); simp
    rcases ZqJ.mp this with q | q
    ·refine o41 (Zhn q) fun g hg eg gF => ?_
     exfalso
     apply hs
     refine o32 (Zbo hg) fun A B y2 => ?_; subst y2
     have := (h.std.past (.inl gF)).1
     refine rE h.st (rS eg ?_)
     induction A using ZcU with
     | nil => simp at this
     | cons x A => simp
    ·exact q
   have h1 := (h.er (w.er + 1)).erase (FX := FX) (FY := FY) e e1 e2 sp
   rw [hsub (none, { w with er := w.er + 1, fm := w.fm.erase s }) (by (refine rE (if_neg hs) ?_; rw [Zfn (by omega)]); rfl)]
   exact e93 _ Z (pop.erase s) rfl h1 (.refl) rfl (ZqQ _) ⟨by refine (?_ : w.nd.length <= _); omega, by refine (?_ : w.er + 1 <= _); omega, [], by simp⟩
end NzP
namespace NzP
open PySem Nz
theorem Zdy (l : List (Tag × Nat)) (p : Tag × Nat) (t : Tag) : Zau (l ++ [p]) t = Zau l t ++ (if p.1.str = t.str then [l.length] else []) := by
 unfold Zau
 refine rE Zqu (rE ZqY (rE ZsW (rE (Zq6 _ _) ?_)))
 congr 1
 ·refine Zsm fun i hi => ?_
  exact rE (ZqZ (Zsg.mp hi)) rfl
 ·refine rE Zq7 ?_
  have e : (l ++ [p])[l.length]? = some p := ZaO rfl
  by_cases h : p.1.str = t.str
  ·refine rE (if_pos h) ?_; rw [if_pos]
   ·rfl
   ·refine rE e (rS h ?_); exact decide_eq_true rfl
  ·refine rE (if_neg h) ?_; rw [if_neg]
   ·rfl
   ·refine rE e ?_
    intro q
    exact h (ZqC (of_decide_eq_true q))
theorem Zf2 {X : List (Tag × Nat)} {t : Tag} {c : Nat} : ∀ (n : Nat) (Y : List (Tag × Nat)), Y.length = n -> (∀ p ∈ Y, p.1 ≠ t) -> (Zau (X ++ (t, c) :: Y) t).getLast? = some X.length := by
 refine @Zms _ ?_ ?_
 ·intro Y hn n_
  obtain rfl := Zq9 hn
  refine rE (Zdy _ _ _) (rE (if_pos rfl) ?_); simp
 ·intro n ih Y hn h
  obtain ⟨G, x, rfl⟩ : ∃ G x, Y = G ++ [x] := (snocs Y).resolve_left fun q => by rw [q] at hn; injection hn
  rewrite [show X ++ (t, c) :: (G ++ [x]) = (X ++ (t, c) :: G) ++ [x] from by simp]; refine rE (Zdy _ _ _) ?_; rewrite [if_neg (fun q => h x (by simp) (Zhs q))]; refine rE (ZqR _) ?_
  exact ih G (by simpa using hn) fun p hp => h p (Zqx _ hp)
theorem Zi6 {t : Tag} : ∀ (n : Nat) (Y : List (Tag × Nat)), Y.length = n -> (∀ p ∈ Y, p.1 ≠ t) -> Zau Y t = [] := by
 refine @Zms _ ?_ ?_
 ·intro Y hn n_
  obtain rfl := Zq9 hn; rfl
 ·intro n ih Y hn h
  obtain ⟨G, x, rfl⟩ : ∃ G x, Y = G ++ [x] := (snocs Y).resolve_left fun q => by rw [q] at hn; injection hn
  refine rE (Zdy _ _ _) ?_; rewrite [if_neg (fun q => h x (by simp) (Zhs q))]; refine rE (ZqR _) ?_
  exact ih G (by simpa using hn) fun p hp => h p (Zqx _ hp)
theorem ZeP {X Y : List (Tag × Nat)} {t : Tag} {c : Nat} (h : ∀ p ∈ Y, p.1 ≠ t) : Nz.without (X ++ (t, c) :: Y) t = X ++ Y := by
 unfold Nz.without
 refine rE (Zf2 _ Y rfl h) ?_
 dsimp only
 refine rE (List.eraseIdx_append_of_length_le (ZqQ _) _) (rE (Zse _) ?_); rfl
theorem Zc1 {Y : List (Tag × Nat)} {t : Tag} (h : ∀ p ∈ Y, p.1 ≠ t) : Nz.without Y t = Y := by
 unfold Nz.without
 refine rE (Zi6 _ Y rfl h) ?_; rfl
theorem ZlB {X Y : List (Tag × Nat)} {t : Tag} {c : Nat} (h : ∀ p ∈ Y, p.1 ≠ t) : Nz.upTo (X ++ (t, c) :: Y) t = X := by
 unfold Nz.upTo
 refine rE (Zf2 _ Y rfl h) ?_
 exact ZjH rfl
theorem Zn1 (t : Tag) : ∀ l : List (Tag × Nat), (∀ p ∈ l, p.1 ≠ t) \/ ∃ X c Y, l = X ++ (t, c) :: Y /\ ∀ p ∈ Y, p.1 ≠ t := by
 refine @Zbg _ _ ?_ ?_
 ·exact .inl noM
 ·intro x0 r ih
  obtain ⟨u, c⟩ := x0
  rcases ih with h | ⟨X, c', Y, e, h⟩
  ·by_cases q : u = t
   ·subst q; exact .inr ⟨[], c, r, rfl, h⟩
   ·refine .inl fun p hp => ?_
    rcases ZqD.mp hp with rfl | hp
    ·exact q
    ·exact h p hp
  ·exact .inr ⟨(u, c) :: X, c', Y, by refine rE e ?_; rfl, h⟩
theorem ZnD (P : Nd -> Bool) : ∀ l : List Fr, (∀ f ∈ l, P f.d = false) \/ ∃ A b Q, l = A ++ b :: Q /\ P b.d = true /\ ∀ f ∈ Q, P f.d = false := by
 refine @Zbg _ _ ?_ ?_
 ·exact .inl noM
 ·intro f r ih
  rcases ih with h | ⟨A, b, Q, e, h1, h2⟩
  ·induction q : P f.d with
   | true => exact .inr ⟨[], f, r, rfl, q, h⟩
   | false =>
    refine .inl fun g hg => ?_
    rcases ZqD.mp hg with rfl | hg
    ·exact q
    ·exact h g hg
  ·exact .inr ⟨f :: A, b, Q, by refine rE e ?_; rfl, h1, h2⟩
theorem ZkK {w : PW} {t : Tag} {b : Nat} {P : List Nat} {d : Nd} (hb : w.nd[b]? = some d) (hd : d.special = true) (hd2 : d.isTag t = false) : ∀ (n : Nat) (Q : List Nat), Q.length = n -> ∀ Q3, w.st = P ++ b :: (Q ++ Q3) -> (∀ x ∈ Q, ∃ e, w.nd[x]? = some e /\ e.special = false /\ e.isTag t = false) -> ZjE w t (P.length + 1 + n) = Ziz w := by
 refine @Zms _ ?_ ?_
 ·intro Q hn Q3 hf h
  refine rE (ZrV _) ?_; rewrite [ZjE]; refine rE hf (rE (ZaO rfl) ?_)
  dsimp only [Zqy]
  refine rE hb ?_
  dsimp only [Zqy]
  rewrite [if_neg (by refine rE hd2 ?_; decide)]; exact rE (if_pos hd) rfl
 ·intro n ih Q hn Q3 hf h
  obtain ⟨G, x, rfl⟩ : ∃ G x, Q = G ++ [x] := (snocs Q).resolve_left fun q => by rw [q] at hn; injection hn
  have hG : G.length = n := by simpa using hn
  refine o41 (h x (by simp)) fun e h1 h2 h3 => ?_
  refine rS (ZrL _ _ _) ?_; rewrite [ZjE]; refine rE hf ?_; rw [show P ++ b :: (G ++ [x] ++ Q3) = (P ++ b :: G) ++ x :: Q3 from by simp, ZaO (by simp [hG]; omega)]
  dsimp only [Zqy]
  refine rE h1 ?_
  dsimp only [Zqy]
  rw [if_neg (by refine rE h3 ?_; decide), if_neg (by refine rE h2 ?_; decide)]
  exact ih G hG (x :: Q3) (by refine rE hf ?_; simp) fun y hy => h y (Zqx _ hy)
theorem ZkU {w : PW} {t : Tag} {b : Nat} {P Q0 : List Nat} {c : Option Nat} (hb : w.nd[b]? = some (.el t c)) (htp : t ≠ .p) (hst : w.st = P ++ b :: Q0) (hQ : ∀ x ∈ Q0, x ≠ b /\ ∃ e, w.nd[x]? = some e /\ e.special = false) (he : w.er < LIM) :
  ∀ (n : Nat) (Q : List Nat), Q.length = n -> ∀ Q3, w.st = P ++ b :: (Q ++ Q3) -> (∀ x ∈ Q, ∃ e, w.nd[x]? = some e /\ e.special = false /\ e.isTag t = false) -> ∃ e', ZjE w t (P.length + 1 + n) = some { w with st := P, er := e' } /\ e' <= w.er + 1
 | 0, Q, hn, Q3, hf, h => by
  have top : ∃ x d, w.st.getLast? = some x /\ w.nd[x]? = some d /\ d.isTag .p = false := by
   rcases snocs Q0 with rfl | ⟨G, x, rfl⟩
   ·exact e52 b _ (by refine rE hst ?_; simp) hb (ZdO htp)
   ·refine o20 (hQ x (by simp)) fun n_ r1 => ?_; refine o31 r1 fun e h1 h2 => ?_; clear r1
    refine e52 x e (by (refine rE hst ?_; rw [show P ++ b :: (G ++ [x]) = (P ++ b :: G) ++ [x] from by simp]); exact Zb8) h1 ?_
    induction e with
    | doc => rfl
    | tx => rfl
    | el u _ => cases u <;> first | (cases h2; done) | exact ZdO nofun
  refine o52 top fun x d t1 t2 t3 => ?_; clear top
  have himp : Zde t (w.st.length + 1) w = some w := by
   rewrite [Zde]; refine rE t1 ?_
   dsimp only [Zqy]
   refine rE t2 ?_
   dsimp only [Zqy]
   rw [if_neg (by refine rE t3 ?_; simp)]
  have hpw : Zmt w.st.length w.st b = some P := by
   refine rE hst ?_
   exact ZhN Q0.length Q0 rfl _ (fun q => (hQ b q).1 rfl) (by (refine rE Zqu (rE ZqF ?_)); omega)
  refine rE (ZrV _) ?_; rewrite [ZjE]; refine rE hf (rE (ZaO rfl) ?_)
  dsimp only [Zqy]
  refine rE hb ?_
  dsimp only [Zqy]
  refine rE (if_pos Zc7) (rS hf (rE himp ?_))
  dsimp only
  refine rE t1 ?_
  dsimp only
  by_cases q : x ≠ b
  ·refine rE (if_pos q) (rE (Zfn he) ?_)
   dsimp only
   refine rE hpw ?_
   exact e31 (w.er + 1) rfl (ZqQ _)
  ·refine rE (if_neg q) ?_
   dsimp only
   refine rE hpw ?_
   exact e31 w.er rfl (Zsp _)
 | n + 1, Q, hn, Q3, hf, h => by
  obtain ⟨G, x, rfl⟩ : ∃ G x, Q = G ++ [x] := (snocs Q).resolve_left fun q => by rw [q] at hn; injection hn
  have hG : G.length = n := by simpa using hn
  refine o41 (h x (by simp)) fun e h1 h2 h3 => ?_
  have key := ZkU hb htp hst hQ he n G hG (x :: Q3) (by refine rE hf ?_; simp) fun y hy => h y (Zqx _ hy)
  have e1 : ZjE w t (P.length + 1 + (n + 1)) = ZjE w t (P.length + 1 + n) := by
   refine rS (ZrL _ _ _) ?_; rewrite [ZjE]; refine rE hf ?_; rw [show P ++ b :: (G ++ [x] ++ Q3) = (P ++ b :: G) ++ x :: Q3 from by simp, ZaO (by simp [hG]; omega)]
   dsimp only [Zqy]
   refine rE h1 ?_
   dsimp only [Zqy]
   rw [if_neg (by refine rE h3 ?_; decide), if_neg (by refine rE h2 ?_; decide)]
  refine rE e1 ?_; exact key
variable {w : PW} {Z : List Fr} {pop : List Nat} {fs : List (Tag × Nat)}
theorem Std.shape (h : Std Z) : ∃ c0 c1 A z, Z = c0 :: c1 :: (A ++ [z]) /\ ((∃ kb, z = ⟨2, .el .body none, kb⟩ /\ A = []) \/ (okd z.d /\ A ≠ [])) := by
 refine o42 h.ex fun kb Z3 y2 hz => ?_; subst y2
 rcases snocs Z3 with rfl | ⟨G, x, rfl⟩
 ·exact e64 _ _ [] _ rfl (.inl ⟨kb, rfl, rfl⟩)
 ·exact e64 _ _ (⟨2, .el .body none, kb⟩ :: G) x rfl (.inr ⟨hz x (by simp), by simp⟩)
theorem St.tags (h : St w Z pop fs) {t : Tag} (ht : t.isF = true) (hn : ∀ p ∈ fs, p.1 ≠ t) : ∀ f ∈ Z, f.d.isTag t = false := fun f hf => by
 induction q : f.d.isTag t with
 | false => rfl
 | true =>
  exfalso
  have hd := h.tr.nd' hf
  induction e : f.d with
  | doc => rw [e] at q; injection q
  | tx => rw [e] at q; injection q
  | el u c =>
   rw [e] at q hd
   obtain rfl := isTag_iff.mp q
   refine o32 (Zbo hf) fun A B y2 => ?_; subst y2
   have : okd f.d := by
    refine o42 h.std.ex fun kb Z3 e3 hz => ?_
    rw [e3] at hf
    simp only [ZqD] at hf
    rcases hf with rfl | rfl | rfl | hf
    ·injection e
    ·(injection e with hq1 hq2; subst hq1; subst hq2); injection ht
    ·(injection e with hq1 hq2; subst hq1; subst hq2); injection ht
    ·exact hz f hf
   refine o42 (Zc2 this) fun u' c' e' n_ => ?_
   rw [e] at e'; (injection e' with hq1 hq2; subst hq1; subst hq2)
   have hm : f.n ∈ w.fm := by
    refine rE h.fm (rE (ZaC _ _) (rE (Zar _ _) ?_)); rw [if_pos (by refine rE e ?_; exact ht)]; simp
   have : w.nd[f.n]? ∈ w.fm.map fun x => w.nd[x]? := ZqL (f := fun x => w.nd[x]?) hm
   rw [h.fd, hd] at this
   refine o31 (ZqO.mp this) fun p hp ep => ?_
   simp only [ZsL, Nd.el.injEq] at ep
   exact hn p hp ep.1
theorem Zp5 (h : Std Z) : ∀ f ∈ Z, okd f.d \/ f.d = .doc \/ f.d = .el .html none \/ f.d = .el .body none := fun f hf => by
 refine o42 h.ex fun kb Z3 e3 hz => ?_
 rw [e3] at hf
 simp only [ZqD] at hf
 rcases hf with rfl | rfl | rfl | hf
 ·exact .inr (.inl rfl)
 ·exact .inr (.inr (.inl rfl))
 ·exact .inr (.inr (.inr rfl))
 ·exact .inl (hz f hf)
theorem Zk0 {t : Tag} (ht : t.isF = true) (h : St w Z pop fs) (h4 : fs.length + cS Z <= 4) (h5 : (bd Z).length <= 5) (hz : w.nd.length + 100 < LIM) (he : w.er + 50 < LIM) :
  ∃ w' Z' pop', ZdS w t = some w' /\ St w' Z' pop' (Nz.without fs t) /\ Keep Z Z' /\ bd Z' = bd Z /\ cS Z' <= cS Z /\ w'.nd.length <= w.nd.length + 64 /\ w'.er <= w.er + 16 /\ ∃ ds, w'.nd = w.nd ++ ds := by
 refine o64 h.std.shape fun c0 c1 A z eZ hz3 => ?_
 have hlast : w.st.getLast? = some z.n := by
  refine rE h.st (rE eZ ?_)
  show (Zss Fr.n (c1 :: (A ++ [z]))).getLast? = _
  refine rE (show c1 :: (A ++ [z]) = (c1 :: A) ++ [z] from rfl) (rE ZqB ?_)
  exact Zb8
 have hzm : z ∈ Z := by refine rE eZ ?_; simp
 have hgo : ZdS w t = Zcc t 8 w := by
  unfold ZdS
  refine rE hlast ?_
  dsimp only [Zqy]
  refine rE (h.tr.nd' hzm) ?_
  dsimp only [Zqy]
  rw [if_neg]
  intro q
  rw [Zri] at q
  refine o20 q fun q1 q2 => ?_; clear q
  have : okd z.d := by
   rcases hz3 with ⟨kb, rfl, _⟩ | ⟨o, _⟩
   ·obtain rfl := isTag_iff.mp q1; injection ht
   ·exact o
  refine o42 (Zc2 this) fun u c e n_ => ?_
  rw [e] at q1
  obtain rfl := isTag_iff.mp q1
  have : z.n ∈ w.fm := by
   refine rE h.fm ?_
   refine Zqx _ ?_
   exact ZqL (Zrg.mpr ⟨hzm, by refine rE e ?_; exact ht⟩)
  rw [decide_eq_true this] at q2
  injection q2
 rcases Zn1 t fs with hn | ⟨X, c, Y, rfl, hY⟩
 ·-- none of the name
  refine rE (Zc1 hn) ?_
  have htag := h.tags ht hn
  have hfind : Ze2 w t w.fm.length = some none := ZgW _ w.fm rfl [] (by simp) (Zhm h.fd hn)
  obtain ⟨P, b, Q, eL, hb, hQ⟩ : ∃ P b Q, Z.drop 1 = P ++ b :: Q /\ b.d.special = true /\ ∀ f ∈ Q, f.d.special = false := by
   rcases ZnD Nd.special (Z.drop 1) with q | q
   ·exfalso
    refine o42 h.std.ex fun kb Z3 e3 n_ => ?_
    rw [e3] at q
    have := q ⟨1, .el .html none, .nil⟩ (by simp)
    injection this
   ·exact q
  have hin : ∀ f ∈ P ++ b :: Q, f ∈ Z := fun f hf => ZrH (eL ▸ hf)
  have haoe : ZjE w t w.st.length = Ziz w := by
   have := ZkK (w := w) (t := t) (b := b.n) (P := P.map Fr.n) (h.tr.nd' (hin b (by simp))) hb (htag b (hin b (by simp))) (Q.map Fr.n).length (Q.map Fr.n) rfl [] (by (refine rE h.st (rE eL ?_)); simp) (fun x hx => by
    refine o31 (ZqO.mp hx) fun g hg y2 => ?_; subst y2
    exact e41 g.d (h.tr.nd' (hin g (by simp [hg]))) (hQ g hg) (htag g (hin g (by simp [hg]))))
   refine rE h.st (rE eL (rE (Zqt _) (rE Zqu (rE ZqF ?_)))); rw [show P.length + (Q.length + 1) = (P.map Fr.n).length + 1 + (Q.map Fr.n).length from by simp; omega]
   exact this
  refine e93 { w with er := w.er + 1 } Z pop ?_ (h.er _) (.refl) rfl (ZqQ _) ⟨by refine (?_ : w.nd.length <= _); omega, by refine (?_ : w.er + 1 <= _); omega, [], by simp⟩
  refine rE hgo ?_; rw [Zcc]
  unfold ZiK
  refine rE hfind ?_
  dsimp only [Zqy]
  refine rE haoe ?_; rw [Zfn (by omega)]
 ·refine rE (ZeP hY) (rE hgo ?_)
  have hl : (X ++ (t, c) :: Y).length = X.length + 1 + Y.length := by simp; omega
  refine o83 (ZmE ht 8 5 h hY (fun A sf B e n_ => by
   have : (bd B).length <= (bd Z).length := by (refine rE e (rE (ZbD _ _) (rE (ZaG _ _) ?_))); simp; omega
   omega) (by omega) h5 (by decide) (by omega) (by omega)) fun w' Z' pop' a1 a2 a3 a4 r7 => ?_; refine o40 r7 fun a5 a6 a7 a8 => ?_; clear r7
  exact e93 w' Z' pop' a1 a2 a3 a4 a5 ⟨a6, a7, a8⟩
theorem Zke (h : St w Z pop fs) (he : w.er + 50 < LIM) :
  ∃ w' Z' pop', ZdS w .span = some w' /\ St w' Z' pop' fs /\ Keep Z Z' /\ bd Z' = bd Z /\ cS Z' <= cS Z /\ w'.nd = w.nd /\ w'.er <= w.er + 16 := by
 refine o64 h.std.shape fun c0 c1 A z eZ hz3 => ?_
 have hlast : w.st.getLast? = some z.n := by
  refine rE h.st (rE eZ ?_)
  show (Zss Fr.n (c1 :: (A ++ [z]))).getLast? = _
  refine rE (show c1 :: (A ++ [z]) = (c1 :: A) ++ [z] from rfl) (rE ZqB ?_)
  exact Zb8
 have hzm : z ∈ Z := by refine rE eZ ?_; simp
 have nospan : ∀ x ∈ w.fm, ∃ d, w.nd[x]? = some d /\ d.isTag .span = false := Zhm h.fd fun p hp q => by
  have := h.ff p hp
  rw [q] at this; injection this
 -- a cut at an open span
 have cut : ∀ P b Q e, Z = P ++ b :: Q -> okd b.d -> Zee b.d = false -> (∀ f ∈ Q, Zee f.d = false) -> e <= w.er + 16 -> ∃ Z' pop', St { w with st := (P.drop 1).map Fr.n, er := e } Z' pop' fs /\ Keep Z Z' /\ bd Z' = bd Z /\ cS Z' <= cS Z := by
  intro P b Q e eZ hb hbB hQ n_
  subst eZ
  refine o20 (h.std.past hb) fun lP n_ => ?_
  obtain ⟨G, com, rfl⟩ : ∃ G x, P = G ++ [x] := (snocs P).resolve_left fun q => by rw [q] at lP; simp at lP
  have lG : 2 <= G.length := by simp at lP; omega
  have e2 : G ++ [com] ++ b :: Q = G ++ com :: b :: Q := by simp
  rw [e2] at h ⊢
  refine e62 (G ++ [into com (b :: Q)]) _ (h.down lG e) (Zhh G com (b :: Q)) ?_ ?_
  ·refine rE (ZbD _ _) (rE (ZbD _ _) (rE (ZaG com _) (rE (ZaG (into com (b :: Q)) _) (rE (ZaG b _) (rE hbB (rE (ZeV hQ) ?_))))))
   refine (?_ : bd G ++ ((if Zee com.d = true then [com.d] else []) ++ _) = _)
   simp [bd]
  ·refine rE (Zbq _ _) (rE (Zbq _ _) (rE (ZaL com _) (rE (ZaL (into com (b :: Q)) _) ?_)))
   refine (?_ : _ + ((if ZhY com.d = true then 1 else 0) + 0) <= _)
   omega
 by_cases hsp : z.d.isTag .span = true
 ·-- the current one
  have hzo : okd z.d := by
   rcases hz3 with ⟨kb, rfl, _⟩ | ⟨o, _⟩
   ·cases isTag_iff.mp hsp
   ·exact o
  have hzB : Zee z.d = false := by
   refine o42 (Zc2 hzo) fun u c e n_ => ?_
   rw [e] at hsp ⊢
   obtain rfl := isTag_iff.mp hsp; rfl
  have hnf : z.n ∉ w.fm := fun q => by
   refine o31 (nospan _ q) fun d h1 h2 => ?_
   rw [h.tr.nd' hzm] at h1
   (replace h1 := sO h1; subst h1)
   rw [hsp] at h2; exact nD h2
  refine o62 (cut (c0 :: c1 :: A) z [] w.er (by refine rE eZ ?_; rfl) hzo hzB noM (by omega)) fun Z' pop' s1 s2 s3 s4 => ?_
  refine e93 { w with st := w.st.dropLast } Z' pop' ?_ ?_ s2 s3 s4 ⟨rfl, by refine (?_ : w.er <= _); omega⟩
  ·unfold ZdS
   refine rE hlast ?_
   dsimp only [Zqy]
   refine rE (h.tr.nd' hzm) ?_
   dsimp only [Zqy]
   rw [if_pos (by (refine rE hsp (rE (decide_eq_false hnf) ?_)); rfl)]
  ·have : w.st.dropLast = ((c0 :: c1 :: A).drop 1).map Fr.n := by
    refine rE h.st (rE eZ ?_)
    refine (?_ : (Zss Fr.n (c1 :: (A ++ [z]))).dropLast = Zss Fr.n (c1 :: A))
    refine rE (show c1 :: (A ++ [z]) = (c1 :: A) ++ [z] from rfl) (rE ZqB ?_)
    exact Zrz
   refine rE this ?_; exact s1
 ·have hgo : ZdS w .span = Zcc .span 8 w := by
   unfold ZdS
   refine rE hlast ?_
   dsimp only [Zqy]
   refine rE (h.tr.nd' hzm) ?_
   dsimp only [Zqy]
   rw [if_neg (fun q => hsp (Zri _ _ ▸ q).1)]
  have hfind : Ze2 w .span w.fm.length = some none := ZgW _ w.fm rfl [] (by simp) nospan
  obtain ⟨P, b, Q, eL, hb, hQ⟩ : ∃ P b Q, Z.drop 1 = P ++ b :: Q /\ (b.d.special || b.d.isTag .span) = true /\ ∀ f ∈ Q, (f.d.special || f.d.isTag .span) = false := by
   rcases ZnD (fun d => d.special || d.isTag .span) (Z.drop 1) with q | q
   ·exfalso
    refine o42 h.std.ex fun kb Z3 e3 n_ => ?_
    rw [e3] at q
    have := q ⟨1, .el .html none, .nil⟩ (by simp)
    injection this
   ·exact q
  have hin : ∀ f ∈ P ++ b :: Q, f ∈ Z := fun f hf => ZrH (eL ▸ hf)
  have hQ1 : ∀ f ∈ Q, f.d.special = false /\ f.d.isTag .span = false := fun f hf => ZsF.mp (hQ f hf)
  have hlen : w.st.length = (P.map Fr.n).length + 1 + (Q.map Fr.n).length := by (refine rE h.st (rE eL ?_)); simp; omega
  have hstQ : w.st = P.map Fr.n ++ b.n :: (Q.map Fr.n ++ []) := by (refine rE h.st (rE eL ?_)); simp
  have hQd : ∀ x ∈ Q.map Fr.n, ∃ e, w.nd[x]? = some e /\ e.special = false /\ e.isTag .span = false := fun x hx => by
   refine o31 (ZqO.mp hx) fun g hg y2 => ?_; subst y2
   exact e41 g.d (h.tr.nd' (hin g (by simp [hg]))) ((hQ1 g hg).1) ((hQ1 g hg).2)
  induction hbs : b.d.isTag .span with
  | false =>
   rw [hbs, Zr4] at hb
   have haoe : ZjE w .span w.st.length = Ziz w := by
    refine rE hlen ?_
    exact ZkK (h.tr.nd' (hin b (by simp))) hb hbs (Q.map Fr.n).length (Q.map Fr.n) rfl [] hstQ hQd
   refine e93 { w with er := w.er + 1 } Z pop ?_ (h.er _) (.refl) rfl (ZqQ _) ⟨rfl, by refine (?_ : w.er + 1 <= _); omega⟩
   refine rE hgo ?_; rw [Zcc]
   unfold ZiK
   refine rE hfind ?_
   dsimp only [Zqy]
   refine rE haoe ?_; rw [Zfn (by omega)]
  | true =>
   have hbo : okd b.d := by
    rcases Zp5 h.std b (hin b (by simp)) with q | q | q | q
    ·exact q
    ·rw [q] at hbs; injection hbs
    ·rw [q] at hbs; cases isTag_iff.mp hbs
    ·rw [q] at hbs; cases isTag_iff.mp hbs
   refine o42 (Zc2 hbo) fun u c eb n_ => ?_
   rw [eb] at hbs
   obtain rfl := isTag_iff.mp hbs
   obtain ⟨z0, Zt, rfl⟩ : ∃ z0 Zt, Z = z0 :: Zt := ⟨c0, _, eZ⟩
   have eZ2 : z0 :: Zt = (z0 :: P) ++ b :: Q := by
    have : Zt = P ++ b :: Q := eL
    refine rE this ?_; rfl
   have nst : w.st.Nodup := by
    refine rE h.st ?_
    have := Zbn h.tr.nodup
    exact (ZqH.mp this).2
   have hQB : ∀ f ∈ Q, Zee f.d = false := fun f hf => by
    have := (hQ1 f hf).1
    rw [ZcC (((eZ2 ▸ h.std : Std ((z0 :: P) ++ b :: Q)).past hbo).2 f hf)] at this
    exact this
   refine o31 (ZkU (w := w) (t := .span) (b := b.n) (P := P.map Fr.n) (Q0 := Q.map Fr.n) (c := some c) (by refine rS eb ?_; exact h.tr.nd' (hin b (by simp))) nofun (by refine rE hstQ ?_; simp) (fun x hx => by
    refine o41 (hQd x hx) fun e h1 h2 h3 => ?_
    refine ⟨fun q => ?_, e, h1, h2⟩
    rw [hstQ, ZqR] at nst
    exact (Zaz nst).2 (q ▸ hx)) (by omega) (Q.map Fr.n).length (Q.map Fr.n) rfl [] hstQ hQd) fun e' q1 q2 => ?_
   refine o62 (cut (z0 :: P) b Q e' eZ2 hbo (by refine rE eb ?_; rfl) hQB (by omega)) fun Z' pop' s1 s2 s3 s4 => ?_
   refine e93 { w with st := P.map Fr.n, er := e' } Z' pop' ?_ s1 s2 s3 s4 ⟨rfl, by refine (?_ : e' <= _); omega⟩
   refine rE hgo ?_; rw [Zcc]
   unfold ZiK
   refine rE hfind ?_
   dsimp only [Zqy]
   refine rE hlen ?_; exact rE q1 rfl
end NzP
namespace NzP
open PySem Nz
variable {w : PW} {Z : List Fr} {pop : List Nat} {fs : List (Tag × Nat)}
theorem Std.split (h : Std Z) : ∃ A p, Z = A ++ [p] /\ 2 <= A.length /\ ∃ t l, p.d = .el t l := by
 refine o64 h.shape fun c0 c1 A z y4 q => ?_; subst y4
 refine e52 (c0 :: c1 :: A) z rfl (by simp) ?_
 rcases q with ⟨kb, rfl, _⟩ | ⟨o, _⟩
 ·exact e32 _ _ rfl
 ·refine o42 (Zc2 o) fun t c e n_ => ?_; exact e32 t _ e
theorem St.last {A : List Fr} {p : Fr} (h : St w (A ++ [p]) pop fs) (hA : 2 <= A.length) : w.st.getLast? = some p.n := by
 refine rE h.st ?_
 match A, hA with
 | a :: A', _ =>
  show (Zss Fr.n (A' ++ [p])).getLast? = _
  refine rE ZqB ?_; exact Zb8
theorem St.popl (h : St w Z pop fs) : ∀ x ∈ w.fm, x < w.nd.length := fun x hx => by
 have : w.nd[x]? ∈ w.fm.map (fun x => w.nd[x]?) := ZqL (f := fun x => w.nd[x]?) hx
 rw [h.fd] at this
 refine o31 (ZqO.mp this) fun p n_ ep => ?_
 exact ZaH ep.symm
theorem ZpM {A X : List Fr} (h : 2 <= A.length) : ((A ++ X).drop 1).map Fr.n = (A.drop 1).map Fr.n ++ X.map Fr.n := by
 rewrite [Zr1 (by omega)]; exact rE ZqB rfl
theorem ZjU {X : List Fr} (h : ∀ f ∈ X, f.k = .nil) : ltZ X = X.flatMap fun f => NzP.lt f.d := by
 induction X with
 | nil => rfl
 | cons f r ih =>
  refine rE (ZaF _ _) (rE (h f Zqz) ?_); refine rE (ih fun g hg => h g (Zqw _ hg)) ?_; refine rE Zrc ?_; rfl
theorem ZmK (h : St w Z [] fs) : (Z.filter fun f => Zcl f.d).map Fr.d = fs.map fun p => Nd.el p.1 (some p.2) := by
 have e := h.fd
 rw [h.fm, ZqR] at e
 have a : (fmt Z).map (fun x => w.nd[x]?) = ((Z.filter fun f => Zcl f.d).map Fr.d).map some := by
  unfold fmt
  refine rE ZqV (rE ZqV ?_)
  exact Zrk fun g hg => h.tr.nd' (Zrg.mp hg).1
 rw [a] at e
 have e2 : ((Z.filter fun f => Zcl f.d).map Fr.d).map some = (fs.map fun p => Nd.el p.1 (some p.2)).map some := by (refine rE e (rE ZqV ?_)); rfl
 exact List.map_inj_right (fun x y q => ZqC q) |>.mp e2
theorem Zh3 (h : St w Z pop fs) (hl : ∀ p ∈ fs, (p.2, p.1) ∈ ltZ Z) (h4 : fs.length + cS Z <= 4) (h5 : (bd Z).length <= 5) (hz : w.nd.length + 100 < LIM) :
  ∃ w' X, Zkw w = some w' /\ St w' (Z ++ X) [] fs /\ Keep Z (Z ++ X) /\ bd (Z ++ X) = bd Z /\ cS (Z ++ X) = cS Z /\ w'.nd.length <= w.nd.length + 4 /\ w'.er = w.er := by
 refine o52 h.std.split fun A p y2 lA n_ => ?_; subst y2
 have hlen := h.std.len
 have hfl := h.len
 rw [h.fm, Zqu] at hfl
 have nd := h.fd
 rw [h.fm, ZqB] at nd
 refine o52 (ZrB.mp nd.symm) fun Y1 Y2 y2 d1 d2 => ?_; subst y2
 have hstl : w.st.length < 20 := by (refine rE h.st (rE (Zqt _) (rE ZrZ ?_))); omega
 have L1 : (200 : Nat) < LIM := by decide
 have hin : ∀ x ∈ fmt (A ++ [p]), x ∈ w.st := fun x hx => by
  refine o41 (Zhn hx) fun g hg e gF => ?_
  refine o32 (Zbo hg) fun U V eU => ?_
  have := ((eU ▸ h.std : Std (U ++ g :: V)).past (.inl gF)).1
  refine rE h.st (rE eU (rS e ?_))
  induction U using ZcU with
  | nil => simp at this
  | cons y U => simp
 have hat := Zjj (w := w) (F1 := fmt (A ++ [p])) hin pop.length pop rfl [] (by (refine rE h.fm ?_; exact rE (ZqR _) rfl)) (fun x hx q => by
  rw [h.st] at q
  refine o31 (ZqO.mp q) fun g hg e => ?_
  exact h.out x hx (e ▸ ZqL (ZrH hg)))
 refine o82 (Zn0 pop (w := w) (A := A) (p := p) (F1 := fmt (A ++ [p])) (ds := Y2.map fun q => Nd.el q.1 (some q.2)) h.tr (h.last lA) h.fm (by (refine rS d2 (rE ZqV ?_)); rfl) (fun d hd => by
  refine o31 (ZqO.mp hd) fun q n_ y2 => ?_; subst y2; exact e32 _ _ rfl) (by omega) (by omega) (by rw [Zqu, ZqY] at hlen; omega)) fun w' X i1 i2 i3 i4 i5 r7 => ?_; refine o30 r7 fun i6 i7 i8 => ?_; clear r7
 have hXF : ∀ f ∈ X, Zcl f.d = true := fun f hf => by
  have : f.d ∈ Y2.map fun q => Nd.el q.1 (some q.2) := by refine rS i7 ?_; exact ZqL hf
  refine o31 (ZqO.mp this) fun q hq e => ?_
  refine rS e ?_; exact h.ff q (Zqv _ hq)
 have fX : fmt X = X.map Fr.n := by unfold fmt; exact rE (Zru.mpr hXF) rfl
 have eZ : A ++ [p] ++ X = A ++ p :: X := by simp
 have hXl : X.length = pop.length := by
  have a := congrArg Zrn i7
  have b := congrArg Zrn d2
  simp only [Zqt] at a b
  omega
 have bX : bd X = [] := ZeV fun f hf => (Zcu (hXF f hf)).1
 have cX : cS X = 0 := by
  unfold cS
  rw [Zrv.mpr fun g hg => by refine rE ((Zcu (hXF g hg)).2) ?_; decide]; rfl
 refine e92 w' X ?_ ⟨eZ ▸ i2, ?_, ?_, ?_, nofun, .nil, ?_, h.ff⟩ ⟨?_, fun q f hf => ?_, fun q => ?_, ?_⟩ (by (refine rE (ZbD _ _) (rE bX ?_); exact rE (ZqR _) rfl)) (by (refine rE (Zbq _ _) (rE cX ?_)); rfl) ?_ i6
 ·unfold Zkw
  refine rE h.fm (rE Zqu (rE hat ?_))
  dsimp only [Zqy]
  rw [show (fmt (A ++ [p])).length + pop.length - (fmt (A ++ [p])).length = pop.length from Zso _ _]
  exact i1
 ·refine rE eZ ?_; exact Std.mid (k := p.k) h.std lA fun f hf => .inl (hXF f hf)
 ·refine rE i3 (rE h.st ?_)
  match A, lA with
  | a :: A', _ => simp
 ·refine rE i4 (rE (ZaC (A ++ [p]) X) (rE fX ?_)); exact rE (ZqR _) rfl
 ·refine rE i4 (rE ZqB ?_)
  have a1 : (fmt (A ++ [p])).map (fun x => w'.nd[x]?) = Y1.map fun q => some (Nd.el q.1 (some q.2)) := Zb0 i5 d1.symm
  have a2 : (X.map Fr.n).map (fun x => w'.nd[x]?) = Y2.map fun q => some (Nd.el q.1 (some q.2)) := by
   have : (X.map Fr.n).map (fun x => w'.nd[x]?) = (X.map Fr.d).map some := by
    refine rE ZqV (rE ZqV ?_)
    exact Zrk fun g hg => i2.nd' (by simp [hg])
   refine rE this (rE i7 (rE ZqV ?_)); rfl
  refine rE a1 (rE a2 ?_); exact rE ZqB rfl
 ·refine rE (Za9 _ _) (rE (Zie X i8) ?_); exact rE (ZqR _) rfl
 ·rcases ZqJ.mp hf with hf | hf
  ·exact q f hf
  ·refine o42 (ZdD (hXF f hf)) fun t c e n_ => ?_
   exact ⟨by refine rE e ?_; nofun, by refine rE (i8 f hf) ?_; trivial⟩
 ·exact (Zc5 _ _).mpr ⟨q, ZkJ X i8 (fun f hf => ZdD (hXF f hf)) (by omega)⟩
 ·have := Rep.ins (A := ltZ (A ++ [p])) (M := ltZ X) (B := []) (fun q hq => ?_) fun q hq => ?_
  ·rw [ZqR, ZqR] at this
   refine rE (Zb2 (A ++ [p]) X) ?_; exact this
  ·rw [ZjU i8] at hq
   refine o31 (Zr2.mp hq) fun f hf e => ?_
   have : f.d ∈ Y2.map fun q => Nd.el q.1 (some q.2) := by refine rS i7 ?_; exact ZqL hf
   refine o31 (ZqO.mp this) fun y hy ey => ?_
   rw [<- ey] at e
   refine rE (ZqI.mp e) ?_
   exact hl y (Zqv _ hy)
  ·rw [ZjU i8] at hq
   refine o31 (Zr2.mp hq) fun f hf e => ?_
   refine o42 (ZdD (hXF f hf)) fun t c ed ht => ?_
   rw [ed] at e
   refine rE (ZqI.mp e) ?_; exact ZcL ht
 ·refine rE i5 (rE Zqu (rE (Zqt _) ?_))
  have b := congrArg Zrn d2
  simp only [Zqt] at b
  simp only [Zqu] at h4
  omega
theorem ZkO {t : Tag} {c : Nat} (h : St w Z pop fs) (ht : t.isF = false) (ho : okd (.el t (some c))) (hl : Z.length < 20) (hz : w.nd.length + 100 < LIM) :
  ∃ w', elM w t (some c) = some (w.nd.length, w') /\ St w' (Z ++ [⟨w.nd.length, .el t (some c), .nil⟩]) pop fs /\ w'.nd.length = w.nd.length + 1 /\ w'.er = w.er := by
 refine o52 h.std.split fun A p y2 lA n_ => ?_; subst y2
 have L1 : (200 : Nat) < LIM := by decide
 have hstl : w.st.length < 20 := by (refine rE h.st (rE (Zqt _) (rE ZrZ ?_))); exact sL hl
 refine o71 (ZoA (t := t) (c := some c) h.tr (h.last lA) (by omega) (by omega) (by simp at hl; omega)) fun w' e1 T1 s1 f1 n1 r1 => ?_
 have eZ : A ++ [p] ++ [⟨w.nd.length, .el t (some c), .nil⟩] = A ++ p :: [⟨w.nd.length, .el t (some c), .nil⟩] := by simp
 refine e51 w' e1 ⟨eZ ▸ T1, ?_, ?_, ?_, fun x hx q => ?_, h.np, ?_, h.ff⟩ (by refine rE n1 ?_; simp) r1
 ·refine rE eZ ?_
  exact Std.mid (k := p.k) h.std lA fun f hf => by refine rE (ZqI.mp hf) ?_; exact ho
 ·refine rE s1 (rE h.st ?_)
  match A, lA with
  | a :: A', _ => simp
 ·refine rE f1 (rE h.fm (rE (ZaC (A ++ [p]) _) (rE (Zar _ _) ?_))); rw [if_neg (show ¬ Zcl (.el t (some c)) = true by (refine rE (show Zcl (.el t (some c)) = t.isF from rfl) (rE ht ?_)); decide)]; simp [fmt]
 ·rw [ZqB] at q
  rcases ZqJ.mp q with q | q
  ·exact h.out x hx q
  ·have := h.popl x (by refine rE h.fm ?_; exact Zqv _ hx)
   rw [ZqI.mp q] at this
   exact Zq8 _ this
 ·refine rE f1 ?_; exact Zb0 n1 h.fd
theorem ZmR {t : Tag} {c : Nat} (h : St w Z [] fs) (ht : t.isF = true) (hc : ∀ p ∈ fs, p.2 ≠ c) (hl : Z.length < 20) (hz : w.nd.length + 100 < LIM) (hf : fs.length < 20) :
  ∃ w' w'', elM w t (some c) = some (w.nd.length, w') /\ Znp w' w.nd.length = some w'' /\ St w'' (Z ++ [⟨w.nd.length, .el t (some c), .nil⟩]) [] (fs ++ [(t, c)]) /\ w''.nd.length = w.nd.length + 1 /\ w''.er = w.er := by
 refine o52 h.std.split fun A p y2 lA n_ => ?_; subst y2
 have L1 : (200 : Nat) < LIM := by decide
 have hstl : w.st.length < 20 := by (refine rE h.st (rE (Zqt _) (rE ZrZ ?_))); omega
 refine o71 (ZoA (t := t) (c := some c) h.tr (h.last lA) (by omega) (by omega) (by simp at hl; omega)) fun w' e1 T1 s1 f1 n1 r1 => ?_
 have eZ : A ++ [p] ++ [⟨w.nd.length, .el t (some c), .nil⟩] = A ++ p :: [⟨w.nd.length, .el t (some c), .nil⟩] := by simp
 have hnew : w'.nd[w.nd.length]? = some (.el t (some c)) := by refine rE n1 ?_; exact ZaO rfl
 have hfl := h.len
 refine e72 w' { w' with fm := w'.fm ++ [w.nd.length] } e1 ?_ ⟨(eZ ▸ T1).same rfl rfl rfl rfl, ?_, ?_, ?_, noM, .nil, ?_, fun q hq => ?_⟩ (by refine (?_ : w'.nd.length = _); refine rE n1 ?_; simp) r1
 ·unfold Znp ZkS
  refine rE hnew ?_
  dsimp only [Zqy, Nd.let]
  rw [if_pos]
  refine ⟨by refine rE f1 ?_; omega, Zq4.mpr fun x hx => ?_⟩
  rw [f1] at hx
  have : w.nd[x]? ∈ w.fm.map (fun x => w.nd[x]?) := ZqL (f := fun x => w.nd[x]?) hx
  rw [h.fd] at this
  refine o31 (ZqO.mp this) fun q hq eq' => ?_
  refine rE (ZjW n1 eq'.symm) ?_
  refine (?_ : (q.2 != c) = true)
  simpa using hc q hq
 ·refine rE eZ ?_
  exact Std.mid (k := p.k) h.std lA fun f hf => by refine rE (ZqI.mp hf) ?_; exact .inl ht
 ·refine (?_ : w'.st = _)
  refine rE s1 (rE h.st ?_)
  match A, lA with
  | a :: A', _ => simp
 ·refine (?_ : w'.fm ++ _ = _)
  refine rE f1 (rE h.fm (rE (ZaC (A ++ [p]) _) (rE (Zar _ _) ?_))); rw [if_pos (show Zcl (.el t (some c)) = true from ht)]; simp [fmt]
 ·show (w'.fm ++ _).map (fun x => w'.nd[x]?) = _
  refine rE f1 (rE ZqB (rE (Zb0 n1 h.fd) (rE ZqB ?_)))
  congr 1
  show [w'.nd[w.nd.length]?] = _
  refine rE hnew ?_; rfl
 ·rcases ZqJ.mp hq with hq | hq
  ·exact h.ff q hq
  ·refine rE (ZqI.mp hq) ?_; exact ht
theorem Zn7 {Z : List Fr} {n : Nat} {t : Tag} {c : Nat} : Za2 [] [] (Z ++ [⟨n, .el t (some c), .nil⟩]) = Za2 [] [] Z /\ (TFZ Z -> TFZ (Z ++ [⟨n, .el t (some c), .nil⟩])) /\ (Z.length < 14 -> DFZ 0 Z -> DFZ 0 (Z ++ [⟨n, .el t (some c), .nil⟩])) /\ ltZ (Z ++ [⟨n, .el t (some c), .nil⟩]) = ltZ Z ++ [(c, t)] := by
 refine ⟨?_, fun h f hf => ?_, fun hl h => ?_, ?_⟩
 ·refine rE (Za9 _ _) ?_; simp [Za2, ZaM]
 ·rcases ZqJ.mp hf with hf | hf
  ·exact h f hf
  ·refine rE (ZqI.mp hf) ?_; exact ⟨nofun, trivial⟩
 ·exact (Zc5 _ _).mpr ⟨h, ⟨by omega, fun n_ => .inr ⟨_, _, rfl⟩⟩, trivial, trivial⟩
 ·refine rE (Zb2 _ _) (rE (ZaF _ _) ?_); simp [NzP.lt, Zl4, lts, Fo.flat]
theorem ZkM {c : Nat} (h : St w Z pop fs) (hl : Z.length < 14) (hz : w.nd.length + 100 < LIM) (ht : TFZ Z) (hd : DFZ 0 Z) (hr : (Za2 [] [] Z).length < 100) :
  ∃ w' Z', Zey w c = some w' /\ St w' Z' pop fs /\ Za2 [] [] Z' = Za2 [] [] Z ++ [(c, blZ Z, Za3 (flZ Z))] /\ TFZ Z' /\ DFZ 0 Z' /\ ltZ Z' = ltZ Z /\ bd Z' = bd Z /\ cS Z' = cS Z /\ Z'.length = Z.length /\ w'.nd.length <= w.nd.length + 1 /\ w'.er = w.er := by
 refine o52 h.std.split fun A p y2 lA hpd => ?_; subst y2
 have L1 : (200 : Nat) < LIM := by decide
 have htp := ht p (by simp)
 have hdl := Zlx _ hd (by simp)
 rw [Zc5] at hd
 refine o40 hd fun hd1 hd2 hd3 n_ => ?_; clear hd
 refine o82 (Zoi (c := c) h.tr (h.last lA) hpd (by omega) (by simp at hl; omega) htp.2 (by
  rw [Za9, Za2, Zqu, Zqu] at hr
  refine rE (Zlv p.k (bs' := [] ++ blZ A ++ bl p.d) (fs' := [] ++ flZ A ++ fl p.d)) ?_
  omega)) fun w' k' e1 T1 s1 f1 r1 r7 => ?_; refine o50 r7 fun n1 k1 k2 k3 k4 => ?_; clear r7
 refine e92 w' (A ++ [{ p with k := k' }]) e1 ⟨T1, Std.mid (X := []) (k := k') h.std lA noM, ?_, ?_, ?_, h.np, ?_, h.ff⟩ ?_ (fun f hf => ?_) ?_ ?_ ⟨?_, ?_, by simp, ?_, r1⟩
 ·refine rE s1 (rE h.st (rE (ZpM lA) (rE (ZpM lA) ?_))); rfl
 ·refine rE f1 (rE h.fm (rE (ZaC _ _) (rE (ZaC _ _) (rE (Zar _ _) ?_)))); exact rE (Zar _ _) rfl
 ·have : (A ++ [{ p with k := k' }]).map Fr.n = (A ++ [p]).map Fr.n := by simp
  refine rE this ?_; exact h.out
 ·refine rE f1 ?_
  rcases n1 with n1 | n1
  ·exact Zb0 (ds := []) (by (refine rE n1 ?_; exact rE (ZqR _) rfl)) h.fd
  ·exact Zb0 n1 h.fd
 ·refine rE (Za9 _ _) (rE (Za9 _ _) ?_); rw [Za2, Za2]
  refine (?_ : _ ++ (ZaM _ _ k' ++ []) = _)
  refine rE (k1 _ _) (rE (Zod _ _) (rE (ZoG _ _) (rE (Zhk _ _) (rE (ZhL _ _) ?_))))
  simp [Za2, blZ, flZ]
 ·rcases ZqJ.mp hf with hf | hf
  ·exact ht f (Zqx _ hf)
  ·refine rE (ZqI.mp hf) ?_; exact ⟨htp.1, k2⟩
 ·exact (Zc5 _ _).mpr ⟨hd1, hd2, k3 _ (by simp at hl; omega) hd3, trivial⟩
 ·refine rE (Zb2 _ _) (rE (Zb2 _ _) (rE (ZaF _ _) (rE (ZaF _ _) ?_)))
  refine (?_ : _ ++ (_ ++ (lts k' ++ _)) = _)
  exact rE k4 rfl
 ·refine rE (ZbD _ _) (rE (ZbD _ _) (rE (ZaG _ _) ?_)); exact rE (ZaG _ _) rfl
 ·refine rE (Zbq _ _) (rE (Zbq _ _) (rE (ZaL _ _) ?_)); exact rE (ZaL _ _) rfl
 ·rcases n1 with n1 | n1
  ·refine rE n1 ?_; omega
  ·refine rE n1 ?_; simp
end NzP
namespace NzP
open PySem Nz
structure Inv (s : LS) (Z : List Fr) (pop : List Nat) (kk tt : Nat) : Prop where
 st : St s.w Z pop s.fs
 bs : bd Z = s.bs.map fun p => Nd.el p.1 (some p.2)
 bt : ∀ p ∈ s.bs, p.1.isB = true
 sp : cS Z <= s.sp
 four : s.fs.length + s.sp <= 4
 five : s.bs.length <= 5
 read : Za2 [] [] Z = s.told
 tf : TFZ Z
 df : DFZ 0 Z
 ded : Zbd [] ((ltZ Z).map (·.1)) = s.tags.map (·.1)
 pl : (ltZ Z).filter plain = s.tags.filter plain
 tg : ∀ p ∈ ltZ Z, p ∈ s.tags
 fl : ∀ p ∈ s.fs, (p.2, p.1) ∈ s.tags
 fn : (s.fs.map (·.2)).Nodup
 bl : ∀ p ∈ s.bs, (p.2, p.1) ∈ s.tags
 up : (s.tags.map (·.1)).Pairwise (· < ·)
 low : ∀ p ∈ s.tags, 97 <= p.1 /\ p.1 < 97 + kk
 kt : s.tags.length <= kk
 ktt : s.told.length <= tt
 okt : s.told.all okE = true
 knd : s.w.nd.length <= 3 + 100 * kk + 10 * tt
 ker : s.w.er <= 20 * kk
 kn : ∀ p ∈ s.tags, p.2.isB = true \/ p.2.isF = true \/ p.2 = .span
variable {s : LS} {Z : List Fr} {pop : List Nat} {kk tt : Nat}
theorem Inv.more (h : Inv s Z pop kk tt) : Inv s Z pop (kk + 1) tt :=
 ⟨h.st, h.bs, h.bt, h.sp, h.four, h.five, h.read, h.tf, h.df, h.ded, h.pl, h.tg, h.fl, h.fn, h.bl, h.up, fun p hp => ⟨(h.low p hp).1, by have := (h.low p hp).2; omega⟩, by have := h.kt; omega, h.ktt, h.okt, by have := h.knd; omega, by have := h.ker; omega, h.kn⟩
theorem Znq {tags : List (Nat × Tag)} (h : (tags.map (·.1)).Pairwise (· < ·)) : ∀ p ∈ tags, ∀ q ∈ tags, p.1 = q.1 -> p = q := by
 induction tags with
 | nil => nofun
 | cons x r ih =>
  rw [ZqP, ZrN] at h
  intro p hp q hq e
  have lt : ∀ y ∈ r, x.1 < y.1 := fun y hy => h.1 _ (ZqL (f := (·.1)) hy)
  rcases ZqD.mp hp with e1 | h1
  ·rcases ZqD.mp hq with e2 | h2
   ·refine rE e1 ?_; exact rE e2 rfl
   ·have := lt q h2; rw [e1] at e; omega
  ·rcases ZqD.mp hq with e2 | h2
   ·have := lt p h1; rw [e2] at e; omega
   ·exact ih h.2 p h1 q h2 e
theorem ZiS {tags : List (Nat × Tag)} {c : Nat} (h : ∀ p ∈ tags, p.1 ≠ c) : tags.lookup c = none := by
 induction tags with
 | nil => rfl
 | cons x r ih =>
  obtain ⟨a, t⟩ := x
  refine rE ZqW ?_
  have : (c == a) = false := by simpa using fun q => h (a, t) Zqz q.symm
  refine rE this ?_
  exact ih fun p hp => h p (Zqw _ hp)
theorem ZfK {tags : List (Nat × Tag)} {p : Nat × Tag} (h : (tags.map (·.1)).Pairwise (· < ·)) (hp : p ∈ tags) : tags.lookup p.1 = some p.2 := by
 induction tags with
 | nil => cases hp
 | cons x r ih =>
  obtain ⟨a, t⟩ := x
  rw [ZqP, ZrN] at h
  refine rE ZqW ?_
  rcases ZqD.mp hp with rfl | hp
  ·simp
  ·have := h.1 _ (ZqL (f := (·.1)) hp)
   dsimp only at this
   have : (p.1 == a) = false := by simp; omega
   refine rE this ?_
   exact ih h.2 hp
theorem Inv.inL (h : Inv s Z pop kk tt) : ∀ p ∈ s.tags, p ∈ ltZ Z := fun p hp => by
 have : p.1 ∈ Zbd [] ((ltZ Z).map (·.1)) := by refine rE h.ded ?_; exact ZqL hp
 rcases mem_dedup.mp this with q | q
 ·cases q
 ·refine o31 (ZqO.mp q) fun x hx e => ?_
  refine rE (Znq h.up p hp x (h.tg x hx) e.symm) ?_; exact hx
theorem Inv.zl (h : Inv s Z pop kk tt) : Z.length < 14 := by
 have a := h.st.std.len
 have b := h.st.zlen
 have c := congrArg Zrn h.bs
 rw [Zqt] at c
 have := h.sp
 have := h.four
 have := h.five
 omega
theorem Inv.bdl (h : Inv s Z pop kk tt) : (bd Z).length <= 5 := by (refine rE h.bs (rE (Zqt _) ?_)); exact h.five
theorem Inv.four' (h : Inv s Z pop kk tt) : s.fs.length + cS Z <= 4 := by have := h.sp; have := h.four; omega
theorem Inv.nlim (h : Inv s Z pop kk tt) (hk : kk <= 20) (ht : tt <= 20) : s.w.nd.length + 100 < LIM /\ s.w.er + 50 < LIM := by
 have a := h.knd
 have b := h.ker
 have : LIM = 1000000 := rfl
 omega
theorem ZoX : ∀ Z : List Fr, blZ Z = (bd Z).flatMap NzP.bl := by
 refine @Zbg _ _ ?_ ?_
 ·exact rfl
 ·intro f r ih
  refine rE (Zhk _ _) (rE (ZaG _ _) (rE Zrl (rE (ih) ?_)))
  induction h : Zee f.d with
  | true => simp
  | false => refine rE (Zi8 h) ?_; rfl
theorem ZnK {Z : List Fr} {bs : List (Tag × Nat)} (h : bd Z = bs.map fun p => Nd.el p.1 (some p.2)) (hb : ∀ p ∈ bs, p.1.isB = true) : blZ Z = bs.map (·.2) := by
 refine rE (ZoX _) (rE h ?_)
 clear h
 induction bs with
 | nil => rfl
 | cons p r ih =>
  refine rE ZqP (rE Zrc ?_); refine rE (ih fun q hq => hb q (Zqw _ hq)) ?_
  refine (?_ : (if p.1.isB = true then [p.2] else []) ++ _ = _)
  refine rE (if_pos (hb p Zqz)) ?_; rfl
theorem Zpn {w : PW} {Z : List Fr} {fs : List (Tag × Nat)} (h : St w Z [] fs) : flZ Z = fs.map (·.2) := by
 refine rS (ZgK _) ?_
 have a : ∀ W : List Fr, W.flatMap (fun f => NzP.fl f.d) = (W.map Fr.d).flatMap NzP.fl := fun W => by exact rE (Zsy _ _ _) rfl
 refine rE (a _) (rE (ZmK h) ?_)
 have hf := h.ff
 clear h a
 induction fs with
 | nil => rfl
 | cons p r ih =>
  refine rE ZqP (rE Zrc ?_); refine rE (ih fun q hq => hf q (Zqw _ hq)) ?_
  refine (?_ : (if p.1.isF = true then [p.2] else []) ++ _ = _)
  refine rE (if_pos (hf p Zqz)) ?_; rfl
theorem Inv.letF (h : Inv s Z pop kk tt) (hk : kk <= 20) : okL (s.fs.map (·.2)) = true := Zq4.mpr fun c hc => by
 refine o31 (ZqO.mp hc) fun p hp y2 => ?_; subst y2
 have := (h.low _ (h.fl p hp)).2
 dsimp only at this
 exact decide_eq_true (by omega)
theorem Inv.letB (h : Inv s Z pop kk tt) (hk : kk <= 20) : okL (s.bs.map (·.2)) = true := Zq4.mpr fun c hc => by
 refine o31 (ZqO.mp hc) fun p hp y2 => ?_; subst y2
 have := (h.low _ (h.bl p hp)).2
 dsimp only at this
 exact decide_eq_true (by omega)
theorem ZjM {c : Nat} (h : Inv s Z pop kk tt) (hk : kk <= 20) (ht : tt < 20) (hc : c < 128) : ∃ s' Z', Zf6 s c = some s' /\ Inv s' Z' [] kk (tt + 1) /\ s'.fs = s.fs /\ s'.bs = s.bs /\ s'.tags = s.tags := by
 refine o20 (h.nlim hk (by omega)) fun n1 n2 => ?_
 have hLIM : LIM = 1000000 := rfl
 refine o82 (Zh3 h.st (fun p hp => h.inL _ (h.fl p hp)) h.four' h.bdl n1) fun w1 X r1 r2 r3 r4 r5 r7 => ?_; refine o20 r7 ?_; clear r7; intro r6 r7
 have hl1 : (Z ++ X).length < 14 := by
  have a := r2.std.len
  have b := r2.zlen
  rw [r5, r4] at a
  have := h.four'
  have := h.bdl
  omega
 have h5 := h.ktt
 refine o82 (ZkM (c := c) r2 hl1 (by have := h.knd; omega) (r3.tf h.tf) (r3.df h.df) (by (refine rE r3.read (rE h.read ?_)); omega)) fun w2 Z' e1 e2 e3 e4 e5 r7 => ?_; refine o60 r7 fun e6 e7 e8 e9 e10 e11 => ?_; clear r7
 have hb : blZ (Z ++ X) = s.bs.map (·.2) := ZnK (r4.trans h.bs) h.bt
 have hf : flZ (Z ++ X) = s.fs.map (·.2) := Zpn r2
 have okf := h.letF hk
 have okb := h.letB hk
 refine e72 { s with w := w2, told := s.told ++ [(c, s.bs.map (·.2), Za3 (s.fs.map (·.2)))] } Z' ?_ ?_ rfl rfl rfl
 ·unfold Zf6
  have := h.four
  rewrite [if_pos (by (refine rE okb (rE okf ?_); rw [decide_eq_true (show s.fs.length < 64 by omega), decide_eq_true (show s.told.length < LIM by omega)]); rfl)]; refine rE r1 ?_
  dsimp only [Zqy]
  exact rE e1 rfl
 ·refine ⟨e2, e7.trans (r4.trans h.bs), h.bt, by (refine rE e8 (rE r5 ?_)); exact h.sp, h.four, h.five, ?_, e4, e5, ?_, ?_, fun p hp => ?_, h.fl, h.fn, h.bl, h.up, h.low, h.kt, ?_, ?_, ?_, ?_, h.kn⟩
  ·refine rE e3 (rE r3.read (rE h.read (rE hb ?_))); exact rE hf rfl
  ·refine rE e6 (rE r3.rep.ded ?_); exact h.ded
  ·refine rE e6 (rE r3.rep.pl ?_); exact h.pl
  ·rw [e6] at hp; exact h.tg p (r3.rep.sub p hp)
  ·refine rE Zqu (rE ZqY ?_); omega
  ·refine rE List.all_append (rE h.okt ?_)
   refine (?_ : (true && ((decide (c < 128) && okL (s.bs.map (·.2)) && okL (Za3 (s.fs.map (·.2)))) && true)) = true)
   refine rE (decide_eq_true hc) (rE okb (rE (Zjz okf (ZbX _)) ?_)); rfl
  ·have := h.knd
   refine (?_ : w2.nd.length <= _)
   omega
  ·refine (?_ : w2.er <= _)
   refine rE e11 (rE r7 ?_); exact h.ker
theorem ZiQ {w' : PW} {Z' : List Fr} {pop' : List Nat} {t : Tag} {c sp' : Nat} {fs' bs' : List (Tag × Nat)} (h : Inv s Z pop kk tt) (hc : c = 97 + kk) (keep : Keep Z Z') {n : Nat} (hst : St w' (Z' ++ [⟨n, .el t (some c), .nil⟩]) pop' fs')
  (hbs : bd (Z' ++ [⟨n, .el t (some c), .nil⟩]) = bs'.map fun p => Nd.el p.1 (some p.2)) (hbt : ∀ p ∈ bs', p.1.isB = true) (hsp : cS (Z' ++ [⟨n, .el t (some c), .nil⟩]) <= sp') (h4 : fs'.length + sp' <= 4) (h5 : bs'.length <= 5) (hl : Z'.length < 14)
  (hf : ∀ p ∈ fs', p ∈ s.fs \/ p = (t, c)) (hfn : (fs'.map (·.2)).Nodup) (hb : ∀ p ∈ bs', p ∈ s.bs \/ p = (t, c)) (hnd : w'.nd.length <= s.w.nd.length + 50) (her : w'.er = s.w.er) (htt : t.isB = true \/ t.isF = true \/ t = .span) :
  Inv { s with w := w', tags := s.tags ++ [(c, t)], fs := fs', bs := bs', sp := sp' } (Z' ++ [⟨n, .el t (some c), .nil⟩]) pop' (kk + 1) tt := by
 refine o40 (Zn7 (Z := Z') (n := n) (t := t) (c := c)) fun k1 k2 k3 k4 => ?_
 have hcn : c ∉ s.tags.map (·.1) := fun q => by
  refine o31 (ZqO.mp q) fun p hp e => ?_
  have := (h.low p hp).2
  omega
 have old : ∀ p ∈ s.tags, p ∈ s.tags ++ [(c, t)] := fun p hp => Zqx _ hp
 refine ⟨hst, hbs, hbt, hsp, h4, h5, ?_, k2 (keep.tf h.tf), k3 hl (keep.df h.df), ?_, ?_, fun p hp => ?_, fun p hp => ?_, hfn, fun p hp => ?_, ?_, fun p hp => ?_, ?_, h.ktt, h.okt, ?_, ?_, fun p hp => (ZqJ.mp hp).elim (h.kn p) fun q => by refine rE (ZqI.mp q) ?_; exact htt⟩
 ·refine rE k1 (rE keep.read ?_); exact h.read
 ·refine rE k4 (rE ZqB ?_)
  refine (?_ : Zbd [] ((ltZ Z').map (·.1) ++ [c]) = _)
  refine rE (ZgC _ _ _) (rE keep.rep.ded (rE h.ded (rE (if_neg hcn) (rE ZqB ?_)))); rfl
 ·refine rE k4 (rE (Zq6 _ _) (rE keep.rep.pl (rE h.pl ?_))); exact rE (Zq6 _ _) rfl
 ·rw [k4] at hp
  rcases ZqJ.mp hp with hp | hp
  ·exact old _ (h.tg p (keep.rep.sub p hp))
  ·exact Zqv _ hp
 ·rcases hf p hp with q | rfl
  ·exact old _ (h.fl p q)
  ·exact Zqv _ (ZqI.mpr rfl)
 ·rcases hb p hp with q | rfl
  ·exact old _ (h.bl p q)
  ·exact Zqv _ (ZqI.mpr rfl)
 ·refine rE ZqB ?_; rw [List.pairwise_append]
  refine ⟨h.up, List.pairwise_singleton _ _, fun a ha b hb => ?_⟩
  refine rE (ZqI.mp hb) ?_
  refine o31 (ZqO.mp ha) fun p hp y2 => ?_; subst y2
  have := (h.low p hp).2
  refine (?_ : p.1 < c)
  omega
 ·rcases ZqJ.mp hp with hp | hp
  ·have := h.low p hp; omega
  ·refine rE (ZqI.mp hp) ?_
   refine (?_ : 97 <= c /\ c < 97 + (kk + 1))
   omega
 ·refine (?_ : (s.tags ++ [(c, t)]).length <= _)
  refine rE Zqu (rE ZqY ?_); have := h.kt; omega
 ·refine (?_ : w'.nd.length <= _)
  have := h.knd; omega
 ·refine (?_ : w'.er <= _)
  refine rE her ?_; have := h.ker; omega
theorem Zl8 {t : Tag} {c : Nat} (h : Inv s Z pop kk tt) (hk : kk < 20) (ht : tt <= 20) (hc : c = 97 + kk) (htt : t.isB = true \/ t.isF = true \/ t = .span) : ∃ s' Z' pop', ZeJ s t c = some s' /\ Inv s' Z' pop' (kk + 1) tt := by
 refine o20 (h.nlim (by omega) ht) fun n1 n2 => ?_
 have hLIM : LIM = 1000000 := rfl
 have hno : ∀ p ∈ s.tags, p.1 ≠ c := fun p hp => by have := (h.low p hp).2; omega
 have hg : ((s.tags.lookup c).isSome || decide (LIM <= s.tags.length) || decide (LIM <= s.bs.length) || decide (LIM <= s.fs.length)) = false := by
  have a := h.kt
  have b := h.five
  have d := h.four
  refine rE (ZiS hno) ?_; rw [decide_eq_false (by omega), decide_eq_false (by omega), decide_eq_false (by omega)]; rfl
 have zl := h.zl
 unfold ZeJ
 refine rE hg ?_; rw [if_neg (by decide)]
 by_cases hB : t.isB = true
 ·refine rE (if_pos hB) ?_
  have hF : t.isF = false := by induction t <;> first | rfl | injection hB
  by_cases h5 : 5 <= s.bs.length
  ·refine rE (if_pos h5) ?_
   exact e53 s Z pop rfl h.more
  ·refine rE (if_neg h5) ?_
   refine o51 (ZkO (t := t) (c := c) h.st hF (.inr (.inl hB)) (by omega) n1) fun w' e1 e2 e3 e4 => ?_
   refine rE e1 ?_
   dsimp only [Zqy]
   refine e53 _ _ _ rfl (ZiQ (t := t) (c := c) (sp' := s.sp) (fs' := s.fs) (bs' := s.bs ++ [(t, c)]) h hc .refl e2 ?_ ?_ ?_ h.four (by simp; omega) zl (fun p hp => .inl hp) h.fn (fun p hp => ?_) (by have := e3; simp at this ⊢; omega) e4 htt)
   ·refine rE (ZbD _ _) (rE h.bs (rE (ZaG _ _) ?_)); rewrite [if_pos (show Zee (.el t (some c)) = true from hB)]; refine rE ZqB ?_; rfl
   ·intro p hp
    rcases ZqJ.mp hp with hp | hp
    ·exact h.bt p hp
    ·refine rE (ZqI.mp hp) ?_; exact hB
   ·refine rE (Zbq _ _) (rE (ZaL _ _) ?_)
    have : ZhY (.el t (some c)) = false := by induction t <;> first | rfl | injection hB
    refine (?_ : cS Z + ((if ZhY (.el t (some c)) = true then 1 else 0) + 0) <= _)
    refine rE this ?_; have := h.sp; simp; omega
   ·rcases ZqJ.mp hp with hp | hp
    ·exact .inl hp
    ·exact .inr (ZqI.mp hp)
 ·refine rE (if_neg hB) ?_
  have hB' : t.isB = false := by simpa using hB
  by_cases h4 : 4 <= s.fs.length + s.sp
  ·refine rE (if_pos h4) ?_
   exact e53 s Z pop rfl h.more
  ·refine rE (if_neg h4) ?_
   refine o82 (Zh3 h.st (fun p hp => h.inL _ (h.fl p hp)) h.four' h.bdl n1) fun w1 X r1 r2 r3 r4 r5 r7 => ?_; refine o20 r7 ?_; clear r7; intro r6 r7
   have hl1 : (Z ++ X).length < 14 := by
    have a := r2.std.len
    have b := r2.zlen
    rw [r5, r4] at a
    have := h.four'
    have := h.bdl
    omega
   refine rE r1 ?_
   dsimp only [Zqy]
   have bnew : ∀ n, bd ((Z ++ X) ++ [⟨n, .el t (some c), .nil⟩]) = s.bs.map fun p => Nd.el p.1 (some p.2) := fun n => by
    refine rE (ZbD _ _) (rE r4 (rE h.bs (rE (ZaG _ _) ?_))); rw [if_neg (show ¬ Zee (.el t (some c)) = true by (refine rE (show Zee (.el t (some c)) = t.isB from rfl) (rE hB' ?_)); decide)]; simp [bd]
   by_cases hF : t.isF = true
   ·refine o72 (ZmR (t := t) (c := c) r2 hF (fun p hp q => by
     have := hno _ (h.fl p hp)
     exact this q) (by omega) (by have := h.knd; omega) (by have := h.four; omega)) fun w2 w3 e1 e2 e3 e4 e5 => ?_
    refine rE e1 ?_
    dsimp only
    refine rE (if_pos hF) (rE e2 ?_)
    refine e53 _ _ _ rfl (ZiQ (t := t) (c := c) (sp' := s.sp) (fs' := s.fs ++ [(t, c)]) (bs' := s.bs) h hc r3 e3 (bnew _) h.bt ?_ (by simp; omega) h.five hl1 (fun p hp => ?_) ?_ (fun p hp => .inl hp) (by omega) (by (refine rE e5 ?_; exact rE r7 rfl)) htt)
    ·refine rE (Zbq _ _) (rE r5 (rE (ZaL _ _) ?_))
     have : ZhY (.el t (some c)) = false := by induction t <;> first | rfl | injection hF
     refine (?_ : cS Z + ((if ZhY (.el t (some c)) = true then 1 else 0) + 0) <= _)
     refine rE this ?_; have := h.sp; simp; omega
    ·rcases ZqJ.mp hp with hp | hp
     ·exact .inl hp
     ·exact .inr (ZqI.mp hp)
    ·refine rE ZqB ?_; rw [ZqK]
     refine ⟨h.fn, by simp, fun a ha b hb e => ?_⟩
     refine o31 (ZqO.mp ha) fun p hp y2 => ?_; subst y2
     have := hno _ (h.fl p hp)
     rw [ZqP, ZsP, ZqI] at hb
     exact this (e.trans hb)
   ·have hF' : t.isF = false := by simpa using hF
    obtain rfl : t = .span := by
     rcases htt with q | q | q
     ·exact absurd q hB
     ·exact absurd q hF
     ·exact q
    refine o51 (ZkO (t := .span) (c := c) r2 rfl (.inr (.inr rfl)) (by omega) (by have := h.knd; omega)) fun w2 e1 e2 e3 e4 => ?_
    refine rE e1 ?_
    dsimp only
    refine rE (if_neg hF) ?_
    refine e53 _ _ _ rfl (ZiQ (t := .span) (c := c) (sp' := s.sp + 1) (fs' := s.fs) (bs' := s.bs) h hc r3 e2 (bnew _) h.bt ?_ (by omega) h.five hl1 (fun p hp => .inl hp) h.fn (fun p hp => .inl hp) (by omega) (by (refine rE e4 ?_; exact rE r7 rfl)) htt)
    refine rE (Zbq _ _) (rE r5 (rE (ZaL _ _) ?_))
    refine (?_ : cS Z + (1 + 0) <= _)
    have := h.sp; omega
theorem ZhC {w' : PW} {Z' : List Fr} {pop' : List Nat} {fs' bs' : List (Tag × Nat)} (h : Inv s Z pop kk tt) (keep : Keep Z Z') (hst : St w' Z' pop' fs') (hbs : bd Z' = bs'.map fun p => Nd.el p.1 (some p.2)) (hsp : cS Z' <= cS Z) (hf : fs'.Sublist s.fs) (hb : bs'.Sublist s.bs) (hnd : w'.nd.length <= s.w.nd.length + 64) (her : w'.er <= s.w.er + 16) :
  Inv { s with w := w', fs := fs', bs := bs' } Z' pop' (kk + 1) tt := by
 refine ⟨hst, hbs, fun p hp => h.bt p (hb.mem hp), Zrj hsp h.sp, ?_, ?_, by refine rE keep.read ?_; exact h.read, keep.tf h.tf, keep.df h.df, by refine rE keep.rep.ded ?_; exact h.ded, by refine rE keep.rep.pl ?_; exact h.pl, fun p hp => h.tg p (keep.rep.sub p hp), fun p hp => h.fl p (hf.mem hp), h.fn.sublist (hf.map _), fun p hp => h.bl p (hb.mem hp), h.up, fun p hp => ⟨(h.low p hp).1, by have := (h.low p hp).2; omega⟩, by have := h.kt; refine (?_ : s.tags.length <= _); omega, h.ktt, h.okt, ?_, ?_, h.kn⟩
 ·have := hf.length_le; have := h.four; refine (?_ : fs'.length + s.sp <= 4); omega
 ·have := hb.length_le; have := h.five; refine (?_ : bs'.length <= 5); omega
 ·have := h.knd; refine (?_ : w'.nd.length <= _); omega
 ·have := h.ker; refine (?_ : w'.er <= _); omega
theorem ZiN (l : List (Tag × Nat)) (t : Tag) : (Nz.without l t).Sublist l := by
 rcases Zn1 t l with h | ⟨X, c, Y, rfl, h⟩
 ·refine rE (Zc1 h) ?_; exact .refl _
 ·refine rE (ZeP h) ?_; exact List.Sublist.append_left (List.sublist_cons_self _ _) _
theorem ZoB {t : Tag} (h : Inv s Z pop kk tt) (hk : kk < 20) (ht : tt <= 20) (htt : t.isB = true \/ t.isF = true \/ t = .span) : ∃ s' Z' pop', ZnH s t = some s' /\ Inv s' Z' pop' (kk + 1) tt := by
 refine o20 (h.nlim (by omega) ht) fun n1 n2 => ?_
 unfold ZnH
 by_cases hB : t.isB = true
 ·refine rE (if_pos hB) ?_
  rcases Zn1 t s.bs with hn | ⟨X, c, Y, e, hY⟩
  ·rw [if_neg]
   ·exact e53 s Z pop rfl h.more
   ·intro q
    refine o31 (ZrX.mp q) fun p hp e => ?_
    exact hn p hp (Zhs (of_decide_eq_true e))
  ·rw [if_pos (ZrX.mpr ⟨(t, c), by refine rE e ?_; simp, decide_eq_true rfl⟩)]
   have hbs := h.bs
   rw [e, ZqB, ZqP] at hbs
   unfold bd at hbs
   refine o52 (ZrB.mp hbs) fun F1 F2 f1 f2 f3 => ?_
   refine o52 (ZsH.mp f3) fun bf F3 y2 f4 f5 => ?_; subst y2
   refine o52 (List.filter_eq_append_iff.mp f1) fun A B1 y2 g1 g2 => ?_; subst y2
   refine o62 (List.filter_eq_cons_iff.mp g2) fun A2 B y2 g3 g4 g5 => ?_; subst y2
   have hbo : okd bf.d := .inr (.inl g4)
   have hst := h.st
   rw [<- ZqN] at hst
   refine o20 (hst.std.past hbo) fun lA hBo => ?_
   have hst0 : s.w.st = ((A ++ A2).drop 1).map Fr.n ++ bf.n :: B.map Fr.n := by
    refine rE hst.st ?_; rewrite [Zr1 (by omega)]; refine rE ZqB ?_; rfl
   have hun : ZeT t s.w.st.length s.w = some { s.w with st := ((A ++ A2).drop 1).map Fr.n } := by
    refine Zjw (w := s.w) (d := bf.d) (hst.tr.nd) (by refine rE f4 ?_; exact Zc7) (B.map Fr.n).length (B.map Fr.n) rfl _ s.w rfl hst0 (fun x hx => ?_) (by (refine rE hst0 (rE Zqu (rE ZqF ?_))); omega)
    refine o31 (ZqO.mp hx) fun g hg y2 => ?_; subst y2
    refine e31 g.d (hst.tr.nd' (by simp [hg])) ?_
    refine o42 (Zc2 (hBo g hg)) fun u c' eu hu => ?_
    refine rE eu ?_
    refine ZdO fun q => ?_
    subst q
    have : g ∈ B.filter fun f => Zee f.d := Zrg.mpr ⟨hg, by refine rE eu ?_; exact hB⟩
    rw [g5] at this
    have : g.d ∈ Y.map fun p => Nd.el p.1 (some p.2) := by refine rS f5 ?_; exact ZqL this
    refine o31 (ZqO.mp this) fun p hp ep => ?_
    rw [eu] at ep
    injection ep with ep _
    exact hY p hp ep
   refine rE hun ?_
   obtain ⟨G, com, eG⟩ : ∃ G x, A ++ A2 = G ++ [x] := (snocs (A ++ A2)).resolve_left fun q => by rw [q] at lA; simp at lA
   have lG : 2 <= G.length := by rw [eG] at lA; simp at lA; omega
   rw [eG] at hst
   have e2 : G ++ [com] ++ bf :: B = G ++ com :: bf :: B := by simp
   rw [e2] at hst
   have hd := hst.down lG s.w.er
   have kp : Keep (A ++ (A2 ++ bf :: B)) (G ++ [into com (bf :: B)]) := by
    refine rS (ZqN _ _ _) (rE eG (rE e2 ?_)); exact Zhh G com (bf :: B)
   have hbd : bd (G ++ [into com (bf :: B)]) = X.map fun p => Nd.el p.1 (some p.2) := by
    have a : bd (G ++ [into com (bf :: B)]) = bd (A ++ A2) := by
     refine rE eG (rE (ZbD _ _) (rE (ZbD _ _) (rE (ZaG _ _) (rE (ZaG _ _) ?_)))); rfl
    refine rE a (rE (ZbD _ _) ?_)
    have b : bd A2 = [] := ZeV fun f hf => by simpa using g3 f hf
    refine rE b (rE (ZqR _) ?_)
    unfold bd
    refine rE g1 ?_; exact f2
   refine e53 { s with w := { s.w with st := ((A ++ A2).drop 1).map Fr.n }, bs := Nz.upTo s.bs t } (G ++ [into com (bf :: B)]) (fmt (bf :: B) ++ pop) rfl ?_
   have hup : Nz.upTo s.bs t = X := by refine rE e ?_; exact ZlB hY
   refine rE hup (rE eG ?_)
   refine ZhC h kp hd hbd ?_ (.refl _) (by refine rE e ?_; exact List.sublist_append_left _ _) (by refine (?_ : s.w.nd.length <= _); omega) (by refine (?_ : s.w.er <= _); omega)
   refine rS (ZqN _ _ _) (rE eG (rE (Zbq _ _) (rE (Zbq _ _) (rE (Zbq _ _) (rE (ZaL com _) (rE (ZaL (into com (bf :: B)) _) ?_))))))
   refine (?_ : _ + ((if ZhY com.d = true then 1 else 0) + 0) <= _)
   simp only [cS, List.filter_nil, ZrP]
   omega
 ·refine rE (if_neg hB) ?_
  rcases htt with q | q | rfl
  ·exact absurd q hB
  ·refine o83 (Zk0 q h.st h.four' h.bdl n1 n2) fun w' Z' pop' a1 a2 a3 a4 r7 => ?_; refine o40 r7 fun a5 a6 a7 n_ => ?_; clear r7
   refine rE a1 ?_
   exact e53 _ Z' pop' rfl (ZhC h a3 a2 (a4.trans h.bs) a5 (ZiN _ _) (.refl _) a6 a7)
  ·refine o83 (Zke h.st n2) fun w' Z' pop' a1 a2 a3 a4 r7 => ?_; refine o30 r7 fun a5 a6 a7 => ?_; clear r7
   refine rE a1 ?_
   have : Nz.without s.fs .span = s.fs := Zc1 fun p hp q => by
    have := h.st.ff p hp
    rw [q] at this; injection this
   refine e53 _ Z' pop' rfl ?_
   refine rE this ?_
   exact ZhC h a3 a2 (a4.trans h.bs) a5 (.refl _) (.refl _) (by refine rE a6 ?_; omega) a7
theorem ZoN (d : Nat) : (ZdK d).isB = true \/ (ZdK d).isF = true \/ ZdK d = .span := by
 unfold ZdK
 have : d % 6 < 6 := Nat.mod_lt _ (by decide)
 generalize d % 6 = e at this
 match e, this with
 | 0, _ => exact .inr (.inl rfl)
 | 1, _ => exact .inr (.inl rfl)
 | 2, _ => exact .inr (.inl rfl)
 | 3, _ => exact .inl rfl
 | 4, _ => exact .inl rfl
 | 5, _ => exact .inr (.inr rfl)
theorem Znr {d : Nat} (h : Inv s Z pop kk kk) (hk : kk < 16) : ∃ s' Z' pop', Zmz s kk d = some s' /\ Inv s' Z' pop' (kk + 1) (kk + 1) := by
 have htt := (ZoN d)
 unfold Zmz
 have key : ∀ s' Z' pop', Inv s' Z' pop' (kk + 1) kk -> ∃ s'' Z' pop', (if d / 12 % 3 ≠ 1 then Zf6 s' (65 + kk) else some s') = some s'' /\ Inv s'' Z' pop' (kk + 1) (kk + 1) := fun s' Z' pop' i => by
  by_cases q : d / 12 % 3 ≠ 1
  ·refine rE (if_pos q) ?_
   refine o52 (ZjM (c := 65 + kk) i (by omega) (by omega) (by omega)) fun s'' Z'' e1 e2 n_ => ?_
   exact e53 s'' Z'' [] e1 e2
  ·refine rE (if_neg q) ?_
   refine e53 s' Z' pop' rfl ?_
   exact ⟨i.st, i.bs, i.bt, i.sp, i.four, i.five, i.read, i.tf, i.df, i.ded, i.pl, i.tg, i.fl, i.fn, i.bl, i.up, i.low, i.kt, by have := i.ktt; omega, i.okt, by have := i.knd; omega, i.ker, i.kn⟩
 by_cases q : d % 12 < 6
 ·refine rE (if_pos q) ?_
  refine o53 (Zl8 (t := ZdK d) (c := 97 + kk) h (by omega) (by omega) rfl htt) fun s' Z' pop' e1 e2 => ?_
  refine rE e1 ?_
  exact key s' Z' pop' e2
 ·refine rE (if_neg q) ?_
  refine o53 (ZoB (t := ZdK d) h (by omega) (by omega) htt) fun s' Z' pop' e1 e2 => ?_
  refine rE e1 ?_
  exact key s' Z' pop' e2
end NzP
namespace NzP
open PySem Nz
theorem ZkX (d : Nat -> Nat) : ∀ (f : Nat) {k : Nat} {s : LS} {Z : List Fr} {pop : List Nat}, f + k = 16 -> Inv s Z pop k k -> ∃ s' Z' pop', Zig f k s d = some s' /\ Inv s' Z' pop' 16 16 := by
 refine @Zms _ ?_ ?_
 ·intro k s Z pop e h
  exact ⟨s, Z, pop, rfl, (by omega : k = 16) ▸ h⟩
 ·intro f ih k s Z pop e h
  refine o53 (Znr (d := d k) h (by omega)) fun s1 Z1 pop1 e1 h1 => ?_
  refine o53 (ih (by omega) h1) fun s2 Z2 pop2 e2 h2 => ?_
  refine e53 s2 Z2 pop2 ?_ h2
  rewrite [Zig]; refine rE e1 ?_
  exact e2
noncomputable def w0 : PW := ⟨[.doc, .el .html none, .el .body none], [[], [], []], [-1, 0, 1], [[1], [2], []], [1, 2], [], 0⟩
noncomputable def Z0 : List Fr := [⟨0, .doc, .nil⟩, ⟨1, .el .html none, .nil⟩, ⟨2, .el .body none, .nil⟩]
theorem ZnW : initM = some (1, 2, w0) := by kernel_rfl
theorem nope {α : Type} {P : α -> Prop} : ∀ x ∈ ([] : List α), P x := fun n_ h => absurd h Zq1
theorem Zny : Inv ⟨w0, [], [], 0, [], []⟩ Z0 [] 0 0 := by
 refine ⟨⟨⟨?_, ?_, ⟨rfl, rfl, rfl⟩⟩, ⟨.nil, [], rfl, NzP.nope⟩, rfl, rfl, NzP.nope, .nil, rfl, NzP.nope⟩, rfl, NzP.nope, ZqQ _, by decide, by decide, rfl, ?_, ?_, rfl, rfl, NzP.nope, NzP.nope, .nil, NzP.nope, .nil, NzP.nope, ZqQ _, ZqQ _, rfl, by decide, by decide, NzP.nope⟩
 ·exact ⟨rfl, rfl, rfl, rfl, ⟨rfl, rfl, rfl, rfl, ⟨rfl, rfl, rfl, rfl, trivial, trivial⟩, trivial⟩, trivial⟩
 ·refine (?_ : [0, 1, 2].Nodup)
  decide
 ·intro f hf
  simp only [Z0, ZqD, Zq1, or_false] at hf
  rcases hf with rfl | rfl | rfl <;> exact ⟨nofun, trivial⟩
 ·exact ⟨⟨by decide, fun q => by omega⟩, trivial, ⟨by decide, fun q => by omega⟩, trivial, ⟨by decide, fun q => by omega⟩, trivial, trivial⟩
theorem Zn8 {w : PW} {tags : List (Nat × Tag)} : ∀ (F : Fo) {p : Nat} {ahead : Bool} {m f : Nat} {bs fs seen : List Nat} {out : List Ent}, HoldF w (p : Int) F -> TF ahead F -> DF m F -> 3 <= m -> bs.length <= m -> fs.length <= m -> 14 <= f + m -> (seen ++ F.ids).Nodup -> (∀ q ∈ lts F, tags.lookup q.1 = some q.2 /\ q.1 < 128) -> seen.length + F.ids.length <= LIM -> out.length + (ZaM bs fs F).length <= LIM ->
  ZfR w tags p bs fs (Zhr w tags f) F.heads ahead seen out = some (true, seen ++ F.ids, out ++ ZaM bs fs F) := by
 refine @foR _ ?_ ?_
 ·intro p ahead m f bs fs seen out n_ n_ n_ n_ n_ n_ n_ n_ n_ n_ n_
  rewrite [Fo.heads, ZfR]; refine rE Zft ?_; rewrite [ZaM]; refine rE (ZqR _) ?_; exact rE (ZqR _) rfl
 ·intro n d s k r ihk ihr p ahead m f bs fs seen out hH hT hD h3 hb hf hfm hn hl hs ho
  refine o60 hH fun H1 H2 H3 H4 H5 H6 => ?_; clear hH
  refine o30 hD fun y0 D3 D4 => ?_; clear hD; (refine o20 y0 fun D1 D2 => ?_; clear y0)
  have ids := Zdn (n := n) (d := d) (s := s) (k := k) (r := r)
  have hns : n ∉ seen := fun q => by
   rw [ids] at hn
   exact (ZqK.mp hn).2.2 n q n Zqz rfl
  rw [ids, ZqF, Zqu] at hs
  rw [ZaM, Zqu, Zqu, Zqt] at ho
  rewrite [Fo.heads, ZfR]; refine rE H3 ?_
  dsimp only [Zqy]
  rw [if_neg (fun q => q.elim (fun q => q rfl) hns), if_neg (by omega), H1]
  dsimp only [Zqy]
  rw [ids] at hn
  have cut : ∀ x y z : List Nat, (x ++ n :: (y ++ z)) = (x ++ [n]) ++ (y ++ z) := fun x y z => by simp
  rcases D2 h3 with rfl | ⟨t, c, rfl⟩
  ·refine o40 hT fun T1 T2 y2 T4 => ?_; clear hT; subst y2
   dsimp only
   refine rE H2 ?_
   dsimp only [Zqy]
   refine rE H4 ?_
   dsimp only [Zqy]
   refine rE (if_neg (by
    refine rE T1 ?_
    induction s using ZcU with
    | nil => exact absurd rfl T2
    | cons a b => simp [Fo.heads])) ?_; rw [if_neg (by omega)]
   rw [cut, Zft, Zq2] at hn
   rw [ihr (m := m) (f := f) H6 T4 D4 h3 hb hf hfm hn (fun q hq => hl q (by
    unfold lts at hq ⊢
    rewrite [Fo.flat]; refine rE Zrc ?_
    exact Zqv _ (by refine rE Zrl ?_; exact Zqv _ hq))) (by (refine rE Zqu (rE ZqY ?_)); omega) (by (refine rE Zqu (rE (Zqt _) ?_)); omega)]
   refine rE ids (rE Zft ?_); rw [ZaM]
   simp [ZaM]
  ·refine o30 hT fun y0 T2 T3 => ?_; clear hT; subst y0
   dsimp only
   refine o20 (hl (c, t) (by
    unfold lts
    rewrite [Fo.flat]; refine rE Zrc ?_
    exact Zqx _ (ZqI.mpr rfl))) fun l1 l2 => ?_
   dsimp only at l1 l2
   have ht : Zm8 w n tags = some true := by
    unfold Zm8
    refine rE H1 ?_
    dsimp only [Zqy]
    refine rE (if_pos l2) (rE l1 ?_)
    exact congrArg some (decide_eq_true rfl)
   refine rE ht ?_
   dsimp only [Zqy]
   rw [if_neg (by decide)]
   obtain ⟨g, rfl⟩ : ∃ g, f = g + 1 := ⟨f - 1, by omega⟩
   have eb : (if t.isB = true then bs ++ [c] else bs) = bs ++ bl (.el t (some c)) := by
    refine (?_ : _ = bs ++ (if t.isB = true then [c] else []))
    split <;> simp
   have ef : (if t.isF = true then fs ++ [c] else fs) = fs ++ fl (.el t (some c)) := by
    refine (?_ : _ = fs ++ (if t.isF = true then [c] else []))
    split <;> simp
   have lb : (bl (.el t (some c))).length <= 1 := by
    refine (?_ : (if t.isB = true then [c] else []).length <= 1)
    split <;> simp
   have lf : (fl (.el t (some c))).length <= 1 := by
    refine (?_ : (if t.isF = true then [c] else []).length <= 1)
    split <;> simp
   have hn' := hn
   rw [cut, <- ZqN] at hn'
   have hk := ihk (p := n) (m := m + 1) (f := g) (bs := bs ++ bl (.el t (some c))) (fs := fs ++ fl (.el t (some c))) (seen := seen ++ [n]) (out := out) H5 T2 D3 (by omega) (by refine rE Zqu ?_; omega) (by refine rE Zqu ?_; omega) (by omega) (ZqK.mp hn').1 (fun q hq => hl q (by
    unfold lts at hq ⊢
    rewrite [Fo.flat]; refine rE Zrc ?_
    exact Zqv _ (by refine rE Zrl ?_; exact Zqx _ hq))) (by (refine rE Zqu (rE ZqY ?_)); omega) (by omega)
   have hrd : Zhr w tags (g + 1) n (if t.isB = true then bs ++ [c] else bs) (if t.isF = true then fs ++ [c] else fs) (seen ++ [n]) out = some (true, seen ++ [n] ++ k.ids, out ++ ZaM (bs ++ bl (.el t (some c))) (fs ++ fl (.el t (some c))) k) := by
    refine rE eb (rE ef ?_); rewrite [Zhr]; refine rE H4 ?_
    exact hk
   refine rE hrd ?_
   dsimp only [Zqy]
   refine rE (if_pos rfl) ?_
   rw [ihr (m := m) (f := g + 1) H6 T3 D4 h3 hb hf hfm hn' (fun q hq => hl q (by
    unfold lts at hq ⊢
    rewrite [Fo.flat]; refine rE Zrc ?_
    exact Zqv _ (by refine rE Zrl ?_; exact Zqv _ hq))) (by (refine rE Zqu (rE Zqu (rE ZqY ?_))); omega) (by refine rE Zqu ?_; omega)]
   refine rE ids ?_; rw [ZaM]
   simp
end NzP
namespace NzP
open PySem Nz
theorem Zhd {α β : Type} {l : List α} {f g : α -> List β} (h : ∀ a ∈ l, f a = g a) : l.flatMap f = l.flatMap g := by (refine rE ZsT (rE ZsT ?_); exact rE (Zrk h) rfl)
theorem way : ∀ (B : List Fr) {w : PW} {A : List Fr} {a : Fr}, HoldF w (-1) (Zaf (A ++ a :: B)) -> Znt w a.n (B.map Fr.n) = true := by
 refine @Zbg _ _ ?_ ?_
 ·intro n_ n_ n_ n_
  exact rfl
 ·intro b B ih w A a h
  have h2 : HoldF w (-1) (Zaf ((A ++ [a]) ++ b :: B)) := by
   refine rE (ZqN _ _ _) ?_; exact h
  refine rE ZqP ?_; rewrite [Znt]; refine rE (ZiU h) (rE ((Zgo h).2.2) ?_)
  refine rE (ih h2) ?_
  simp [NzP.hd]
noncomputable def Zpz (xs : List Str) : Nd -> List Nat
 | .el t (some c) => if t.str ∈ xs then [c] else []
 | _ => []
theorem Zeg {w : PW} {xs : List Str} : ∀ L : List (Nat × Nd), (∀ p ∈ L, w.nd[p.1]? = some p.2 /\ (p.2.name ∉ xs \/ ∃ t c, p.2 = .el t (some c) /\ c < 128)) -> ZaB w xs (L.map (·.1)) = some (L.flatMap fun p => Zpz xs p.2) := by
 refine @Zbg _ _ ?_ ?_
 ·intro n_
  exact rfl
 ·intro p L ih h
  refine o20 (h p Zqz) fun h1 h2 => ?_
  refine rE ZqP ?_; rewrite [ZaB]; refine rE h1 ?_
  dsimp only [Zqy]
  refine rE (ih fun q hq => h q (Zqw _ hq)) ?_; refine rE Zrc ?_
  dsimp only [Zqy]
  obtain ⟨n, d⟩ := p
  dsimp only at h2 ⊢
  by_cases hx : d.name ∈ xs
  ·refine rE (if_pos hx) ?_
   rcases h2 with h2 | ⟨t, c, rfl, hc⟩
   ·exact absurd hx h2
   ·dsimp only
    refine rE (if_pos hc) ?_
    refine (?_ : _ = some ((if t.str ∈ xs then [c] else []) ++ _))
    rw [if_pos (show t.str ∈ xs from hx)]; rfl
  ·refine rE (if_neg hx) ?_
   have : Zpz xs d = [] := by
    induction d with
    | el t c => induction c with
     | none => rfl
     | some c => exact if_neg hx
    | doc => rfl
    | tx => rfl
   refine rE this ?_; rfl
theorem Zoo {w : PW} {xs : List Str} : ∀ B : List Fr, (∀ f ∈ B, w.nd[f.n]? = some f.d /\ (f.d.name ∈ xs ↔ Zcl f.d = true)) -> Zjt w xs (B.map Fr.n) = some (fmt B) := by
 refine @Zbg _ _ ?_ ?_
 ·intro n_
  exact rfl
 ·intro f B ih h
  refine o20 (h f Zqz) fun h1 h2 => ?_
  refine rE ZqP ?_; rewrite [Zjt]; refine rE h1 ?_
  dsimp only [Zqy]
  refine rE (ih fun q hq => h q (Zqw _ hq)) ?_; refine rE (Zar _ _) ?_
  dsimp only [Zqy]
  by_cases hx : f.d.name ∈ xs
  ·refine rE (if_pos hx) (rE (if_pos (h2.mp hx)) ?_); rfl
  ·refine rE (if_neg hx) ?_; rw [if_neg fun q => hx (h2.mpr q)]; rfl
theorem ZgD {w : PW} {xs : List Str} : ∀ (l : List Nat) (fs : List (Tag × Nat)), l.map (fun x => w.nd[x]?) = fs.map (fun p => some (Nd.el p.1 (some p.2))) -> (∀ p ∈ fs, p.1.str ∈ xs /\ p.2 < 128) -> ZaB w xs l = some (fs.map (·.2))
 | [], [], _, _ => rfl
 | [], _ :: _, e, _ => nomatch e
 | _ :: _, [], e, _ => nomatch e
 | n :: l, p :: fs, e, h => by
  rw [ZqP, ZqP, Zrm] at e
  refine o20 e fun e1 e2 => ?_; clear e
  refine o20 (h p Zqz) fun h1 h2 => ?_
  rewrite [ZaB]; refine rE e1 ?_
  dsimp only [Zqy]
  refine rE (ZgD l fs e2 fun q hq => h q (Zqw _ hq)) ?_
  dsimp only [Zqy]
  rewrite [if_pos (show (Nd.el p.1 (some p.2)).name ∈ xs from h1)]; refine rE (if_pos h2) ?_; rfl
theorem mem_fN {t : Tag} : t.str ∈ fN ↔ t.isF = true := by
 have : decide (t.str ∈ fN) = t.isF := by induction t <;> kernel_rfl
 refine rS this ?_; rw [decide_eq_true_iff]
theorem mem_bN {t : Tag} : t.str ∈ bN ↔ t.isB = true := by
 have : decide (t.str ∈ bN) = t.isB := by induction t <;> kernel_rfl
 refine rS this ?_; rw [decide_eq_true_iff]
theorem ZmX {t : Tag} (h : t.isB = true \/ t.isF = true \/ t = .span) : t.str ∈ allN := by
 have : decide (t.str ∈ allN) = true := by cases t <;> first | (rcases h with h | h | h <;> cases h; done) | kernel_rfl
 exact of_decide_eq_true this
theorem ZpT (d : Nd) : Zpz bN d = NzP.bl d := by
 induction d with
 | el t c => induction c with
  | none => rfl
  | some c =>
   refine (?_ : (if t.str ∈ bN then [c] else []) = if t.isB = true then [c] else [])
   by_cases h : t.isB = true
   ·refine rE (if_pos h) ?_; exact rE (if_pos (mem_bN.mpr h)) rfl
   ·refine rE (if_neg h) ?_; rw [if_neg fun q => h (mem_bN.mp q)]
 | doc => rfl
 | tx => rfl
theorem Zl0 (d : Nd) : Zpz plainN d = ((NzP.lt d).filter plain).map (·.1) := by
 induction d with
 | el t c => induction c with
  | none => rfl
  | some c =>
   refine (?_ : (if t.str ∈ plainN then [c] else []) = ([(c, t)].filter plain).map (·.1))
   by_cases h : t.str ∈ plainN
   ·refine rE (if_pos h) ?_; rw [List.filter_cons_of_pos (show plain (c, t) = true from decide_eq_true h)]; rfl
   ·refine rE (if_neg h) ?_; rw [List.filter_cons_of_neg (show ¬ plain (c, t) = true from fun q => h (of_decide_eq_true q))]; rfl
 | doc => rfl
 | tx => rfl
theorem Zop {d : Nd} (h : ∀ p ∈ NzP.lt d, p.2.isB = true \/ p.2.isF = true \/ p.2 = .span) : Zpz allN d = (NzP.lt d).map (·.1) := by
 induction d with
 | el t c => induction c with
  | none => rfl
  | some c => exact if_pos (ZmX (h (c, t) (ZqI.mpr rfl)))
 | doc => rfl
 | tx => rfl
theorem ZmT {w : PW} : ∀ (F : Fo) {p : Int}, HoldF w p F -> ∀ q ∈ F.flat, w.nd[q.1]? = some q.2 := by
 refine @foR _ ?_ ?_
 ·intro n_ n_ q hq
  exact noH hq
 ·intro n d s k r ihk ihr p h1_ q hq
  refine o60 h1_ fun h1 n_ n_ n_ h5 h6 => ?_; clear h1_
  rw [Fo.flat] at hq
  rcases ZqD.mp hq with rfl | hq
  ·exact h1
  ·rcases ZqJ.mp hq with hq | hq
   ·exact ihk h5 q hq
   ·exact ihr h6 q hq
theorem Zou : ∀ (F : Fo) {m : Nat}, DF m F -> 3 <= m -> ∀ q ∈ F.flat, q.2 = .tx \/ ∃ t c, q.2 = .el t (some c) := by
 refine @foR _ ?_ ?_
 ·intro n_ n_ n_ q hq
  exact noH hq
 ·intro n d s k r ihk ihr m h1_ hm q hq
  refine o30 h1_ fun h1 h2 h3 => ?_; clear h1_
  rw [Fo.flat] at hq
  rcases ZqD.mp hq with rfl | hq
  ·exact h1.2 hm
  ·rcases ZqJ.mp hq with hq | hq
   ·exact ihk h2 (by omega) q hq
   ·exact ihr h3 hm q hq
theorem Zfw {l : List Nat} (h : l.Pairwise (· < ·)) : Za3 l = l := (ZcR (.refl _) (h.imp fun q => Zrs q)).symm
theorem ZkA {tags : List (Nat × Tag)} (h : (tags.map (·.1)).Pairwise (· < ·)) : Zf7 tags = (tags.filter plain).map (·.1) := by
 unfold Zf7
 refine rE (Zfw h) (rE ZsB ?_)
 congr 1
 refine Zsm fun p hp => ?_
 refine (?_ : (match tags.lookup p.1 with | some t => decide (t.str ∈ plainN) | none => false) = decide (p.2.str ∈ plainN))
 exact rE (ZfK h hp) rfl
theorem ZiV {s : LS} {Z : List Fr} (h : Inv s Z [] 16 17) : ((Zhr s.w s.tags 40 2 [] [] [] []).bind fun q => Zh1 1 2 s q) = some true := by
 refine o42 h.st.std.ex fun kb Z3 y2 hz => ?_; subst y2
 have hLIM : LIM = 1000000 := rfl
 have T := h.st.tr
 have H := T.hold
 have ndn := T.nodup
 refine o60 H fun n_ n_ n_ c0 H1 n_ => ?_; clear H
 refine o60 H1 fun n_ n_ n_ c1 H2 n_ => ?_; clear H1
 refine o60 H2 fun n_ n_ n_ c2 H3 n_ => ?_; clear H2
 have hG : HoldF s.w (2 : Nat) (kb.app (Zaf Z3)) := H3
 generalize eG : kb.app (Zaf Z3) = G at hG c2
 have hD : DF 3 G := by
  refine o70 h.df fun n_ n_ n_ n_ n_ d1 d2 => ?_
  refine rS eG ?_
  exact (Zgl _ _).mpr ⟨d1, (Zg9 _).mpr d2⟩
 have hT : TF false G := by
  refine rS eG ?_
  exact ZiA (h.tf ⟨2, .el .body none, kb⟩ (by simp)).2 fun f hf => h.tf f (by simp [hf])
 have hids : G.ids.Nodup := by
  have : (Zaf (⟨0, .doc, .nil⟩ :: ⟨1, .el .html none, .nil⟩ :: ⟨2, .el .body none, kb⟩ :: Z3)).ids = 0 :: 1 :: 2 :: G.ids := by
   refine rE (Zag _ _) (rE (Zag _ _) (rE (Zag _ _) (rE Zft (rE (Zq2 _) (rE (Zq2 _) (rS eG ?_)))))); exact rE (Zcx _ _) rfl
  rw [this] at ndn
  exact (ZqH.mp (ZqH.mp (ZqH.mp ndn).2).2).2
 have hlt : lts G = ltZ (⟨0, .doc, .nil⟩ :: ⟨1, .el .html none, .nil⟩ :: ⟨2, .el .body none, kb⟩ :: Z3) := by
  refine rE (ZaF _ _) (rE (ZaF _ _) (rE (ZaF _ _) (rS eG (rE (ZfJ _ _) ?_)))); rfl
 have hrd : ZaM [] [] G = s.told := by
  refine rS h.read (rS eG (rE (ZbM _ _) (rE (ZdC _) ?_)))
  rfl
 have tgs : ∀ q ∈ lts G, q ∈ s.tags := fun q hq => h.tg q (hlt ▸ hq)
 have low : ∀ q ∈ s.tags, q.1 < 128 := fun q hq => by have := (h.low q hq).2; omega
 have hil := hG.small hids
 have hnd := h.knd
 have hrl := h.ktt
 have read : Zhr s.w s.tags 40 2 [] [] [] [] = some (true, G.ids, s.told) := by
  show (s.w.ch[2]?).bind _ = _
  refine rE c2 ?_
  have := Zn8 (w := s.w) (tags := s.tags) G (p := 2) (ahead := false) (m := 3) (f := 39) (bs := []) (fs := []) (seen := []) (out := []) hG hT hD (ZqQ _) (by simp) (by simp) (by omega) (by simpa using hids) (fun q hq => ⟨ZfK h.up (tgs q hq), low q (tgs q hq)⟩) (by simp; omega) (by refine rE hrd ?_; simp; omega)
  rw [Zq2, Zq2, hrd] at this
  exact this
 refine rE read ?_
 dsimp only [Zqy]
 have okT : okL (s.tags.map (·.1)) = true := Zq4.mpr fun c hc => by
  refine o31 (ZqO.mp hc) fun p hp y2 => ?_; subst y2
  exact decide_eq_true (low p hp)
 have four := h.four
 have five := h.five
 have kt := h.kt
 unfold Zh1
 rw [if_pos ⟨rfl, c0, c1, rfl, h.okt, by omega, okT, h.letF (by omega), h.letB (by omega), by refine (?_ : G.ids.length <= _); omega, by omega, by omega, by omega⟩]
 have flat : ∀ p ∈ G.flat, s.w.nd[p.1]? = some p.2 /\ (p.2 = .tx \/ ∃ t c, p.2 = .el t (some c) /\ c < 128) := fun p hp => by
  refine ⟨ZmT G hG p hp, ?_⟩
  rcases Zou G hD (ZqQ _) p hp with q | ⟨t, c, q⟩
  ·exact .inl q
  ·refine .inr ⟨t, c, q, low (c, t) (tgs _ (Zr2.mpr ⟨p, hp, ?_⟩))⟩
   refine rE q ?_; exact ZqI.mpr rfl
 have la : ZaB s.w allN G.ids = some ((lts G).map (·.1)) := by
  refine rE (show G.ids = G.flat.map (·.1) from rfl) ?_; rw [Zeg G.flat fun p hp => ⟨(flat p hp).1, (flat p hp).2.imp (fun q => by refine rE q ?_; exact of_decide_eq_false (by kernel_rfl)) id⟩]
  unfold lts
  refine rE ZsU ?_
  congr 1
  exact Zhd fun p hp => Zop fun q hq => h.kn q (tgs q (Zr2.mpr ⟨p, hp, hq⟩))
 have lp : ZaB s.w plainN G.ids = some (Zf7 s.tags) := by
  refine rE (show G.ids = G.flat.map (·.1) from rfl) ?_; rw [Zeg G.flat fun p hp => ⟨(flat p hp).1, (flat p hp).2.imp (fun q => by refine rE q ?_; exact of_decide_eq_false (by kernel_rfl)) id⟩]
  refine rE (ZkA h.up) (rS h.pl (rS hlt ?_))
  unfold lts
  refine rE List.filter_flatMap (rE ZsU ?_)
  congr 1
  exact Zhd fun p hp => Zl0 p.2
 have est : s.w.st = (⟨1, .el .html none, .nil⟩ :: ⟨2, .el .body none, kb⟩ :: Z3 : List Fr).map Fr.n := h.st.st
 have frs : ∀ f ∈ (⟨1, .el .html none, .nil⟩ :: ⟨2, .el .body none, kb⟩ :: Z3 : List Fr), s.w.nd[f.n]? = some f.d := fun f hf => T.nd' (Zqw _ hf)
 have ff : Zjt s.w fN s.w.st = some s.w.fm := by
  rw [est, Zoo _ fun f hf => ⟨frs f hf, ?_⟩, h.st.fm, ZqR]
  ·rfl
  ·rcases ZqD.mp hf with rfl | hf
   ·exact mem_fN (t := .html)
   ·rcases ZqD.mp hf with rfl | hf
    ·exact mem_fN (t := .body)
    ·refine o42 (Zc2 (hz f hf)) fun t c e n_ => ?_
     refine rE e ?_; exact mem_fN
 have lf : ZaB s.w fN s.w.fm = some (s.fs.map (·.2)) := ZgD _ _ h.st.fd fun p hp => ⟨mem_fN.mpr (h.st.ff p hp), low _ (h.fl p hp)⟩
 have lb : ZaB s.w bN s.w.st = some (s.bs.map (·.2)) := by
  have := Zeg (w := s.w) (xs := bN) ((⟨1, .el .html none, .nil⟩ :: ⟨2, .el .body none, kb⟩ :: Z3 : List Fr).map fun f => (f.n, f.d)) fun p hp => by
   refine o31 (ZqO.mp hp) fun f hf y2 => ?_; subst y2
   refine ⟨frs f hf, ?_⟩
   rcases ZqD.mp hf with rfl | hf
   ·exact .inl fun q => nomatch (mem_bN (t := .html)).mp q
   ·rcases ZqD.mp hf with rfl | hf
    ·exact .inl fun q => nomatch (mem_bN (t := .body)).mp q
    ·refine o42 (Zc2 (hz f hf)) fun t c e n_ => ?_
     refine .inr ⟨t, c, e, low (c, t) (h.tg _ ?_)⟩
     refine rS hlt (rS eG (rE (ZfJ _ _) ?_))
     refine Zqv _ ?_
     refine o32 (Zbo hf) fun A B y2 => ?_; subst y2
     refine (?_ : _ ∈ ltZ _)
     refine rE (Zb2 _ _) (rE (ZaF _ _) (rE e ?_))
     exact Zqv _ (Zqx _ (ZqI.mpr rfl))
  rw [ZqV] at this
  refine rE est ?_
  refine this.trans (congrArg some ?_)
  refine rS (ZnK h.bs h.bt) (rE (Zsy _ _ _) ?_)
  refine (?_ : List.flatMap _ _ = blZ (⟨1, .el .html none, .nil⟩ :: ⟨2, .el .body none, kb⟩ :: Z3))
  unfold blZ
  exact Zhd fun f n_ => ZpT f.d
 have hway : Znt s.w 0 s.w.st = true := by
  refine rE est ?_
  exact way _ (A := []) (a := ⟨0, .doc, .nil⟩) T.hold
 dsimp only
 refine rE la (rE lp (rE ff (rE lf (rE lb ?_))))
 dsimp only [Zqy]
 rw [hway, hlt, h.ded, Zfw h.up, est]
 simp
theorem law_true (d : Nat -> Nat) : ZpY d = some true := by
 unfold ZpY
 refine rE ZnW ?_
 dsimp only [Zqy]
 refine o53 (ZkX d 16 (k := 0) rfl Zny) fun s1 Z1 pop1 e1 h1 => ?_
 refine rE e1 ?_
 dsimp only
 refine o52 (ZjM (c := 81) h1 (by omega) (by omega) (by omega)) fun s2 Z2 e2 h2 n_ => ?_
 refine rE e2 ?_
 exact ZiV h2
end NzP
open PySem PySem.W PyProof.Rows in
theorem PySem.Challenge.cw_nz0100_01_holds : PySem.Challenge.rw_nz0100_01.Holds := by
 refine nzhd ?_
 k_go0
 all_goals try k_fold
 rename_i w s0 s₁ mg mb G Y fa o pm doc ho hg KX X V GL T B TE TW a1 a2 M a3 a4 hcd ns hs hlay0 hLay hr1 hl2 as5 as4 sa vs as1 hL ra w1 r0 hI hr hc1 hc2 K0 hD h₁ tk1 F cell right N0 X0
 have hlen : ns.length <= 63 := by omega
 refine Nz.law_top KX T hL hI w1 hlen (by rfl) (by rfl) F (by rfl) N0 right (NzP.law_true _) fun fl h' tk hv keep => ?_
 refine (?_ : GoodW _ _ _ _ _ (.ok (.ret (Nz.retV fl))) _)
 rw [hv]
 exact ⟨.inl ⟨.bool true, .bool true, [], rfl, fun n_ => rfl, .bool true, (by first | kernel_rfl | simp [PySem.Challenge.rw_nz0100_01]), fun n_ => ⟨.nil, nofun⟩⟩, keep, rfl, hg⟩
