import PyProof.Rows.All
import Wide.All
import OpenK.AllK
import Wide.FinOn
import PySem.Challenge.RW_nt0596_01
open PySem PySem.W PyProof.Rows
set_option Elab.async false
set_option linter.all false
set_option maxRecDepth 100000
namespace Mine
theorem h0.tw2366935224961629442 : True := trivial
theorem h0.tw6902899726905666108 : True := trivial
theorem h0.tw11071046176416253267 : True := trivial
theorem h0.tw4623982270133230054 : True := trivial
theorem h0.tw2594161231581855272 : True := trivial
theorem h0.tw4447069807251323460 : True := trivial
theorem h0.tw10580518429992404841 : True := trivial
theorem h0.tw4901336675803448881 : True := trivial
theorem h0.tw6838321173011435475 : True := trivial
theorem h0.tw2928411720476997921 : True := trivial
theorem h0.tw8187913945257921495 : True := trivial
theorem h0.tw9815895068137521125 : True := trivial
theorem h0.tw14896409721537676024 : True := trivial
theorem h0.tw9590741222875631774 : True := trivial
theorem h0.tw15459142292842725936 : True := trivial
theorem h0.tw4989511927947285793 : True := trivial
theorem h0.tw17469380542069495786 : True := trivial
theorem h0.tw8359033805367166379 : True := trivial
theorem h0.tw17644042637451415569 : True := trivial
theorem h0.tw2777516317361345367 : True := trivial
theorem h0.tw13283840724170915085 : True := trivial
theorem h0.tw5616165503567518440 : True := trivial
theorem h0.tw2840677702148963772 : True := trivial
theorem h0.tw10632154266173169443 : True := trivial
theorem h0.tw11946178271998300661 : True := trivial
theorem h0.tw7469403013132054406 : True := trivial
theorem h0.tw7231214609753240796 : True := trivial
theorem h0.tw12798934155195380403 : True := trivial
theorem h0.tw15273770383296423315 : True := trivial
theorem h0.tw12736809808497669059 : True := trivial
theorem h0.tw1188892131542852809 : True := trivial
theorem h0.tw516621911986041150 : True := trivial
theorem h0.tw347199028864547782 : True := trivial
theorem h0.tw5526453943723232899 : True := trivial
theorem h0.tw17797538786548950195 : True := trivial
theorem h0.tw9177222209460309205 : True := trivial
theorem h0.tw11834499492537043293 : True := trivial
theorem h0.tw8641510719432489668 : True := trivial
theorem h0.tw16354368192709152269 : True := trivial
theorem h0.tw18166394773367877903 : True := trivial
theorem h0.tw7265546162459185295 : True := trivial
theorem h0.tw16342209635007083457 : True := trivial
theorem h0.tw8014111272054603128 : True := trivial
theorem h0.tw13525578800236650194 : True := trivial
theorem h0.tw9560714145211891185 : True := trivial
theorem h0.tw11776443800099568279 : True := trivial
theorem h0.tw9728326532861356907 : True := trivial
theorem h0.tw7558379923973224192 : True := trivial
theorem h0.tw17612549788027229062 : True := trivial
theorem h0.tw13406136778054030525 : True := trivial
theorem h0.tw11320821149192881102 : True := trivial
theorem h0.tw2646819634581056407 : True := trivial
theorem h0.tw12055135632636490865 : True := trivial
theorem h0.tw9257273931457151013 : True := trivial
theorem h0.tw3155062883950879829 : True := trivial
theorem h0.tw14719631123845806015 : True := trivial
theorem h0.tw7480202386591885793 : True := trivial
theorem h0.tw17727772164012788889 : True := trivial
theorem h0.tw10134380526629438885 : True := trivial
theorem h0.tw17020515755695874886 : True := trivial
theorem h0.tw11751182580749157501 : True := trivial
theorem h0.tw13888033998857146744 : True := trivial
theorem h0.tw16120852249111291926 : True := trivial
theorem h0.tw4267412274519072954 : True := trivial
theorem h0.tw1026102559349117412 : True := trivial
theorem h0.tw14988737796021823748 : True := trivial
theorem h0.tw4983561530433778882 : True := trivial
theorem h0.tw8002864666333376985 : True := trivial
theorem h0.tw11726561858443960359 : True := trivial
theorem h0.tw7554571642868920442 : True := trivial
theorem h0.tw6338962096104415412 : True := trivial
theorem h0.tw12212024663201924829 : True := trivial
theorem h0.tw6453413489625269901 : True := trivial
theorem h0.tw567177025200476436 : True := trivial
theorem h0.tw11328254188656229198 : True := trivial
theorem h0.tw1208095855235968688 : True := trivial
theorem h0.tw15372698890590699103 : True := trivial
theorem h0.tw12844488972014321520 : True := trivial
theorem h0.tw14436878610621563730 : True := trivial
theorem h0.tw12603569780659806318 : True := trivial
theorem h0.tw12442676465678424382 : True := trivial
theorem h0.tw25052378123239191 : True := trivial
theorem h0.tw3914410902411777622 : True := trivial
theorem h0.tw10434871610932973227 : True := trivial
theorem h0.tw2480271536287283598 : True := trivial
theorem h0.tw10965634071035576658 : True := trivial
theorem h0.tw17179449812230556917 : True := trivial
theorem h0.tw17267586775167970483 : True := trivial
theorem h0.tw3054838087832536348 : True := trivial
theorem h0.tw13174085689672465585 : True := trivial
theorem h0.tw3112274479899902563 : True := trivial
theorem h0.tw14755131137401554638 : True := trivial
theorem h0.tw2845677305891486147 : True := trivial
theorem h0.tw3922364397615804898 : True := trivial
theorem h0.tw16019657911929878948 : True := trivial
theorem h0.tw3976775774053727736 : True := trivial
theorem h0.tw15586721077045167844 : True := trivial
theorem h0.tw17660258873592258798 : True := trivial
theorem h0.tw15961621921749540523 : True := trivial
theorem h0.tw17983578503797544568 : True := trivial
theorem h0.tw8374213171170128259 : True := trivial
theorem h0.tw14390458977646933828 : True := trivial
theorem h0.tw8278569355144872335 : True := trivial
theorem h0.tw16474551367353578956 : True := trivial
theorem h0.tw9544153919160730355 : True := trivial
theorem h0.tw5370657637646536305 : True := trivial
theorem h0.tw10962853867959454505 : True := trivial
theorem h0.tw11156156193053338651 : True := trivial
theorem h0.tw6557711320453919821 : True := trivial
theorem h0.tw11880079704871210817 : True := trivial
theorem h0.tw6059935515576284218 : True := trivial
theorem h0.tw7947282165923294660 : True := trivial
theorem h0.tw8395058777512956496 : True := trivial
theorem h0.tw10439629082592381469 : True := trivial
theorem h0.tw9960622781861819240 : True := trivial
theorem h0.tw8607041788140264315 : True := trivial
theorem h0.tw11944189544237638714 : True := trivial
theorem h0.tw14506297956194944699 : True := trivial
theorem h0.tw2105706996124039959 : True := trivial
theorem h0.tw9379609548582255357 : True := trivial
theorem h0.tw17298941977590465514 : True := trivial
theorem h0.tw11027897056979390844 : True := trivial
theorem h0.tw986198316838521039 : True := trivial
theorem h0.tw14988566313389725209 : True := trivial
theorem h0.tw15179566611411877124 : True := trivial
theorem h0.tw14542117356804866864 : True := trivial
theorem h0.tw3579440117514247243 : True := trivial
theorem h0.tw15348358148177970164 : True := trivial
theorem h0.tw12375237897028079591 : True := trivial
theorem h0.tw4967582900935672457 : True := trivial
theorem h0.tw4279968243314990804 : True := trivial
theorem h0.tw11237341634421071422 : True := trivial
theorem h0.tw5020451595342780341 : True := trivial
theorem h0.tw259847239198454599 : True := trivial
theorem h0.tw17381323192542076295 : True := trivial
theorem h0.tw14151065212596873788 : True := trivial
theorem h0.tw16510772549855244365 : True := trivial
theorem h0.tw3283794507980794194 : True := trivial
theorem h0.tw6055295664834943761 : True := trivial
theorem h0.tw10128879752551204940 : True := trivial
theorem h0.tw8850369151664550709 : True := trivial
theorem h0.tw6535614214831943722 : True := trivial
theorem h0.tw7963456635684166951 : True := trivial
theorem h0.tw10844939981614286264 : True := trivial
theorem h0.tw11561248822825265415 : True := trivial
theorem h0.tw11379077882635652687 : True := trivial
theorem h0.tw12215808092320044325 : True := trivial
theorem h0.tw6961226954016877254 : True := trivial
theorem h0.tw5163469197465677204 : True := trivial
theorem h0.tw12190348874917586967 : True := trivial
theorem h0.tw10119472602172212655 : True := trivial
theorem h0.tw10281256548511197775 : True := trivial
theorem h0.tw11383741484249373746 : True := trivial
theorem h0.tw4595195206640900026 : True := trivial
theorem h0.tw14344417855754095137 : True := trivial
theorem h0.tw17798662673846769023 : True := trivial
theorem h0.tw6723776367554735689 : True := trivial
theorem h0.tw8179261026223156886 : True := trivial
theorem h0.tw5950045311063005598 : True := trivial
theorem h0.tw10656554359832518861 : True := trivial
theorem h0.tw9318119886681605803 : True := trivial
theorem h0.tw11557201728913098701 : True := trivial
theorem h0.tw1344623626192521210 : True := trivial
theorem h0.tw17650389268097828633 : True := trivial
theorem h0.tw3225427463025686046 : True := trivial
theorem h0.tw14036087349896685714 : True := trivial
theorem h0.tw15653835859030992291 : True := trivial
theorem h0.tw14684463680145934037 : True := trivial
theorem h0.tw14249523853479548464 : True := trivial
theorem h0.tw1590585917951809750 : True := trivial
theorem h0.tw12868830970419679022 : True := trivial
theorem h0.tw6838538786266254422 : True := trivial
theorem h0.tw12716486199993907529 : True := trivial
theorem h0.tw3911460813702264686 : True := trivial
theorem h0.tw11279051134153851184 : True := trivial
theorem h0.tw8025754453300304438 : True := trivial
theorem h0.tw12077810693856093080 : True := trivial
theorem h0.tw5095109543398993034 : True := trivial
theorem h0.tw9118801163071168397 : True := trivial
theorem h0.tw17159167289931748480 : True := trivial
theorem h0.tw14437580271843073067 : True := trivial
theorem h0.tw2980852105064871180 : True := trivial
theorem h0.tw14983694259876592852 : True := trivial
theorem h0.tw9242129905532361598 : True := trivial
theorem h0.tw3022704754037198753 : True := trivial
theorem h0.tw10875056674113774955 : True := trivial
theorem h0.tw9492828882142629918 : True := trivial
theorem h0.tw1702602245502786946 : True := trivial
theorem h0.tw4653268549698064191 : True := trivial
theorem h0.tw9860777295895486153 : True := trivial
theorem h0.tw2617617001648382052 : True := trivial
theorem h0.tw16067910495121874047 : True := trivial
theorem h0.tw3504213483016479671 : True := trivial
theorem h0.tw2177048924834719834 : True := trivial
theorem h0.tw2843341132791932032 : True := trivial
theorem h0.tw13643287580020656241 : True := trivial
theorem h0.tw16317100390893273581 : True := trivial
theorem h0.tw2255790964480663336 : True := trivial
theorem h0.tw1128666236151152830 : True := trivial
theorem h0.tw15657344652490148328 : True := trivial
theorem h0.tw3820884695609932291 : True := trivial
theorem h0.tw16537363308205623428 : True := trivial
theorem h0.tw14890587444832257506 : True := trivial
theorem h0.tw2612460510383841583 : True := trivial
theorem h0.tw16474007507153162040 : True := trivial
theorem h0.tw460443236203682826 : True := trivial
theorem h0.tw6660283794314180987 : True := trivial
theorem h0.tw12512260832148694339 : True := trivial
theorem h0.tw15066740580278992468 : True := trivial
theorem h0.tw16718556204062534234 : True := trivial
theorem h0.tw10930868481771794492 : True := trivial
theorem h0.tw12186122002281744631 : True := trivial
theorem h0.tw4091625341231492703 : True := trivial
theorem h0.tw15045728515625772237 : True := trivial
theorem h0.tw2927242035248121231 : True := trivial
theorem h0.tw10382443961695244489 : True := trivial
theorem h0.tw3707493426992295555 : True := trivial
theorem h0.tw3889341884432691989 : True := trivial
theorem h0.tw12005561951995895275 : True := trivial
theorem h0.tw11292619699618662546 : True := trivial
theorem h0.tw15436326035553037848 : True := trivial
theorem h0.tw15511655261967260031 : True := trivial
theorem h0.tw10525995108388078686 : True := trivial
theorem h0.tw13588401598096891569 : True := trivial
theorem h0.tw9343939105921984331 : True := trivial
theorem h0.tw1270287161788596174 : True := trivial
theorem h0.tw10039722105886331212 : True := trivial
theorem h0.tw7556734259654120406 : True := trivial
theorem h0.tw11139410820804778098 : True := trivial
theorem h0.tw10371228340724490648 : True := trivial
theorem h0.tw11438360540616046117 : True := trivial
theorem h0.tw6535458104355512843 : True := trivial
theorem h0.tw15230880689659202512 : True := trivial
theorem h0.tw13306268735910616298 : True := trivial
theorem h0.tw8433256737139960426 : True := trivial
theorem h0.tw17969006127852211366 : True := trivial
theorem h0.tw5668707088059778417 : True := trivial
theorem h0.tw2188996903394556439 : True := trivial
theorem h0.tw13428721754777370371 : True := trivial
theorem h0.tw17633186797664359727 : True := trivial
theorem walk_law.tw6902899726905666108 : True := trivial
theorem walk_law.tw10906988299020102209 : True := trivial
theorem walk_law.tw2612427676947278841 : True := trivial
theorem walk_law.tw14103281598488332448 : True := trivial
theorem walk_law.tw12472421390071485769 : True := trivial
theorem walk_law.tw8560302917290421272 : True := trivial
theorem walk_law.tw5319466055273540764 : True := trivial
theorem walk_law.tw14309448474799740076 : True := trivial
theorem walk_law.tw12620833878396295317 : True := trivial
theorem walk_law.tw3839307604328629324 : True := trivial
theorem walk_law.tw12216408942765040705 : True := trivial
theorem walk_law.tw4008803568178444452 : True := trivial
theorem walk_law.tw14553804626916925588 : True := trivial
theorem walk_law.tw8901409915246145237 : True := trivial
theorem walk_law.tw11230394301872826659 : True := trivial
theorem walk_law.tw7191010998310180224 : True := trivial
theorem walk_law.tw16876811177272029741 : True := trivial
theorem walk_law.tw14579104114973289770 : True := trivial
theorem walk_law.tw6763886429294503187 : True := trivial
theorem walk_law.tw18355741272015724274 : True := trivial
theorem walk_law.tw8489265709531627862 : True := trivial
theorem walk_law.tw16382006357605202330 : True := trivial
theorem walk_law.tw13665746934475472130 : True := trivial
theorem walk_law.tw7982300188479035145 : True := trivial
theorem walk_law.tw6381852737722708181 : True := trivial
theorem walk_law.tw7833136204175092687 : True := trivial
theorem walk_law.tw7453569404669097989 : True := trivial
theorem walk_law.tw10273827252173297349 : True := trivial
theorem walk_law.tw1079415458969095635 : True := trivial
theorem walk_law.tw4426389107103152668 : True := trivial
theorem walk_law.tw11837347256410956524 : True := trivial
theorem walk_law.tw6663439992002338059 : True := trivial
theorem walk_law.tw11099106371854998881 : True := trivial
theorem walk_law.tw16549432102678483699 : True := trivial
theorem walk_law.tw3163228796234303356 : True := trivial
theorem walk_law.tw12057884118004072817 : True := trivial
theorem walk_law.tw5716460354856474818 : True := trivial
theorem walk_law.tw1994409793957948991 : True := trivial
theorem walk_law.tw13102601786550832958 : True := trivial
theorem walk_law.tw15671446241389665035 : True := trivial
theorem walk_law.tw6140858930228793576 : True := trivial
theorem walk_law.tw9147022950762801685 : True := trivial
theorem walk_law.tw10053280975197070116 : True := trivial
theorem walk_law.tw8130284621646191763 : True := trivial
theorem walk_law.tw6916582731632847202 : True := trivial
theorem walk_law.tw7881914431137416270 : True := trivial
theorem walk_law.tw2418035846621187801 : True := trivial
theorem walk_law.tw13789045055331362381 : True := trivial
theorem walk_law.tw72803912998593218 : True := trivial
theorem walk_law.tw16847305398028843143 : True := trivial
theorem walk_law.tw13905860019908853236 : True := trivial
theorem walk_law.tw17703402453976927023 : True := trivial
theorem walk_law.tw6775989645621266023 : True := trivial
theorem walk_law.tw7140777341790531383 : True := trivial
theorem walk_law.tw12694327370667221132 : True := trivial
theorem walk_law.tw17821931590910629808 : True := trivial
theorem walk_law.tw91439932263354205 : True := trivial
theorem walk_law.tw10815043144277112869 : True := trivial
theorem walk_law.tw8820850700643494619 : True := trivial
theorem walk_law.tw8527070211302294806 : True := trivial
theorem walk_law.tw8003497282545945568 : True := trivial
theorem walk_law.tw10480377570627344796 : True := trivial
theorem walk_law.tw2406723246682303403 : True := trivial
theorem walk_law.tw8579063013945523296 : True := trivial
theorem walk_law.tw7617896569535344424 : True := trivial
theorem walk_law.tw6852478247365909851 : True := trivial
theorem walk_law.tw14768519268752199106 : True := trivial
theorem walk_law.tw3335930742244542045 : True := trivial
theorem walk_law.tw14205417587204654785 : True := trivial
theorem walk_law.tw3070868652160974048 : True := trivial
theorem walk_law.tw14571962002143654708 : True := trivial
theorem walk_law.tw1613936408564881350 : True := trivial
theorem walk_law.tw13494399921274051117 : True := trivial
theorem walk_law.tw15342977323969745556 : True := trivial
theorem walk_law.tw6550614281217399313 : True := trivial
theorem walk_law.tw9648758762505060804 : True := trivial
theorem walk_law.tw10300711749306949184 : True := trivial
theorem walk_law.tw11080254719020984130 : True := trivial
theorem walk_law.tw10128808166843659478 : True := trivial
theorem walk_law.tw17501646351122715404 : True := trivial
theorem walk_law.tw6885544495711459415 : True := trivial
theorem walk_law.tw2542489500086921744 : True := trivial
theorem walk_law.tw3171996590867367219 : True := trivial
theorem walk_law.tw8430702188206589986 : True := trivial
theorem walk_law.tw987312816354474212 : True := trivial
theorem walk_law.tw15991964995831272185 : True := trivial
theorem walk_law.tw18415578498103662482 : True := trivial
theorem walk_law.tw17213467528103116700 : True := trivial
theorem walk_law.tw8478016234103590552 : True := trivial
theorem walk_law.tw16004612017405143845 : True := trivial
theorem walk_law.tw15246819283182285074 : True := trivial
theorem walk_law.tw11265268180982272837 : True := trivial
theorem walk_law.tw210569976114481985 : True := trivial
theorem walk_law.tw16693672996301458954 : True := trivial
theorem walk_law.tw8031780012873486374 : True := trivial
theorem walk_law.tw5393152948661335676 : True := trivial
theorem walk_law.tw1056568733114255465 : True := trivial
theorem walk_law.tw15190961435235979356 : True := trivial
theorem walk_law.tw6617206020052281528 : True := trivial
theorem walk_law.tw697894826319145539 : True := trivial
theorem walk_law.tw10478343439651415649 : True := trivial
theorem walk_law.tw10598442422716490095 : True := trivial
theorem walk_law.tw11418702390105251674 : True := trivial
theorem walk_law.tw12668336240819210008 : True := trivial
theorem walk_law.tw2229352912196520093 : True := trivial
theorem walk_law.tw12910470762585395083 : True := trivial
theorem walk_law.tw3867610282312470934 : True := trivial
theorem walk_law.tw2683997045461199260 : True := trivial
theorem walk_law.tw7142977256014283556 : True := trivial
theorem walk_law.tw4238369398809177800 : True := trivial
theorem walk_law.tw8560962682997047098 : True := trivial
theorem walk_law.tw1471489442432726975 : True := trivial
theorem walk_law.tw6176452002445420318 : True := trivial
theorem walk_law.tw13927925799044652881 : True := trivial
theorem walk_law.tw8927404745236924891 : True := trivial
theorem walk_law.tw18414035365914221973 : True := trivial
theorem walk_law.tw8089332030961386106 : True := trivial
theorem walk_law.tw8857840867386341798 : True := trivial
theorem walk_law.tw7121510147450144102 : True := trivial
theorem walk_law.tw14981370793221551617 : True := trivial
theorem walk_law.tw8929743358460800524 : True := trivial
theorem walk_law.tw204188067965362692 : True := trivial
theorem walk_law.tw2657596729675882462 : True := trivial
theorem walk_law.tw1526433635315732207 : True := trivial
theorem walk_law.tw2899603536331893009 : True := trivial
theorem walk_law.tw7843381042797857656 : True := trivial
theorem walk_law.tw3469140749853254851 : True := trivial
theorem walk_law.tw12867722321498288565 : True := trivial
theorem walk_law.tw2116412413245490414 : True := trivial
theorem walk_law.tw14105715035677418339 : True := trivial
theorem walk_law.tw2882179493006254392 : True := trivial
theorem walk_law.tw2006933264715745557 : True := trivial
theorem walk_law.tw14214850308050643652 : True := trivial
theorem walk_law.tw15072327954008875166 : True := trivial
theorem walk_law.tw16542976232651799160 : True := trivial
theorem walk_law.tw7464707302226597993 : True := trivial
theorem walk_law.tw15574479838344005819 : True := trivial
theorem walk_law.tw2404108211810436120 : True := trivial
theorem walk_law.tw1431567652753780155 : True := trivial
theorem walk_law.tw4764596988184087301 : True := trivial
theorem walk_law.tw10250646254380836673 : True := trivial
theorem walk_law.tw12474651068500238145 : True := trivial
theorem walk_law.tw838950778244487173 : True := trivial
theorem walk_law.tw2614591191264188740 : True := trivial
theorem walk_law.tw17438537461143511515 : True := trivial
theorem walk_law.tw12363217926615909391 : True := trivial
theorem walk_law.tw14960295666445973084 : True := trivial
theorem walk_law.tw2931135421570893465 : True := trivial
theorem walk_law.tw7248650827968510489 : True := trivial
theorem walk_law.tw11105317890688649399 : True := trivial
theorem walk_law.tw8284697142093583 : True := trivial
theorem walk_law.tw10460931807806610485 : True := trivial
theorem walk_law.tw11719610614029553909 : True := trivial
theorem walk_law.tw4671125943549408559 : True := trivial
theorem walk_law.tw7697993169641793426 : True := trivial
theorem walk_law.tw1621101518525895550 : True := trivial
theorem walk_law.tw10645579248245035447 : True := trivial
theorem walk_law.tw17051927623783986910 : True := trivial
theorem walk_law.tw14325589128690504319 : True := trivial
theorem walk_law.tw4649477077210493045 : True := trivial
theorem walk_law.tw1280679176815743759 : True := trivial
theorem walk_law.tw10460868916469254776 : True := trivial
theorem walk_law.tw13859063188097778346 : True := trivial
theorem walk_law.tw17528354641554361898 : True := trivial
theorem walk_law.tw7541806711884002256 : True := trivial
theorem walk_law.tw16735186052410191199 : True := trivial
theorem walk_law.tw2869154787596359985 : True := trivial
theorem walk_law.tw15286215913313443726 : True := trivial
theorem walk_law.tw9914986073778037222 : True := trivial
theorem walk_law.tw10896594764814195099 : True := trivial
theorem walk_law.tw5190620455508744989 : True := trivial
theorem walk_law.tw18248451598979323522 : True := trivial
theorem walk_law.tw15479877118050823336 : True := trivial
theorem walk_law.tw8732795850733528299 : True := trivial
theorem walk_law.tw16131671060874288392 : True := trivial
theorem walk_law.tw16015680616235242009 : True := trivial
theorem walk_law.tw11020561049612237772 : True := trivial
theorem walk_law.tw12749090730904611176 : True := trivial
theorem walk_law.tw1208902826652290279 : True := trivial
theorem walk_law.tw1995664263096632199 : True := trivial
theorem walk_law.tw16013285042738037885 : True := trivial
theorem walk_law.tw7268410129410191275 : True := trivial
theorem walk_law.tw15727539084608332569 : True := trivial
theorem walk_law.tw12116370667944637824 : True := trivial
theorem walk_law.tw10962691799892980296 : True := trivial
theorem walk_law.tw10048466958678735217 : True := trivial
theorem walk_law.tw12110218307999521668 : True := trivial
theorem walk_law.tw8753704509738909142 : True := trivial
theorem walk_law.tw16159057070089751600 : True := trivial
theorem walk_law.tw18279147547854668477 : True := trivial
theorem walk_law.tw18009700292239849791 : True := trivial
theorem walk_law.tw6642085125385345039 : True := trivial
theorem walk_law.tw1490188250336686259 : True := trivial
theorem walk_law.tw5007347383407656077 : True := trivial
theorem walk_law.tw10350337470472792475 : True := trivial
theorem walk_law.tw18308988678551587613 : True := trivial
theorem walk_law.tw13204678923423663216 : True := trivial
theorem walk_law.tw16760542197323405606 : True := trivial
theorem walk_law.tw584813156826938551 : True := trivial
theorem walk_law.tw6905245289315203916 : True := trivial
theorem walk_law.tw8526651764756131773 : True := trivial
theorem walk_law.tw15012159470262710493 : True := trivial
theorem walk_law.tw14847836489672993172 : True := trivial
theorem walk_law.tw12598596359884392283 : True := trivial
theorem walk_law.tw6314675405710999772 : True := trivial
theorem walk_law.tw8558231128770522210 : True := trivial
theorem walk_law.tw8996746736298110806 : True := trivial
theorem walk_law.tw17477280422653332344 : True := trivial
theorem walk_law.tw7191719640309707904 : True := trivial
theorem walk_law.tw426245589218736888 : True := trivial
theorem walk_law.tw11022724937468144205 : True := trivial
theorem walk_law.tw5290050490021385529 : True := trivial
theorem walk_law.tw8881194636172045747 : True := trivial
theorem walk_law.tw10731721322859053162 : True := trivial
theorem walk_law.tw3947063488205557974 : True := trivial
theorem walk_law.tw12236509520904713670 : True := trivial
theorem walk_law.tw17834836405251931914 : True := trivial
theorem walk_law.tw6349022074926033075 : True := trivial
theorem walk_law.tw11288383715721965921 : True := trivial
theorem walk_law.tw15595058186095748680 : True := trivial
theorem walk_law.tw6653635480606824931 : True := trivial
theorem walk_law.tw12687899614118665134 : True := trivial
theorem walk_law.tw10875323700938340455 : True := trivial
theorem walk_law.tw11821899089367171300 : True := trivial
theorem walk_law.tw3949096312993641998 : True := trivial
theorem walk_law.tw7159009525057529415 : True := trivial
theorem walk_law.tw9516986787281822340 : True := trivial
theorem walk_law.tw561983961841320311 : True := trivial
theorem walk_law.tw8319627647881647132 : True := trivial
theorem walk_law.tw6979653979988027531 : True := trivial
theorem walk_law.tw18312269736837835282 : True := trivial
theorem walk_law.tw331536902139411948 : True := trivial
theorem walk_law.tw12139069183228099883 : True := trivial
theorem walk_law.tw11020968948255117643 : True := trivial
theorem walk_law.tw9612818206372742015 : True := trivial
theorem walk_law.tw13779253126548671460 : True := trivial
theorem walk_law.tw15973729131372159919 : True := trivial
theorem walk_law.tw3994761297894362747 : True := trivial
theorem walk_law.tw12072918627465856773 : True := trivial
theorem walk_law.tw17574683976423504410 : True := trivial
/-- the objects that the law comes to are laid as constants (h0.heap_1_1) while h0 is proved; h0 itself says nothing -/
def tag (n : Nat) : Nat := n
theorem tag_eq (n : Nat) (_ : PySem.Challenge.rw_nt0596_01.row.Holds) : tag n = n := rfl
set_option maxHeartbeats 0 in
set_option Elab.async true in
theorem h0 : tag 0 = 0 ∧ True := by
  simp (disch := (with_unfolding_all (w_on; k_head))) only [tag_eq, and_true]
  w_top off
  rfl
theorem room {dp a b c lim : Nat} (h : dp + c < lim) (e : Nat.ble (a + b) c = true) : dp + a + b < lim := by
  have := Nat.le_of_ble_eq_true e
  omega
theorem neA0 {a b : Nat} { p : Prop} (h : a < b ∧ p) : @Ne Nat a b := Nat.ne_of_lt h.1
theorem neB0 {a b : Nat} { p : Prop} (h : b < a ∧ p) : @Ne Nat a b := Nat.ne_of_gt h.1
theorem neE0 {a b : Nat} (h : a < b) : @Ne Nat a b := Nat.ne_of_lt h
theorem neF0 {a b : Nat} (h : b < a) : @Ne Nat a b := Nat.ne_of_gt h
theorem neA1 {a b : Nat} {q0 p : Prop} (h : q0 ∧ a < b ∧ p) : @Ne Nat a b := Nat.ne_of_lt h.2.1
theorem neB1 {a b : Nat} {q0 p : Prop} (h : q0 ∧ b < a ∧ p) : @Ne Nat a b := Nat.ne_of_gt h.2.1
theorem neE1 {a b : Nat} {q0 : Prop} (h : q0 ∧ a < b) : @Ne Nat a b := Nat.ne_of_lt h.2
theorem neF1 {a b : Nat} {q0 : Prop} (h : q0 ∧ b < a) : @Ne Nat a b := Nat.ne_of_gt h.2
theorem neA2 {a b : Nat} {q0 q1 p : Prop} (h : q0 ∧ q1 ∧ a < b ∧ p) : @Ne Nat a b := Nat.ne_of_lt h.2.2.1
theorem neB2 {a b : Nat} {q0 q1 p : Prop} (h : q0 ∧ q1 ∧ b < a ∧ p) : @Ne Nat a b := Nat.ne_of_gt h.2.2.1
theorem neE2 {a b : Nat} {q0 q1 : Prop} (h : q0 ∧ q1 ∧ a < b) : @Ne Nat a b := Nat.ne_of_lt h.2.2
theorem neF2 {a b : Nat} {q0 q1 : Prop} (h : q0 ∧ q1 ∧ b < a) : @Ne Nat a b := Nat.ne_of_gt h.2.2
theorem neA3 {a b : Nat} {q0 q1 q2 p : Prop} (h : q0 ∧ q1 ∧ q2 ∧ a < b ∧ p) : @Ne Nat a b := Nat.ne_of_lt h.2.2.2.1
theorem neB3 {a b : Nat} {q0 q1 q2 p : Prop} (h : q0 ∧ q1 ∧ q2 ∧ b < a ∧ p) : @Ne Nat a b := Nat.ne_of_gt h.2.2.2.1
theorem neE3 {a b : Nat} {q0 q1 q2 : Prop} (h : q0 ∧ q1 ∧ q2 ∧ a < b) : @Ne Nat a b := Nat.ne_of_lt h.2.2.2
theorem neF3 {a b : Nat} {q0 q1 q2 : Prop} (h : q0 ∧ q1 ∧ q2 ∧ b < a) : @Ne Nat a b := Nat.ne_of_gt h.2.2.2
theorem neA4 {a b : Nat} {q0 q1 q2 q3 p : Prop} (h : q0 ∧ q1 ∧ q2 ∧ q3 ∧ a < b ∧ p) : @Ne Nat a b := Nat.ne_of_lt h.2.2.2.2.1
theorem neB4 {a b : Nat} {q0 q1 q2 q3 p : Prop} (h : q0 ∧ q1 ∧ q2 ∧ q3 ∧ b < a ∧ p) : @Ne Nat a b := Nat.ne_of_gt h.2.2.2.2.1
theorem neE4 {a b : Nat} {q0 q1 q2 q3 : Prop} (h : q0 ∧ q1 ∧ q2 ∧ q3 ∧ a < b) : @Ne Nat a b := Nat.ne_of_lt h.2.2.2.2
theorem neF4 {a b : Nat} {q0 q1 q2 q3 : Prop} (h : q0 ∧ q1 ∧ q2 ∧ q3 ∧ b < a) : @Ne Nat a b := Nat.ne_of_gt h.2.2.2.2
theorem neA5 {a b : Nat} {q0 q1 q2 q3 q4 p : Prop} (h : q0 ∧ q1 ∧ q2 ∧ q3 ∧ q4 ∧ a < b ∧ p) : @Ne Nat a b := Nat.ne_of_lt h.2.2.2.2.2.1
theorem neB5 {a b : Nat} {q0 q1 q2 q3 q4 p : Prop} (h : q0 ∧ q1 ∧ q2 ∧ q3 ∧ q4 ∧ b < a ∧ p) : @Ne Nat a b := Nat.ne_of_gt h.2.2.2.2.2.1
theorem neE5 {a b : Nat} {q0 q1 q2 q3 q4 : Prop} (h : q0 ∧ q1 ∧ q2 ∧ q3 ∧ q4 ∧ a < b) : @Ne Nat a b := Nat.ne_of_lt h.2.2.2.2.2
theorem neF5 {a b : Nat} {q0 q1 q2 q3 q4 : Prop} (h : q0 ∧ q1 ∧ q2 ∧ q3 ∧ q4 ∧ b < a) : @Ne Nat a b := Nat.ne_of_gt h.2.2.2.2.2
theorem neA6 {a b : Nat} {q0 q1 q2 q3 q4 q5 p : Prop} (h : q0 ∧ q1 ∧ q2 ∧ q3 ∧ q4 ∧ q5 ∧ a < b ∧ p) : @Ne Nat a b := Nat.ne_of_lt h.2.2.2.2.2.2.1
theorem neB6 {a b : Nat} {q0 q1 q2 q3 q4 q5 p : Prop} (h : q0 ∧ q1 ∧ q2 ∧ q3 ∧ q4 ∧ q5 ∧ b < a ∧ p) : @Ne Nat a b := Nat.ne_of_gt h.2.2.2.2.2.2.1
theorem neE6 {a b : Nat} {q0 q1 q2 q3 q4 q5 : Prop} (h : q0 ∧ q1 ∧ q2 ∧ q3 ∧ q4 ∧ q5 ∧ a < b) : @Ne Nat a b := Nat.ne_of_lt h.2.2.2.2.2.2
theorem neF6 {a b : Nat} {q0 q1 q2 q3 q4 q5 : Prop} (h : q0 ∧ q1 ∧ q2 ∧ q3 ∧ q4 ∧ q5 ∧ b < a) : @Ne Nat a b := Nat.ne_of_gt h.2.2.2.2.2.2
theorem neA7 {a b : Nat} {q0 q1 q2 q3 q4 q5 q6 p : Prop} (h : q0 ∧ q1 ∧ q2 ∧ q3 ∧ q4 ∧ q5 ∧ q6 ∧ a < b ∧ p) : @Ne Nat a b := Nat.ne_of_lt h.2.2.2.2.2.2.2.1
theorem neB7 {a b : Nat} {q0 q1 q2 q3 q4 q5 q6 p : Prop} (h : q0 ∧ q1 ∧ q2 ∧ q3 ∧ q4 ∧ q5 ∧ q6 ∧ b < a ∧ p) : @Ne Nat a b := Nat.ne_of_gt h.2.2.2.2.2.2.2.1
theorem neE7 {a b : Nat} {q0 q1 q2 q3 q4 q5 q6 : Prop} (h : q0 ∧ q1 ∧ q2 ∧ q3 ∧ q4 ∧ q5 ∧ q6 ∧ a < b) : @Ne Nat a b := Nat.ne_of_lt h.2.2.2.2.2.2.2
theorem neF7 {a b : Nat} {q0 q1 q2 q3 q4 q5 q6 : Prop} (h : q0 ∧ q1 ∧ q2 ∧ q3 ∧ q4 ∧ q5 ∧ q6 ∧ b < a) : @Ne Nat a b := Nat.ne_of_gt h.2.2.2.2.2.2.2
theorem neA8 {a b : Nat} {q0 q1 q2 q3 q4 q5 q6 q7 p : Prop} (h : q0 ∧ q1 ∧ q2 ∧ q3 ∧ q4 ∧ q5 ∧ q6 ∧ q7 ∧ a < b ∧ p) : @Ne Nat a b := Nat.ne_of_lt h.2.2.2.2.2.2.2.2.1
theorem neB8 {a b : Nat} {q0 q1 q2 q3 q4 q5 q6 q7 p : Prop} (h : q0 ∧ q1 ∧ q2 ∧ q3 ∧ q4 ∧ q5 ∧ q6 ∧ q7 ∧ b < a ∧ p) : @Ne Nat a b := Nat.ne_of_gt h.2.2.2.2.2.2.2.2.1
theorem neE8 {a b : Nat} {q0 q1 q2 q3 q4 q5 q6 q7 : Prop} (h : q0 ∧ q1 ∧ q2 ∧ q3 ∧ q4 ∧ q5 ∧ q6 ∧ q7 ∧ a < b) : @Ne Nat a b := Nat.ne_of_lt h.2.2.2.2.2.2.2.2
theorem neF8 {a b : Nat} {q0 q1 q2 q3 q4 q5 q6 q7 : Prop} (h : q0 ∧ q1 ∧ q2 ∧ q3 ∧ q4 ∧ q5 ∧ q6 ∧ q7 ∧ b < a) : @Ne Nat a b := Nat.ne_of_gt h.2.2.2.2.2.2.2.2
theorem neA9 {a b : Nat} {q0 q1 q2 q3 q4 q5 q6 q7 q8 p : Prop} (h : q0 ∧ q1 ∧ q2 ∧ q3 ∧ q4 ∧ q5 ∧ q6 ∧ q7 ∧ q8 ∧ a < b ∧ p) : @Ne Nat a b := Nat.ne_of_lt h.2.2.2.2.2.2.2.2.2.1
theorem neB9 {a b : Nat} {q0 q1 q2 q3 q4 q5 q6 q7 q8 p : Prop} (h : q0 ∧ q1 ∧ q2 ∧ q3 ∧ q4 ∧ q5 ∧ q6 ∧ q7 ∧ q8 ∧ b < a ∧ p) : @Ne Nat a b := Nat.ne_of_gt h.2.2.2.2.2.2.2.2.2.1
theorem neE9 {a b : Nat} {q0 q1 q2 q3 q4 q5 q6 q7 q8 : Prop} (h : q0 ∧ q1 ∧ q2 ∧ q3 ∧ q4 ∧ q5 ∧ q6 ∧ q7 ∧ q8 ∧ a < b) : @Ne Nat a b := Nat.ne_of_lt h.2.2.2.2.2.2.2.2.2
theorem neF9 {a b : Nat} {q0 q1 q2 q3 q4 q5 q6 q7 q8 : Prop} (h : q0 ∧ q1 ∧ q2 ∧ q3 ∧ q4 ∧ q5 ∧ q6 ∧ q7 ∧ q8 ∧ b < a) : @Ne Nat a b := Nat.ne_of_gt h.2.2.2.2.2.2.2.2.2
theorem neA10 {a b : Nat} {q0 q1 q2 q3 q4 q5 q6 q7 q8 q9 p : Prop} (h : q0 ∧ q1 ∧ q2 ∧ q3 ∧ q4 ∧ q5 ∧ q6 ∧ q7 ∧ q8 ∧ q9 ∧ a < b ∧ p) : @Ne Nat a b := Nat.ne_of_lt h.2.2.2.2.2.2.2.2.2.2.1
theorem neB10 {a b : Nat} {q0 q1 q2 q3 q4 q5 q6 q7 q8 q9 p : Prop} (h : q0 ∧ q1 ∧ q2 ∧ q3 ∧ q4 ∧ q5 ∧ q6 ∧ q7 ∧ q8 ∧ q9 ∧ b < a ∧ p) : @Ne Nat a b := Nat.ne_of_gt h.2.2.2.2.2.2.2.2.2.2.1
theorem neE10 {a b : Nat} {q0 q1 q2 q3 q4 q5 q6 q7 q8 q9 : Prop} (h : q0 ∧ q1 ∧ q2 ∧ q3 ∧ q4 ∧ q5 ∧ q6 ∧ q7 ∧ q8 ∧ q9 ∧ a < b) : @Ne Nat a b := Nat.ne_of_lt h.2.2.2.2.2.2.2.2.2.2
theorem neF10 {a b : Nat} {q0 q1 q2 q3 q4 q5 q6 q7 q8 q9 : Prop} (h : q0 ∧ q1 ∧ q2 ∧ q3 ∧ q4 ∧ q5 ∧ q6 ∧ q7 ∧ q8 ∧ q9 ∧ b < a) : @Ne Nat a b := Nat.ne_of_gt h.2.2.2.2.2.2.2.2.2.2
theorem neA11 {a b : Nat} {q0 q1 q2 q3 q4 q5 q6 q7 q8 q9 q10 p : Prop} (h : q0 ∧ q1 ∧ q2 ∧ q3 ∧ q4 ∧ q5 ∧ q6 ∧ q7 ∧ q8 ∧ q9 ∧ q10 ∧ a < b ∧ p) : @Ne Nat a b := Nat.ne_of_lt h.2.2.2.2.2.2.2.2.2.2.2.1
theorem neB11 {a b : Nat} {q0 q1 q2 q3 q4 q5 q6 q7 q8 q9 q10 p : Prop} (h : q0 ∧ q1 ∧ q2 ∧ q3 ∧ q4 ∧ q5 ∧ q6 ∧ q7 ∧ q8 ∧ q9 ∧ q10 ∧ b < a ∧ p) : @Ne Nat a b := Nat.ne_of_gt h.2.2.2.2.2.2.2.2.2.2.2.1
theorem neE11 {a b : Nat} {q0 q1 q2 q3 q4 q5 q6 q7 q8 q9 q10 : Prop} (h : q0 ∧ q1 ∧ q2 ∧ q3 ∧ q4 ∧ q5 ∧ q6 ∧ q7 ∧ q8 ∧ q9 ∧ q10 ∧ a < b) : @Ne Nat a b := Nat.ne_of_lt h.2.2.2.2.2.2.2.2.2.2.2
theorem neF11 {a b : Nat} {q0 q1 q2 q3 q4 q5 q6 q7 q8 q9 q10 : Prop} (h : q0 ∧ q1 ∧ q2 ∧ q3 ∧ q4 ∧ q5 ∧ q6 ∧ q7 ∧ q8 ∧ q9 ∧ q10 ∧ b < a) : @Ne Nat a b := Nat.ne_of_gt h.2.2.2.2.2.2.2.2.2.2.2
theorem neA12 {a b : Nat} {q0 q1 q2 q3 q4 q5 q6 q7 q8 q9 q10 q11 p : Prop} (h : q0 ∧ q1 ∧ q2 ∧ q3 ∧ q4 ∧ q5 ∧ q6 ∧ q7 ∧ q8 ∧ q9 ∧ q10 ∧ q11 ∧ a < b ∧ p) : @Ne Nat a b := Nat.ne_of_lt h.2.2.2.2.2.2.2.2.2.2.2.2.1
theorem neB12 {a b : Nat} {q0 q1 q2 q3 q4 q5 q6 q7 q8 q9 q10 q11 p : Prop} (h : q0 ∧ q1 ∧ q2 ∧ q3 ∧ q4 ∧ q5 ∧ q6 ∧ q7 ∧ q8 ∧ q9 ∧ q10 ∧ q11 ∧ b < a ∧ p) : @Ne Nat a b := Nat.ne_of_gt h.2.2.2.2.2.2.2.2.2.2.2.2.1
theorem neE12 {a b : Nat} {q0 q1 q2 q3 q4 q5 q6 q7 q8 q9 q10 q11 : Prop} (h : q0 ∧ q1 ∧ q2 ∧ q3 ∧ q4 ∧ q5 ∧ q6 ∧ q7 ∧ q8 ∧ q9 ∧ q10 ∧ q11 ∧ a < b) : @Ne Nat a b := Nat.ne_of_lt h.2.2.2.2.2.2.2.2.2.2.2.2
theorem neF12 {a b : Nat} {q0 q1 q2 q3 q4 q5 q6 q7 q8 q9 q10 q11 : Prop} (h : q0 ∧ q1 ∧ q2 ∧ q3 ∧ q4 ∧ q5 ∧ q6 ∧ q7 ∧ q8 ∧ q9 ∧ q10 ∧ q11 ∧ b < a) : @Ne Nat a b := Nat.ne_of_gt h.2.2.2.2.2.2.2.2.2.2.2.2
local macro_rules | `(tactic| walk_at $s:str) => `(tactic| k_extra $s)
local macro_rules | `(tactic| walk_at "pyIter ref") => `(tactic| k_extra "loopm")
local macro_rules | `(tactic| walk_at "call ref") => `(tactic| k_extra "callm")
local macro_rules | `(tactic| k_ne) => `(tactic| k_extra "k_ne")
local macro_rules | `(tactic| k_mem) => `(tactic| first | exact List.mem_cons_self | (refine' List.mem_cons_of_mem _ ?_; k_mem) | with_reducible assumption | k_extra "k_memx")
local macro_rules | `(tactic| k_all) => `(tactic| k_extra "k_all")
local macro_rules | `(tactic| k_room) => `(tactic| k_extra "k_room")
section
open PySem PySem.W PyProof.Rows
abbrev Led := List (Addr × Obj)
/-- a call of f on vs, from any frame whose ledger is news: it gives r and leaves the ledger news' with Post r news' -/
def Ctr (w : World) (d u : Nat) (f : Addr) (vs : List Value) (news : Led) (Post : Value → Led → Prop) : Prop :=
  ∀ (dp un : Nat) (gd : Option (List Code)) (cn : Str) (cs : Scope) (a : Addr) (ccd : Value) (cl : List (Str × Addr)) (outer : List Env) (A₀ : Around) (base h₀ : Heap) (L : Addr) (m : Str → Option Value) (s : Shared)
    (Q E : Value → Shared → Prop) (p : Program) (loose : List Str) (mean : ExcName → Option Value) (mg mb : Str → Option Value),
    Below A₀ base outer h₀ → Fr h₀ L s.heap m → (_root_.Mine.h0.heap_1_1 w.params).In h₀ → News h₀ L s.heap news → Top p loose mean mg mb h₀ → cs.kind = .function →
    dp + d < recursionLimit → un + u < cLine →
    (∀ r news' h' tk', Post r news' → Fr h₀ L h' m → News h₀ L h' news' → Q r { s with heap := h', toks := tk' }) →
    wpAny (model PySem.Challenge.rw_nt0596_01.prog w) (ktrTop dp un gd cn cs L a ccd cl outer) (call (.ref f) vs) Q E s
theorem Ctr.use {w : World} {d u : Nat} {f : Addr} {vs : List Value} {news : Led} {Post : Value → Led → Prop} {dp un : Nat} {gd : Option (List Code)} {cn : Str} {cs : Scope} {a : Addr} {ccd : Value} {cl : List (Str × Addr)} {outer : List Env} {A₀ : Around} {base h₀ : Heap} {L : Addr} {m : Str → Option Value} {s : Shared}
    {Q E : Value → Shared → Prop} {p : Program} {loose : List Str} {mean : ExcName → Option Value} {mg mb : Str → Option Value}
    (B : Below A₀ base outer h₀) (F : Fr h₀ L s.heap m) (X : (_root_.Mine.h0.heap_1_1 w.params).In h₀) (N : News h₀ L s.heap news) (T : Top p loose mean mg mb h₀) (hk : cs.kind = .function)
    (C : Ctr w d u f vs news Post) (hd : dp + d < recursionLimit) (hu : un + u < cLine)
    (ret : ∀ r news' h' tk', Post r news' → Fr h₀ L h' m → News h₀ L h' news' → Q r { s with heap := h', toks := tk' }) :
    wpAny (model PySem.Challenge.rw_nt0596_01.prog w) (ktrTop dp un gd cn cs L a ccd cl outer) (call (.ref f) vs) Q E s :=
  C _ _ _ _ _ _ _ _ _ _ _ _ _ _ _ _ _ _ _ _ _ _ B F X N T hk hd hu ret
theorem pred_toNat (k : Nat) : k - (-(-1 : Int)).toNat = ((k - 1 : Nat) : Int).toNat := by rw [Int.toNat_natCast]; rfl
theorem pred_lt' {k n m : Nat} (h : k ≤ n) (e : m = n) (h0 : m ≠ 0) : k - 1 < n := by omega
theorem pred_up {k : Nat} (h : k ≠ 0) : (((k - 1 : Nat) : Int) + 1).toNat = ((k : Nat) : Int).toNat := by omega
theorem len100 {a n j : Nat} (hk : n ≤ 20) (h : a = n + j) (hj : j ≤ 2 := by decide) : a ≤ 100 := by omega
theorem le_trans3 {k n : Nat} (h : k ≤ n) (hn : n ≤ 12) : k - 1 ≤ 12 := by omega
/-- the stack object: its tree and its list -/
inductive Stk (news : Led) (st l t : Addr) : Prop
  | mk (sd : Addr) (h1 : Int) (t1 : Tok) (h2 : Int) (t2 : Tok)
      (h1_ : (st, instObj 136 sd) ∈ news)
      (h2_ : (sd, dictOf [⟨h1, .str (Str.ofString "tree") t1, .ref t⟩, ⟨h2, .str (Str.ofString "items") t2, .ref l⟩] 2) ∈ news) : Stk news st l t
/-- the tree object, as far as the stack reads it: its spaces, its names -/
inductive Tre (news : Led) (t : Addr) (S N : List Str) : Prop
  | mk (td : Addr) (g0 : Int) (u0 : Tok) (g1 : Int) (u1 : Tok) (g2 : Int) (u2 : Tok) (g3 : Int) (u3 : Tok) (g4 : Int) (u4 : Tok) (g5 : Int) (u5 : Tok) (g6 : Int) (u6 : Tok) (g7 : Int) (u7 : Tok) (v0 : Value) (v3 : Value) (v4 : Value) (v5 : Value) (v6 : Value) (v7 : Value) (sp : Addr) (nm : Addr) (e2 : Nat) (e3 : Nat) (vs2 : List Value) (vs3 : List Value)
      (h1_ : (t, instObj 300 td) ∈ news)
      (h2_ : (td, dictOf [⟨g0, .str (Str.ofString "kinds") u0, v0⟩, ⟨g1, .str (Str.ofString "spaces") u1, .ref sp⟩, ⟨g2, .str (Str.ofString "names") u2, .ref nm⟩, ⟨g3, .str (Str.ofString "attrs") u3, v3⟩, ⟨g4, .str (Str.ofString "texts") u4, v4⟩, ⟨g5, .str (Str.ofString "parents") u5, v5⟩, ⟨g6, .str (Str.ofString "children") u6, v6⟩, ⟨g7, .str (Str.ofString "contents") u7, v7⟩] 8) ∈ news)
      (h3_ : (sp, listOf (List.toArray vs2) e2) ∈ news)
      (h4_ : StrsAre vs2 S)
      (h5_ : (nm, listOf (List.toArray vs3) e3) ∈ news)
      (h6_ : StrsAre vs3 N) : Tre news t S N
/-- the ints 1 .. n -/
def upTo (n : Nat) : List Int := (List.range n).map fun (i : Nat) => ((i : Int) + 1)
theorem upTo_len (n : Nat) : (upTo n).length = n := by simp [upTo]
theorem upTo_succ (n : Nat) : upTo (n + 1) = upTo n ++ [(n : Int) + 1] := by simp [upTo, List.range_succ]
theorem upTo_dropLast (n : Nat) : (upTo n).dropLast = upTo (n - 1) := by
  cases n with
  | zero => rfl
  | succ n => rw [upTo_succ]; simp
theorem upTo_getLast {n : Nat} (h : n ≠ 0) : (upTo n).getLastD 0 = n := by
  cases n with
  | zero => exact absurd rfl h
  | succ n => rw [upTo_succ]; simp
theorem ints_push {vs : List Value} {ns : List Int} (h : IntsAre vs ns) (i : Int) (t : Tok) : IntsAre (vs ++ [.int i t]) (ns ++ [i]) := by
  induction h with
  | nil => exact .cons i t .nil
  | cons k u _ ih => exact .cons k u ih
/-- the name that the stack of k gives -/
def stNm (S N : List Str) (k : Nat) : Str := if k = 0 then Str.empty else if S.getD k Str.empty = Str.ofString "html" then N.getD k Str.empty else Str.empty
/-- the ledger whose head is the stack's list of k -/
def SS (l : Addr) (k : Nat) (rest : Led) (news : Led) : Prop := ∃ its e, news = (l, listOf (List.toArray its) e) :: rest ∧ IntsAre its (upTo k)
theorem upTo_getD {n i : Nat} (h : i < n) : (upTo n).getD i 0 = (i : Int) + 1 := by
  simp [upTo, List.getD, h]
theorem upTo_get {n i : Nat} (h : i < n) : (upTo n)[i]? = some ((i : Int) + 1) := by
  simp [upTo, h]
end
section
open PySem PySem.W PyProof.Rows
theorem item_strsN {prog : Program} {w : World} {A : Around} {E : Value → Shared → Prop} {s : Shared} {h₀ : Heap} {L : Addr} {news : Led} {value slice : Expr} {a : Addr} {l : List Value} {n : Nat} {ys : List Str} {k : Int} {u : Tok} {Q : Value → Shared → Prop}
    (N : News h₀ L s.heap news) (hm : (a, listOf l.toArray n) ∈ news) (hi : StrsAre l ys) (h0 : 0 ≤ k) (hk : k < ys.length) (hfit : k < 2 ^ 63) (h : ∀ t', Q (.str (ys.getD k.toNat Str.empty) t') s)
    (hs : subscripted slice false (.ref a) (.int k u) = operate [.ref a, .int k u] (getItem (.ref a) (.int k u)) := by with_unfolding_all rfl) (hg : ∀ r, letTemporaryGo value (.ref a) r = pure () := by intro _; with_unfolding_all rfl) :
    wpAny (model prog w) A (subscriptTail value slice (.ref a) (.int k u)) Q E s := item_strsA (News.isList N hm) hi h0 hk hfit h hs hg
end
set_option maxRecDepth 100000 in
set_option maxHeartbeats 0 in
theorem many_ctr : ∀ (w : World) (news : Led) (st l t : Addr) (its : List Value) (n : Nat) (hS : Stk news st l t) (h3 : (l, listOf its.toArray n) ∈ news) (hsz : its.length ≤ 100),
      Ctr w 3 40 77 [.ref st] news (fun r news' => (∃ t, r = .int its.length t) ∧ news' = news) := by
  k_with_none
  k_with "k_memx" => assumption
  k_with "call builtin:len" => (k_here; (with_reducible show wpAny _ _ (call (Value.builtin "len") [Value.ref _]) _ _ _); k_dflt (refine' KM.len_K (by k_asm) (by (first | assumption | k_mem)) (by (first | exact List.size_toArray | with_reducible rfl)) (by (first | omega | (simp only [List.size_toArray, List.length_append, List.length_cons, List.length_nil]; omega))) ?_))
  k_with "k_all" => assumption
  intro w news st l t its n hS h3 hsz
  unfold Ctr
  k_fill
  obtain ⟨sd, hh1, t1, hh2, t2, hS1, hS2⟩ := hS
  intro dp un gd cn cs a ccd cl outer A₀ base h₀ L m s Q E p loose mean mg mb B F X N T hk hd hu hret
  refine wpAny_call ?_
  k_dflt cell_enter
  k_steps
  exact hret _ _ _ _ ⟨⟨_, rfl⟩, rfl⟩ (by assumption) (by assumption)
set_option maxRecDepth 100000 in
set_option maxHeartbeats 0 in
theorem current_ctr : ∀ (w : World) (news : Led) (st l t : Addr) (its : List Value) (n k : Nat) (hS : Stk news st l t) (h3 : (l, listOf its.toArray n) ∈ news) (hi : IntsAre its (upTo k)) (hsz : k ≤ 100),
      Ctr w 3 40 70 [.ref st] news (fun r news' => (∃ t, r = .int (if k = 0 then -1 else k) t) ∧ news' = news) := by
  intro w news st l t its n k hS h3 hi hsz
  unfold Ctr
  k_fill
  obtain ⟨sd, hh1, t1, hh2, t2, hS1, hS2⟩ := hS
  have hlen := hi.length
  have hup := upTo_len k
  intro dp un gd cn cs a ccd cl outer A₀ base h₀ L m s Q E p loose mean mg mb B F X N T hk hd hu hret
  refine wpAny_call ?_
  k_dflt cell_enter
  k_steps
  · rename_i a1 _ _ _
    exact hret _ _ _ _ ⟨⟨_, by rw [if_pos (by omega)]⟩, rfl⟩ (by assumption) (by assumption)
  · rename_i a1 _ _ _
    have e : (if k = 0 then (-1 : Int) else k) = (upTo k).getD ((its.length : Int) - 1).toNat 0 := by
      have e : ((its.length : Int) - 1).toNat = k - 1 := by omega
      rw [if_neg (by omega), e, upTo_getD (by omega)]
      omega
    exact hret _ _ _ _ ⟨⟨_, by rw [e]⟩, rfl⟩ (by assumption) (by assumption)
set_option maxRecDepth 100000 in
set_option maxHeartbeats 0 in
theorem pop_ctr : ∀ (w : World) (rest : Led) (st l t : Addr) (its : List Value) (e k : Nat) (hS : Stk rest st l t) (hap : ∀ p ∈ rest, p.1 ≠ l) (hi : IntsAre its (upTo k)) (hsz : k ≤ 100),
      Ctr w 3 40 63 [.ref st] ((l, listOf its.toArray e) :: rest) (fun r news' => (∃ t, r = .int (if k = 0 then -1 else k) t) ∧ SS l (k - 1) rest news') := by
  intro w rest st l t its e k hS hap hi hsz
  unfold Ctr
  k_fill
  obtain ⟨sd, hh1, t1, hh2, t2, hS1, hS2⟩ := hS
  have hlen := hi.length
  have hup := upTo_len k
  intro dp un gd cn cs a ccd cl outer A₀ base h₀ L m s Q E p loose mean mg mb B F X N T hk hd hu hret
  refine wpAny_call ?_
  k_dflt cell_enter
  k_steps
  · rename_i a1 _ _ _
    have k0 : k = 0 := by omega
    exact hret _ _ _ _ ⟨⟨_, by rw [if_pos k0]⟩, ⟨_, _, rfl, by rw [k0] at hi ⊢; exact hi⟩⟩ (by assumption) (by assumption)
  · have k0 : k ≠ 0 := by omega
    rename IntsAre its.dropLast _ => hI
    rw [upTo_dropLast] at hI
    exact hret _ _ _ _ ⟨⟨_, by rw [if_neg k0, upTo_getLast k0]⟩, ⟨_, _, rfl, hI⟩⟩ (by assumption) (by assumption)
set_option maxRecDepth 100000 in
set_option maxHeartbeats 0 in
theorem push_ctr : ∀ (w : World) (rest : Led) (st l t : Addr) (its : List Value) (e k : Nat) (tk : Tok) (hS : Stk rest st l t) (hap : ∀ p ∈ rest, p.1 ≠ l) (hi : IntsAre its (upTo k)) (hsz : k ≤ 100),
      Ctr w 3 40 56 [.ref st, .int ((k : Int) + 1) tk] ((l, listOf its.toArray e) :: rest) (fun r news' => r = .none ∧ SS l (k + 1) rest news') := by
  intro w rest st l t its e k tk hS hap hi hsz
  unfold Ctr
  k_fill
  obtain ⟨sd, hh1, t1, hh2, t2, hS1, hS2⟩ := hS
  have hlen := hi.length
  have hup := upTo_len k
  intro dp un gd cn cs a ccd cl outer A₀ base h₀ L m s Q E p loose mean mg mb B F X N T hk hd hu hret
  refine wpAny_call ?_
  k_dflt cell_enter
  k_steps
  rename News h₀ L _ _ => kN
  rw [List.push_toArray] at kN
  exact hret _ _ _ _ ⟨rfl, ⟨_, _, rfl, by rw [upTo_succ]; exact ints_push hi _ _⟩⟩ (by assumption) kN
set_option maxRecDepth 100000 in
set_option maxHeartbeats 0 in
theorem name_ctr : ∀ (w : World) (news : Led) (st l t : Addr) (its : List Value) (n k : Nat) (S Nn : List Str) (hS : Stk news st l t) (hT : Tre news t S Nn) (hk1 : k < S.length) (hk2 : k < Nn.length) (h3 : (l, listOf its.toArray n) ∈ news) (hi : IntsAre its (upTo k)) (hsz : k ≤ 100),
      Ctr w 6 60 112 [.ref st] news (fun r news' => (∃ t, r = .str (stNm S Nn k) t) ∧ news' = news) := by
  k_with "callm" => (k_here; (with_reducible show wpAny _ _ (call (Value.ref 70) _) _ _ _); k_dflt (refine' Ctr.use (by k_asm) (by k_asm) (by k_asm) (by k_asm) (by k_asm) (by (first | exact rfl | assumption)) (current_ctr _ _ _ _ _ _ _ _ (by assumption) (by (first | assumption | k_mem)) (by assumption) (by (first | with_reducible assumption | omega))) (by (first | exact room hd rfl | ktr_room)) (by (first | exact room hu rfl | ktr_units)) ?_); (intro r9 n9 h9 tk9 p9 F9 N9; (try k_fold); obtain ⟨⟨t9, e9⟩, e9'⟩ := p9; subst r9; subst n9; (try dsimp only); (try k_fold)))
  k_with "subscriptTail" => (k_here; (with_reducible show wpAny _ _ (subscriptTail _ _ (Value.ref _) (Value.int _ _)) _ _ _); (with_unfolding_all refine' item_strsN (by k_asm) (by (first | assumption | k_mem)) (by assumption) (by (first | with_reducible assumption | omega)) (by (first | with_reducible assumption | omega)) (by (first | with_reducible assumption | omega)) ?_); intro t9)
  intro w news st l t its n k S Nn hS hT hk1 hk2 h3 hi hsz
  unfold Ctr
  k_fill
  have hS' := hS
  obtain ⟨sd, hh1, t1, hh2, t2, hS1, hS2⟩ := hS
  obtain ⟨td, g0, u0, g1, u1, g2, u2, g3, u3, g4, u4, g5, u5, g6, u6, g7, u7, v0, v3, v4, v5, v6, v7, sp, nm, e2, e3, vs2, vs3, hT1, hT2, hT3, hT4, hT5, hT6⟩ := hT
  intro dp un gd cn cs a ccd cl outer A₀ base h₀ L m s Q E p loose mean mg mb B F X N T hk hd hu hret
  refine wpAny_call ?_
  k_dflt cell_enter
  k_steps
  · have k0 : k = 0 := by omega
    exact hret _ _ _ _ ⟨⟨_, by rw [stNm, if_pos k0]; rfl⟩, rfl⟩ (by assumption) (by assumption)
  · rename _ = true => a2
    have k0 : k ≠ 0 := by intro k0; rename _ ≠ (-1 : Int) => a1; exact a1 (by rw [if_pos k0])
    have e : (if k = 0 then (-1 : Int) else k).toNat = k := by rw [if_neg k0]; omega
    rw [e] at a2
    exact hret _ _ _ _ ⟨⟨_, by rw [stNm, if_neg k0, if_neg (by simpa using a2)]; rfl⟩, rfl⟩ (by assumption) (by assumption)
  · rename _ = false => a2
    have k0 : k ≠ 0 := by intro k0; rename _ ≠ (-1 : Int) => a1; exact a1 (by rw [if_pos k0])
    have e : (if k = 0 then (-1 : Int) else k).toNat = k := by rw [if_neg k0]; omega
    rw [e] at a2 ⊢
    exact hret _ _ _ _ ⟨⟨_, by rw [stNm, if_neg k0, if_pos (by simpa using a2)]⟩, rfl⟩ (by assumption) (by assumption)
theorem name_ctrp : ∀ (w : World) (news : Led) (st : Addr) (l : Addr) (t : Addr) (its : List Value) (n : Nat) (k : Nat) (S : List Str) (Nn : List Str) (hS : Stk news st l t) (hT : Tre news t S Nn) (h3 : (l, listOf its.toArray n) ∈ news) (hi : IntsAre its (upTo k)) (hk1 : k < S.length) (hk2 : k < Nn.length) (hsz : k ≤ 100),
      Ctr w 6 60 112 [.ref st] news (fun r news' => (∃ t, r = .str (stNm S Nn k) t) ∧ news' = news) :=
    fun w news st l t its n k S Nn hS hT h3 hi hk1 hk2 hsz => name_ctr w news st l t its n k S Nn hS hT hk1 hk2 h3 hi hsz
section
open PySem PySem.W PyProof.Rows
section
variable {prog : Program} {w : World} {A : Around} {E : Value → Shared → Prop} {s : Shared} {env : Env} {h₀ : Heap} {L : Addr} {x : Str} {body : List Stmt} {Q : Flow → Shared → Prop}
theorem sub_refl {a : Led} : ∀ p ∈ a, p ∈ a := fun _ h => h
/-- the end of a turn of a while -/
def TurnW (h₀ : Heap) (L : Addr) (s : Shared) (stored : List Str) (m : Str → Option Value) (J : Nat → Led → Prop) (Q : Flow → Shared → Prop) (n : Nat) (f : Flow) (s₃ : Shared) : Prop :=
  match f with
  | .next | .cont => ∃ h' tk m' news' n', s₃ = { s with heap := h', toks := tk } ∧ Fr h₀ L h' m' ∧ News h₀ L h' news' ∧ (∀ z, stored.contains z = false → m' z = m z) ∧ n' < n ∧ ∃ nx, (∀ p ∈ nx, p ∈ news') ∧ J n' nx
  | .brk => Q .next s₃
  | .ret v => Q (.ret v) s₃
theorem fix_map {m m' : Str → Option Value} {stored : List Str} (h : ∀ z, stored.contains z = false → m' z = m z) : m' = fun z => if stored.contains z then m' z else m z := by
  funext z
  cases hz : stored.contains z with
  | true => simp
  | false => simp [h z hz]
theorem while_K {test : Expr} {pos : Pos} {m : Str → Option Value} {news : Led} (stored : List Str) (J : Nat → Led → Prop) (n₀ : Nat)
    (F : Fr h₀ L s.heap m) (N : News h₀ L s.heap news) (hJ : ∃ nx, (∀ p ∈ nx, p ∈ news) ∧ J n₀ nx)
    (turn : ∀ (n : Nat) (u : Str → Option Value) (news₁ : Led) (h₁ : Heap) (tk₁ : Nat), Fr h₀ L h₁ (fun z => if stored.contains z then u z else m z) → News h₀ L h₁ news₁ → J n news₁ →
      wpAny (model prog w) A (isTrue test env (eval test env)) (fun b s₂ =>
        if b = true then wpAny (model prog w) A (execs body env) (TurnW h₀ L s stored m J Q n) E s₂ else Q .next s₂) E { s with heap := h₁, toks := tk₁ })
    (hE : PassesOwn (model prog w) A env E := by passes_own) :
    wpAny (model prog w) A (exec (.While test body [] pos) env) Q E s := by
  obtain ⟨nx₀, hs₀, hJ⟩ := hJ
  refine While_inv2 (n₀ := n₀) (fun n m₁ nx => (∀ z, stored.contains z = false → m₁ z = m z) ∧ J n nx) F (news := nx₀) (fun p hp => N p (hs₀ p hp)) ⟨fun _ _ => rfl, hJ⟩ ?_ hE
  rintro n m₁ nx h tk F₁ N₁ ⟨hm, hj⟩
  have e := fix_map hm
  rw [e] at F₁
  refine wpAny_mono (turn n m₁ nx h tk F₁ N₁ hj) (fun b s₂ p => ?_) fun _ _ x => x
  cases b with
  | false => simpa using p
  | true =>
    simp only [if_true] at p ⊢
    refine wpAny_mono p (fun f s₃ q => ?_) fun _ _ x => x
    cases f with
    | ret v => exact q
    | brk => exact q
    | next =>
      obtain ⟨h', tk', m', news', n', rfl, F', N', hm', hn, nx', hs', hj'⟩ := q
      exact ⟨h', tk', m', nx', n', rfl, F', fun p hp => N' p (hs' p hp), hn, hm', hj'⟩
    | cont =>
      obtain ⟨h', tk', m', news', n', rfl, F', N', hm', hn, nx', hs', hj'⟩ := q
      exact ⟨h', tk', m', nx', n', rfl, F', fun p hp => N' p (hs' p hp), hn, hm', hj'⟩
/-- what is shown later -/
structure Later (P : Prop) : Prop where
  out : P
theorem while_H {test : Expr} {pos : Pos} {m : Str → Option Value} {news : Led} (F : Fr h₀ L s.heap m) (N : News h₀ L s.heap news) (hE : PassesOwn (model prog w) A env E)
    (h : Later (∃ (stored : List Str) (J : Nat → Led → Prop) (n₀ : Nat), (∃ nx, (∀ p ∈ nx, p ∈ news) ∧ J n₀ nx) ∧
      (∀ (n : Nat) (u : Str → Option Value) (news₁ : Led) (h₁ : Heap) (tk₁ : Nat), Fr h₀ L h₁ (fun z => if stored.contains z then u z else m z) → News h₀ L h₁ news₁ → J n news₁ →
      wpAny (model prog w) A (isTrue test env (eval test env)) (fun b s₂ =>
        if b = true then wpAny (model prog w) A (execs body env) (TurnW h₀ L s stored m J Q n) E s₂ else Q .next s₂) E { s with heap := h₁, toks := tk₁ }))) :
    wpAny (model prog w) A (exec (.While test body [] pos) env) Q E s := by
  obtain ⟨stored, J, n₀, hJ, turn⟩ := h.out
  exact while_K stored J n₀ F N hJ turn hE
/-- the end of a turn of a for over a list of the ledger -/
def TurnF (h₀ : Heap) (L : Addr) (s : Shared) (x : Str) (stored : List Str) (m : Str → Option Value) (J : Led → Prop) (I : Addr) (it : Obj) (Q : Flow → Shared → Prop) (f : Flow) (s₃ : Shared) : Prop :=
  match f with
  | .next | .cont => ∃ h' tk m' nx, s₃ = { s with heap := h', toks := tk } ∧ Fr h₀ L h' m' ∧ News h₀ L h' nx ∧ (∀ z, z ≠ x → stored.contains z = false → m' z = m z) ∧ ∃ ny, (∀ p ∈ (I, it) :: ny, p ∈ nx) ∧ J ny
  | .brk => Q .next s₃
  | .ret v => Q (.ret v) s₃
theorem fix_mapF {m m' : Str → Option Value} {x : Str} {stored : List Str} (h : ∀ z, z ≠ x → stored.contains z = false → m' z = m z) : m' = fun z => if z = x then m' z else if stored.contains z then m' z else m z := by
  funext z
  by_cases hx : z = x
  · simp [hx]
  · cases hz : stored.contains z with
    | true => simp
    | false => simp [hx, h z hx hz]
theorem for_rest {I : Addr} {lp : Addr × Obj} (stored : List Str) (m₀ : Str → Option Value) (J : Nat → Led → Prop) (vs : List Value)
    (hadr : ∀ i nx, J i nx → (∀ p ∈ nx, p.1 ≠ I) ∧ lp ∈ nx)
    (turn : ∀ (i : Nat) (v : Value) (u : Str → Option Value) (it : Obj) (h : Heap) (tk : Nat) (nx : Led), vs[i]? = some v → J i nx → (∀ p ∈ nx, p.1 ≠ I) → Fr h₀ env.locals h (fun z => if z = x then some v else if stored.contains z then u z else m₀ z) → News h₀ env.locals h ((I, it) :: nx) →
      wpAny (model prog w) A (execs body env) (TurnF h₀ env.locals s x stored m₀ (J (i + 1)) I it Q) E { s with heap := h, toks := tk })
    (done : ∀ (u : Str → Option Value) (h : Heap) (tk : Nat) (nx : Led), J vs.length nx → Fr h₀ env.locals h (fun z => if z = x then u z else if stored.contains z then u z else m₀ z) → News h₀ env.locals h nx → Q .next { s with heap := h, toks := tk }) :
    ∀ (k i : Nat) (m : Str → Option Value) (nx : Led), i + k = vs.length → (∀ z, z ≠ x → stored.contains z = false → m z = m₀ z) → J i nx → ListRest prog w A E h₀ env x body Q s I lp (vs.drop i) m nx
  | 0, i, m, nx, hi, hm, hj => by
    have e : i = vs.length := by omega
    subst e
    rw [List.drop_length]
    intro h tk F N
    rw [fix_mapF hm] at F
    exact done m h tk nx hj F N
  | k + 1, i, m, nx, hi, hm, hj => by
    have hlt : i < vs.length := by omega
    rw [List.drop_eq_getElem_cons hlt]
    intro it h tk hc F N
    have F' : Fr h₀ env.locals h (fun z => if z = x then some vs[i] else if stored.contains z then m z else m₀ z) := by
      have e : (fun y => if y = x then some vs[i] else m y) = fun z => if z = x then some vs[i] else if stored.contains z then m z else m₀ z := by
        funext z
        by_cases hx : z = x
        · simp [hx]
        · simp only [hx, if_false]
          cases hz : stored.contains z with
          | true => simp
          | false => simp [hm z hx hz]
      rw [← e]; exact F
    refine wpAny_mono (turn i vs[i] m it h tk nx (by simp [hlt]) hj (hadr i nx hj).1 F' N) (fun f s₃ q => ?_) fun _ _ y => y
    have fin : (∃ h' tk' m' nx', s₃ = { s with heap := h', toks := tk' } ∧ Fr h₀ env.locals h' m' ∧ News h₀ env.locals h' nx' ∧ (∀ z, z ≠ x → stored.contains z = false → m' z = m₀ z) ∧ ∃ ny, (∀ p ∈ (I, it) :: ny, p ∈ nx') ∧ J (i + 1) ny) →
        UnrEnd h₀ env.locals { s with heap := h, toks := tk } I it (fun m' n' => lp ∈ n' ∧ ListRest prog w A E h₀ env x body Q s I lp (vs.drop (i + 1)) m' n') s₃ := by
      rintro ⟨h', tk', m', nx', rfl, F₂, N₂, hm', ny, hs, hj'⟩
      exact ⟨h', tk', m', ny, rfl, F₂, fun p hp => N₂ p (hs p hp), (hadr _ _ hj').1, (hadr _ _ hj').2, for_rest stored m₀ J vs hadr turn done k (i + 1) m' ny (by omega) hm' hj'⟩
    cases f with
    | ret v => exact q
    | brk => exact q
    | next => exact fin q
    | cont => exact fin q
/-- a for over a list of the ledger, by an invariant of the turn's number and of the ledger; the ledger's addresses stay -/
theorem for_K {ax : Addr} {lo : Obj} {vs : List Value} {n : Nat} {m₀ : Str → Option Value} {news : Led} (stored : List Str) (J : Nat → Led → Prop)
    (hh : A.handled = none) (F : Fr h₀ env.locals s.heap m₀) (N : News h₀ env.locals s.heap news) (hc : lo.cls = .type "list") (hd : lo.data = .seq vs.toArray n) (nx₀ : Led) (hs₀ : ∀ p ∈ nx₀, p ∈ news) (hJ : J 0 nx₀)
    (hadr : ∀ i nx, J i nx → nx.map (·.1) = nx₀.map (·.1) ∧ (ax, lo) ∈ nx)
    (turn : ∀ (I : Addr) (i : Nat) (v : Value) (u : Str → Option Value) (it : Obj) (h : Heap) (tk : Nat) (nx : Led), vs[i]? = some v → J i nx → (∀ p ∈ nx, p.1 ≠ I) → Fr h₀ env.locals h (fun z => if z = x then some v else if stored.contains z then u z else m₀ z) → News h₀ env.locals h ((I, it) :: nx) →
      wpAny (model prog w) A (execs body env) (TurnF h₀ env.locals s x stored m₀ (J (i + 1)) I it Q) E { s with heap := h, toks := tk })
    (done : ∀ (u : Str → Option Value) (h : Heap) (tk : Nat) (nx : Led), J vs.length nx → Fr h₀ env.locals h (fun z => if z = x then u z else if stored.contains z then u z else m₀ z) → News h₀ env.locals h nx → Q .next { s with heap := h, toks := tk }) :
    wpAny (model prog w) A (pyIter (.ref ax)) (fun it s₂ => LoopAtV prog w A h₀ env x body Q E it s₂) E s := by
  refine iter_listUnr hh F (fun p hp => N p (hs₀ p hp)) (hadr 0 nx₀ hJ).2 hc hd fun I hI => ?_
  have hadr' : ∀ i nx, J i nx → (∀ p ∈ nx, p.1 ≠ I) ∧ (ax, lo) ∈ nx := fun i nx hj => ⟨fun p hp => by
    have e : p.1 ∈ nx₀.map (·.1) := by rw [← (hadr i nx hj).1]; exact List.mem_map_of_mem hp
    obtain ⟨q, hq, e'⟩ := List.mem_map.mp e
    exact fun z => Nat.ne_of_lt (hI q hq) (e'.trans z), (hadr i nx hj).2⟩
  have r := for_rest (prog := prog) (w := w) (A := A) (E := E) (s := s) (env := env) (body := body) (Q := Q) (x := x) (I := I) (lp := (ax, lo)) stored m₀ J vs hadr' (turn I) done vs.length 0 m₀ nx₀ (by omega) (fun _ _ _ => rfl) hJ
  rw [List.drop_zero] at r
  exact r
theorem for_H {ax : Addr} {vs : List Value} {n : Nat} {m₀ : Str → Option Value} {news : Led} (hh : A.handled = none) (F : Fr h₀ env.locals s.heap m₀) (N : News h₀ env.locals s.heap news) (hmx : (ax, listOf vs.toArray n) ∈ news)
    (h : Later (∃ (stored : List Str) (J : Nat → Led → Prop) (nx₀ : Led), (∀ p ∈ nx₀, p ∈ news) ∧ J 0 nx₀ ∧ (∀ i nx, J i nx → nx.map (·.1) = nx₀.map (·.1) ∧ (ax, listOf vs.toArray n) ∈ nx) ∧
      (∀ (I : Addr) (i : Nat) (v : Value) (u : Str → Option Value) (it : Obj) (h : Heap) (tk : Nat) (nx : Led), vs[i]? = some v → J i nx → (∀ p ∈ nx, p.1 ≠ I) → Fr h₀ env.locals h (fun z => if z = x then some v else if stored.contains z then u z else m₀ z) → News h₀ env.locals h ((I, it) :: nx) →
        wpAny (model prog w) A (execs body env) (TurnF h₀ env.locals s x stored m₀ (J (i + 1)) I it Q) E { s with heap := h, toks := tk }) ∧
      (∀ (u : Str → Option Value) (h : Heap) (tk : Nat) (nx : Led), J vs.length nx → Fr h₀ env.locals h (fun z => if z = x then u z else if stored.contains z then u z else m₀ z) → News h₀ env.locals h nx → Q .next { s with heap := h, toks := tk }))) :
    wpAny (model prog w) A (pyIter (.ref ax)) (fun it s₂ => LoopAtV prog w A h₀ env x body Q E it s₂) E s := by
  obtain ⟨stored, J, nx₀, hs₀, hJ, hadr, turn, done⟩ := h.out
  exact for_K stored J hh F N rfl rfl nx₀ hs₀ hJ hadr turn done
end
abbrev tupOf (vs : List Value) : Obj := { cls := .type "tuple", data := .seq vs.toArray }
theorem in_tupN {prog : Program} {w : World} {A : Around} {E : Value → Shared → Prop} {s : Shared} {h₀ : Heap} {L : Addr} {news : Led} {a : Addr} {l : List Value} {ys : List Str} {x : Str} {u : Tok} {Q : Value → Shared → Prop}
    (N : News h₀ L s.heap news) (hm : (a, tupOf l) ∈ news) (hi : StrsAre l ys) (h : Q (.bool (ys.any (· == x))) s) : wpAny (model prog w) A (compareOp .In (.str x u) (.ref a)) Q E s :=
  in_tuple_strs (News.isTup N hm) hi h
theorem notin_tupN {prog : Program} {w : World} {A : Around} {E : Value → Shared → Prop} {s : Shared} {h₀ : Heap} {L : Addr} {news : Led} {a : Addr} {l : List Value} {ys : List Str} {x : Str} {u : Tok} {Q : Value → Shared → Prop}
    (N : News h₀ L s.heap news) (hm : (a, tupOf l) ∈ news) (hi : StrsAre l ys) (h : Q (.bool (!(ys.any (· == x)))) s) : wpAny (model prog w) A (compareOp .NotIn (.str x u) (.ref a)) Q E s :=
  notin_tuple_strs (News.isTup N hm) hi h
theorem in_listN {prog : Program} {w : World} {A : Around} {E : Value → Shared → Prop} {s : Shared} {h₀ : Heap} {L : Addr} {news : Led} {a : Addr} {l : List Value} {n : Nat} {ys : List Str} {x : Str} {u : Tok} {Q : Value → Shared → Prop}
    (N : News h₀ L s.heap news) (hm : (a, listOf l.toArray n) ∈ news) (hi : StrsAre l ys) (h : Q (.bool (ys.any (· == x))) s) : wpAny (model prog w) A (compareOp .In (.str x u) (.ref a)) Q E s :=
  in_list_strs (News.isList N hm) hi h
theorem notin_listN {prog : Program} {w : World} {A : Around} {E : Value → Shared → Prop} {s : Shared} {h₀ : Heap} {L : Addr} {news : Led} {a : Addr} {l : List Value} {n : Nat} {ys : List Str} {x : Str} {u : Tok} {Q : Value → Shared → Prop}
    (N : News h₀ L s.heap news) (hm : (a, listOf l.toArray n) ∈ news) (hi : StrsAre l ys) (h : Q (.bool (!(ys.any (· == x)))) s) : wpAny (model prog w) A (compareOp .NotIn (.str x u) (.ref a)) Q E s :=
  notin_list_strs (News.isList N hm) hi h
theorem add_tupN {prog : Program} {w : World} {A : Around} {E : Value → Shared → Prop} {s : Shared} {h₀ : Heap} {L : Addr} {m : Str → Option Value} {news : Led} {a b : Addr} {vs ws : List Value} {Q : Value → Shared → Prop}
    (F : Fr h₀ L s.heap m) (N : News h₀ L s.heap news) (ha : (a, tupOf vs) ∈ news) (hb : (b, tupOf ws) ∈ news) (hv : vs ≠ []) (hw : ws ≠ []) (hz : vs.length + ws.length ≤ 1000)
    (h : ∀ D h', Fr h₀ L h' m → News h₀ L h' ((D, tupOf (vs ++ ws)) :: news) → (∀ p ∈ news, p.1 < D) → Q (.ref D) { s with heap := h' }) : wpAny (model prog w) A (binaryOp .Add (.ref a) (.ref b)) Q E s :=
  add_tuples F N (News.isTup N ha) (News.isTup N hb) (fun q => absurd q hv) (fun _ q => absurd q hw) (fun _ _ h' F' N' => h _ h' F' N' fun p hp => Heap.lt_size (N p hp).1) (by rw [PySem.sizeLine_eq]; omega)
theorem add_listN {prog : Program} {w : World} {A : Around} {E : Value → Shared → Prop} {s : Shared} {h₀ : Heap} {L : Addr} {m : Str → Option Value} {news : Led} {a b : Addr} {vs ws : List Value} {n n2 : Nat} {Q : Value → Shared → Prop}
    (F : Fr h₀ L s.heap m) (N : News h₀ L s.heap news) (ha : (a, listOf vs.toArray n) ∈ news) (hb : (b, listOf ws.toArray n2) ∈ news) (hz : vs.length + ws.length ≤ 1000)
    (h : ∀ D h', Fr h₀ L h' m → News h₀ L h' ((D, listOf (vs ++ ws).toArray 0) :: news) → (∀ p ∈ news, p.1 < D) → Q (.ref D) { s with heap := h' }) : wpAny (model prog w) A (binaryOp .Add (.ref a) (.ref b)) Q E s :=
  add_lists F N (News.isList N ha) (News.isList N hb) (fun h' F' N' => h _ h' F' N' fun p hp => Heap.lt_size (N p hp).1) (by rw [PySem.sizeLine_eq]; omega)
theorem strs_ne {vs : List Value} {y : Str} {ys : List Str} (h : StrsAre vs (y :: ys)) : vs ≠ [] := by cases h; simp
/-- the names of html's elements with an implied end tag -/
def impl : List Str := [Str.ofString "dd", Str.ofString "dt", Str.ofString "li", Str.ofString "optgroup", Str.ofString "option", Str.ofString "p", Str.ofString "rb", Str.ofString "rp", Str.ofString "rt", Str.ofString "rtc"]
def more : List Str := [Str.ofString "caption", Str.ofString "colgroup", Str.ofString "tbody", Str.ofString "td", Str.ofString "tfoot", Str.ofString "th", Str.ofString "thead", Str.ofString "tr"]
/-- a new tuple of these texts stands ahead of the ledger -/
def TupNew (ys : List Str) (news : Led) (r : Value) (news' : Led) : Prop := ∃ D vs, r = .ref D ∧ news' = (D, tupOf vs) :: news ∧ StrsAre vs ys ∧ ∀ p ∈ news, p.1 < D
/-- down from k while c holds -/
def stopN (c : Nat → Bool) : Nat → Nat
  | 0 => 0
  | k + 1 => if c (k + 1) then stopN c k else k + 1
theorem stopN_le (c : Nat → Bool) : ∀ k, stopN c k ≤ k
  | 0 => Nat.le_refl 0
  | k + 1 => by
    unfold stopN
    split
    · exact Nat.le_succ_of_le (stopN_le c k)
    · exact Nat.le_refl _
theorem Stk.mono {a b : Led} {st l t : Addr} (h : Stk a st l t) (s : ∀ p ∈ a, p ∈ b) : Stk b st l t := by
  obtain ⟨sd, h1, t1, h2, t2, x, y⟩ := h
  exact ⟨sd, h1, t1, h2, t2, s _ x, s _ y⟩
theorem Tre.mono {a b : Led} {t : Addr} {S N : List Str} (h : Tre a t S N) (s : ∀ p ∈ a, p ∈ b) : Tre b t S N := by
  obtain ⟨td, g0, u0, g1, u1, g2, u2, g3, u3, g4, u4, g5, u5, g6, u6, g7, u7, v0, v3, v4, v5, v6, v7, sp, nm, e2, e3, vs2, vs3, hT1, hT2, hT3, hT4, hT5, hT6⟩ := h
  exact ⟨td, g0, u0, g1, u1, g2, u2, g3, u3, g4, u4, g5, u5, g6, u6, g7, u7, v0, v3, v4, v5, v6, v7, sp, nm, e2, e3, vs2, vs3, s _ hT1, s _ hT2, s _ hT3, hT4, s _ hT5, hT6⟩
theorem sub_tail {a : Led} {q : Addr × Obj} : ∀ p ∈ a, p ∈ q :: a := fun _ h => List.mem_cons_of_mem _ h
theorem sub_tail2 {a : Led} {q r : Addr × Obj} : ∀ p ∈ a, p ∈ q :: r :: a := fun _ h => List.mem_cons_of_mem _ (List.mem_cons_of_mem _ h)
theorem sub_head2 {a : Led} {q r r' : Addr × Obj} : ∀ p ∈ q :: a, p ∈ q :: r :: r' :: a := fun p hp => by
  rcases List.mem_cons.mp hp with rfl | hp
  · exact List.mem_cons_self
  · exact List.mem_cons_of_mem _ (sub_tail2 p hp)
theorem sub_head1 {a : Led} {q r : Addr × Obj} : ∀ p ∈ q :: a, p ∈ q :: r :: a := fun p hp => by
  rcases List.mem_cons.mp hp with rfl | hp
  · exact List.mem_cons_self
  · exact List.mem_cons_of_mem _ (sub_tail p hp)
theorem sub_swap {a : Led} {q r : Addr × Obj} : ∀ p ∈ q :: r :: a, p ∈ r :: q :: a := fun p hp => by
  rcases List.mem_cons.mp hp with rfl | hp
  · exact List.mem_cons_of_mem _ List.mem_cons_self
  · rcases List.mem_cons.mp hp with rfl | hp
    · exact List.mem_cons_self
    · exact List.mem_cons_of_mem _ (sub_tail p hp)
theorem stNm_zero (S N : List Str) : stNm S N 0 = Str.ofString "" := rfl
theorem impl_empty : impl.any (· == Str.ofString "") = false := by decide +kernel
theorem implMore_empty : (impl ++ more).any (· == Str.ofString "") = false := by decide +kernel
theorem stopN_go {c : Nat → Bool} {n : Nat} (h0 : n ≠ 0) (h : c n = true) : stopN c n = stopN c (n - 1) := by
  cases n with
  | zero => exact absurd rfl h0
  | succ n => rw [stopN, if_pos h]; rfl
theorem stopN_at {c : Nat → Bool} {n : Nat} (h : n = 0 ∨ c n = false) : stopN c n = n := by
  cases n with
  | zero => rfl
  | succ n =>
    rcases h with h | h
    · cases h
    · rw [stopN, if_neg (by rw [h]; decide)]
end
set_option maxRecDepth 100000 in
set_option maxHeartbeats 0 in
theorem implied_ctr : ∀ (w : World) (news : Led),
      Ctr w 3 40 28 [] news (TupNew impl news) := by
  k_with_none
  k_with "k_memx" => assumption
  k_with "call builtin:len" => (k_here; (with_reducible show wpAny _ _ (call (Value.builtin "len") [Value.ref _]) _ _ _); k_dflt (refine' KM.len_K (by k_asm) (by (first | assumption | k_mem)) (by (first | exact List.size_toArray | with_reducible rfl)) (by (first | omega | (simp only [List.size_toArray, List.length_append, List.length_cons, List.length_nil]; omega))) ?_))
  k_with "k_all" => assumption
  k_with "callm" => (k_here; (with_reducible show wpAny _ _ (call (Value.ref 70) _) _ _ _); k_dflt (refine' Ctr.use (by k_asm) (by k_asm) (by k_asm) (by k_asm) (by k_asm) (by (first | exact rfl | assumption)) (current_ctr _ _ _ _ _ _ _ _ (by assumption) (by (first | assumption | k_mem)) (by assumption) (by (first | with_reducible assumption | omega))) (by (first | exact room hd rfl | ktr_room)) (by (first | exact room hu rfl | ktr_units)) ?_); (intro r9 n9 h9 tk9 p9 F9 N9; (try k_fold); obtain ⟨⟨t9, e9⟩, e9'⟩ := p9; subst r9; subst n9; (try dsimp only); (try k_fold)))
  k_with "callm" => (k_here; (with_reducible show wpAny _ _ (call (Value.ref 112) _) _ _ _); k_dflt (refine' Ctr.use (by k_asm) (by k_asm) (by k_asm) (by k_asm) (by k_asm) (by (first | exact rfl | assumption)) (name_ctrp _ _ _ _ _ _ _ _ _ _ (by assumption) (by assumption) (by (first | assumption | k_mem)) (by assumption) (by (first | with_reducible assumption | omega)) (by (first | with_reducible assumption | omega)) (by (first | with_reducible assumption | omega))) (by (first | exact room hd rfl | ktr_room)) (by (first | exact room hu rfl | ktr_units)) ?_); (intro r9 n9 h9 tk9 p9 F9 N9; (try k_fold); obtain ⟨⟨t9, e9⟩, e9'⟩ := p9; subst r9; subst n9; (try dsimp only); (try k_fold)))
  k_with "subscriptTail" => (k_here; (with_reducible show wpAny _ _ (subscriptTail _ _ (Value.ref _) (Value.int _ _)) _ _ _); (with_unfolding_all refine' item_strsN (by k_asm) (by (first | assumption | k_mem)) (by assumption) (by (first | with_reducible assumption | omega)) (by (first | with_reducible assumption | omega)) (by (first | with_reducible assumption | omega)) ?_); intro t9)
  k_with "compareOp In str ref" => (k_here; k_dflt (first | (refine' in_tupN (by k_asm) (by k_mem) (by assumption) ?_) | (refine' in_listN (by k_asm) (by k_mem) (by assumption) ?_)))
  k_with "compareOp NotIn str ref" => (k_here; k_dflt (first | (refine' notin_tupN (by k_asm) (by k_mem) (by assumption) ?_) | (refine' notin_listN (by k_asm) (by k_mem) (by assumption) ?_)))
  k_with "binaryOp Add ref ref" => (k_here; (with_reducible show wpAny _ _ (binaryOp _ (Value.ref _) (Value.ref _)) _ _ _); k_dflt (first | (refine' add_tupN (by k_asm) (by k_asm) (by k_mem) (by k_mem) (by (first | exact strs_ne (by assumption) | exact List.cons_ne_nil _ _)) (by (first | exact strs_ne (by assumption) | exact List.cons_ne_nil _ _)) (by (simp only [List.length_cons, List.length_nil, List.length_append]; omega)) ?_) | (refine' add_listN (by k_asm) (by k_asm) (by k_mem) (by k_mem) (by (first | omega | (simp only [List.length_cons, List.length_nil, List.length_append]; omega))) ?_)); intro D' h' F' N' l1; (try k_sweep))
  intro w news
  unfold Ctr
  k_fill
  intro dp un gd cn cs a ccd cl outer A₀ base h₀ L m s Q E p loose mean mg mb B F X N T hk hd hu hret
  refine wpAny_call ?_
  k_dflt cell_enter
  k_steps
  rename ∀ p ∈ news, p.1 < _ => l1
  refine hret _ _ _ _ ⟨_, _, rfl, rfl, ?_, l1⟩ (by assumption) (by assumption)
  unfold impl
  repeat (first | exact .nil | refine .cons _ _ ?_)
set_option maxRecDepth 100000 in
set_option maxHeartbeats 0 in
theorem all_implied_ctr : ∀ (w : World) (news : Led),
      Ctr w 6 60 35 [] news (TupNew (impl ++ more) news) := by
  k_with "callm" => (k_here; (with_reducible show wpAny _ _ (call (Value.ref 28) _) _ _ _); k_dflt (refine' Ctr.use (by k_asm) (by k_asm) (by k_asm) (by k_asm) (by k_asm) (by (first | exact rfl | assumption)) (implied_ctr _ _) (by (first | exact room hd rfl | ktr_room)) (by (first | exact room hu rfl | ktr_units)) ?_); (intro r9 n9 h9 tk9 p9 F9 N9; (try k_fold); obtain ⟨D9, vs9, e9, e9', st9, lt9⟩ := p9; subst r9; subst n9; have ln9 := StrsAre.len_eq st9; have ln9' : impl.length = 10 := rfl; (try dsimp only); (try k_fold)))
  intro w news
  unfold Ctr
  k_fill
  intro dp un gd cn cs a ccd cl outer A₀ base h₀ L m s Q E p loose mean mg mb B F X N T hk hd hu hret
  refine wpAny_call ?_
  k_dflt cell_enter
  k_steps
  rename StrsAre _ impl => st9
  rename News h₀ L _ _ => kN
  rename ∀ p ∈ _ :: _ :: news, p.1 < _ => l1
  refine hret _ _ _ _ ⟨_, _, rfl, rfl, StrsAre.append' st9 ?_, fun p hp => l1 p (sub_tail2 p hp)⟩ (by assumption) (fun p hp => kN p (sub_head2 p hp))
  unfold more
  repeat (first | exact .nil | refine .cons _ _ ?_)
set_option maxRecDepth 100000 in
set_option maxHeartbeats 0 in
theorem pop_implied_ctr : ∀ (w : World) (rest : Led) (st l t : Addr) (S Nn : List Str) (its : List Value) (e k : Nat) (vs : List Value) (but : Str) (hvs : (vs = [.ref st] ∧ but = Str.empty) ∨ ∃ tk, vs = [.ref st, .str but tk]) (hS : Stk rest st l t) (hT : Tre rest t S Nn) (hk1 : k < S.length) (hk2 : k < Nn.length) (hap : ∀ p ∈ rest, p.1 ≠ l) (hi : IntsAre its (upTo k)) (hsz : k ≤ 100),
      Ctr w 9 80 148 vs ((l, listOf its.toArray e) :: rest) (fun r news' => r = .none ∧ SS l (stopN (fun j => impl.any (· == stNm S Nn j) && !(stNm S Nn j == but)) k) rest news') := by
  k_with "exec While BoolOp" => (k_here; (with_unfolding_all refine' while_H (by k_asm) (by k_asm) (by passes_own) ?_))
  k_with "callm" => (k_here; (with_reducible show wpAny _ _ (call (Value.ref 63) _) _ _ _); k_dflt (refine' Ctr.use (by k_asm) (by k_asm) (by k_asm) (by k_asm) (by k_asm) (by (first | exact rfl | assumption)) (pop_ctr _ _ _ _ _ _ _ _ (by assumption) (by assumption) (by assumption) (by (first | with_reducible assumption | omega))) (by (first | exact room hd rfl | ktr_room)) (by (first | exact room hu rfl | ktr_units)) ?_); (intro r9 n9 h9 tk9 p9 F9 N9; (try k_fold); obtain ⟨⟨t9, e9⟩, ⟨its9, ep9, e9', i9⟩⟩ := p9; subst r9; subst n9; (try dsimp only); (try k_fold)))
  intro w rest st l t S Nn its e k vs but hvs hS hT hk1 hk2 hap hi hsz
  unfold Ctr
  k_fill
  have hS' := hS
  obtain ⟨sd, hh1, t1, hh2, t2, hSa, hSb⟩ := hS'
  generalize hc : (fun j => impl.any (· == stNm S Nn j) && !(stNm S Nn j == but)) = c
  intro dp un gd cn cs a ccd cl outer A₀ base h₀ L m s Q E p loose mean mg mb B F X N T hk hd hu hret
  rcases hvs with ⟨rfl, rfl⟩ | ⟨tk, rfl⟩
  · refine wpAny_call ?_
    k_dflt (refine' code_def (by k_asm) (by k_asm) (by k_asm) (by k_asm) (by k_asm) (by exact rfl) (by exact rfl) (by assumption) (by k_is) (by k_is) (by ktr_room) (by (first | exact BindsTo.of_eq rfl | exact binds_K (by k_in) rfl (by k_is) rfl rfl rfl)) (by exact locs rfl) ?_ (by exact rfl) (by exact rfl) (by exact rfl) (by decide); k_whole; intro g' L' h' FG' F' N' B' X' T'; (try dsimp only); (try k_lift B'); (try k_fold))
    k_steps
    rename StrsAre _ impl => st9
    refine ⟨[], fun n nx => n ≤ k ∧ stopN c n = stopN c k ∧ ∃ its e, nx = (l, listOf (List.toArray its) e) :: (D9, tupOf vs9) :: rest ∧ IntsAre its (upTo n), k, ⟨(l, listOf its.toArray e) :: (D9, tupOf vs9) :: rest, sub_swap, Nat.le_refl _, rfl, its, e, rfl, hi⟩, ?_⟩
    · rintro n u nx h₁ tk₁ F₁ N₁ ⟨hnk, hst, its', e', rfl, hi'⟩
      have hS1 : Stk ((D9, tupOf vs9) :: rest) st l t := hS.mono sub_tail
      have hS2 : Stk ((l, listOf its'.toArray e') :: (D9, tupOf vs9) :: rest) st l t := hS1.mono sub_tail
      have hT2 : Tre ((l, listOf its'.toArray e') :: (D9, tupOf vs9) :: rest) t S Nn := hT.mono sub_tail2
      have hap1 : ∀ p ∈ (D9, tupOf vs9) :: rest, p.1 ≠ l := by
        intro p hp
        rcases List.mem_cons.mp hp with rfl | hp
        · exact Nat.ne_of_gt (lt9 (l, listOf its.toArray e) List.mem_cons_self)
        · exact hap p hp
      simp only [List.contains_nil, Bool.false_eq_true, if_false] at F₁
      k_steps
      · rename (_ != _) = true => a2
        rename List.any _ _ = true => a1
        have h0 : n ≠ 0 := by
          intro h0
          rw [h0, stNm_zero, impl_empty] at a1
          cases a1
        have hcn : c n = true := by
          rw [← hc]
          simp only [Bool.and_eq_true]
          exact ⟨a1, a2⟩
        refine ⟨_, _, _, _, n - 1, rfl, by assumption, by assumption, fun _ _ => rfl, by omega, _, sub_refl, by omega, ?_, _, _, rfl, by assumption⟩
        rw [← hst, stopN_go h0 hcn]
      · rename (_ != _) = false => a2
        rename List.any _ _ = true => a1
        have hcn : c n = false := by
          rw [← hc]
          simp only [Bool.and_eq_false_iff]
          exact Or.inr a2
        refine hret _ _ _ _ ⟨rfl, _, _, rfl, ?_⟩ (by assumption) (fun p hp => ‹News h₀ L _ _› p (sub_head1 p hp))
        rw [← hst, stopN_at (Or.inr hcn)]
        assumption
      · rename List.any _ _ = false => a1
        have hcn : c n = false := by
          rw [← hc]
          simp only [Bool.and_eq_false_iff]
          exact Or.inl a1
        refine hret _ _ _ _ ⟨rfl, _, _, rfl, ?_⟩ (by assumption) (fun p hp => ‹News h₀ L _ _› p (sub_head1 p hp))
        rw [← hst, stopN_at (Or.inr hcn)]
        assumption

  · refine wpAny_call ?_
    k_dflt (refine' code_def (by k_asm) (by k_asm) (by k_asm) (by k_asm) (by k_asm) (by exact rfl) (by exact rfl) (by assumption) (by k_is) (by k_is) (by ktr_room) (by (first | exact BindsTo.of_eq rfl | exact binds_K (by k_in) rfl (by k_is) rfl rfl rfl)) (by exact locs rfl) ?_ (by exact rfl) (by exact rfl) (by exact rfl) (by decide); k_whole; intro g' L' h' FG' F' N' B' X' T'; (try dsimp only); (try k_lift B'); (try k_fold))
    k_steps
    rename StrsAre _ impl => st9
    refine ⟨[], fun n nx => n ≤ k ∧ stopN c n = stopN c k ∧ ∃ its e, nx = (l, listOf (List.toArray its) e) :: (D9, tupOf vs9) :: rest ∧ IntsAre its (upTo n), k, ⟨(l, listOf its.toArray e) :: (D9, tupOf vs9) :: rest, sub_swap, Nat.le_refl _, rfl, its, e, rfl, hi⟩, ?_⟩
    · rintro n u nx h₁ tk₁ F₁ N₁ ⟨hnk, hst, its', e', rfl, hi'⟩
      have hS1 : Stk ((D9, tupOf vs9) :: rest) st l t := hS.mono sub_tail
      have hS2 : Stk ((l, listOf its'.toArray e') :: (D9, tupOf vs9) :: rest) st l t := hS1.mono sub_tail
      have hT2 : Tre ((l, listOf its'.toArray e') :: (D9, tupOf vs9) :: rest) t S Nn := hT.mono sub_tail2
      have hap1 : ∀ p ∈ (D9, tupOf vs9) :: rest, p.1 ≠ l := by
        intro p hp
        rcases List.mem_cons.mp hp with rfl | hp
        · exact Nat.ne_of_gt (lt9 (l, listOf its.toArray e) List.mem_cons_self)
        · exact hap p hp
      simp only [List.contains_nil, Bool.false_eq_true, if_false] at F₁
      k_steps
      · rename (_ != _) = true => a2
        rename List.any _ _ = true => a1
        have h0 : n ≠ 0 := by
          intro h0
          rw [h0, stNm_zero, impl_empty] at a1
          cases a1
        have hcn : c n = true := by
          rw [← hc]
          simp only [Bool.and_eq_true]
          exact ⟨a1, a2⟩
        refine ⟨_, _, _, _, n - 1, rfl, by assumption, by assumption, fun _ _ => rfl, by omega, _, sub_refl, by omega, ?_, _, _, rfl, by assumption⟩
        rw [← hst, stopN_go h0 hcn]
      · rename (_ != _) = false => a2
        rename List.any _ _ = true => a1
        have hcn : c n = false := by
          rw [← hc]
          simp only [Bool.and_eq_false_iff]
          exact Or.inr a2
        refine hret _ _ _ _ ⟨rfl, _, _, rfl, ?_⟩ (by assumption) (fun p hp => ‹News h₀ L _ _› p (sub_head1 p hp))
        rw [← hst, stopN_at (Or.inr hcn)]
        assumption
      · rename List.any _ _ = false => a1
        have hcn : c n = false := by
          rw [← hc]
          simp only [Bool.and_eq_false_iff]
          exact Or.inl a1
        refine hret _ _ _ _ ⟨rfl, _, _, rfl, ?_⟩ (by assumption) (fun p hp => ‹News h₀ L _ _› p (sub_head1 p hp))
        rw [← hst, stopN_at (Or.inr hcn)]
        assumption
set_option maxRecDepth 100000 in
set_option maxHeartbeats 0 in
theorem pop_all_implied_ctr : ∀ (w : World) (rest : Led) (st l t : Addr) (S Nn : List Str) (its : List Value) (e k : Nat) (hS : Stk rest st l t) (hT : Tre rest t S Nn) (hk1 : k < S.length) (hk2 : k < Nn.length) (hap : ∀ p ∈ rest, p.1 ≠ l) (hi : IntsAre its (upTo k)) (hsz : k ≤ 100),
      Ctr w 12 100 155 [.ref st] ((l, listOf its.toArray e) :: rest) (fun r news' => r = .none ∧ SS l (stopN (fun j => (impl ++ more).any (· == stNm S Nn j)) k) rest news') := by
  k_with_none
  k_with "k_memx" => assumption
  k_with "call builtin:len" => (k_here; (with_reducible show wpAny _ _ (call (Value.builtin "len") [Value.ref _]) _ _ _); k_dflt (refine' KM.len_K (by k_asm) (by (first | assumption | k_mem)) (by (first | exact List.size_toArray | with_reducible rfl)) (by (first | omega | (simp only [List.size_toArray, List.length_append, List.length_cons, List.length_nil]; omega))) ?_))
  k_with "k_all" => assumption
  k_with "callm" => (k_here; (with_reducible show wpAny _ _ (call (Value.ref 70) _) _ _ _); k_dflt (refine' Ctr.use (by k_asm) (by k_asm) (by k_asm) (by k_asm) (by k_asm) (by (first | exact rfl | assumption)) (current_ctr _ _ _ _ _ _ _ _ (by assumption) (by (first | assumption | k_mem)) (by assumption) (by (first | with_reducible assumption | omega))) (by (first | exact room hd rfl | ktr_room)) (by (first | exact room hu rfl | ktr_units)) ?_); (intro r9 n9 h9 tk9 p9 F9 N9; (try k_fold); obtain ⟨⟨t9, e9⟩, e9'⟩ := p9; subst r9; subst n9; (try dsimp only); (try k_fold)))
  k_with "callm" => (k_here; (with_reducible show wpAny _ _ (call (Value.ref 112) _) _ _ _); k_dflt (refine' Ctr.use (by k_asm) (by k_asm) (by k_asm) (by k_asm) (by k_asm) (by (first | exact rfl | assumption)) (name_ctrp _ _ _ _ _ _ _ _ _ _ (by assumption) (by assumption) (by (first | assumption | k_mem)) (by assumption) (by (first | with_reducible assumption | omega)) (by (first | with_reducible assumption | omega)) (by (first | with_reducible assumption | omega))) (by (first | exact room hd rfl | ktr_room)) (by (first | exact room hu rfl | ktr_units)) ?_); (intro r9 n9 h9 tk9 p9 F9 N9; (try k_fold); obtain ⟨⟨t9, e9⟩, e9'⟩ := p9; subst r9; subst n9; (try dsimp only); (try k_fold)))
  k_with "subscriptTail" => (k_here; (with_reducible show wpAny _ _ (subscriptTail _ _ (Value.ref _) (Value.int _ _)) _ _ _); (with_unfolding_all refine' item_strsN (by k_asm) (by (first | assumption | k_mem)) (by assumption) (by (first | with_reducible assumption | omega)) (by (first | with_reducible assumption | omega)) (by (first | with_reducible assumption | omega)) ?_); intro t9)
  k_with "compareOp In str ref" => (k_here; k_dflt (first | (refine' in_tupN (by k_asm) (by k_mem) (by assumption) ?_) | (refine' in_listN (by k_asm) (by k_mem) (by assumption) ?_)))
  k_with "compareOp NotIn str ref" => (k_here; k_dflt (first | (refine' notin_tupN (by k_asm) (by k_mem) (by assumption) ?_) | (refine' notin_listN (by k_asm) (by k_mem) (by assumption) ?_)))
  k_with "binaryOp Add ref ref" => (k_here; (with_reducible show wpAny _ _ (binaryOp _ (Value.ref _) (Value.ref _)) _ _ _); k_dflt (first | (refine' add_tupN (by k_asm) (by k_asm) (by k_mem) (by k_mem) (by (first | exact strs_ne (by assumption) | exact List.cons_ne_nil _ _)) (by (first | exact strs_ne (by assumption) | exact List.cons_ne_nil _ _)) (by (simp only [List.length_cons, List.length_nil, List.length_append]; omega)) ?_) | (refine' add_listN (by k_asm) (by k_asm) (by k_mem) (by k_mem) (by (first | omega | (simp only [List.length_cons, List.length_nil, List.length_append]; omega))) ?_)); intro D' h' F' N' l1; (try k_sweep))
  k_with "callm" => (k_here; (with_reducible show wpAny _ _ (call (Value.ref 35) _) _ _ _); k_dflt (refine' Ctr.use (by k_asm) (by k_asm) (by k_asm) (by k_asm) (by k_asm) (by (first | exact rfl | assumption)) (all_implied_ctr _ _) (by (first | exact room hd rfl | ktr_room)) (by (first | exact room hu rfl | ktr_units)) ?_); (intro r9 n9 h9 tk9 p9 F9 N9; (try k_fold); obtain ⟨D9, vs9, e9, e9', st9, lt9⟩ := p9; subst r9; subst n9; (try dsimp only); (try k_fold)))
  k_with "callm" => (k_here; (with_reducible show wpAny _ _ (call (Value.ref 63) _) _ _ _); k_dflt (refine' Ctr.use (by k_asm) (by k_asm) (by k_asm) (by k_asm) (by k_asm) (by (first | exact rfl | assumption)) (pop_ctr _ _ _ _ _ _ _ _ (by assumption) (by assumption) (by assumption) (by (first | with_reducible assumption | omega))) (by (first | exact room hd rfl | ktr_room)) (by (first | exact room hu rfl | ktr_units)) ?_); (intro r9 n9 h9 tk9 p9 F9 N9; (try k_fold); obtain ⟨⟨t9, e9⟩, ⟨its9, ep9, e9', i9⟩⟩ := p9; subst r9; subst n9; (try dsimp only); (try k_fold)))
  k_with "TurnW" => ((with_reducible show TurnW _ _ _ _ _ _ _ _ (Flow.ret _) _); dsimp only [TurnW])
  k_with "TurnF" => ((with_reducible show TurnF _ _ _ _ _ _ _ _ _ _ (Flow.ret _) _); dsimp only [TurnF])
  k_with "exec While BoolOp" => (k_here; (with_unfolding_all refine' while_H (by k_asm) (by k_asm) (by passes_own) ?_))
  k_with "exec While Compare" => (k_here; (with_unfolding_all refine' while_H (by k_asm) (by k_asm) (by passes_own) ?_))
  intro w rest st l t S Nn its e k hS hT hk1 hk2 hap hi hsz
  unfold Ctr
  k_fill
  have hS' := hS
  obtain ⟨sd, hh1, t1, hh2, t2, hSa, hSb⟩ := hS'
  generalize hc : (fun j => (impl ++ more).any (· == stNm S Nn j)) = c
  intro dp un gd cn cs a ccd cl outer A₀ base h₀ L m s Q E p loose mean mg mb B F X N T hk hd hu hret
  refine wpAny_call ?_
  k_dflt cell_enter
  k_steps
  rename StrsAre _ _ => st9
  refine ⟨[], fun n nx => n ≤ k ∧ stopN c n = stopN c k ∧ ∃ its e, nx = (l, listOf (List.toArray its) e) :: (D9, tupOf vs9) :: rest ∧ IntsAre its (upTo n), k, ⟨(l, listOf its.toArray e) :: (D9, tupOf vs9) :: rest, sub_swap, Nat.le_refl _, rfl, its, e, rfl, hi⟩, ?_⟩
  rintro n u nx h₁ tk₁ F₁ N₁ ⟨hnk, hst, its', e', rfl, hi'⟩
  have hS1 : Stk ((D9, tupOf vs9) :: rest) st l t := hS.mono sub_tail
  have hS2 : Stk ((l, listOf its'.toArray e') :: (D9, tupOf vs9) :: rest) st l t := hS1.mono sub_tail
  have hT2 : Tre ((l, listOf its'.toArray e') :: (D9, tupOf vs9) :: rest) t S Nn := hT.mono sub_tail2
  have hap1 : ∀ p ∈ (D9, tupOf vs9) :: rest, p.1 ≠ l := by
    intro p hp
    rcases List.mem_cons.mp hp with rfl | hp
    · exact Nat.ne_of_gt (lt9 (l, listOf its.toArray e) List.mem_cons_self)
    · exact hap p hp
  simp only [List.contains_nil, Bool.false_eq_true, if_false] at F₁
  k_steps
  · rename List.any _ _ = true => a1
    have h0 : n ≠ 0 := by
      intro h0
      rw [h0, stNm_zero, implMore_empty] at a1
      cases a1
    have hcn : c n = true := by
      rw [← hc]
      exact a1
    refine ⟨_, _, _, _, n - 1, rfl, by assumption, by assumption, fun _ _ => rfl, by omega, _, sub_refl, by omega, ?_, _, _, rfl, by assumption⟩
    rw [← hst, stopN_go h0 hcn]
  · rename List.any _ _ = false => a1
    have hcn : c n = false := by
      rw [← hc]
      exact a1
    refine hret _ _ _ _ ⟨rfl, _, _, rfl, ?_⟩ (by assumption) (fun p hp => ‹News h₀ L _ _› p (sub_head1 p hp))
    rw [← hst, stopN_at (Or.inr hcn)]
    assumption
set_option maxRecDepth 100000 in
set_option maxHeartbeats 0 in
theorem pop_to_ctr : ∀ (w : World) (rest : Led) (st l t : Addr) (S Nn : List Str) (its : List Value) (e k : Nat) (D : Addr) (vs : List Value) (ys : List Str) (hS : Stk rest st l t) (hT : Tre rest t S Nn) (hD : (D, tupOf vs) ∈ rest) (hy : StrsAre vs ys) (hk1 : k < S.length) (hk2 : k < Nn.length) (hap : ∀ p ∈ rest, p.1 ≠ l) (hi : IntsAre its (upTo k)) (hsz : k ≤ 100),
      Ctr w 9 80 133 [.ref st, .ref D] ((l, listOf its.toArray e) :: rest) (fun r news' => r = .none ∧ SS l (stopN (fun j => decide (1 < j) && !(ys.any (· == stNm S Nn j))) k) rest news') := by
  intro w rest st l t S Nn its e k D vs ys hS hT hD hy hk1 hk2 hap hi hsz
  unfold Ctr
  k_fill
  have hS' := hS
  obtain ⟨sd, hh1, t1, hh2, t2, hSa, hSb⟩ := hS'
  generalize hc : (fun j => decide (1 < j) && !(ys.any (· == stNm S Nn j))) = c
  intro dp un gd cn cs a ccd cl outer A₀ base h₀ L m s Q E p loose mean mg mb B F X N T hk hd hu hret
  refine wpAny_call ?_
  k_dflt cell_enter
  k_steps
  refine ⟨[], fun n nx => n ≤ k ∧ stopN c n = stopN c k ∧ ∃ its e, nx = (l, listOf (List.toArray its) e) :: rest ∧ IntsAre its (upTo n), k, ⟨(l, listOf its.toArray e) :: rest, sub_refl, Nat.le_refl _, rfl, its, e, rfl, hi⟩, ?_⟩
  rintro n u nx h₁ tk₁ F₁ N₁ ⟨hnk, hst, its', e', rfl, hi'⟩
  have hlen := hi'.length
  have hup := upTo_len n
  have hS2 : Stk ((l, listOf its'.toArray e') :: rest) st l t := hS.mono sub_tail
  have hT2 : Tre ((l, listOf its'.toArray e') :: rest) t S Nn := hT.mono sub_tail
  simp only [List.contains_nil, Bool.false_eq_true, if_false] at F₁
  k_steps
  · rename List.any _ _ = true => a1
    have hcn : c n = false := by
      rw [← hc]
      simp only [Bool.and_eq_false_iff]
      exact Or.inr (by rw [a1]; rfl)
    refine hret _ _ _ _ ⟨rfl, _, _, rfl, ?_⟩ (by assumption) (by assumption)
    rw [← hst, stopN_at (Or.inr hcn)]
    assumption
  · rename List.any _ _ = false => a1
    rename (1 : Int) < _ => a2
    have hcn : c n = true := by
      rw [← hc]
      simp only [Bool.and_eq_true, decide_eq_true_eq, Bool.not_eq_true']
      exact ⟨by omega, a1⟩
    rename IntsAre its'.dropLast _ => hI
    rw [upTo_dropLast] at hI
    refine ⟨_, _, _, _, n - 1, rfl, by assumption, by assumption, fun _ _ => rfl, by omega, _, sub_refl, by omega, ?_, _, _, rfl, hI⟩
    rw [← hst, stopN_go (by omega) hcn]
  · rename ¬ (1 : Int) < _ => a2
    have hcn : c n = false := by
      rw [← hc]
      simp only [Bool.and_eq_false_iff]
      exact Or.inl (decide_eq_false (by omega))
    refine hret _ _ _ _ ⟨rfl, _, _, rfl, ?_⟩ (by assumption) (by assumption)
    rw [← hst, stopN_at (Or.inr hcn)]
    assumption
set_option maxRecDepth 100000 in
set_option maxHeartbeats 0 in
theorem pop_until_ctr : ∀ (w : World) (rest : Led) (st l t : Addr) (S Nn : List Str) (its : List Value) (e k : Nat) (D : Addr) (vs : List Value) (ys : List Str) (hS : Stk rest st l t) (hT : Tre rest t S Nn) (hD : (D, tupOf vs) ∈ rest) (hy : StrsAre vs ys) (hk1 : k < S.length) (hk2 : k < Nn.length) (hap : ∀ p ∈ rest, p.1 ≠ l) (hi : IntsAre its (upTo k)) (hsz : k ≤ 100),
      Ctr w 9 80 126 [.ref st, .ref D] ((l, listOf its.toArray e) :: rest) (fun r news' => (∃ tk, r = .int (if stopN (fun j => !(ys.any (· == stNm S Nn j))) k = 0 then -1 else (stopN (fun j => !(ys.any (· == stNm S Nn j))) k : Nat)) tk) ∧ SS l (stopN (fun j => !(ys.any (· == stNm S Nn j))) k - 1) rest news') := by
  intro w rest st l t S Nn its e k D vs ys hS hT hD hy hk1 hk2 hap hi hsz
  unfold Ctr
  k_fill
  have hS' := hS
  obtain ⟨sd, hh1, t1, hh2, t2, hSa, hSb⟩ := hS'
  generalize hc : (fun j => !(ys.any (· == stNm S Nn j))) = c
  intro dp un gd cn cs a ccd cl outer A₀ base h₀ L m s Q E p loose mean mg mb B F X N T hk hd hu hret
  refine wpAny_call ?_
  k_dflt cell_enter
  k_steps
  refine ⟨[Str.ofString "name", Str.ofString "node"], fun n nx => n ≤ k ∧ stopN c n = stopN c k ∧ ∃ its e, nx = (l, listOf (List.toArray its) e) :: rest ∧ IntsAre its (upTo n), k, ⟨(l, listOf its.toArray e) :: rest, sub_refl, Nat.le_refl _, rfl, its, e, rfl, hi⟩, ?_⟩
  rintro n u nx h₁ tk₁ F₁ N₁ ⟨hnk, hst, its', e', rfl, hi'⟩
  have hlen := hi'.length
  have hup := upTo_len n
  have hS2 : Stk ((l, listOf its'.toArray e') :: rest) st l t := hS.mono sub_tail
  have hT2 : Tre ((l, listOf its'.toArray e') :: rest) t S Nn := hT.mono sub_tail
  k_steps
  · rename List.any _ _ = true => a1
    rename (0 : Int) < _ => a2
    have hcn : c n = false := by
      rw [← hc]
      simp only [Bool.not_eq_false']
      exact a1
    rename IntsAre its'.dropLast _ => hI
    rw [upTo_dropLast] at hI
    have h0 : n ≠ 0 := by omega
    have e1 : stopN c k = n := by rw [← hst, stopN_at (Or.inr hcn)]
    rw [e1] at hret
    exact hret _ _ _ _ ⟨⟨_, by rw [if_neg h0, upTo_getLast h0]⟩, _, _, rfl, hI⟩ (by assumption) (by assumption)
  · rename List.any _ _ = false => a1
    rename (0 : Int) < _ => a2
    have hcn : c n = true := by
      rw [← hc]
      simp only [Bool.not_eq_true']
      exact a1
    rename IntsAre its'.dropLast _ => hI
    rw [upTo_dropLast] at hI
    refine ⟨_, _, _, _, n - 1, rfl, by assumption, by assumption, ?_, by omega, _, sub_refl, by omega, ?_, _, _, rfl, hI⟩
    · intro z hz
      simp only [List.contains_cons, List.contains_nil, Bool.or_false, Bool.or_eq_false_iff, beq_eq_false_iff_ne, ne_eq] at hz
      simp [hz]
    · rw [← hst, stopN_go (by omega) hcn]
  · rename ¬ (0 : Int) < _ => a2
    have h0 : n = 0 := by omega
    have e1 : stopN c k = 0 := by rw [← hst, h0]; rfl
    rw [e1] at hret
    rw [h0] at hi'
    exact hret _ _ _ _ ⟨⟨_, by rw [if_pos rfl]⟩, _, _, rfl, hi'⟩ (by assumption) (by assumption)
section
open PySem PySem.W PyProof.Rows
/-- html's element of a name stands at the place -/
def isH (S N : List Str) (nm : Str) (j : Nat) : Bool := S.getD j Str.empty == Str.ofString "html" && N.getD j Str.empty == nm
end
set_option maxRecDepth 100000 in
set_option maxHeartbeats 0 in
theorem is_html_ctr : ∀ (w : World) (news : Led) (t : Addr) (S Nn : List Str) (j : Nat) (tk tk2 : Tok) (nam : Str) (hT : Tre news t S Nn) (hk1 : j < S.length) (hk2 : j < Nn.length) (hj : j ≤ 100),
      Ctr w 3 40 297 [.ref t, .int j tk, .str nam tk2] news (fun r news' => r = .bool (isH S Nn nam j) ∧ news' = news) := by
  k_with_none
  k_with "k_memx" => assumption
  k_with "call builtin:len" => (k_here; (with_reducible show wpAny _ _ (call (Value.builtin "len") [Value.ref _]) _ _ _); k_dflt (refine' KM.len_K (by k_asm) (by (first | assumption | k_mem)) (by (first | exact List.size_toArray | with_reducible rfl)) (by (first | omega | (simp only [List.size_toArray, List.length_append, List.length_cons, List.length_nil]; omega))) ?_))
  k_with "k_all" => assumption
  k_with "k_room" => ktr_room
  k_with "subscriptTail" => (k_here; (with_reducible show wpAny _ _ (subscriptTail _ _ (Value.ref _) (Value.int _ _)) _ _ _); (with_unfolding_all refine' item_strsN (by k_asm) (by (first | assumption | k_mem)) (by assumption) (by (first | with_reducible assumption | omega)) (by (first | with_reducible assumption | omega)) (by (first | with_reducible assumption | omega)) ?_); intro t9)
  intro w news t S Nn j tk tk2 nam hT hk1 hk2 hj
  unfold Ctr
  k_fill
  obtain ⟨td, g0, u0, g1, u1, g2, u2, g3, u3, g4, u4, g5, u5, g6, u6, g7, u7, v0, v3, v4, v5, v6, v7, sp, nm, e2, e3, vs2, vs3, hT1, hT2, hT3, hT4, hT5, hT6⟩ := hT
  intro dp un gd cn cs a ccd cl outer A₀ base h₀ L m s Q E p loose mean mg mb B F X N T hk hd hu hret
  refine wpAny_call ?_
  k_dflt cell_enter
  k_steps
  · rename (_ == _) = true => a1
    have e1 : ((j : Nat) : Int).toNat = j := by omega
    rw [e1] at a1
    exact hret _ _ _ _ ⟨by rw [isH, a1, e1]; rfl, rfl⟩ (by assumption) (by assumption)
  · rename (_ == _) = false => a1
    have e1 : ((j : Nat) : Int).toNat = j := by omega
    rw [e1] at a1
    exact hret _ _ _ _ ⟨by rw [isH, e1, a1]; rfl, rfl⟩ (by assumption) (by assumption)
  · omega
set_option maxRecDepth 100000 in
set_option maxHeartbeats 0 in
theorem has_name_ctr : ∀ (w : World) (news : Led) (st l t : Addr) (S Nn : List Str) (its : List Value) (e k : Nat) (tk : Tok) (nam : Str) (hS : Stk news st l t) (hT : Tre news t S Nn) (hl : (l, listOf its.toArray e) ∈ news) (hi : IntsAre its (upTo k)) (hk1 : k < S.length) (hk2 : k < Nn.length) (hj : k ≤ 100),
      Ctr w 6 60 119 [.ref st, .str nam tk] news (fun r news' => r = .bool ((List.range k).any fun i => isH S Nn nam (i + 1)) ∧ news' = news) := by
  k_with "callm" => (k_here; (with_reducible show wpAny _ _ (call (Value.ref 297) _) _ _ _); k_dflt (refine' Ctr.use (by k_asm) (by k_asm) (by k_asm) (by k_asm) (by k_asm) (by (first | exact rfl | assumption)) (is_html_ctr _ _ _ _ _ _ _ _ _ (by assumption) (by (first | with_reducible assumption | omega)) (by (first | with_reducible assumption | omega)) (by (first | with_reducible assumption | omega))) (by (first | exact room hd rfl | ktr_room)) (by (first | exact room hu rfl | ktr_units)) ?_); (k_dflt (intro r9 n9 h9 tk9 p9 F9 N9; (try k_fold); obtain ⟨e9, e9'⟩ := p9; subst r9; subst n9)); (try dsimp only); (try k_fold))
  k_with "exec For Name Name cons nil" => (k_here; (rename Fr _ _ _ _ => lF'); (with_unfolding_all refine' For_invVF lF' (by exact rfl) (by exact rfl) ?_; k_whole))
  k_with "exec For Name Attribute cons nil" => (k_here; (rename Fr _ _ _ _ => lF'); (with_unfolding_all refine' For_invVF lF' (by exact rfl) (by exact rfl) ?_; k_whole))
  k_with "exec For Name Subscript cons nil" => (k_here; (rename Fr _ _ _ _ => lF'); (with_unfolding_all refine' For_invVF lF' (by exact rfl) (by exact rfl) ?_; k_whole))
  k_with "exec For Name Call cons nil" => (k_here; (rename Fr _ _ _ _ => lF'); (with_unfolding_all refine' For_invVF lF' (by exact rfl) (by exact rfl) ?_; k_whole))
  k_with "loopm" => (k_here; (with_reducible show wpAny _ _ (pyIter (Value.ref _)) (fun it s₂ => LoopAtV _ _ _ _ _ _ _ _ _ it s₂) _ _); (with_unfolding_all refine' for_H (by exact rfl) (by k_asm) (by k_asm) (by k_mem) ?_))
  k_with "TurnW" => ((with_reducible show TurnW _ _ _ _ _ _ _ _ (Flow.ret _) _); dsimp only [TurnW])
  k_with "TurnF" => ((with_reducible show TurnF _ _ _ _ _ _ _ _ _ _ (Flow.ret _) _); dsimp only [TurnF])
  intro w news st l t S Nn its e k tk nam hS hT hl hi hk1 hk2 hj
  unfold Ctr
  k_fill
  have hS' := hS
  obtain ⟨sd, hh1, t1, hh2, t2, hSa, hSb⟩ := hS'
  have hT' := hT
  obtain ⟨td, g0, u0, g1, u1, g2, u2, g3, u3, g4, u4, g5, u5, g6, u6, g7, u7, v0, v3, v4, v5, v6, v7, sp, nm, e2, e3, vs2, vs3, hT1, hT2, hT3, hT4, hT5, hT6⟩ := hT'
  intro dp un gd cn cs a ccd cl outer A₀ base h₀ L m s Q E p loose mean mg mb B F X N T hk hd hu hret
  refine wpAny_call ?_
  k_dflt cell_enter
  k_steps
  have hlen := hi.length
  have hup := upTo_len k
  refine ⟨[], fun i nx => nx = news ∧ (List.range i).any (fun i => isH S Nn nam (i + 1)) = false, news, sub_refl, ⟨rfl, rfl⟩, ?_, ?_, ?_⟩
  · rintro i nx ⟨rfl, _⟩
    exact ⟨rfl, hl⟩
  · rintro I i v u it h₁ tk₁ nx hv ⟨rfl, hno⟩ hoff F₁ N₁
    have hik : i < k := by
      have := (List.getElem?_eq_some_iff.mp hv).1
      omega
    obtain ⟨tv, hx⟩ := hi.get i ((i : Int) + 1) (upTo_get hik)
    obtain rfl : v = .int ((i + 1 : Nat) : Int) tv := Option.some.inj (hv.symm.trans hx)
    have hT2 : Tre ((I, it) :: nx) t S Nn := hT.mono sub_tail
    simp only [List.contains_nil, Bool.false_eq_true, if_false] at F₁
    dsimp only [envOf] at F₁ N₁
    k_steps
    · rename isH _ _ _ _ = true => a1
      have e1 : ((List.range k).any fun i => isH S Nn nam (i + 1)) = true := List.any_eq_true.mpr ⟨i, List.mem_range.mpr hik, a1⟩
      rw [e1] at hret
      exact hret _ _ _ _ ⟨rfl, rfl⟩ (by assumption) (fun p hp => ‹News h₀ L _ _› p (sub_tail p hp))
    · rename isH _ _ _ _ = false => a1
      refine ⟨_, _, _, _, rfl, by assumption, by assumption, fun z hz _ => if_neg hz, _, sub_refl, rfl, ?_⟩
      rw [List.range_succ, List.any_append, hno, List.any_cons, a1]
      rfl
  · rintro u h₁ tk₁ nx ⟨rfl, hno⟩ F₁ N₁
    simp only [List.contains_nil, Bool.false_eq_true, if_false] at F₁
    dsimp only [envOf] at F₁ N₁
    k_steps
    rw [hlen, hup] at hno
    rw [hno] at hret
    exact hret _ _ _ _ ⟨rfl, rfl⟩ (by assumption) (by assumption)
set_option maxRecDepth 100000 in
set_option maxHeartbeats 0 in
theorem law_stack_ctr : ∀ (w : World) (news : Led) (t nl : Addr) (nvs : List Value) (en K : Nat) (hl : (nl, listOf nvs.toArray en) ∈ news) (hi : IntsAre nvs (upTo K)) (hj : K ≤ 100),
      Ctr w 9 80 339 [.ref t, .ref nl] news (fun r news' => ∃ st l d od its e, r = .ref st ∧ news' = (l, listOf (List.toArray its) e) :: (st, instObj 136 d) :: (d, od) :: news ∧ IntsAre its (upTo K) ∧ Stk [(st, instObj 136 d), (d, od)] st l t ∧ (∀ p ∈ (st, instObj 136 d) :: (d, od) :: news, p.1 ≠ l) ∧ (∀ p ∈ news, p.1 < d) ∧ d < st ∧ st < l) := by
  k_with "callm" => (k_here; (with_reducible show wpAny _ _ (call (Value.ref 56) _) _ _ _); k_dflt (refine' Ctr.use (by k_asm) (by k_asm) (by k_asm) (by k_asm) (by k_asm) (by (first | exact rfl | assumption)) (push_ctr _ _ _ _ _ _ _ _ _ (by assumption) (by assumption) (by assumption) (by (first | with_reducible assumption | omega))) (by (first | exact room hd rfl | ktr_room)) (by (first | exact room hu rfl | ktr_units)) ?_); (k_dflt (intro r9 n9 h9 tk9 p9 F9 N9; (try k_fold); obtain ⟨e9, ⟨its9, ep9, e9', i9⟩⟩ := p9; subst r9; subst n9)); (try dsimp only); (try k_fold))
  intro w news t nl nvs en K hl hi hj
  unfold Ctr
  k_fill
  intro dp un gd cn cs a ccd cl outer A₀ base h₀ L m s Q E p loose mean mg mb B F X N T hk hd hu hret
  refine wpAny_call ?_
  k_dflt cell_enter
  k_steps
  rename_i x d h2 lx1 lx2 g2 L2 h3 B2 X2 T2 t2 h4 l hl4 lxl h5 F5 N5 t3 Tc5 kX5 h6 N6
  have F6 := lF'
  generalize hdo : dictOf _ _ = od at N6
  obtain ⟨ha, ta, hb, tb, hod⟩ : ∃ ha ta hb tb, od = dictOf [⟨ha, .str (Str.ofString "tree") ta, .ref t⟩, ⟨hb, .str (Str.ofString "items") tb, .ref l⟩] 2 := ⟨_, _, _, _, hdo.symm⟩
  clear hdo F5 N5
  have hS0 : Stk [(x, instObj 136 d), (d, od)] x l t := by
    subst hod
    exact ⟨d, _, _, _, _, List.mem_cons_self, List.mem_cons_of_mem _ List.mem_cons_self⟩
  have hS : Stk ((x, instObj 136 d) :: (d, od) :: news) x l t := hS0.mono fun p hp => by
    rcases List.mem_cons.mp hp with rfl | hp
    · exact List.mem_cons_self
    · rcases List.mem_cons.mp hp with rfl | hp
      · exact List.mem_cons_of_mem _ List.mem_cons_self
      · cases hp
  have hap : ∀ p ∈ (x, instObj 136 d) :: (d, od) :: news, p.1 ≠ l := by
    intro p hp
    rcases List.mem_cons.mp hp with rfl | hp
    · exact Nat.ne_of_lt lxl.1
    · rcases List.mem_cons.mp hp with rfl | hp
      · subst hod; exact Nat.ne_of_lt lxl.2.1
      · exact Nat.ne_of_lt (Nat.lt_trans (lx1 p hp) lxl.2.1)
  have hlen := hi.length
  have hup := upTo_len K
  refine ⟨[], fun i nx => ∃ its e, nx = (l, listOf (List.toArray its) e) :: (x, instObj 136 d) :: (d, od) :: news ∧ IntsAre its (upTo i), _, sub_refl, ⟨[], 0, rfl, .nil⟩, ?_, ?_, ?_⟩
  · rintro i nx ⟨its, e, rfl, _⟩
    exact ⟨rfl, List.mem_cons_of_mem _ (List.mem_cons_of_mem _ (List.mem_cons_of_mem _ hl))⟩
  · rintro I i v u it h₁ tk₁ nx hv ⟨its, e, rfl, hii⟩ hoff F₁ N₁
    have hik : i < K := by
      have := (List.getElem?_eq_some_iff.mp hv).1
      omega
    obtain ⟨tv, hx⟩ := hi.get i ((i : Int) + 1) (upTo_get hik)
    obtain rfl : v = .int ((i : Int) + 1) tv := Option.some.inj (hv.symm.trans hx)
    simp only [List.contains_nil, Bool.false_eq_true, if_false] at F₁
    dsimp only [envOf] at F₁ N₁
    have N₂ : News _ _ _ ((l, listOf its.toArray e) :: (I, it) :: (x, instObj 136 d) :: (d, od) :: news) := fun p hp => N₁ p (sub_swap p hp)
    have hS2 : Stk ((I, it) :: (x, instObj 136 d) :: (d, od) :: news) x l t := hS.mono sub_tail
    have hap2 : ∀ p ∈ (I, it) :: (x, instObj 136 d) :: (d, od) :: news, p.1 ≠ l := by
      intro p hp
      rcases List.mem_cons.mp hp with rfl | hp
      · exact fun z => hoff (l, listOf its.toArray e) List.mem_cons_self z.symm
      · exact hap p hp
    have hod' := hod
    subst hod'
    k_steps
    exact ⟨_, _, _, _, rfl, by assumption, by assumption, fun z hz _ => if_neg hz, _, sub_swap, _, _, rfl, by assumption⟩
  · rintro u h₁ tk₁ nx ⟨its, e, rfl, hii⟩ F₁ N₁
    rw [hlen, hup] at hii
    simp only [List.contains_nil, Bool.false_eq_true, if_false] at F₁
    k_steps
    exact hret _ _ _ _ ⟨x, l, d, od, its, e, rfl, rfl, hii, hS0, hap, lx1, lx2, lxl.1⟩ (by assumption) (by assumption)
section
open PySem PySem.W PyProof.Rows
def wordOf (sp nm : Str) : Str := sp ++ Str.ofString "." ++ nm
def names30 : List Str := [Str.ofString "dd", Str.ofString "dt", Str.ofString "li", Str.ofString "optgroup", Str.ofString "option", Str.ofString "p", Str.ofString "rb", Str.ofString "rp", Str.ofString "rt", Str.ofString "rtc",
  Str.ofString "caption", Str.ofString "colgroup", Str.ofString "tbody", Str.ofString "td", Str.ofString "tfoot", Str.ofString "th", Str.ofString "thead", Str.ofString "tr",
  Str.ofString "div", Str.ofString "span", Str.ofString "html", Str.ofString "body", Str.ofString "table", Str.ofString "dl", Str.ofString "ul", Str.ofString "ruby", Str.ofString "select", Str.ofString "h1", Str.ofString "col", Str.ofString "menu"]
def spaces3 : List Str := [Str.ofString "html", Str.ofString "svg", Str.ofString "math"]
/-- the words, and the tree's spaces and names of them -/
structure WS (S N ws : List Str) : Prop where
  lw : ws.length = 12
  lS : S.length = 13
  lN : N.length = 13
  sp : ∀ j, j < 12 → S.getD (j + 1) Str.empty ∈ spaces3
  nm : ∀ j, j < 12 → N.getD (j + 1) Str.empty ∈ names30
  ok : ∀ j, PyData.strOk (N.getD j Str.empty) = true
  w : ∀ j, j < 12 → ws.getD j Str.empty = wordOf (S.getD (j + 1) Str.empty) (N.getD (j + 1) Str.empty)
theorem item_lastN {prog : Program} {w : World} {A : Around} {E : Value → Shared → Prop} {s : Shared} {h₀ : Heap} {L : Addr} {news : Led} {value slice : Expr} {a : Addr} {l : List Value} {n : Nat} {ys : List Str} {u : Tok} {Q : Value → Shared → Prop}
    (N : News h₀ L s.heap news) (hm : (a, listOf l.toArray n) ∈ news) (hi : StrsAre l ys) (hk : 0 < l.length) (hz : l.length ≤ 1000) (hB : ∀ y ∈ ys, y.length ≤ 100) (h : ∀ t', (ys.getD (l.length - 1) Str.empty).length ≤ 100 → Q (.str (ys.getD (l.length - 1) Str.empty) t') s)
    (hs : subscripted slice false (.ref a) (.int (-1) u) = operate [.ref a, .int (-1) u] (getItem (.ref a) (.int (-1) u)) := by with_unfolding_all rfl) (hg : ∀ r, letTemporaryGo value (.ref a) r = pure () := by intro _; with_unfolding_all rfl) :
    wpAny (model prog w) A (subscriptTail value slice (.ref a) (.int (-1) u)) Q E s := by
  have hlen := StrsAre.len_eq hi
  have hlt : l.length - 1 < ys.length := by omega
  have e : ys[l.length - 1]? = some (ys.getD (l.length - 1) Str.empty) := by simp [List.getD, hlt]
  obtain ⟨t, ht⟩ := hi.at e
  refine kim_back N hm rfl rfl (by decide) (by omega) (by decide) (x := .str (ys.getD (l.length - 1) Str.empty) t) ?_ (h t (hB _ (List.mem_of_getElem? e))) hs hg
  have e2 : ((-1 : Int) + (l.length : Int)).toNat = l.length - 1 := by omega
  rw [e2]; exact ht
section
variable {prog : Program} {w : World} {A : Around} {E : Value → Shared → Prop} {s : Shared} {h₀ : Heap} {L : Addr} {m : Str → Option Value} {news : Led} {value slice : Expr} {a b : Addr} {l : List Value} {n : Nat} {u : Tok} {Q : Value → Shared → Prop}
theorem item_intsN {ns : List Int} {k : Int} (N : News h₀ L s.heap news) (hm : (a, listOf l.toArray n) ∈ news) (hi : IntsAre l ns) (h0 : 0 ≤ k) (hk : k < ns.length) (hz : ns.length ≤ 1000) (h : ∀ t', Q (.int (ns.getD k.toNat 0) t') s)
    (hs : subscripted slice false (.ref a) (.int k u) = operate [.ref a, .int k u] (getItem (.ref a) (.int k u)) := by with_unfolding_all rfl) (hg : ∀ r, letTemporaryGo value (.ref a) r = pure () := by intro _; with_unfolding_all rfl) :
    wpAny (model prog w) A (subscriptTail value slice (.ref a) (.int k u)) Q E s := by
  have hlt : k.toNat < ns.length := by omega
  have e : ns[k.toNat]? = some (ns.getD k.toNat 0) := by simp [List.getD, hlt]
  obtain ⟨t, ht⟩ := hi.get _ _ e
  exact kim_list N hm rfl rfl h0 (by omega) ht (h t) hs hg
theorem pick_upto (l : List Value) {y : Int} (h : 0 ≤ y) : slicePick l.toArray none (some y) none = (l.take y.toNat).toArray := by
  have e : sliceBounds none (some y) none l.toArray.size = (((0 : Nat) : Int), ((min y.toNat l.toArray.size : Nat) : Int), 1) := by
    simp only [sliceBounds, Option.getD_none, show (1 : Int) > 0 by decide, if_true, if_neg (show ¬ (y < 0) by omega)]
    congr 1
    congr 1
    omega
  rw [kmk_pick_nat _ e]
  show ((l.drop 0).take (min y.toNat l.toArray.size - 0)).toArray = _
  rw [List.drop_zero, Nat.sub_zero, List.size_toArray, kmk_take_min]
theorem pick_upto_neg (l : List Value) {y : Int} (h : y < 0) : slicePick l.toArray none (some y) none = (l.take (l.length - (-y).toNat)).toArray := by
  have e : sliceBounds none (some y) none l.toArray.size = (((0 : Nat) : Int), ((l.toArray.size - (-y).toNat : Nat) : Int), 1) := by
    simp only [sliceBounds, Option.getD_none, show (1 : Int) > 0 by decide, if_true, if_pos h]
    congr 1
    congr 1
    omega
  rw [kmk_pick_nat _ e]
  show ((l.drop 0).take (l.toArray.size - (-y).toNat - 0)).toArray = _
  rw [List.drop_zero, Nat.sub_zero, List.size_toArray]
theorem slice_uptoN {y : Int} {uy : Tok} (F : Fr h₀ L s.heap m) (N : News h₀ L s.heap news) (hm : (a, listOf l.toArray n) ∈ news) (h0 : 0 ≤ y) (hz : l.length ≤ 1000)
    (h : ∀ D h', Fr h₀ L h' m → News h₀ L h' ((D, listOf (l.take y.toNat).toArray 0) :: news) → (∀ p ∈ news, p.1 < D) → Q (.ref D) { s with heap := h' })
    (hs : subscripted slice false (.ref a) (.ref s.heap.objs.size) = operate [.ref s.heap.objs.size, .ref a] (getItem (.ref a) (.ref s.heap.objs.size))) (ht : ∀ r, letTemporaryGo value (.ref a) r = pure ()) :
    wpAny (model prog w) A (subscriptTail value slice (.ref a) (.ref s.heap.objs.size)) Q E { s with heap := s.heap.push { cls := .type "slice", data := .fields #[.none, .int y uy, .none] } } := by
  refine kmk_slice F N (News.isList N hm) .none (.int y uy) (fun D h' F' N' l1 => h D h' F' ?_ l1) hs ht (by rw [List.size_toArray, PySem.sizeLine_eq]; omega)
  rw [← pick_upto l h0]; exact N'
theorem slice_uptoNegN {y : Int} {uy : Tok} (F : Fr h₀ L s.heap m) (N : News h₀ L s.heap news) (hm : (a, listOf l.toArray n) ∈ news) (h0 : y < 0) (hz : l.length ≤ 1000)
    (h : ∀ D h', Fr h₀ L h' m → News h₀ L h' ((D, listOf (l.take (l.length - (-y).toNat)).toArray 0) :: news) → (∀ p ∈ news, p.1 < D) → Q (.ref D) { s with heap := h' })
    (hs : subscripted slice false (.ref a) (.ref s.heap.objs.size) = operate [.ref s.heap.objs.size, .ref a] (getItem (.ref a) (.ref s.heap.objs.size))) (ht : ∀ r, letTemporaryGo value (.ref a) r = pure ()) :
    wpAny (model prog w) A (subscriptTail value slice (.ref a) (.ref s.heap.objs.size)) Q E { s with heap := s.heap.push { cls := .type "slice", data := .fields #[.none, .int y uy, .none] } } := by
  refine kmk_slice F N (News.isList N hm) .none (.int y uy) (fun D h' F' N' l1 => h D h' F' ?_ l1) hs ht (by rw [List.size_toArray, PySem.sizeLine_eq]; omega)
  rw [← pick_upto_neg l h0]; exact N'
theorem eq_H (hu : A.units + 64 < cLine) (h : Later (∃ d as bs, Reads s.heap (.ref a) d as ∧ Reads s.heap (.ref b) d bs ∧ PySem.SeqAt.shaped d = true ∧ Q (.bool true) s)) :
    wpAny (model prog w) A (compareOp .Eq (.ref a) (.ref b)) Q E s := by
  obtain ⟨d, as, bs, ra, rb, hd, hq⟩ := h.out
  refine eq_dataH ra rb hd hd hu ?_
  rw [PySem.SeqAt.eqv_refl d (PySem.SeqAt.canLay_of_shaped hd)]
  exact hq
theorem ne_nilN {ds : List PyData} {as bs : List Addr} (hu : A.units + 64 < cLine) (ra : Reads s.heap (.ref a) (.list ds) as) (rb : Reads s.heap (.ref b) (.list []) bs) (hd : PySem.SeqAt.shaped (.list ds) = true)
    (h : Q (.bool (!ds.isEmpty)) s) : wpAny (model prog w) A (compareOp .NotEq (.ref a) (.ref b)) Q E s := by
  refine ne_dataH ra rb hd (by decide) hu ?_
  have e : PyData.eqv (.list ds) (.list []) = ds.isEmpty := by cases ds <;> rfl
  rw [e]; exact h
end
theorem ints_takeN {l : List Value} {ns : List Int} (h : IntsAre l ns) (k : Nat) : IntsAre (l.take k) (ns.take k) := h.take k
theorem upTo_take {n k : Nat} (h : k ≤ n) : (upTo n).take k = upTo k := by
  simp only [upTo, ← List.map_take, List.take_range, Nat.min_eq_left h]
theorem readsI (h : Heap) {l : List Value} {ns : List Int} (hi : IntsAre l ns) : ReadsAll h l (ns.map .int) [] := (ke_carried hi).reads h
theorem shaped_ints (ns : List Int) : PySem.SeqAt.shaped (.list (ns.map PyData.int)) = true := ke_shaped_ints ns
theorem name_len : ∀ y ∈ names30, y.length ≤ 20 := by
  have h : (names30.all fun y => decide (y.length ≤ 20)) = true := by decide +kernel
  intro y hy
  exact of_decide_eq_true (List.all_eq_true.mp h y hy)
theorem word_bound {S N ws : List Str} (h : WS S N ws) : ∀ y ∈ ws, y.length ≤ 100 := by
  intro y hy
  obtain ⟨j, hj, rfl⟩ := List.getElem_of_mem hy
  have hj' : j < 12 := by rw [← h.lw]; exact hj
  have e : ws[j] = ws.getD j Str.empty := by simp [List.getD, hj]
  rw [e, h.w j hj', wordOf, Str.length_append, Str.length_append]
  have h1 : (S.getD (j + 1) Str.empty).length ≤ 4 := by
    have := h.sp j hj'
    simp only [spaces3, List.mem_cons, List.not_mem_nil, or_false] at this
    rcases this with e | e | e <;> rw [e] <;> decide
  have h2 := name_len _ (h.nm j hj')
  have h3 : (Str.ofString ".").length = 1 := by decide
  omega
theorem take_bound {S N ws : List Str} (h : WS S N ws) (n : Nat) : ∀ y ∈ ws.take n, y.length ≤ 100 := fun y hy => word_bound h y (List.mem_of_mem_take hy)
theorem word_head {sp nm : Str} (hs : sp ∈ spaces3) (hn : nm ∈ names30) : (Txt.slice (wordOf sp nm) none (some 5) == Str.ofString "html.") = (sp == Str.ofString "html") := by
  have h : (spaces3.all fun sp => names30.all fun nm => (Txt.slice (wordOf sp nm) none (some 5) == Str.ofString "html.") == (sp == Str.ofString "html")) = true := by decide +kernel
  have h2 := List.all_eq_true.mp (List.all_eq_true.mp h sp hs) nm hn
  exact eq_of_beq h2
theorem word_rest {nm : Str} (hn : nm ∈ names30) : Txt.slice (wordOf (Str.ofString "html") nm) (some 5) none = nm := by
  have h : (names30.all fun nm => Txt.slice (wordOf (Str.ofString "html") nm) (some 5) none == nm) = true := by decide +kernel
  exact eq_of_beq (List.all_eq_true.mp h nm hn)
theorem seen_later {h₀ : Heap} {L x1 x2 l D : Addr} {news : Led} {s : Shared} {its ds : List Value} {ns : List Int} {e : Nat} {m1 m2 c1 c2 : Int} {t1 t2 t3 u1 u2 u3 : Tok} {nm1 nm2 : Str} {P : Prop}
    (N : News h₀ L s.heap news) (h1 : (x1, W.listOf #[.ref l, .int m1 t1, .int c1 t2, .str nm1 t3] 0) ∈ news) (h2 : (x2, W.listOf #[.ref D, .int m2 u1, .int c2 u2, .str nm2 u3] 0) ∈ news)
    (hl : (l, W.listOf its.toArray e) ∈ news) (hD : (D, W.listOf ds.toArray 0) ∈ news) (hi : IntsAre its ns) (hd : IntsAre ds ns) (em : m1 = m2) (ec : c1 = c2) (en : nm1 = nm2) (ok : PyData.strOk nm1 = true) (hq : P) :
    Later (∃ d as bs, Reads s.heap (.ref x1) d as ∧ Reads s.heap (.ref x2) d bs ∧ PySem.SeqAt.shaped d = true ∧ P) := by
  subst em ec en
  refine ⟨.list [.list (ns.map .int), .int m1, .int c1, .str nm1], _, _, reads_list_at (N.get h1) rfl rfl (.cons (reads_list_at (N.get hl) rfl rfl (readsI _ hi)) (.cons (.int _ _) (.cons (.int _ _) (.cons (.str _ _) .nil)))), reads_list_at (N.get h2) rfl rfl (.cons (reads_list_at (N.get hD) rfl rfl (readsI _ hd)) (.cons (.int _ _) (.cons (.int _ _) (.cons (.str _ _) .nil)))), ?_, hq⟩
  simp [PySem.SeqAt.shaped, PyData.canLay0, PyData.depth, PyData.canLayAll0, PyData.depthAll, ke_canLayAll0, ke_depthAll, ok]
/-- the last of n words -/
theorem last_word {S N ws : List Str} (h : WS S N ws) {n : Nat} {m : Nat} (hm : m = n) (h0 : 0 < n) (hn : n ≤ 12) : (ws.take n).getD (m - 1) Str.empty = wordOf (S.getD n Str.empty) (N.getD n Str.empty) := by
  subst hm
  have e := h.w (m - 1) (by omega)
  rw [show m - 1 + 1 = m by omega] at e
  rw [← e]
  simp only [List.getD, List.getElem?_take]
  rw [if_pos (by omega)]
theorem cur_at {n m : Nat} (hm : m = n) (hn : n ≤ 12) : (if n = 0 then (-1 : Int) else (n : Int)) = ((-1 : Int) :: upTo 12).getD m 0 := by
  subst hm
  cases m with
  | zero => rfl
  | succ k =>
    rw [if_neg (by omega)]
    show _ = (upTo 12).getD k 0
    rw [upTo_getD (by omega)]; rfl
theorem ok_stNm {S N ws : List Str} (h : WS S N ws) (n : Nat) : PyData.strOk (stNm S N n) = true := by
  unfold stNm
  split
  · decide +kernel
  · split
    · exact h.ok n
    · decide +kernel
theorem stNm_html {S N ws : List Str} (h : WS S N ws) {n : Nat} (h0 : 0 < n) (hn : n ≤ 12) (hh : (Txt.slice (wordOf (S.getD n Str.empty) (N.getD n Str.empty)) none (some 5) == Str.ofString "html.") = true) :
    stNm S N n = Txt.slice (wordOf (S.getD n Str.empty) (N.getD n Str.empty)) (some 5) none := by
  have a := h.sp (n - 1) (by omega)
  have b := h.nm (n - 1) (by omega)
  rw [show n - 1 + 1 = n by omega] at a b
  rw [word_head a b] at hh
  have hh := eq_of_beq hh
  rw [hh, word_rest b, stNm, if_neg (by omega), if_pos hh]
theorem stNm_else {S N ws : List Str} (h : WS S N ws) {n : Nat} (h0 : 0 < n) (hn : n ≤ 12) (hh : (Txt.slice (wordOf (S.getD n Str.empty) (N.getD n Str.empty)) none (some 5) == Str.ofString "html.") = false) :
    stNm S N n = Str.ofString "" := by
  have a := h.sp (n - 1) (by omega)
  have b := h.nm (n - 1) (by omega)
  rw [show n - 1 + 1 = n by omega] at a b
  rw [word_head a b] at hh
  have hh := ne_of_beq_false hh
  rw [stNm, if_neg (by omega), if_neg hh]; rfl
end
set_option maxRecDepth 100000 in
set_option maxHeartbeats 0 in
theorem law_is_seen_ctr : ∀ (w : World) (news : Led) (st l t nl wl : Addr) (S Nn ws : List Str) (its nvs wvs : List Value) (e en ew n : Nat) (hS : Stk news st l t) (hT : Tre news t S Nn) (hl : (l, listOf its.toArray e) ∈ news) (hi : IntsAre its (upTo n)) (hn : n ≤ 12) (hnl : (nl, listOf nvs.toArray en) ∈ news) (hni : IntsAre nvs (upTo 12)) (hwl : (wl, listOf wvs.toArray ew) ∈ news) (hwi : StrsAre wvs (ws.take n)) (hW : WS S Nn ws),
      Ctr w 9 150 346 [.ref st, .ref nl, .ref wl] news (fun r news' => r = .bool true ∧ news' = news) := by
  k_with_none
  k_with "k_memx" => assumption
  k_with "call builtin:len" => (k_here; (with_reducible show wpAny _ _ (call (Value.builtin "len") [Value.ref _]) _ _ _); k_dflt (refine' KM.len_K (by k_asm) (by (first | assumption | k_mem)) (by (first | exact List.size_toArray | with_reducible rfl)) (by (first | omega | (simp only [List.size_toArray, List.length_append, List.length_cons, List.length_nil]; omega))) ?_))
  k_with "k_all" => assumption
  k_with "callm" => (k_here; (with_reducible show wpAny _ _ (call (Value.ref 70) _) _ _ _); k_dflt (refine' Ctr.use (by k_asm) (by k_asm) (by k_asm) (by k_asm) (by k_asm) (by (first | exact rfl | assumption)) (current_ctr _ _ _ _ _ _ _ _ (by assumption) (by (first | assumption | k_mem)) (by assumption) (by (first | with_reducible assumption | omega))) (by (first | exact room hd rfl | ktr_room)) (by (first | exact room hu rfl | ktr_units)) ?_); (k_dflt (intro r9 n9 h9 tk9 p9 F9 N9; (try k_fold); obtain ⟨⟨t9, e9⟩, e9'⟩ := p9; subst r9; subst n9)); (try dsimp only); (try k_fold))
  k_with "callm" => (k_here; (with_reducible show wpAny _ _ (call (Value.ref 112) _) _ _ _); k_dflt (refine' Ctr.use (by k_asm) (by k_asm) (by k_asm) (by k_asm) (by k_asm) (by (first | exact rfl | assumption)) (name_ctrp _ _ _ _ _ _ _ _ _ _ (by assumption) (by assumption) (by (first | assumption | k_mem)) (by assumption) (by (first | with_reducible assumption | omega)) (by (first | with_reducible assumption | omega)) (by (first | with_reducible assumption | omega))) (by (first | exact room hd rfl | ktr_room)) (by (first | exact room hu rfl | ktr_units)) ?_); (k_dflt (intro r9 n9 h9 tk9 p9 F9 N9; (try k_fold); obtain ⟨⟨t9, e9⟩, e9'⟩ := p9; subst r9; subst n9)); (try dsimp only); (try k_fold))
  k_with "callm" => (k_here; (with_reducible show wpAny _ _ (call (Value.ref 77) _) _ _ _); k_dflt (refine' Ctr.use (by k_asm) (by k_asm) (by k_asm) (by k_asm) (by k_asm) (by (first | exact rfl | assumption)) (many_ctr _ _ _ _ _ _ _ (by assumption) (by (first | assumption | k_mem)) (by (first | with_reducible assumption | omega))) (by (first | exact room hd rfl | ktr_room)) (by (first | exact room hu rfl | ktr_units)) ?_); (k_dflt (intro r9 n9 h9 tk9 p9 F9 N9; (try k_fold); obtain ⟨⟨t9, e9⟩, e9'⟩ := p9; subst r9; subst n9)); (try dsimp only); (try k_fold))
  k_with "binaryOp Add ref ref" => (k_here; (with_reducible show wpAny _ _ (binaryOp _ (Value.ref _) (Value.ref _)) _ _ _); k_dflt (first | (refine' add_tupN (by k_asm) (by k_asm) (by k_mem) (by k_mem) (by (first | exact strs_ne (by assumption) | exact List.cons_ne_nil _ _)) (by (first | exact strs_ne (by assumption) | exact List.cons_ne_nil _ _)) (by (simp only [List.length_cons, List.length_nil, List.length_append]; omega)) ?_) | (refine' add_listN (by k_asm) (by k_asm) (by k_mem) (by k_mem) (by (first | omega | (simp only [List.length_cons, List.length_nil, List.length_append]; omega))) ?_)); intro D' h' F' N' l1; (try k_sweep))
  k_with "subscriptTail" => (k_here; (with_reducible show wpAny _ _ (subscriptTail _ _ (Value.ref _) (Value.int _ _)) _ _ _); (with_unfolding_all refine' item_intsN (by k_asm) (by (first | assumption | k_mem)) (by (first | assumption | exact IntsAre.cons _ _ (by assumption))) (by (first | with_reducible assumption | omega)) (by (first | omega | (simp only [List.length_cons, upTo_len]; omega))) (by (first | omega | (simp only [List.length_cons, upTo_len]; omega))) ?_); intro t9)
  k_with "subscriptTail" => (k_here; (with_reducible show wpAny _ _ (subscriptTail _ _ (Value.ref _) (Value.int (-1) _)) _ _ _); (with_unfolding_all refine' item_lastN (by k_asm) (by (first | assumption | k_mem)) (by assumption) (by (first | with_reducible assumption | omega)) (by (first | with_reducible assumption | omega)) (by assumption) ?_); intro t9 z9)
  k_with "subscriptTail" => (k_here; (with_reducible show wpAny _ _ (subscriptTail _ _ (Value.str _ _) (Value.ref _)) _ _ _); k_dflt (first | (refine' slice_strN_ns (by k_asm) (by k_asm) ?_ (by with_unfolding_all rfl) (by (intro _; with_unfolding_all rfl)) (by (rw [PySem.sizeLine_eq]; omega))) | (refine' slice_strN_sn (by k_asm) (by k_asm) ?_ (by with_unfolding_all rfl) (by (intro _; with_unfolding_all rfl)) (by (rw [PySem.sizeLine_eq]; omega)))); intro h9 t9 k9 F9 N9)
  k_with "subscriptTail Name Slice ref ref" => (k_here; (with_reducible show wpAny _ _ (subscriptTail _ (PySem.Expr.Slice _ _ none _) (Value.ref _) (Value.ref _)) _ _ _); k_dflt (first | (refine' slice_uptoN (by k_asm) (by k_asm) (by k_mem) (by (first | with_reducible assumption | omega)) (by (first | with_reducible assumption | omega)) ?_ (by with_unfolding_all rfl) (by (intro _; with_unfolding_all rfl))) | (refine' slice_uptoNegN (by k_asm) (by k_asm) (by k_mem) (by (first | with_reducible assumption | omega)) (by (first | with_reducible assumption | omega)) ?_ (by with_unfolding_all rfl) (by (intro _; with_unfolding_all rfl)))); intro D9 h9 F9 N9 l9; (try k_sweep))
  k_with "compareOp Eq ref ref" => (k_here; (with_reducible show wpAny _ _ (compareOp CmpOp.Eq (Value.ref _) (Value.ref _)) _ _ _); k_dflt (refine' eq_H (by (first | exact room hu rfl | ktr_units)) ?_))
  intro w news st l t nl wl S Nn ws its nvs wvs e en ew n hS hT hl hi hn hnl hni hwl hwi hW
  unfold Ctr
  k_fill
  have hS' := hS
  obtain ⟨sd, hh1, t1, hh2, t2, hSa, hSb⟩ := hS'
  have lS := hW.lS
  have lN := hW.lN
  have lw := hW.lw
  have lwv := StrsAre.len_eq hwi
  rw [List.length_take] at lwv
  have hB := take_bound hW n
  have lnv := hni.length
  rw [upTo_len] at lnv
  have lit := hi.length
  rw [upTo_len] at lit
  intro dp un gd cn cs a ccd cl outer A₀ base h₀ L m s Q E p loose mean mg mb B F X N T hk hd hu hret
  refine wpAny_call ?_
  k_dflt cell_enter
  k_steps
  all_goals (have hnn : wvs.length = n := by omega)
  all_goals (have hnn' : ((wvs.length : Nat) : Int).toNat = n := by omega)
  · rename _ = true => a1
    have h0 : 0 < n := by omega
    rw [last_word hW hnn h0 hn] at *
    refine seen_later ‹News _ _ _ ((_, W.listOf #[Value.ref _, _, _, _] 0) :: _)› (by k_mem) (by k_mem) (by k_mem) (by k_mem) hi (by rw [hnn', ← upTo_take hn]; exact hni.take n) (by omega) (by rw [hnn']; exact cur_at rfl hn) (stNm_html hW h0 hn a1) (ok_stNm hW n) ?_
    k_steps
    rename News h₀ L _ _ => NN2
    exact hret _ _ _ _ ⟨rfl, rfl⟩ (by assumption) (fun p hp => NN2 p (by k_mem))
  · rename _ = false => a1
    have h0 : 0 < n := by omega
    rw [last_word hW hnn h0 hn] at *
    refine seen_later ‹News _ _ _ ((_, W.listOf #[Value.ref _, _, _, _] 0) :: _)› (by k_mem) (by k_mem) (by k_mem) (by k_mem) hi (by rw [hnn', ← upTo_take hn]; exact hni.take n) (by omega) (by rw [hnn']; exact cur_at rfl hn) (stNm_else hW h0 hn a1) (ok_stNm hW n) ?_
    k_steps
    rename News h₀ L _ _ => NN2
    exact hret _ _ _ _ ⟨rfl, rfl⟩ (by assumption) (fun p hp => NN2 p (by k_mem))
  · have h0 : n = 0 := by omega
    refine seen_later ‹News _ _ _ ((_, W.listOf #[Value.ref _, _, _, _] 0) :: _)› (by k_mem) (by k_mem) (by k_mem) (by k_mem) hi (by rw [hnn', ← upTo_take hn]; exact hni.take n) (by omega) (by rw [hnn']; exact cur_at rfl hn) (by subst h0; rfl) (ok_stNm hW n) ?_
    k_steps
    rename News h₀ L _ _ => NN2
    exact hret _ _ _ _ ⟨rfl, rfl⟩ (by assumption) (fun p hp => NN2 p (by k_mem))
theorem law_is_seen_ctrp : ∀ (w : World) (news : Led) (st : Addr) (l : Addr) (t : Addr) (nl : Addr) (wl : Addr) (S : List Str) (Nn : List Str) (ws : List Str) (its : List Value) (nvs : List Value) (wvs : List Value) (e : Nat) (en : Nat) (ew : Nat) (n : Nat) (hS : Stk news st l t) (hT : Tre news t S Nn) (hW : WS S Nn ws) (hl : (l, listOf its.toArray e) ∈ news) (hi : IntsAre its (upTo n)) (hn : n ≤ 12) (hwl : (wl, listOf wvs.toArray ew) ∈ news) (hwi : StrsAre wvs (ws.take n)) (hnl : (nl, listOf nvs.toArray en) ∈ news) (hni : IntsAre nvs (upTo 12)),
      Ctr w 9 150 346 [.ref st, .ref nl, .ref wl] news (fun r news' => r = .bool true ∧ news' = news) :=
    fun w news st l t nl wl S Nn ws its nvs wvs e en ew n hS hT hW hl hi hn hwl hwi hnl hni => law_is_seen_ctr w news st l t nl wl S Nn ws its nvs wvs e en ew n hS hT hl hi hn hnl hni hwl hwi hW
section
open PySem PySem.W PyProof.Rows
/-- the names of a sort -/
def lawNames : Nat → List Str
  | 0 => impl
  | 2 => more
  | 3 => [Str.ofString "div", Str.ofString "span", Str.ofString "html", Str.ofString "body", Str.ofString "table", Str.ofString "dl", Str.ofString "ul", Str.ofString "ruby", Str.ofString "select", Str.ofString "h1", Str.ofString "col", Str.ofString "menu"]
  | 1 => impl
  | _ => impl ++ more
/-- a new list of these texts stands ahead of the ledger -/
def LstNew (ys : List Str) (news : Led) (r : Value) (news' : Led) : Prop := ∃ D vs n, r = .ref D ∧ news' = (D, listOf (List.toArray vs) n) :: news ∧ StrsAre vs ys ∧ ∀ p ∈ news, p.1 < D
theorem words0 : Txt.words (Str.ofString "dd dt li optgroup option p rb rp rt rtc") = lawNames 0 := by decide +kernel
theorem words2 : Txt.words (Str.ofString "caption colgroup tbody td tfoot th thead tr") = lawNames 2 := by decide +kernel
theorem words3 : Txt.words (Str.ofString "div span html body table dl ul ruby select h1 col menu") = lawNames 3 := by decide +kernel
end
set_option maxRecDepth 100000 in
set_option maxHeartbeats 0 in
theorem law_names0_ctr : ∀ (w : World) (news : Led) (sort : Int) (tk : Tok) (hs : sort < 2),
      Ctr w 3 60 325 [.int sort tk] news (LstNew (lawNames 0) news) := by
  k_with_none
  k_with "k_memx" => assumption
  k_with "call builtin:len" => (k_here; (with_reducible show wpAny _ _ (call (Value.builtin "len") [Value.ref _]) _ _ _); k_dflt (refine' KM.len_K (by k_asm) (by (first | assumption | k_mem)) (by (first | exact List.size_toArray | with_reducible rfl)) (by (first | omega | (simp only [List.size_toArray, List.length_append, List.length_cons, List.length_nil]; omega))) ?_))
  k_with "k_all" => assumption
  k_with "binaryOp Add ref ref" => (k_here; (with_reducible show wpAny _ _ (binaryOp _ (Value.ref _) (Value.ref _)) _ _ _); k_dflt (first | (refine' add_tupN (by k_asm) (by k_asm) (by k_mem) (by k_mem) (by (first | exact strs_ne (by assumption) | exact List.cons_ne_nil _ _)) (by (first | exact strs_ne (by assumption) | exact List.cons_ne_nil _ _)) (by (simp only [List.length_cons, List.length_nil, List.length_append]; omega)) ?_) | (refine' add_listN (by k_asm) (by k_asm) (by k_mem) (by k_mem) (by (first | omega | (simp only [List.length_cons, List.length_nil, List.length_append]; omega))) ?_)); intro D' h' F' N' l1; (try k_sweep))
  k_with "call builtin:str.split" => (k_here; (with_reducible show wpAny _ _ (call (Value.builtin "str.split") _) _ _ _); (refine PySem.W.KSpl.split0 (by k_asm) (by k_asm) ?_ (by kspl_size)); (intro D' l' h' k' e' a' F' N' l1))
  intro w news sort tk hs
  unfold Ctr
  k_fill
  intro dp un gd cn cs a ccd cl outer A₀ base h₀ L m s Q E p loose mean mg mb B F X N T hk hd hu hret
  refine wpAny_call ?_
  k_dflt cell_enter
    
  k_steps
  refine hret _ _ _ _ ⟨_, _, _, rfl, rfl, (by rw [e'.trans words0] at a'; exact a'), (by assumption)⟩ (by assumption) (by assumption)
set_option maxRecDepth 100000 in
set_option maxHeartbeats 0 in
theorem law_names2_ctr : ∀ (w : World) (news : Led) (sort : Int) (tk : Tok) (hs : sort = 2),
      Ctr w 3 60 325 [.int sort tk] news (LstNew (lawNames 2) news) := by
  intro w news sort tk hs
  unfold Ctr
  k_fill
  intro dp un gd cn cs a ccd cl outer A₀ base h₀ L m s Q E p loose mean mg mb B F X N T hk hd hu hret
  refine wpAny_call ?_
  k_dflt cell_enter
  subst hs
  k_steps
  refine hret _ _ _ _ ⟨_, _, _, rfl, rfl, (by rw [e'.trans words2] at a'; exact a'), (by assumption)⟩ (by assumption) (by assumption)
set_option maxRecDepth 100000 in
set_option maxHeartbeats 0 in
theorem law_names3_ctr : ∀ (w : World) (news : Led) (sort : Int) (tk : Tok) (hs : sort = 3),
      Ctr w 3 60 325 [.int sort tk] news (LstNew (lawNames 3) news) := by
  intro w news sort tk hs
  unfold Ctr
  k_fill
  intro dp un gd cn cs a ccd cl outer A₀ base h₀ L m s Q E p loose mean mg mb B F X N T hk hd hu hret
  refine wpAny_call ?_
  k_dflt cell_enter
  subst hs
  k_steps
  refine hret _ _ _ _ ⟨_, _, _, rfl, rfl, (by rw [e'.trans words3] at a'; exact a'), (by assumption)⟩ (by assumption) (by assumption)
section
open PySem PySem.W PyProof.Rows PySem.Calls PySem.Spec PyProof.Rows.LCg
/-- the end of a step that stores nothing -/
def PureEnd (s : Shared) (h : Heap) (P : Prop) (s₃ : Shared) : Prop := (∃ tk, s₃ = { s with heap := h, toks := tk }) ∧ P
/-- the turns of a comprehension over enumerate(l) of pairs a, b with a test c: test and element store nothing -/
structure EnumTurn (prog : Program) (w : World) (A : Around) (h₀ : Heap) (L : Addr) (m : Str → Option Value) (env : Env) (c elt : Expr) (a b : Str) (scope : Scope) (cl : List (Str × Addr)) (s : Shared) (news : List (Addr × Obj)) (vs : List Value) (p : Nat → Bool) (g : Nat → Int) : Prop where
  test : ∀ (i : Nat) (x : Value) (t : Tok) C oC m₂ h tk (E' : Value → Shared → Prop), vs[i]? = some x → NsObj oC m₂ → m₂ a = some (.int i t) → m₂ b = some x → Fr h₀ L h m → News h₀ L h ((C, oC) :: news) →
    wpAny (model prog w) A (isTrue c (compEnvC scope cl C env) (eval c (compEnvC scope cl C env))) (fun ok s₃ => PureEnd s h (ok = p i) s₃) E' { s with heap := h, toks := tk }
  elt : ∀ (i : Nat) (x : Value) (t : Tok) C oC m₂ h tk (E' : Value → Shared → Prop), vs[i]? = some x → p i = true → NsObj oC m₂ → m₂ a = some (.int i t) → m₂ b = some x → Fr h₀ L h m → News h₀ L h ((C, oC) :: news) →
    wpAny (model prog w) A (eval elt (compEnvC scope cl C env)) (fun y s₃ => PureEnd s h (∃ t', y = .int (g i) t') s₃) E' { s with heap := h, toks := tk }
theorem ints_snoc {vs : List Value} {ns : List Int} (h : IntsAre vs ns) (i : Int) (t : Tok) : IntsAre (vs ++ [.int i t]) (ns ++ [i]) := by
  induction h with
  | nil => exact .cons i t .nil
  | cons k u _ ih => exact .cons k u ih
section
variable {prog : Program} {w : World} {A : Around} {E : Value → Shared → Prop} {s : Shared} {h₀ : Heap} {L : Addr} {m : Str → Option Value} {env : Env}
set_option maxHeartbeats 2000000 in
theorem enum_block {elt iter c : Expr} {a b : Str} {pa pb tp : Pos} {kk : Nat} {scope : Scope} {cl : List (Str × Addr)} {pos : Pos} {s₂ : Shared} {e it l : Addr} {vs : List Value} {n : Nat} {news : List (Addr × Obj)} {p : Nat → Bool} {g : Nat → Int}
    {RR : Value → Addr → Result → Shared → Prop}
    (hh : A.handled = none) (hsz : vs.length ≤ sizeLine) (he : IsEnum s₂.heap e it 0 .none) (hit : s₂.heap.IsListIter it l 0) (hei : e ≠ it) (hm : (l, listOf vs.toArray n) ∈ news)
    (hcell : ∀ y ∈ scope.names, y.2 ≠ .cell) (hkind : scope.kind = .function) (hxa : scope.names.lookup a = some .local) (hxb : scope.names.lookup b = some .local) (hab : ¬ a = b)
    (F : Fr h₀ L s₂.heap m) (N : News h₀ L s₂.heap news) (hLe : L ≠ e) (hLi : L ≠ it) (he₀ : h₀.get? e = none) (hi₀ : h₀.get? it = none) (off : ∀ q ∈ news, q.1 ≠ e ∧ q.1 ≠ it)
    (T : EnumTurn prog w A h₀ L m env c elt a b scope cl s₂ news vs p g)
    (hRR : ∀ D C h tk m' ys, Fr h₀ L h m → News h₀ L h ((D, lst ys) :: news) → h.Ns C m' → h₀.get? C = none → h₀.get? D = none → C ≠ L → D ≠ L → C ≠ D → (∀ q ∈ news, q.1 ≠ C ∧ q.1 ≠ D) →
      IntsAre ys (((List.range vs.length).filter p).map g) → RR (.ref D) C (.ok .next) { s₂ with heap := h, toks := tk }) :
    wpAny (model prog w) A (newList []) (fun acc s₃ => wpAny (model prog w) A (newFunctionEnv scope env.globals cl [] env.qual none .none (some env)) (fun cenv s₄ =>
      codeAny (model prog w) A (.compStart (.ListComp elt [⟨.Tuple [.Name a pa, .Name b pb] kk tp, iter, [c], 0⟩] scope pos) 0 (.ref e) acc { cenv with scope := relabel scope env }) (RR acc cenv.locals) s₄) E s₃) E s₂ := by
  have helt : e < s₂.heap.objs.size := Heap.lt_size he
  have hilt : it < s₂.heap.objs.size := by obtain ⟨_, q, _⟩ := hit; exact Heap.lt_size q
  have hllt : l < s₂.heap.objs.size := Heap.lt_size (N _ hm).1
  have hle : l ≠ e := (off _ hm).1
  have hli : l ≠ it := (off _ hm).2
  have hl₂ : s₂.heap.IsList l vs.toArray := ⟨_, (N _ hm).1, rfl, n, rfl⟩
  refine wpAny_newObj_type (wpAny_newFunctionEnv hcell (by intro y hy; simp at hy) (fun h₁ hns₁ hsb₁ => ?_) hkind)
  dsimp only at hns₁ hsb₁ ⊢
  generalize hH2 : s₂.heap.push { cls := .type "list", dict := none, data := .seq ([] : List Value).toArray } = H2 at hns₁ hsb₁ ⊢
  have hC : H2.objs.size = s₂.heap.objs.size + 1 := by rw [← hH2, Heap.size_push]
  have hDC : s₂.heap.objs.size ≠ H2.objs.size := by rw [hC]; exact Nat.ne_of_lt (Nat.lt_succ_self _)
  have below : ∀ b, b < s₂.heap.objs.size → b ≠ H2.objs.size ∧ b ≠ s₂.heap.objs.size := fun b hb => ⟨by rw [hC]; exact Nat.ne_of_lt (Nat.lt_succ_of_lt hb), Nat.ne_of_lt hb⟩
  have old : ∀ b o, s₂.heap.get? b = some o → h₁.get? b = some o := fun b o q => hsb₁.extBut b o (below b (Heap.lt_size q)).1 (Heap.get?_push_of_some _ (hH2 ▸ Heap.get?_push_of_some _ q))
  have hacc : h₁.get? s₂.heap.objs.size = some (lst []) := hsb₁.extBut _ _ hDC (Heap.get?_push_of_some _ (hH2 ▸ Heap.get?_push_size _ rfl))
  have fresh₀ : ∀ a, s₂.heap.objs.size ≤ a → h₀.get? a = none := fun a ha => by
    cases q : h₀.get? a with
    | none => rfl
    | some o' => exact absurd (Heap.lt_size (F.keep a o' q)) (Nat.not_lt.mpr ha)
  have hD₀ : h₀.get? s₂.heap.objs.size = none := fresh₀ _ (Nat.le_refl _)
  have hC₀ : h₀.get? H2.objs.size = none := fresh₀ _ (by rw [hC]; exact Nat.le_succ _)
  have hLlt : L < s₂.heap.objs.size := F.ns.lt
  have hDL : s₂.heap.objs.size ≠ L := Ne.symm (below L hLlt).2
  have hCL : H2.objs.size ≠ L := Ne.symm (below L hLlt).1
  have W := WalksT.enumerate (prog := prog) (w := w) hh e it l hei hle hli vs.toArray
  have hvs : vs.toArray.size = vs.length := List.size_toArray
  generalize hSt : (fun (i : Nat) (h : Heap) => (∃ old, IsEnum h e it i old) ∧ h.IsListIter it l i ∧ h.IsList l vs.toArray) = St at W
  have st₁ : St 0 h₁ := by
    rw [← hSt]
    exact ⟨⟨_, old _ _ he⟩, hit.at fun o q => old _ _ q, hl₂.at fun o q => old _ _ q⟩
  have offN : ∀ q ∈ news, q.1 ≠ H2.objs.size ∧ q.1 ≠ s₂.heap.objs.size := fun q hq => below _ (Heap.lt_size (N q hq).1)
  have loop : ∀ s₃ : Shared, s₃ = { s₂ with heap := h₁, toks := s₂.toks + ([] : List (Str × Value)).length } →
      codeAny (model prog w) A (.compLoop (.ListComp elt [⟨.Tuple [.Name a pa, .Name b pb] kk tp, iter, [c], 0⟩] scope pos) 0 (.ref e) (.ref s₂.heap.objs.size) (compEnvC scope cl H2.objs.size env))
        (RR (.ref s₂.heap.objs.size) H2.objs.size) s₃ := by
    rintro s₃ rfl
    refine kct_loop
      (fun k s' => ∃ h' tk i ys m', s' = { s₂ with heap := h', toks := tk } ∧ i ≤ vs.length ∧ k = vs.length + 1 - i ∧ ys.length ≤ i ∧ IntsAre ys (((List.range i).filter p).map g) ∧ St i h' ∧ Fr h₀ L h' m ∧ h'.Ns H2.objs.size m' ∧
        News h₀ L h' ((s₂.heap.objs.size, lst ys) :: news)) ?_ (vs.length + 1)
      ⟨h₁, _, 0, [], _, rfl, Nat.zero_le _, rfl, Nat.le_refl _, .nil, st₁, F.keeps old, hns₁, fun q hq => ?_⟩
    · rintro k s' ⟨h', tk, i, ys, m', rfl, hi, rfl, hyl, hys, hst', F', hn', N'⟩
      by_cases hlt : i < vs.length
      · refine W.item i _ _ _ (by rw [hvs]; exact hlt) hst' fun T' vals h₂ tk₂ hP hTge hT hM hk₂ => ?_
        refine W.go _ _ _ i T' _ _ _ hM fun h₃ hst₃ hk₃ => ?_
        obtain ⟨t, x, hx, rfl⟩ := hP
        rw [List.getElem?_toArray] at hx
        have hT₃ : h₃.IsTuple T' #[.int i t, x] := by obtain ⟨o, ho, r⟩ := hT; exact ⟨o, hk₃ T' o (W.apart i T' _ hM) ho, r⟩
        have up₃ : ∀ c o, c ≠ e → c ≠ it → h'.get? c = some o → h₃.get? c = some o := fun c o h1 h2 q => hk₃ c o (by simp [h1, h2]) (hk₂ c o (by simp [h1, h2]) q)
        have hCe : H2.objs.size ≠ e := Ne.symm (below e helt).1
        have hCi : H2.objs.size ≠ it := Ne.symm (below it hilt).1
        refine kcp_assign (env := compEnvC scope cl H2.objs.size env) hh hT₃ (lookup_relabel_local hxa) (lookup_relabel_local hxb) (by simp [compEnvC, relabel, hkind]) (hn'.at' fun o q => up₃ _ o hCe hCi q) fun h₄ tk₄ hn₄ hs₄ => ?_
        replace hs₄ : ∀ c o, c ≠ H2.objs.size → h₃.get? c = some o → h₄.get? c = some o := hs₄
        have up : ∀ c o, c ≠ e → c ≠ it → c ≠ H2.objs.size → h'.get? c = some o → h₄.get? c = some o := fun c o h1 h2 h3 q => hs₄ c o h3 (up₃ c o h1 h2 q)
        have st₄ : St (i + 1) h₄ := W.frame _ _ _ hst₃ fun b hb o q => hs₄ b o (fun z => by
          subst z
          simp only [List.mem_cons, List.not_mem_nil, or_false] at hb
          rcases hb with z | z | z
          · exact hCe z
          · exact hCi z
          · exact (below l hllt).1 z.symm) q
        obtain ⟨oC, heC, hoC⟩ := ns_obj hn₄
        have F₄ : Fr h₀ L h₄ m := ⟨F'.ns.at' fun o q => up _ o hLe hLi (Ne.symm hCL) q, fun c o q => up c o (fun z => by rw [z, he₀] at q; cases q) (fun z => by rw [z, hi₀] at q; cases q) (fun z => by rw [z, hC₀] at q; cases q) (F'.keep c o q), F'.above⟩
        have ND : News h₀ L h₄ ((s₂.heap.objs.size, lst ys) :: news) := fun q hq => by
          have z := N' q hq
          rcases List.mem_cons.mp hq with rfl | hq
          · exact ⟨up _ _ (Ne.symm (below e helt).2) (Ne.symm (below it hilt).2) hDC z.1, z.2⟩
          · exact ⟨up _ _ (off q hq).1 (off q hq).2 (offN q hq).1 z.1, z.2⟩
        have NC : News h₀ L h₄ ((H2.objs.size, oC) :: news) := fun q hq => by
          rcases List.mem_cons.mp hq with rfl | hq
          · exact ⟨heC, hCL, hC₀⟩
          · exact ND q (List.mem_cons_of_mem _ hq)
        refine wpAny_mono (T.test i x t _ oC _ h₄ _ _ hx hoC (by simp [hab]) (by simp) F₄ NC) (fun okb s₅ h₅ => ?_) fun _ _ q => q
        obtain ⟨⟨tk₅, rfl⟩, rfl⟩ := h₅
        cases hp : p i with
        | false =>
          simp only [Bool.false_eq_true, if_false]
          refine ⟨vs.length + 1 - (i + 1), by omega, h₄, tk₅, i + 1, ys, _, rfl, hlt, rfl, Nat.le_succ_of_le hyl, ?_, st₄, F₄, hn₄, ND⟩
          rw [List.range_succ, List.filter_append, List.filter_cons, hp]
          simpa using hys
        | true =>
          simp only [if_true]
          refine wpAny_mono (T.elt i x t _ oC _ h₄ _ _ hx hp hoC (by simp [hab]) (by simp) F₄ NC) (fun y s₆ h₆ => ?_) fun _ _ q => q
          obtain ⟨⟨tk₆, rfl⟩, t', rfl⟩ := h₆
          refine append_at (hsz := by rw [List.size_toArray]; exact Nat.le_trans hyl (Nat.le_trans hi hsz)) (ND _ List.mem_cons_self).1 fun h₇ hs₇ hD₇ => ?_
          refine ⟨vs.length + 1 - (i + 1), by omega, h₇, tk₆, i + 1, ys ++ [.int (g i) t'], _, rfl, hlt, rfl, by rw [List.length_append, List.length_singleton]; exact Nat.succ_le_succ hyl, ?_, W.frame _ _ _ st₄ fun b hb o q => hs₇.extBut b o (fun z => ?_) q,
            F₄.change hs₇ hDL hD₀, hn₄.sameBut hs₇ (Ne.symm hDC), fun q hq => ?_⟩
          · rw [List.range_succ, List.filter_append, List.filter_cons, hp]
            simpa using ints_snoc hys (g i) t'
          · subst z
            simp only [List.mem_cons, List.not_mem_nil, or_false] at hb
            rcases hb with z | z | z
            · exact (below e helt).2 z.symm
            · exact (below it hilt).2 z.symm
            · exact (below l hllt).2 z.symm
          · rcases List.mem_cons.mp hq with rfl | hq
            · exact ⟨hD₇.trans (congrArg some (lst_snoc ys _)), hDL, hD₀⟩
            · have z := ND q (List.mem_cons_of_mem _ hq)
              exact ⟨hs₇.extBut _ _ (offN q hq).2 z.1, z.2⟩
      · obtain rfl : i = vs.length := Nat.le_antisymm hi (Nat.not_lt.mp hlt)
        refine W.done _ _ _ (by rw [hvs]; exact hst') fun h₂ tk₂ hk₂ => ?_
        have up : ∀ c o, c ≠ e → c ≠ it → h'.get? c = some o → h₂.get? c = some o := fun c o h1 h2 q => hk₂ c o (by simp [h1, h2]) q
        refine hRR _ _ h₂ tk₂ _ ys ⟨F'.ns.at' fun o q => up _ o hLe hLi q, fun c o q => up c o (fun z => by rw [z, he₀] at q; cases q) (fun z => by rw [z, hi₀] at q; cases q) (F'.keep c o q), F'.above⟩ (fun q hq => ?_)
          (hn'.at' fun o q => up _ o (Ne.symm (below e helt).1) (Ne.symm (below it hilt).1) q) hC₀ hD₀ hCL hDL (Ne.symm hDC) offN hys
        have z := N' q hq
        rcases List.mem_cons.mp hq with rfl | hq
        · exact ⟨up _ _ (Ne.symm (below e helt).2) (Ne.symm (below it hilt).2) z.1, z.2⟩
        · exact ⟨up _ _ (off q hq).1 (off q hq).2 z.1, z.2⟩
    · rcases List.mem_cons.mp hq with rfl | hq
      · exact ⟨hacc, hDL, hD₀⟩
      · exact ⟨old _ _ (N q hq).1, (N q hq).2⟩
  exact codeAny_compStart_list (loop _ rfl) (W.self 0 _ _ _ st₁ (loop _ rfl))
/-- the source of such a comprehension -/
def EnumSrc (prog : Program) (w : World) (A : Around) (h₀ : Heap) (L : Addr) (m : Str → Option Value) (env : Env) (c elt : Expr) (a b : Str) (scope : Scope) (cl : List (Str × Addr)) (Fin : Shared → List Value → List (Addr × Obj) → Prop) (xv : Value) (s₁ : Shared) : Prop :=
  ∃ e it l vs n news p g, xv = .ref e ∧ A.handled = none ∧ IsEnum s₁.heap e it 0 .none ∧ s₁.heap.IsListIter it l 0 ∧ e ≠ it ∧ Fr h₀ L s₁.heap m ∧ News h₀ L s₁.heap news ∧ (l, listOf (List.toArray vs) n) ∈ news ∧
    (∀ q ∈ news, q.1 ≠ e ∧ q.1 ≠ it) ∧ L ≠ e ∧ L ≠ it ∧ h₀.get? e = none ∧ h₀.get? it = none ∧ vs.length ≤ sizeLine ∧ EnumTurn prog w A h₀ L m env c elt a b scope cl s₁ news vs p g ∧
    ∀ ys, IntsAre ys (((List.range vs.length).filter p).map g) → Fin s₁ ys news
theorem enum_src {l : Addr} {vs : List Value} {n : Nat} {news : List (Addr × Obj)} {c elt : Expr} {a b : Str} {scope : Scope} {cl : List (Str × Addr)} {Fin : Shared → List Value → List (Addr × Obj) → Prop}
    (hh : A.handled = none) (F : Fr h₀ L s.heap m) (N : News h₀ L s.heap news) (hm : (l, listOf vs.toArray n) ∈ news) (hz : vs.length ≤ 1000)
    (h : Later (∃ p g, EnumTurn prog w A h₀ L m env c elt a b scope cl s news vs p g ∧ ∀ h' ys, IntsAre ys (((List.range vs.length).filter p).map g) → Fin { s with heap := h' } ys news)) :
    wpAny (model prog w) A (call (.type "enumerate") [.ref l]) (EnumSrc prog w A h₀ L m env c elt a b scope cl Fin) E s := by
  obtain ⟨p, g, T, hf⟩ := h.out
  refine call_enumerate_list (News.isList N hm) fun h' he hit hz' hk => ?_
  have lt : ∀ q ∈ news, q.1 < s.heap.objs.size := fun q hq => Heap.lt_size (N q hq).1
  have fresh₀ : ∀ a, s.heap.objs.size ≤ a → h₀.get? a = none := fun a ha => by
    cases q : h₀.get? a with
    | none => rfl
    | some o' => exact absurd (Heap.lt_size (F.keep a o' q)) (Nat.not_lt.mpr ha)
  have hL := F.ns.lt
  exact ⟨_, _, l, vs, n, news, p, g, rfl, hh, he, hit, Nat.succ_ne_self _, F.keeps hk, fun q hq => ⟨hk _ _ (N q hq).1, (N q hq).2⟩, hm, fun q hq => ⟨Nat.ne_of_lt (Nat.lt_succ_of_lt (lt q hq)), Nat.ne_of_lt (lt q hq)⟩,
    Nat.ne_of_lt (Nat.lt_succ_of_lt hL), Nat.ne_of_lt hL, fresh₀ _ (Nat.le_succ _), fresh₀ _ (Nat.le_refl _), by rw [PySem.sizeLine_eq]; omega, ⟨T.test, T.elt⟩, fun ys hy => hf h' ys hy⟩
theorem off1_of {D : Addr} : ∀ {l : List (Addr × Obj)}, (∀ q ∈ l, q.1 ≠ D) → Off1 D l
  | [], _ => trivial
  | _ :: _, h => ⟨h _ List.mem_cons_self, off1_of fun q hq => h q (List.mem_cons_of_mem _ hq)⟩
theorem enum_ListComp {elt iter c : Expr} {a b : Str} {pa pb tp : Pos} {kk : Nat} {scope : Scope} {cl : List (Str × Addr)} {pos : Pos} {Q : Value → Shared → Prop} (_F₀ : Fr h₀ L s.heap m)
    (hclos : closureFor scope env = pure cl) (hcell : ∀ y ∈ scope.names, y.2 ≠ .cell) (hkind : scope.kind = .function)
    (hnames : ∀ y ∈ scope.names, y.2 = .local → scope.names.lookup y.1 = some .local) (hxa : scope.names.lookup a = some .local) (hxb : scope.names.lookup b = some .local) (hab : ¬ a = b)
    (h : wpAny (model prog w) A (eval iter env) (EnumSrc prog w A h₀ L m env c elt a b scope cl (fun s₂ => FinE h₀ L m s₂ Q)) E s)
    (hs : ∀ x, foldedSetIterable iter env x = pure x := by intro _; rfl) :
    wpAny (model prog w) A (eval (.ListComp elt [⟨.Tuple [.Name a pa, .Name b pb] kk tp, iter, [c], 0⟩] scope pos) env) Q E s := by
  rw [eval_ListComp]
  refine wpAny_comprehension_free (use := none) rfl hs hclos hkind hnames (wpAny_mono h (fun xv s₁ h₁ => ?_) fun _ _ e => e)
  obtain ⟨e, it, l, vs, n, news, p, g, rfl, hh, he, hit, hei, F, N, hm, off, hLe, hLi, he₀, hi₀, hsz, T, fin⟩ := h₁
  refine wpAny_pyIter_enum he ?_
  refine enum_block hh hsz he hit hei hm hcell hkind hxa hxb hab F N hLe hLi he₀ hi₀ off T ?_
  intro D C h tk m' ys F' N' hn hC₀ hD₀ hCL hDL hCD offC hys
  refine ⟨m', hn, fun h'' hs'' => fin ys hys D h'' tk (F'.change hs'' hCL hC₀) (fun q hq => ?_) (off1_of fun q hq => (offC q hq).2)⟩
  refine ⟨hs''.extBut _ _ ?_ (N' q hq).1, (N' q hq).2⟩
  rcases List.mem_cons.mp hq with rfl | hq
  · exact Ne.symm hCD
  · exact (offC q hq).1
theorem enum_Assign {elt iter c : Expr} {a b y : Str} {pa pb tp py : Pos} {kk : Nat} {scope : Scope} {cl : List (Str × Addr)} {pos spos : Pos} {Q : Flow → Shared → Prop} (_F₀ : Fr h₀ L s.heap m) (hLe : env.locals = L)
    (hsw : swapsWith (.ListComp elt [⟨.Tuple [.Name a pa, .Name b pb] kk tp, iter, [c], 0⟩] scope pos) (some (.Name y py)) spos.line env = pure true)
    (hclos : closureFor scope env = pure cl) (hcell : ∀ z ∈ scope.names, z.2 ≠ .cell) (hkind : scope.kind = .function)
    (hnames : ∀ z ∈ scope.names, z.2 = .local → scope.names.lookup z.1 = some .local) (hxa : scope.names.lookup a = some .local) (hxb : scope.names.lookup b = some .local) (hab : ¬ a = b)
    (hy : env.kindOf y = some .local) (hp : (env.scope.kind == .class || (env.scope.kind == .module && env.locals != env.globals)) = false)
    (h : wpAny (model prog w) A (eval iter env) (EnumSrc prog w A h₀ L m env c elt a b scope cl (fun s₂ => FinA h₀ L m s₂ y Q)) E s)
    (hs : ∀ x, foldedSetIterable iter env x = pure x := by intro _; rfl) :
    wpAny (model prog w) A (exec (.Assign [.Name y py] (.ListComp elt [⟨.Tuple [.Name a pa, .Name b pb] kk tp, iter, [c], 0⟩] scope pos) spos) env) Q E s := by
  subst hLe
  rw [exec_Assign_Name_used _ _ _ _ hsw]
  refine wpAny_bind (wpAny_standAt (wpAny_bind ?_))
  show wpAny _ A (do let _ ← comprehension (.ListComp elt [⟨.Tuple [.Name a pa, .Name b pb] kk tp, iter, [c], 0⟩] scope pos) scope env _ (newList []) false (eval iter env) (some (assign (.Name y py) env))) _ _ s
  refine wpAny_bind (wpAny_mono (wpAny_comprehension_free (use := some (assign (.Name y py) env)) (Q := fun _ s' => Q .next s') rfl hs hclos hkind hnames
    (wpAny_mono h (fun xv s₁ h₁ => ?_) fun _ _ e => e)) (fun _ s' hq => wpAny_pure (wpAny_pure hq)) fun _ _ e => e)
  obtain ⟨e, it, l, vs, n, news, p, g, rfl, hh, he, hit, hei, F, N, hm, off, hLe, hLi, he₀, hi₀, hsz, T, fin⟩ := h₁
  refine wpAny_pyIter_enum he ?_
  refine enum_block hh hsz he hit hei hm hcell hkind hxa hxb hab F N hLe hLi he₀ hi₀ off T ?_
  intro D C h' tk m' ys F' N' hn hC₀ hD₀ hCL hDL hCD offC hys
  show wpAny _ A (assign (.Name y py) env (.ref D)) _ _ _
  refine wpAny_assign_Name (wpAny_storeName_local hy F'.ns (fun h₂ hn₂ hs₂ => ?_) hp)
  have hL₀ : h₀.get? env.locals = none := Heap.get?_none_of_le F'.above
  have F₂ : Fr h₀ env.locals h₂ (fun z => if z = y then some (.ref D) else m z) := ⟨hn₂, fun b o q => hs₂.extBut b o (fun z => by rw [z, hL₀] at q; cases q) (F'.keep b o q), F'.above⟩
  refine ⟨m', hn.sameBut hs₂ hCL, fun h'' hs'' => fin ys hys D h'' _ (F₂.change hs'' hCL hC₀) (fun q hq => ?_) (off1_of fun q hq => (offC q hq).2)⟩
  have z : h₂.get? q.1 = some q.2 := hs₂.extBut _ _ (N' q hq).2.1 (N' q hq).1
  refine ⟨hs''.extBut _ _ ?_ z, (N' q hq).2⟩
  rcases List.mem_cons.mp hq with rfl | hq
  · exact Ne.symm hCD
  · exact (offC q hq).1
end
end
section
open PySem PySem.W PyProof.Rows
theorem lawNames0_len : (lawNames 0).length = 10 := rfl
theorem lawNames2_len : (lawNames 2).length = 8 := rfl
theorem Ctr.mono {w : World} {d u d' u' : Nat} {f : Addr} {vs : List Value} {news : Led} {Post : Value → Led → Prop} (h : Ctr w d u f vs news Post) (hd : d ≤ d') (hu : u ≤ u') : Ctr w d' u' f vs news Post := by
  intro dp un gd cn cs a ccd cl outer A₀ base h₀ L m s Q E p loose mean mg mb B F X N T hk hdd huu hret
  exact h dp un gd cn cs a ccd cl outer A₀ base h₀ L m s Q E p loose mean mg mb B F X N T hk (by omega) (by omega) hret
theorem Ctr.post {w : World} {d u : Nat} {f : Addr} {vs : List Value} {news : Led} {Post Post' : Value → Led → Prop} (h : Ctr w d u f vs news Post) (hp : ∀ r n, Post r n → Post' r n) : Ctr w d u f vs news Post' := by
  intro dp un gd cn cs a ccd cl outer A₀ base h₀ L m s Q E p loose mean mg mb B F X N T hk hdd huu hret
  exact h dp un gd cn cs a ccd cl outer A₀ base h₀ L m s Q E p loose mean mg mb B F X N T hk hdd huu fun r n h' tk' hq => hret r n h' tk' (hp _ _ hq)
end
set_option maxRecDepth 100000 in
set_option maxHeartbeats 0 in
theorem law_names4_ctr : ∀ (w : World) (news : Led) (tk : Tok),
      Ctr w 6 80 325 [.int 4 tk] news (LstNew (lawNames 4) news) := by
  k_with_none
  k_with "k_memx" => assumption
  k_with "call builtin:len" => (k_here; (with_reducible show wpAny _ _ (call (Value.builtin "len") [Value.ref _]) _ _ _); k_dflt (refine' KM.len_K (by k_asm) (by (first | assumption | k_mem)) (by (first | exact List.size_toArray | with_reducible rfl)) (by (first | omega | (simp only [List.size_toArray, List.length_append, List.length_cons, List.length_nil]; omega))) ?_))
  k_with "k_all" => assumption
  k_with "binaryOp Add ref ref" => (k_here; (with_reducible show wpAny _ _ (binaryOp _ (Value.ref _) (Value.ref _)) _ _ _); k_dflt (first | (refine' add_tupN (by k_asm) (by k_asm) (by k_mem) (by k_mem) (by (first | exact strs_ne (by assumption) | exact List.cons_ne_nil _ _)) (by (first | exact strs_ne (by assumption) | exact List.cons_ne_nil _ _)) (by (simp only [List.length_cons, List.length_nil, List.length_append]; omega)) ?_) | (refine' add_listN (by k_asm) (by k_asm) (by k_mem) (by k_mem) (by (first | omega | (simp only [List.length_cons, List.length_nil, List.length_append]; omega))) ?_)); intro D' h' F' N' l1; (try k_sweep))
  k_with "callm" => (k_here; (with_reducible show wpAny _ _ (call (Value.ref 325) _) _ _ _); k_dflt (refine' Ctr.use (by k_asm) (by k_asm) (by k_asm) (by k_asm) (by k_asm) (by (first | exact rfl | assumption)) (law_names2_ctr _ _ 2 _ (by rfl)) (by (first | exact room hd rfl | ktr_room)) (by (first | exact room hu rfl | ktr_units)) ?_); (k_dflt (intro r9 n9 h9 tk9 p9 F9 N9; (try k_fold); obtain ⟨D9, vs9, e9, rx9, e9', st9, lt9⟩ := p9; subst r9; subst n9; have ln9 := StrsAre.len_eq st9)); (try dsimp only); (try k_fold))
  k_with "callm" => (k_here; (with_reducible show wpAny _ _ (call (Value.ref 325) _) _ _ _); k_dflt (refine' Ctr.use (by k_asm) (by k_asm) (by k_asm) (by k_asm) (by k_asm) (by (first | exact rfl | assumption)) (law_names0_ctr _ _ 0 _ (by decide)) (by (first | exact room hd rfl | ktr_room)) (by (first | exact room hu rfl | ktr_units)) ?_); (k_dflt (intro r9 n9 h9 tk9 p9 F9 N9; (try k_fold); obtain ⟨D9, vs9, e9, rx9, e9', st9, lt9⟩ := p9; subst r9; subst n9; have ln9 := StrsAre.len_eq st9)); (try dsimp only); (try k_fold))
  intro w news tk
  unfold Ctr
  k_fill
  have ln0 := lawNames0_len
  have ln2 := lawNames2_len
  intro dp un gd cn cs a ccd cl outer A₀ base h₀ L m s Q E p loose mean mg mb B F X N T hk hd hu hret
  refine wpAny_call ?_
  k_dflt cell_enter
  k_steps
  rename ∀ p ∈ _ :: _ :: news, p.1 < _ => l1
  rename StrsAre _ (lawNames 2) => s2
  rename StrsAre _ (lawNames 0) => s0
  rename News _ _ _ (_ :: _ :: _ :: news) => kN
  refine hret _ _ _ _ ⟨_, _, _, rfl, rfl, StrsAre.append' s0 s2, fun p hp => l1 p (sub_tail2 p hp)⟩ (by assumption) (fun p hp => ‹News h₀ L _ (_ :: _ :: _ :: news)› p (sub_head2 p hp))
set_option maxRecDepth 100000 in
set_option maxHeartbeats 0 in
theorem law_names_ctr : ∀ (w : World) (news : Led) (sort : Int) (k : Nat) (tk : Tok) (hk : k ≤ 4) (hs : sort = k),
      Ctr w 6 80 325 [.int sort tk] news (LstNew (lawNames k) news) := by
  intro w news sort k tk hk hs
  subst hs
  match k, hk with
  | 0, _ => exact (law_names0_ctr w news 0 tk (by decide)).mono (by decide) (by decide)
  | 1, _ => exact (law_names0_ctr w news 1 tk (by decide)).mono (by decide) (by decide)
  | 2, _ => exact (law_names2_ctr w news 2 tk rfl).mono (by decide) (by decide)
  | 3, _ => exact (law_names3_ctr w news 3 tk rfl).mono (by decide) (by decide)
  | 4, _ => exact law_names4_ctr w news tk
section
open PySem PySem.W PyProof.Rows
/-- as Ctr, where the base holds the list sc -/
def CtrS (w : World) (d u : Nat) (f : Addr) (vs : List Value) (sc : Addr) (svs : List Value) (news : Led) (Post : Value → Led → Prop) : Prop :=
  ∀ (dp un : Nat) (gd : Option (List Code)) (cn : Str) (cs : Scope) (a : Addr) (ccd : Value) (cl : List (Str × Addr)) (outer : List Env) (A₀ : Around) (base h₀ : Heap) (L : Addr) (m : Str → Option Value) (s : Shared)
    (Q E : Value → Shared → Prop) (p : Program) (loose : List Str) (mean : ExcName → Option Value) (mg mb : Str → Option Value),
    Below A₀ base outer h₀ → Fr h₀ L s.heap m → (_root_.Mine.h0.heap_1_1 w.params).In h₀ → News h₀ L s.heap news → Top p loose mean mg mb h₀ → h₀.IsList sc svs.toArray → cs.kind = .function →
    dp + d < recursionLimit → un + u < cLine →
    (∀ r news' h' tk', Post r news' → Fr h₀ L h' m → News h₀ L h' news' → Q r { s with heap := h', toks := tk' }) →
    wpAny (model PySem.Challenge.rw_nt0596_01.prog w) (ktrTop dp un gd cn cs L a ccd cl outer) (call (.ref f) vs) Q E s
theorem CtrS.use {w : World} {d u : Nat} {f : Addr} {vs : List Value} {sc : Addr} {svs : List Value} {news : Led} {Post : Value → Led → Prop} {dp un : Nat} {gd : Option (List Code)} {cn : Str} {cs : Scope} {a : Addr} {ccd : Value} {cl : List (Str × Addr)} {outer : List Env} {A₀ : Around} {base h₀ : Heap} {L : Addr} {m : Str → Option Value} {s : Shared}
    {Q E : Value → Shared → Prop} {p : Program} {loose : List Str} {mean : ExcName → Option Value} {mg mb : Str → Option Value}
    (B : Below A₀ base outer h₀) (F : Fr h₀ L s.heap m) (X : (_root_.Mine.h0.heap_1_1 w.params).In h₀) (N : News h₀ L s.heap news) (T : Top p loose mean mg mb h₀) (hk : cs.kind = .function)
    (SL : h₀.IsList sc svs.toArray)
    (C : CtrS w d u f vs sc svs news Post) (hd : dp + d < recursionLimit) (hu : un + u < cLine)
    (ret : ∀ r news' h' tk', Post r news' → Fr h₀ L h' m → News h₀ L h' news' → Q r { s with heap := h', toks := tk' }) :
    wpAny (model PySem.Challenge.rw_nt0596_01.prog w) (ktrTop dp un gd cn cs L a ccd cl outer) (call (.ref f) vs) Q E s :=
  C _ _ _ _ _ _ _ _ _ _ _ _ _ _ _ _ _ _ _ _ _ _ B F X N T SL hk hd hu ret
/-- the script's digit at a place -/
def digit (ns : List Int) (place : Int) : Int := if ns = [] then 0 else ns.getD (place.fmod (ns.length : Int)).toNat 0
theorem readsZ {h : Heap} {a : Addr} {vs : List Value} (hl : h.IsList a vs.toArray) {ns : List Int} (hi : IntsAre vs ns) : ∃ as, Reads h (.ref a) (.list (ns.map .int)) as := by
  obtain ⟨o, e, hc, n, hd⟩ := hl
  exact ⟨_, reads_list_at e hc hd (readsI _ hi)⟩
theorem ne_nil_ints {prog : Program} {w : World} {A : Around} {E : Value → Shared → Prop} {s : Shared} {h₀ : Heap} {L : Addr} {news : Led} {a b : Addr} {vs : List Value} {ns : List Int} {n : Nat} {Q : Value → Shared → Prop}
    (N : News h₀ L s.heap news) (hu : A.units + 64 < cLine) (hl : s.heap.IsList a vs.toArray) (hi : IntsAre vs ns) (hb : (b, listOf #[] n) ∈ news) (h : Q (.bool (decide (ns ≠ []))) s) :
    wpAny (model prog w) A (compareOp .NotEq (.ref a) (.ref b)) Q E s := by
  obtain ⟨as, ra⟩ := readsZ hl hi
  obtain ⟨bs, rb⟩ := readsZ (ns := []) (vs := []) (News.isList N hb) .nil
  refine ne_nilN hu ra rb (shaped_ints ns) ?_
  have e : (!(ns.map PyData.int).isEmpty) = decide (ns ≠ []) := by cases ns <;> rfl
  rw [e]; exact h
theorem ne_nil_base {prog : Program} {w : World} {A : Around} {E : Value → Shared → Prop} {s : Shared} {h₀ : Heap} {L : Addr} {m : Str → Option Value} {news : Led} {a b : Addr} {vs : List Value} {ns : List Int} {n : Nat} {Q : Value → Shared → Prop}
    (F : Fr h₀ L s.heap m) (N : News h₀ L s.heap news) (hu : A.units + 64 < cLine) (hl : h₀.IsList a vs.toArray) (hi : IntsAre vs ns) (hb : (b, listOf #[] n) ∈ news) (h : Q (.bool (decide (ns ≠ []))) s) :
    wpAny (model prog w) A (compareOp .NotEq (.ref a) (.ref b)) Q E s := by
  obtain ⟨o, e, r⟩ := hl
  exact ne_nil_ints N hu ⟨o, F.keep _ _ e, r⟩ hi hb h
end
set_option maxRecDepth 100000 in
set_option maxHeartbeats 0 in
theorem law_digit_ctr : ∀ (w : World) (news : Led) (sc : Addr) (svs : List Value) (ns : List Int) (place : Int) (tk : Tok) (hi : IntsAre svs ns) (hz : ns.length ≤ 63) (h0 : 0 ≤ place) (h1 : place ≤ 100),
      CtrS w 3 150 318 [.ref sc, .int place tk] sc svs news (fun r news' => (∃ t, r = .int (digit ns place) t) ∧ news' = news) := by
  k_with_none
  k_with "k_memx" => assumption
  k_with "call builtin:len" => (k_here; (with_reducible show wpAny _ _ (call (Value.builtin "len") [Value.ref _]) _ _ _); k_dflt (refine' KM.len_K (by k_asm) (by (first | assumption | k_mem)) (by (first | exact List.size_toArray | with_reducible rfl)) (by (first | omega | (simp only [List.size_toArray, List.length_append, List.length_cons, List.length_nil]; omega))) ?_))
  k_with "k_all" => assumption
  k_with "compareOp NotEq ref ref" => (k_here; (with_reducible show wpAny _ _ (compareOp CmpOp.NotEq (Value.ref _) (Value.ref _)) _ _ _); k_dflt (refine' ne_nil_base (by k_asm) (by k_asm) (by (first | exact room hu rfl | ktr_units)) (by assumption) (by assumption) (by k_mem) ?_))
  intro w news sc svs ns place tk hi hz h0 h1
  unfold CtrS
  k_fill
  have hlen := hi.length
  intro dp un gd cn cs a ccd cl outer A₀ base h₀ L m s Q E p loose mean mg mb B F X N T SL hk hd hu hret
  refine wpAny_call ?_
  k_dflt cell_enter
  rename Fr h₀ L _ m => FG
  have SL' := SL.at fun o e => FG.keep _ o e
  k_steps
  · rename ((ns.length : Nat) : Int) = 0 => x0
    rename ns ≠ [] => a0
    exact absurd (List.eq_nil_of_length_eq_zero (by omega)) a0
  · rename ns ≠ [] => a0
    exact hret _ _ _ _ ⟨⟨_, by rw [digit, if_neg a0]⟩, rfl⟩ (by assumption) (fun q hq => ‹News h₀ L _ (_ :: news)› q (List.mem_cons_of_mem _ hq))
  · rename ¬ (ns ≠ []) => a0
    exact hret _ _ _ _ ⟨⟨_, by rw [digit, if_pos (Classical.not_not.mp a0)]⟩, rfl⟩ (by assumption) (fun q hq => ‹News h₀ L _ (_ :: news)› q (List.mem_cons_of_mem _ hq))
section
open PySem PySem.W PyProof.Rows
theorem fmod5 (x : Int) : ((x.fmod 5).toNat : Int) = x.fmod 5 := Int.toNat_of_nonneg (by rw [Int.fmod_eq_emod_of_nonneg _ (by decide)]; omega)
theorem fmod5le (x : Int) : (x.fmod 5).toNat ≤ 4 := by rw [Int.fmod_eq_emod_of_nonneg _ (by decide)]; omega
theorem lawNames_len : ∀ {k : Nat}, k ≤ 4 → 8 ≤ (lawNames k).length ∧ (lawNames k).length ≤ 18
  | 0, _ => by decide
  | 1, _ => by decide
  | 2, _ => by decide
  | 3, _ => by decide
  | 4, _ => by decide
theorem lawNames_in {k : Nat} (hk : k ≤ 4) : ∀ y ∈ lawNames k, y.length ≤ 100 ∧ y ∈ names30 := by
  have h : ∀ k, k ≤ 4 → ((lawNames k).all fun y => decide (y.length ≤ 100) && names30.contains y) = true := by
    intro k hk
    match k, hk with
    | 0, _ => decide +kernel
    | 1, _ => decide +kernel
    | 2, _ => decide +kernel
    | 3, _ => decide +kernel
    | 4, _ => decide +kernel
  intro y hy
  have h2 := List.all_eq_true.mp (h k hk) y hy
  simp only [Bool.and_eq_true, decide_eq_true_eq, List.contains_iff_mem] at h2
  exact h2
theorem html_html : Str.ofString "html.html" = wordOf (Str.ofString "html") (Str.ofString "html") := by decide +kernel
theorem html_in : Str.ofString "html" ∈ spaces3 := by decide +kernel
/-- one of two -/
def pick2 (a b : Str) (k : Int) : Str := if k = 0 then a else b
theorem pick_in (k : Int) : pick2 (Str.ofString "svg") (Str.ofString "math") k ∈ spaces3 := by
  unfold pick2
  split
  · decide +kernel
  · decide +kernel
section
variable {prog : Program} {w : World} {A : Around} {E : Value → Shared → Prop} {s : Shared} {h₀ : Heap} {L : Addr} {news : Led} {value slice : Expr} {a : Addr} {l : List Value} {n : Nat} {u : Tok} {Q : Value → Shared → Prop}
theorem item_strsB {ys : List Str} {k : Int} {P : Str → Prop}
    (N : News h₀ L s.heap news) (hm : (a, listOf l.toArray n) ∈ news) (hi : StrsAre l ys) (h0 : 0 ≤ k) (hk : k < ys.length) (hfit : k < 2 ^ 63) (hB : ∀ y ∈ ys, P y) (h : ∀ t', P (ys.getD k.toNat Str.empty) → Q (.str (ys.getD k.toNat Str.empty) t') s)
    (hs : subscripted slice false (.ref a) (.int k u) = operate [.ref a, .int k u] (getItem (.ref a) (.int k u)) := by with_unfolding_all rfl) (hg : ∀ r, letTemporaryGo value (.ref a) r = pure () := by intro _; with_unfolding_all rfl) :
    wpAny (model prog w) A (subscriptTail value slice (.ref a) (.int k u)) Q E s :=
  item_strsA (News.isList N hm) hi h0 hk hfit (fun t' => h t' (hB _ (by
    have hlt : k.toNat < ys.length := by omega
    have e : ys.getD k.toNat Str.empty = ys[k.toNat] := by simp [List.getD, hlt]
    rw [e]; exact List.getElem_mem hlt))) hs hg
theorem item_pick2 {x y : Str} {t1 t2 : Tok} {k : Int} (N : News h₀ L s.heap news) (hm : (a, ({ cls := .type "tuple", data := .seq #[.str x t1, .str y t2] } : Obj)) ∈ news) (h0 : 0 ≤ k) (hk : k < 2) (hz : x.length ≤ 10 ∧ y.length ≤ 10)
    (h : ∀ t', (pick2 x y k).length ≤ 10 → Q (.str (pick2 x y k) t') s)
    (hs : subscripted slice false (.ref a) (.int k u) = operate [.ref a, .int k u] (getItem (.ref a) (.int k u)) := by with_unfolding_all rfl) :
    wpAny (model prog w) A (subscriptTail value slice (.ref a) (.int k u)) Q E s := by
  have hT : IsTup s.heap a #[.str x t1, .str y t2] := ⟨_, N.get hm, rfl, _, rfl⟩
  have e : k = 0 ∨ k = 1 := by omega
  rcases e with rfl | rfl
  · exact item_tupleT hT (by decide) (by decide) (j := 0) rfl rfl (by have := h t1 hz.1; exact this) hs
  · exact item_tupleT hT (by decide) (by decide) (j := 1) rfl rfl (by have := h t2 hz.2; exact this) hs
end
theorem fmod_ge (x : Int) {n : Int} (h : 0 < n) : 0 ≤ x.fmod n := Int.fmod_nonneg_of_pos x h
theorem fmod_ltN (x : Int) {n m : Nat} (e : n = m) (h : 0 < n) : x.fmod (n : Int) < m := by subst e; exact Int.fmod_lt_of_pos x (by omega)
theorem fmod_fit (x : Int) {n : Int} (h : 0 < n) (h2 : n ≤ 1000) : x.fmod n < 2 ^ 63 := by have := Int.fmod_lt_of_pos x h; omega
end
set_option maxRecDepth 100000 in
set_option maxHeartbeats 0 in
theorem law_names2c : ∀ (w : World) (news : Led) (sort : Int) (k : Nat) (tk : Tok) (hk : k ≤ 4) (hs : sort = k),
      Ctr w 6 80 325 [.int sort tk] news
    (fun r news' => ∃ D vs n, r = .ref D ∧ news' = (D, listOf (List.toArray vs) n) :: news ∧ StrsAre vs (lawNames k) ∧ (∀ p ∈ news, p.1 < D) ∧ vs.length = (lawNames k).length ∧ 8 ≤ vs.length ∧ vs.length ≤ 18 ∧ (∀ y ∈ lawNames k, y.length ≤ 100 ∧ y ∈ names30)) := by
  k_with_none
  k_with "k_memx" => assumption
  k_with "call builtin:len" => (k_here; (with_reducible show wpAny _ _ (call (Value.builtin "len") [Value.ref _]) _ _ _); k_dflt (refine' KM.len_K (by k_asm) (by (first | assumption | k_mem)) (by (first | exact List.size_toArray | with_reducible rfl)) (by (first | omega | (simp only [List.size_toArray, List.length_append, List.length_cons, List.length_nil]; omega))) ?_))
  k_with "k_all" => assumption
  intro w news sort k tk hk hs
  exact (law_names_ctr w news sort k tk hk hs).post fun r n h => by
    obtain ⟨D, vs, e, rx, e', st, lt⟩ := h
    have l1 := StrsAre.len_eq st
    have l2 := lawNames_len hk
    exact ⟨D, vs, e, rx, e', st, lt, l1, by omega, by omega, lawNames_in hk⟩
theorem law_names2cp : ∀ (w : World) (news : Led) (sort : Int) (k : Nat) (tk : Tok) (hs : sort = k) (hk : k ≤ 4),
      Ctr w 6 80 325 [.int sort tk] news
    (fun r news' => ∃ D vs n, r = .ref D ∧ news' = (D, listOf (List.toArray vs) n) :: news ∧ StrsAre vs (lawNames k) ∧ (∀ p ∈ news, p.1 < D) ∧ vs.length = (lawNames k).length ∧ 8 ≤ vs.length ∧ vs.length ≤ 18 ∧ (∀ y ∈ lawNames k, y.length ≤ 100 ∧ y ∈ names30)) :=
    fun w news sort k tk hs hk => law_names2c w news sort k tk hk hs
set_option maxRecDepth 100000 in
set_option maxHeartbeats 0 in
theorem law_word_ctr : ∀ (w : World) (news : Led) (sc : Addr) (svs : List Value) (ns : List Int) (k : Int) (tk : Tok) (hi : IntsAre svs ns) (hz : ns.length ≤ 63) (h0 : 0 ≤ k) (h1 : k ≤ 11),
      CtrS w 12 250 332 [.ref sc, .int k tk] sc svs news (fun r news' => (∃ sp nm t, r = .str (wordOf sp nm) t ∧ sp ∈ spaces3 ∧ nm ∈ names30) ∧ news' = news) := by
  k_with "subscriptTail" => (k_here; (with_reducible show wpAny _ _ (subscriptTail _ _ (Value.ref _) (Value.int _ _)) _ _ _); (with_unfolding_all refine' item_strsB (by k_asm) (by (first | assumption | k_mem)) (by assumption) (by exact fmod_ge _ (by (first | with_reducible assumption | omega))) (by exact fmod_ltN _ (by assumption) (by (first | with_reducible assumption | omega))) (by exact fmod_fit _ (by (first | with_reducible assumption | omega)) (by (first | with_reducible assumption | omega))) (by assumption) ?_); intro t9 lb9'; obtain ⟨lc9', ld9'⟩ := lb9')
  k_with "subscriptTail" => (k_here; (with_reducible show wpAny _ _ (subscriptTail _ _ (Value.ref _) (Value.int (Int.fmod _ 2) _)) _ _ _); (with_unfolding_all refine' item_pick2 (by k_asm) (by k_mem) (by exact fmod_ge _ (by decide)) (by exact Int.fmod_lt_of_pos _ (by decide)) (by decide) ?_); intro t9 lb9')
  k_with "callm" => (k_here; (with_reducible show wpAny _ _ (call (Value.ref 318) _) _ _ _); k_dflt (refine' CtrS.use (by k_asm) (by k_asm) (by k_asm) (by k_asm) (by k_asm) (by (first | exact rfl | assumption)) (by assumption) (law_digit_ctr _ _ _ _ _ _ _ (by assumption) (by assumption) (by (first | with_reducible assumption | omega)) (by (first | with_reducible assumption | omega))) (by (first | exact room hd rfl | ktr_room)) (by (first | exact room hu rfl | ktr_units)) ?_); (k_dflt (intro r9 n9 h9 tk9 p9 F9 N9; (try k_fold); obtain ⟨⟨t9, rx9⟩, e9'⟩ := p9; subst r9; subst n9)); (try dsimp only); (try k_fold))
  k_with "callm" => (k_here; (with_reducible show wpAny _ _ (call (Value.ref 325) _) _ _ _); k_dflt (refine' Ctr.use (by k_asm) (by k_asm) (by k_asm) (by k_asm) (by k_asm) (by (first | exact rfl | assumption)) (law_names2cp _ _ _ _ _ (by exact (fmod5 _).symm) (by exact fmod5le _)) (by (first | exact room hd rfl | ktr_room)) (by (first | exact room hu rfl | ktr_units)) ?_); (k_dflt (intro r9 n9 h9 tk9 p9 F9 N9; (try k_fold); obtain ⟨D9, vs9, e9, rx9, e9', st9, lt9, ln9, la9, lb9, lc9⟩ := p9; subst r9; subst n9)); (try dsimp only); (try k_fold))
  intro w news sc svs ns k tk hi hz h0 h1
  unfold CtrS
  k_fill
  have hlen := hi.length
  intro dp un gd cn cs a ccd cl outer A₀ base h₀ L m s Q E p loose mean mg mb B F X N T SL hk hd hu hret
  refine wpAny_call ?_
  k_dflt cell_enter
  rename Fr h₀ L _ m => FG
  have SL' := SL.at fun o e => FG.keep _ o e
  k_steps
  · exact hret _ _ _ _ ⟨⟨Str.ofString "html", Str.ofString "html", _, by rw [html_html], by decide +kernel, by decide +kernel⟩, rfl⟩ (by assumption) (by assumption)
  all_goals
    rename ((_ : Str) ∈ names30) => ld9
    rename News h₀ L _ _ => kN
    first
    | exact hret _ _ _ _ ⟨⟨_, _, _, rfl, pick_in _, ld9⟩, rfl⟩ (by assumption) (fun q hq => kN q (by k_mem))
    | exact hret _ _ _ _ ⟨⟨_, _, _, rfl, html_in, ld9⟩, rfl⟩ (by assumption) (fun q hq => kN q (by k_mem))
section
open PySem PySem.W PyProof.Rows PySem.Calls PySem.Spec PyProof.Rows.LCg
theorem strs_snoc {vs : List Value} {ys : List Str} (h : StrsAre vs ys) (y : Str) (t : Tok) : StrsAre (vs ++ [.str y t]) (ys ++ [y]) := by
  induction h with
  | nil => exact .cons y t .nil
  | cons k u _ ih => exact .cons k u ih
section
variable {prog : Program} {w : World} {A : Around} {E : Value → Shared → Prop} {s : Shared} {h₀ : Heap} {L : Addr} {m : Str → Option Value} {env : Env}
/-- a comprehension over a ledger's list of texts with a test; test and element store nothing -/
theorem strT_src {ct elt : Expr} {x : Str} {scope : Scope} {cl : List (Str × Addr)} {Fin : Shared → List Value → List (Addr × Obj) → Prop} {ax : Addr} {vs : List Value} {n : Nat} {ys : List Str} {news : List (Addr × Obj)}
    (hh : A.handled = none) (F : Fr h₀ L s.heap m) (N : News h₀ L s.heap news) (hm : (ax, listOf vs.toArray n) ∈ news) (hi : StrsAre vs ys) (hz : vs.length ≤ 1000)
    (h : Later (∃ (p : Str → Bool) (f : Str → Str),
      (∀ (y : Str) (t : Tok) C oC m₂ h tk (E' : Value → Shared → Prop), y ∈ ys → NsObj oC m₂ → m₂ x = some (.str y t) → Fr h₀ L h m → News h₀ L h ((C, oC) :: news) →
        wpAny (model prog w) A (isTrue ct (compEnvC scope cl C env) (eval ct (compEnvC scope cl C env))) (fun ok s₃ => PureEnd s h (ok = p y) s₃) E' { s with heap := h, toks := tk }) ∧
      (∀ (y : Str) (t : Tok) C oC m₂ h tk (E' : Value → Shared → Prop), y ∈ ys → p y = true → NsObj oC m₂ → m₂ x = some (.str y t) → Fr h₀ L h m → News h₀ L h ((C, oC) :: news) →
        wpAny (model prog w) A (eval elt (compEnvC scope cl C env)) (fun v s₃ => PureEnd s h (∃ t', v = .str (f y) t') s₃) E' { s with heap := h, toks := tk }) ∧
      (∀ h' zs, StrsAre zs ((ys.filter p).map f) → Fin { s with heap := h' } zs news))) :
    LCt.CompSrcT prog w A h₀ L m env ct elt x scope cl Fin (.ref ax) s := by
  obtain ⟨p, f, T1, T2, fin⟩ := h.out
  have hlen := StrsAre.len_eq hi
  refine LCt.CompSrcT.ledger hh F N hm (by rw [List.size_toArray, PySem.sizeLine_eq]; omega) fun g => ?_
  have hsz : vs.toArray.size = vs.length := List.size_toArray
  have key : ∀ (j i : Nat) (zs : List Value), i + j = vs.toArray.size → StrsAre zs (((ys.take i).filter p).map f) →
      LCt.CompRestT prog w A h₀ L m env ct elt x scope cl { s with heap := g } (SrcAt h₀ ax vs.toArray) (fun i v => vs.toArray[i]? = some v) (Fin { s with heap := g }) j i zs news := by
    intro j
    induction j with
    | zero =>
      intro i zs hij hzs
      refine LCt.CompRestT.zero (fin g zs ?_)
      rw [List.take_of_length_le (by omega)] at hzs
      exact hzs
    | succ j ih =>
      intro i zs hij hzs
      refine LCt.CompRestT.succ ?_
      intro v I oI C oC D m₂ h tk E' hv hC hx F₁ N₁ off ne
      have hlt : i < ys.length := by omega
      obtain ⟨t, ht⟩ := hi.at (List.getElem?_eq_getElem hlt)
      rw [List.getElem?_toArray] at hv
      obtain rfl : v = .str ys[i] t := Option.some.inj (hv.symm.trans ht)
      have N₂ : News h₀ L h ((C, oC) :: news) := fun q hq => N₁ q (by
        rcases List.mem_cons.mp hq with rfl | hq
        · exact List.mem_cons_of_mem _ List.mem_cons_self
        · exact List.mem_cons_of_mem _ (List.mem_cons_of_mem _ (List.mem_cons_of_mem _ hq)))
      have hS : SrcAt h₀ ax vs.toArray news := .inr ⟨_, hm, rfl, _, rfl⟩
      have step : ∀ b, p ys[i] = b → ((ys.take (i + 1)).filter p).map f = ((ys.take i).filter p).map f ++ (if b then [f ys[i]] else []) := by
        intro b hb
        rw [List.take_add_one, List.getElem?_eq_getElem hlt]
        simp only [Option.toList_some, List.filter_append, List.map_append, List.filter_cons, List.filter_nil]
        cases b <;> simp [hb]
      refine wpAny_mono (T1 ys[i] t C oC m₂ h tk E' (List.getElem_mem hlt) hC hx F₁ N₂) (fun ok s₃ q => ?_) fun _ _ e => e
      obtain ⟨⟨tk₃, rfl⟩, rfl⟩ := q
      cases hp : p ys[i] with
      | false =>
        simp only [Bool.false_eq_true, if_false]
        refine ⟨h, tk₃, news, rfl, F₁, N₁, off, hS, ih (i + 1) zs (by omega) ?_⟩
        rw [step _ hp]; simpa using hzs
      | true =>
        simp only [if_true]
        refine wpAny_mono (T2 ys[i] t C oC m₂ h tk₃ E' (List.getElem_mem hlt) hp hC hx F₁ N₂) (fun y s₄ q => ?_) fun _ _ e => e
        obtain ⟨⟨tk₄, rfl⟩, t', rfl⟩ := q
        refine ⟨h, tk₄, news, rfl, F₁, N₁, off, hS, ih (i + 1) _ (by omega) ?_⟩
        rw [step _ hp]; simpa using strs_snoc hzs (f ys[i]) t'
  exact key _ 0 [] (by omega) .nil
end
end
section
open PySem PySem.W PyProof.Rows
/-- a contract of a call that changes the object at l alone, of a ledger that holds part -/
def CtrU (w : World) (d u : Nat) (f : Addr) (vs : List Value) (part : Led) (l : Addr) (o : Obj) (P : Value → Obj → Prop) : Prop :=
  ∀ rest : Led, (∀ p ∈ rest, p.1 ≠ l) → (∀ p ∈ part, p ∈ rest) → Ctr w d u f vs ((l, o) :: rest) (fun r n => ∃ o', P r o' ∧ n = (l, o') :: rest)
theorem CtrU.use {w : World} {d u : Nat} {f : Addr} {vs : List Value} {part news : Led} {l : Addr} {o : Obj} {g : Obj → Led} {P : Value → Obj → Prop} {dp un : Nat} {gd : Option (List Code)} {cn : Str} {cs : Scope} {a : Addr} {ccd : Value} {cl : List (Str × Addr)} {outer : List Env} {A₀ : Around} {base h₀ : Heap} {L : Addr} {m : Str → Option Value} {s : Shared}
    {Q E : Value → Shared → Prop} {p : Program} {loose : List Str} {mean : ExcName → Option Value} {mg mb : Str → Option Value}
    (B : Below A₀ base outer h₀) (F : Fr h₀ L s.heap m) (X : (_root_.Mine.h0.heap_1_1 w.params).In h₀) (N : News h₀ L s.heap news) (T : Top p loose mean mg mb h₀) (hk : cs.kind = .function)
    (C : CtrU w d u f vs part l o P) (U : UpdF l o news g) (psub : ∀ p ∈ part, p ∈ news) (pap : ∀ p ∈ part, p.1 ≠ l) (hd : dp + d < recursionLimit) (hu : un + u < cLine)
    (ret : ∀ r o' h' tk', P r o' → Fr h₀ L h' m → News h₀ L h' (g o') → Q r { s with heap := h', toks := tk' }) :
    wpAny (model PySem.Challenge.rw_nt0596_01.prog w) (ktrTop dp un gd cn cs L a ccd cl outer) (call (.ref f) vs) Q E s := by
  obtain ⟨pre, post, rfl, hg, h1, h2⟩ := U.split
  have hap : ∀ p ∈ pre ++ post, p.1 ≠ l := fun p hp => by
    rcases List.mem_append.mp hp with hp | hp
    · exact h1 p hp
    · exact h2 p hp
  refine Ctr.use B F X (news := (l, o) :: (pre ++ post)) (fun p hp => N p ?_) T hk (C (pre ++ post) hap fun p hp => ?_) hd hu ?_
  · rcases List.mem_cons.mp hp with rfl | hp
    · exact List.mem_append_right _ List.mem_cons_self
    · rcases List.mem_append.mp hp with hp | hp
      · exact List.mem_append_left _ hp
      · exact List.mem_append_right _ (List.mem_cons_of_mem _ hp)
  · rcases List.mem_append.mp (psub p hp) with hq | hq
    · exact List.mem_append_left _ hq
    · rcases List.mem_cons.mp hq with rfl | hq
      · exact absurd rfl (pap _ hp)
      · exact List.mem_append_right _ hq
  · rintro r n h' tk' ⟨o', hP, rfl⟩ F' N'
    refine ret r o' h' tk' hP F' ?_
    rw [hg]
    intro p hp
    refine N' p ?_
    rcases List.mem_append.mp hp with hp | hp
    · exact List.mem_cons_of_mem _ (List.mem_append_left _ hp)
    · rcases List.mem_cons.mp hp with rfl | hp
      · exact List.mem_cons_self
      · exact List.mem_cons_of_mem _ (List.mem_append_right _ hp)
theorem SS.obj {l : Addr} {k : Nat} {rest news : Led} (h : SS l k rest news) : ∃ o', (∃ its e, o' = listOf (List.toArray its) e ∧ IntsAre its (upTo k)) ∧ news = (l, o') :: rest := by
  obtain ⟨its, e, hn, hi⟩ := h
  exact ⟨_, ⟨its, e, rfl, hi⟩, hn⟩
/-- the object of a stack of k -/
def StO (k : Nat) (o : Obj) : Prop := ∃ its e, o = listOf (List.toArray its) e ∧ IntsAre its (upTo k)
section
variable (w : World) (part : Led) (st l t : Addr) (its : List Value) (e k : Nat) (S Nn : List Str)
end
section
variable {prog : Program} {w : World} {A : Around} {E : Value → Shared → Prop} {s : Shared} {env : Env} {h₀ : Heap} {L : Addr} {body : List Stmt} {Q : Flow → Shared → Prop}
/-- the end of a turn of a while that stores x, its value told -/
def TurnX (h₀ : Heap) (L : Addr) (s : Shared) (x : Str) (m : Str → Option Value) (J : Nat → Value → Led → Prop) (Q : Flow → Shared → Prop) (n : Nat) (f : Flow) (s₃ : Shared) : Prop :=
  match f with
  | .next | .cont => ∃ h' tk m' news' n' v', s₃ = { s with heap := h', toks := tk } ∧ Fr h₀ L h' m' ∧ News h₀ L h' news' ∧ (∀ z, z ≠ x → m' z = m z) ∧ m' x = some v' ∧ n' < n ∧ ∃ nx, (∀ p ∈ nx, p ∈ news') ∧ J n' v' nx
  | .brk => Q .next s₃
  | .ret v => Q (.ret v) s₃
theorem while_X {test : Expr} {pos : Pos} {m : Str → Option Value} {news : Led} (F : Fr h₀ L s.heap m) (N : News h₀ L s.heap news) (hE : PassesOwn (model prog w) A env E)
    (h : Later (∃ (x : Str) (J : Nat → Value → Led → Prop) (n₀ : Nat) (v₀ : Value), m x = some v₀ ∧ (∃ nx, (∀ p ∈ nx, p ∈ news) ∧ J n₀ v₀ nx) ∧
      (∀ (n : Nat) (v : Value) (news₁ : Led) (h₁ : Heap) (tk₁ : Nat), Fr h₀ L h₁ (fun z => if z = x then some v else m z) → News h₀ L h₁ news₁ → J n v news₁ →
      wpAny (model prog w) A (isTrue test env (eval test env)) (fun b s₂ =>
        if b = true then wpAny (model prog w) A (execs body env) (TurnX h₀ L s x m J Q n) E s₂ else Q .next s₂) E { s with heap := h₁, toks := tk₁ }))) :
    wpAny (model prog w) A (exec (.While test body [] pos) env) Q E s := by
  obtain ⟨x, J, n₀, v₀, hv₀, ⟨nx₀, hs₀, hJ⟩, turn⟩ := h.out
  have fix : ∀ {m' : Str → Option Value} {v : Value}, (∀ z, z ≠ x → m' z = m z) → m' x = some v → m' = fun z => if z = x then some v else m z := by
    intro m' v h1 h2
    funext z
    by_cases hz : z = x
    · subst hz; simp [h2]
    · simp [hz, h1 z hz]
  refine While_inv2 (n₀ := n₀) (fun n m₁ nx => ∃ v, (∀ z, z ≠ x → m₁ z = m z) ∧ m₁ x = some v ∧ J n v nx) F (news := nx₀) (fun p hp => N p (hs₀ p hp)) ⟨v₀, fun _ _ => rfl, hv₀, hJ⟩ ?_ hE
  rintro n m₁ nx h tk F₁ N₁ ⟨v, hm, hx, hj⟩
  rw [fix hm hx] at F₁
  refine wpAny_mono (turn n v nx h tk F₁ N₁ hj) (fun b s₂ p => ?_) fun _ _ x => x
  cases b with
  | false => simpa using p
  | true =>
    simp only [if_true] at p ⊢
    refine wpAny_mono p (fun f s₃ q => ?_) fun _ _ x => x
    cases f with
    | ret v => exact q
    | brk => exact q
    | next =>
      obtain ⟨h', tk', m', news', n', v', rfl, F', N', hm', hx', hn, nx', hs', hj'⟩ := q
      exact ⟨h', tk', m', nx', n', rfl, F', fun p hp => N' p (hs' p hp), hn, v', hm', hx', hj'⟩
    | cont =>
      obtain ⟨h', tk', m', news', n', v', rfl, F', N', hm', hx', hn, nx', hs', hj'⟩ := q
      exact ⟨h', tk', m', nx', n', rfl, F', fun p hp => N' p (hs' p hp), hn, v', hm', hx', hj'⟩
theorem ne_nil_strs {a b : Addr} {vs : List Value} {ys : List Str} {n k : Nat} {news : Led} {Q : Value → Shared → Prop}
    (N : News h₀ L s.heap news) (hu : A.units + 64 < cLine) (hl : (a, listOf vs.toArray k) ∈ news) (hi : StrsAre vs ys) (hb : (b, listOf #[] n) ∈ news) (ok : ∀ y ∈ ys, PyData.strOk y = true) (h : Q (.bool (decide (vs.length ≠ 0))) s) :
    wpAny (model prog w) A (compareOp .NotEq (.ref a) (.ref b)) Q E s := by
  have ra : Reads s.heap (.ref a) (.list (ys.map .str)) _ := reads_list_at (N.get hl) rfl rfl (hi.carried.reads s.heap)
  have rb : Reads s.heap (.ref b) (.list []) _ := reads_list_at (N.get hb) rfl rfl .nil
  have hlen := StrsAre.len_eq hi
  refine ne_nilN hu ra rb ?_ ?_
  · have e1 : ∀ zs : List Str, (∀ y ∈ zs, PyData.strOk y = true) → PyData.canLayAll0 (zs.map PyData.str) = true ∧ PyData.depthAll (zs.map PyData.str) ≤ 1 := by
      intro zs
      induction zs with
      | nil => intro _; exact ⟨rfl, by decide⟩
      | cons z zs ih =>
        intro hz
        obtain ⟨i1, i2⟩ := ih fun y hy => hz y (List.mem_cons_of_mem _ hy)
        refine ⟨?_, ?_⟩
        · simp [PyData.canLayAll0, PyData.canLay0, hz z List.mem_cons_self, i1]
        · simp only [List.map_cons, PyData.depthAll, PyData.depth]; omega
    obtain ⟨h1, h2⟩ := e1 ys ok
    have h3 : (PyData.list (ys.map PyData.str)).depth ≤ 64 := by
      simp only [PyData.depth]; omega
    have h4 : (PyData.list (ys.map PyData.str)).canLay0 = true := by simp only [PyData.canLay0, h1]
    simp [PySem.SeqAt.shaped, h3, h4]
  · have e : (!(ys.map PyData.str).isEmpty) = decide (vs.length ≠ 0) := by cases ys <;> simp [hlen]
    rw [e]; exact h
end
end
set_option maxRecDepth 100000 in
set_option maxHeartbeats 0 in
theorem pop_U : ∀ (w : World) (part : Led) (st l t : Addr) (its : List Value) (e k : Nat) (hS : Stk part st l t) (hi : IntsAre its (upTo k)) (hz : k ≤ 100),
      CtrU w 3 40 63 [.ref st] part l (listOf its.toArray e) (fun r o' => (∃ t, r = .int (if k = 0 then -1 else k) t) ∧ StO (k - 1) o') := by
  k_with_none
  intro w part st l t its e k hS hi hz
  exact fun rest hap hsub =>
  (pop_ctr w rest st l t its e k (hS.mono hsub) hap hi hz).post fun r n ⟨hr, hs⟩ => by
    obtain ⟨o', ho, hn⟩ := hs.obj
    exact ⟨o', ⟨hr, ho⟩, hn⟩
set_option maxRecDepth 100000 in
set_option maxHeartbeats 0 in
theorem pop_implied_U : ∀ (w : World) (part : Led) (st l t : Addr) (its : List Value) (e k : Nat) (S Nn : List Str) (vs : List Value) (but : Str) (hvs : (vs = [.ref st] ∧ but = Str.empty) ∨ ∃ tk, vs = [.ref st, .str but tk]) (hS : Stk part st l t) (hT : Tre part t S Nn) (hk1 : k < S.length) (hk2 : k < Nn.length) (hi : IntsAre its (upTo k)) (hz : k ≤ 100),
      CtrU w 9 80 148 vs part l (listOf its.toArray e) (fun r o' => r = .none ∧ StO (stopN (fun j => impl.any (· == stNm S Nn j) && !(stNm S Nn j == but)) k) o') := by
  intro w part st l t its e k S Nn vs but hvs hS hT hk1 hk2 hi hz
  exact fun rest hap hsub =>
  (pop_implied_ctr w rest st l t S Nn its e k vs but hvs (hS.mono hsub) (hT.mono hsub) hk1 hk2 hap hi hz).post fun r n ⟨hr, hs⟩ => by
    obtain ⟨o', ho, hn⟩ := hs.obj
    exact ⟨o', ⟨hr, ho⟩, hn⟩
set_option maxRecDepth 100000 in
set_option maxHeartbeats 0 in
theorem pop_implied_U1 : ∀ (w : World) (part : Led) (st l t : Addr) (its : List Value) (e k : Nat) (S Nn : List Str) (hS : Stk part st l t) (hT : Tre part t S Nn) (hk1 : k < S.length) (hk2 : k < Nn.length) (hi : IntsAre its (upTo k)) (hz : k ≤ 100),
      CtrU w 9 80 148 [.ref st] part l (listOf its.toArray e) (fun r o' => r = .none ∧ StO (stopN (fun j => impl.any (· == stNm S Nn j) && !(stNm S Nn j == Str.empty)) k) o') := by
  intro w part st l t its e k S Nn hS hT hk1 hk2 hi hz
  exact pop_implied_U w part st l t its e k S Nn _ Str.empty (Or.inl ⟨rfl, rfl⟩) hS hT hk1 hk2 hi hz
theorem pop_implied_U1p : ∀ (w : World) (part : Led) (st : Addr) (l : Addr) (t : Addr) (its : List Value) (e : Nat) (k : Nat) (S : List Str) (Nn : List Str) (hS : Stk part st l t) (hT : Tre part t S Nn) (hi : IntsAre its (upTo k)) (hk1 : k < S.length) (hk2 : k < Nn.length) (hz : k ≤ 100),
      CtrU w 9 80 148 [.ref st] part l (listOf its.toArray e) (fun r o' => r = .none ∧ StO (stopN (fun j => impl.any (· == stNm S Nn j) && !(stNm S Nn j == Str.empty)) k) o') :=
    fun w part st l t its e k S Nn hS hT hi hk1 hk2 hz => pop_implied_U1 w part st l t its e k S Nn hS hT hk1 hk2 hi hz
set_option maxRecDepth 100000 in
set_option maxHeartbeats 0 in
theorem pop_implied_U2 : ∀ (w : World) (part : Led) (st l t : Addr) (its : List Value) (e k : Nat) (S Nn : List Str) (but : Str) (tk : Tok) (hS : Stk part st l t) (hT : Tre part t S Nn) (hk1 : k < S.length) (hk2 : k < Nn.length) (hi : IntsAre its (upTo k)) (hz : k ≤ 100),
      CtrU w 9 80 148 [.ref st, .str but tk] part l (listOf its.toArray e) (fun r o' => r = .none ∧ StO (stopN (fun j => impl.any (· == stNm S Nn j) && !(stNm S Nn j == but)) k) o') := by
  intro w part st l t its e k S Nn but tk hS hT hk1 hk2 hi hz
  exact pop_implied_U w part st l t its e k S Nn _ but (Or.inr ⟨tk, rfl⟩) hS hT hk1 hk2 hi hz
theorem pop_implied_U2p : ∀ (w : World) (part : Led) (st : Addr) (l : Addr) (t : Addr) (its : List Value) (e : Nat) (k : Nat) (S : List Str) (Nn : List Str) (but : Str) (tk : Tok) (hS : Stk part st l t) (hT : Tre part t S Nn) (hi : IntsAre its (upTo k)) (hk1 : k < S.length) (hk2 : k < Nn.length) (hz : k ≤ 100),
      CtrU w 9 80 148 [.ref st, .str but tk] part l (listOf its.toArray e) (fun r o' => r = .none ∧ StO (stopN (fun j => impl.any (· == stNm S Nn j) && !(stNm S Nn j == but)) k) o') :=
    fun w part st l t its e k S Nn but tk hS hT hi hk1 hk2 hz => pop_implied_U2 w part st l t its e k S Nn but tk hS hT hk1 hk2 hi hz
set_option maxRecDepth 100000 in
set_option maxHeartbeats 0 in
theorem pop_all_implied_U : ∀ (w : World) (part : Led) (st l t : Addr) (its : List Value) (e k : Nat) (S Nn : List Str) (hS : Stk part st l t) (hT : Tre part t S Nn) (hk1 : k < S.length) (hk2 : k < Nn.length) (hi : IntsAre its (upTo k)) (hz : k ≤ 100),
      CtrU w 12 100 155 [.ref st] part l (listOf its.toArray e) (fun r o' => r = .none ∧ StO (stopN (fun j => (impl ++ more).any (· == stNm S Nn j)) k) o') := by
  intro w part st l t its e k S Nn hS hT hk1 hk2 hi hz
  exact fun rest hap hsub =>
  (pop_all_implied_ctr w rest st l t S Nn its e k (hS.mono hsub) (hT.mono hsub) hk1 hk2 hap hi hz).post fun r n ⟨hr, hs⟩ => by
    obtain ⟨o', ho, hn⟩ := hs.obj
    exact ⟨o', ⟨hr, ho⟩, hn⟩
theorem pop_all_implied_Up : ∀ (w : World) (part : Led) (st : Addr) (l : Addr) (t : Addr) (its : List Value) (e : Nat) (k : Nat) (S : List Str) (Nn : List Str) (hS : Stk part st l t) (hT : Tre part t S Nn) (hi : IntsAre its (upTo k)) (hk1 : k < S.length) (hk2 : k < Nn.length) (hz : k ≤ 100),
      CtrU w 12 100 155 [.ref st] part l (listOf its.toArray e) (fun r o' => r = .none ∧ StO (stopN (fun j => (impl ++ more).any (· == stNm S Nn j)) k) o') :=
    fun w part st l t its e k S Nn hS hT hi hk1 hk2 hz => pop_all_implied_U w part st l t its e k S Nn hS hT hk1 hk2 hi hz
set_option maxRecDepth 100000 in
set_option maxHeartbeats 0 in
theorem pop_to_U : ∀ (w : World) (part : Led) (st l t : Addr) (its : List Value) (e k : Nat) (S Nn : List Str) (D : Addr) (vs : List Value) (ys : List Str) (hS : Stk part st l t) (hT : Tre part t S Nn) (hD : (D, tupOf vs) ∈ part) (hy : StrsAre vs ys) (hk1 : k < S.length) (hk2 : k < Nn.length) (hi : IntsAre its (upTo k)) (hz : k ≤ 100),
      CtrU w 9 80 133 [.ref st, .ref D] part l (listOf its.toArray e) (fun r o' => r = .none ∧ StO (stopN (fun j => decide (1 < j) && !(ys.any (· == stNm S Nn j))) k) o') := by
  intro w part st l t its e k S Nn D vs ys hS hT hD hy hk1 hk2 hi hz
  exact fun rest hap hsub =>
  (pop_to_ctr w rest st l t S Nn its e k D vs ys (hS.mono hsub) (hT.mono hsub) (hsub _ hD) hy hk1 hk2 hap hi hz).post fun r n ⟨hr, hs⟩ => by
    obtain ⟨o', ho, hn⟩ := hs.obj
    exact ⟨o', ⟨hr, ho⟩, hn⟩
theorem pop_to_Up : ∀ (w : World) (part : Led) (st : Addr) (l : Addr) (t : Addr) (its : List Value) (e : Nat) (k : Nat) (S : List Str) (Nn : List Str) (D : Addr) (vs : List Value) (ys : List Str) (hS : Stk part st l t) (hT : Tre part t S Nn) (hD : (D, tupOf vs) ∈ part) (hy : StrsAre vs ys) (hi : IntsAre its (upTo k)) (hk1 : k < S.length) (hk2 : k < Nn.length) (hz : k ≤ 100),
      CtrU w 9 80 133 [.ref st, .ref D] part l (listOf its.toArray e) (fun r o' => r = .none ∧ StO (stopN (fun j => decide (1 < j) && !(ys.any (· == stNm S Nn j))) k) o') :=
    fun w part st l t its e k S Nn D vs ys hS hT hD hy hi hk1 hk2 hz => pop_to_U w part st l t its e k S Nn D vs ys hS hT hD hy hk1 hk2 hi hz
set_option maxRecDepth 100000 in
set_option maxHeartbeats 0 in
theorem pop_until_U : ∀ (w : World) (part : Led) (st l t : Addr) (its : List Value) (e k : Nat) (S Nn : List Str) (D : Addr) (vs : List Value) (ys : List Str) (hS : Stk part st l t) (hT : Tre part t S Nn) (hD : (D, tupOf vs) ∈ part) (hy : StrsAre vs ys) (hk1 : k < S.length) (hk2 : k < Nn.length) (hi : IntsAre its (upTo k)) (hz : k ≤ 100),
      CtrU w 9 80 126 [.ref st, .ref D] part l (listOf its.toArray e) (fun r o' => (∃ tk, r = .int (if stopN (fun j => !(ys.any (· == stNm S Nn j))) k = 0 then -1 else (stopN (fun j => !(ys.any (· == stNm S Nn j))) k : Nat)) tk) ∧ StO (stopN (fun j => !(ys.any (· == stNm S Nn j))) k - 1) o') := by
  intro w part st l t its e k S Nn D vs ys hS hT hD hy hk1 hk2 hi hz
  exact fun rest hap hsub =>
  (pop_until_ctr w rest st l t S Nn its e k D vs ys (hS.mono hsub) (hT.mono hsub) (hsub _ hD) hy hk1 hk2 hap hi hz).post fun r n ⟨hr, hs⟩ => by
    obtain ⟨o', ho, hn⟩ := hs.obj
    exact ⟨o', ⟨hr, ho⟩, hn⟩
section
open PySem PySem.W PyProof.Rows
theorem stopN_spec (c : Nat → Bool) : ∀ n, (stopN c n = 0 ∨ c (stopN c n) = false) ∧ ∀ j, stopN c n < j → j ≤ n → c j = true
  | 0 => ⟨Or.inl rfl, fun j h1 h2 => by omega⟩
  | n + 1 => by
    obtain ⟨h1, h2⟩ := stopN_spec c n
    cases hc : c (n + 1) with
    | true =>
      have e : stopN c (n + 1) = stopN c n := by rw [stopN, if_pos hc]
      rw [e]
      refine ⟨h1, fun j hj1 hj2 => ?_⟩
      by_cases hj : j = n + 1
      · rw [hj]; exact hc
      · exact h2 j hj1 (by omega)
    | false =>
      have e : stopN c (n + 1) = n + 1 := by rw [stopN, if_neg (by rw [hc]; decide)]
      rw [e]
      exact ⟨Or.inr hc, fun j hj1 hj2 => by omega⟩
theorem max_stop {c p : Nat → Bool} {n m : Nat} {M : Int} (hm : m = n) (h : ∀ i, i < n → p i = !(c (i + 1))) (aM : M ∈ 0 :: ((List.range m).filter p).map (fun (i : Nat) => (i : Int) + 1))
    (bM : ∀ a, a ∈ 0 :: ((List.range m).filter p).map (fun (i : Nat) => (i : Int) + 1) → a ≤ M) : M = (stopN c n : Nat) := by
  subst hm
  obtain ⟨h1, h2⟩ := stopN_spec c m
  have hle := stopN_le c m
  have l1 : ((stopN c m : Nat) : Int) ≤ M := by
    refine bM _ ?_
    rcases h1 with h1 | h1
    · rw [h1]; exact List.mem_cons_self
    · by_cases h0 : stopN c m = 0
      · rw [h0]; exact List.mem_cons_self
      · refine List.mem_cons_of_mem _ (List.mem_map.mpr ⟨stopN c m - 1, List.mem_filter.mpr ⟨List.mem_range.mpr (by omega), ?_⟩, by omega⟩)
        rw [h _ (by omega), show stopN c m - 1 + 1 = stopN c m by omega, h1]; rfl
  have l2 : M ≤ (stopN c m : Nat) := by
    rcases List.mem_cons.mp aM with h0 | hm
    · omega
    · obtain ⟨i, hi, rfl⟩ := List.mem_map.mp hm
      obtain ⟨hi1, hi2⟩ := List.mem_filter.mp hi
      have hi1 := List.mem_range.mp hi1
      rw [h i hi1] at hi2
      have hf : c (i + 1) = false := by simpa using hi2
      by_cases hlt : stopN c m < i + 1
      · rw [h2 (i + 1) hlt (by omega)] at hf; cases hf
      · omega
  omega
def names31 : List Str := Str.ofString "nobody" :: names30
theorem in31 {y : Str} (h : y ∈ names30) : y ∈ names31 := List.mem_cons_of_mem _ h
theorem html_word {sp x nm : Str} (hs : sp ∈ spaces3) (hx : x ∈ names31) (hn : nm ∈ names30) : (Str.ofString "html." ++ x == wordOf sp nm) = (sp == Str.ofString "html" && x == nm) := by
  have h : (spaces3.all fun sp => names31.all fun x => names30.all fun nm => (Str.ofString "html." ++ x == wordOf sp nm) == (sp == Str.ofString "html" && x == nm)) = true := by decide +kernel
  exact eq_of_beq (List.all_eq_true.mp (List.all_eq_true.mp (List.all_eq_true.mp h sp hs) x hx) nm hn)
theorem any_congr_mem {l : List Str} {f g : Str → Bool} (h : ∀ x ∈ l, f x = g x) : l.any f = l.any g := by
  induction l with
  | nil => rfl
  | cons a l ih => rw [List.any_cons, List.any_cons, h a List.mem_cons_self, ih fun x hx => h x (List.mem_cons_of_mem _ hx)]
theorem any_filter_eq {l : List Str} {P : Str → Bool} {x : Str} : (l.filter P).any (· == x) = (l.any (· == x) && P x) := by
  induction l with
  | nil => rfl
  | cons a l ih =>
    rw [List.filter_cons, List.any_cons]
    cases hP : P a with
    | true =>
      rw [if_pos rfl, List.any_cons, ih]
      by_cases e : a = x
      · subst e; simp [hP]
      · have e2 : (a == x) = false := beq_eq_false_iff_ne.mpr e
        simp [e2]
    | false =>
      rw [if_neg (by decide), ih]
      by_cases e : a = x
      · subst e; simp [hP]
      · have e2 : (a == x) = false := beq_eq_false_iff_ne.mpr e
        simp [e2]
theorem any_empty {l : List Str} (h : ∀ y ∈ l, y ∈ names31) : l.any (· == Str.empty) = false := by
  have hall : (names31.all fun y => !(y == Str.empty)) = true := by decide +kernel
  rw [List.any_eq_false]
  intro x hx e
  have := List.all_eq_true.mp hall x (h x hx)
  rw [e] at this; cases this
theorem ne_empty {y : Str} (h : y ∈ names30) : (y == Str.empty) = false := by
  have hall : (names31.all fun y => !(y == Str.empty)) = true := by decide +kernel
  have := List.all_eq_true.mp hall y (in31 h)
  simpa using this
/-- the law's table tells of a word what the stack's name tells -/
theorem law_eq {S N ws : List Str} (hW : WS S N ws) {base : List Str} (hb : ∀ y ∈ base, y ∈ names31) (P : Str → Bool) {i : Nat} (hi : i < 12) :
    ((base.filter P).map fun y => Str.ofString "html." ++ y).any (· == ws.getD i Str.empty) = (base.any (· == stNm S N (i + 1)) && P (stNm S N (i + 1))) := by
  have hs := hW.sp i hi
  have hn := hW.nm i hi
  rw [hW.w i hi, List.any_map]
  have e1 : (base.filter P).any ((fun x => x == wordOf (S.getD (i + 1) Str.empty) (N.getD (i + 1) Str.empty)) ∘ fun y => Str.ofString "html." ++ y) =
      (base.filter P).any fun y => (S.getD (i + 1) Str.empty == Str.ofString "html" && y == N.getD (i + 1) Str.empty) :=
    any_congr_mem fun x hx => html_word hs (hb x (List.mem_filter.mp hx).1) hn
  rw [e1]
  unfold stNm
  rw [if_neg (Nat.succ_ne_zero i)]
  by_cases hh : S.getD (i + 1) Str.empty = Str.ofString "html"
  · rw [if_pos hh]
    have e2 : (S.getD (i + 1) Str.empty == Str.ofString "html") = true := by rw [hh]; exact beq_self_eq_true _
    simp only [e2, Bool.true_and]
    exact any_filter_eq
  · rw [if_neg hh, any_empty hb]
    have e2 : (S.getD (i + 1) Str.empty == Str.ofString "html") = false := beq_eq_false_iff_ne.mpr hh
    simp only [e2, Bool.false_and]
    rw [List.any_eq_false]
    intro x _ h
    cases h
theorem impl_in : ∀ y ∈ lawNames 0, y ∈ names31 := fun y hy => in31 (lawNames_in (k := 0) (by decide) y hy).2
theorem all_in : ∀ y ∈ lawNames 4, y ∈ names31 := fun y hy => in31 (lawNames_in (k := 4) (by decide) y hy).2
theorem impl_ne_empty (x : Str) : (impl.any (· == x) && !(x == Str.empty)) = impl.any (· == x) := by
  by_cases e : x = Str.empty
  · subst e
    have := any_empty impl_in
    have e2 : impl.any (· == Str.empty) = false := this
    rw [e2]; rfl
  · have : (x == Str.empty) = false := beq_eq_false_iff_ne.mpr e
    simp [this]
theorem way0 {S N ws : List Str} (hW : WS S N ws) {i : Nat} (hi : i < 12) :
    (!(((lawNames 0).filter fun _ => true).map fun y => Str.ofString "html." ++ y).any (· == ws.getD i Str.empty)) = !((fun j => impl.any (· == stNm S N j) && !(stNm S N j == Str.empty)) (i + 1)) := by
  rw [law_eq hW impl_in _ hi]
  show (!((impl.any (· == stNm S N (i + 1))) && true)) = !(impl.any (· == stNm S N (i + 1)) && !(stNm S N (i + 1) == Str.empty))
  rw [impl_ne_empty, Bool.and_true]
theorem way1 {S N ws : List Str} (hW : WS S N ws) (but : Str) {i : Nat} (hi : i < 12) :
    (!(((lawNames 0).filter fun y => !(y == but)).map fun y => Str.ofString "html." ++ y).any (· == ws.getD i Str.empty)) = !((fun j => impl.any (· == stNm S N j) && !(stNm S N j == but)) (i + 1)) := by
  rw [law_eq hW impl_in _ hi]; rfl
theorem way2 {S N ws : List Str} (hW : WS S N ws) {i : Nat} (hi : i < 12) :
    (!(((lawNames 4).filter fun _ => true).map fun y => Str.ofString "html." ++ y).any (· == ws.getD i Str.empty)) = !((fun j => (impl ++ more).any (· == stNm S N j)) (i + 1)) := by
  rw [law_eq hW all_in _ hi, Bool.and_true]; rfl
end
section
open PySem PySem.W PyProof.Rows
theorem item_intsT {prog : Program} {w : World} {A : Around} {E : Value → Shared → Prop} {s : Shared} {h₀ : Heap} {L : Addr} {news : Led} {value slice : Expr} {a : Addr} {l : List Value} {n : Nat} {u : Tok} {Q : Value → Shared → Prop} {ns : List Int} {k : Int}
    (N : News h₀ L s.heap news) (hm : (a, listOf l.toArray n) ∈ news) (hi : IntsAre l ns) (h0 : 0 ≤ k) (hk : k < ns.length) (hz : ns.length ≤ 1000) (h : ∀ t', Q (.int (ns.getD k.toNat 0) t') s)
    (hs : subscripted slice false (.ref a) (.int k u) = operate [.ref a, .int k u] (getItem (.ref a) (.int k u))) :
    wpAny (model prog w) A (subscriptTail value slice (.ref a) (.int k u)) Q E s := by
  have hlt : k.toNat < ns.length := by omega
  have e : ns[k.toNat]? = some (ns.getD k.toNat 0) := by simp [List.getD, hlt]
  obtain ⟨t, ht⟩ := hi.get _ _ e
  have hl := News.isList N hm
  exact tail_any hl.typeIs slot_list_getitem.lookup (wpAny_getItem_list hl h0 (by omega) (by simpa using ht) (h t)) hs
theorem ints_app1 {k : Int} {t : Tok} {vs : List Value} {ns : List Int} (h : IntsAre vs ns) : IntsAre ([Value.int k t] ++ vs) (k :: ns) := IntsAre.cons k t h
theorem max0_N {prog : Program} {w : World} {A : Around} {E : Value → Shared → Prop} {s : Shared} {h₀ : Heap} {L : Addr} {m : Str → Option Value} {news : Led} {l : Addr} {ys : List Value} {t0 : Tok} {n : Nat} {ns : List Int} {Q : Value → Shared → Prop}
    (F : Fr h₀ L s.heap m) (N : News h₀ L s.heap news) (hm : (l, listOf (List.toArray ([Value.int 0 t0] ++ ys)) n) ∈ news) (hi : IntsAre ys ns) (hh : A.handled = none)
    (h : Later (∃ K : Nat, (∀ M : Int, M ∈ 0 :: ns → (∀ a, a ∈ 0 :: ns → a ≤ M) → M = K) ∧ ∀ h' (t : Tok) tk, Fr h₀ L h' m → News h₀ L h' news → Q (.int (K : Nat) t) { s with heap := h', toks := tk })) : wpAny (model prog w) A (call (.builtin "max") [.ref l]) Q E s := by
  obtain ⟨K, hK, hQ⟩ := h.out
  refine kso_max F N (News.isList N hm) (IntsAre.cons 0 t0 hi) (Nat.succ_pos _) hh fun h' M t tk F' N' aM bM => ?_
  rw [hK M aM bM]
  exact hQ h' t tk F' N'
theorem strs_take {wv : List Value} {ws : List Str} {n k : Nat} (h : StrsAre wv (ws.take n)) (hk : k ≤ n) : StrsAre (wv.take ((k : Nat) : Int).toNat) (ws.take k) := by
  have h2 : StrsAre (wv.take k) ((ws.take n).take k) := by
    generalize ws.take n = ys at h
    clear hk
    induction h generalizing k with
    | nil => rw [List.take_nil, List.take_nil]; exact .nil
    | cons y t _ ih =>
      cases k with
      | zero => exact .nil
      | succ k => exact .cons y t ih
  rw [List.take_take, Nat.min_eq_left hk] at h2
  exact h2
theorem take_at {ws : List Str} {n i : Nat} (h : i < n) (h2 : i < ws.length) : (ws.take n)[i]? = some (ws.getD i Str.empty) := by
  rw [List.getElem?_take, if_pos h]
  simp [List.getD, h2]
theorem word_ok {S N ws : List Str} (h : WS S N ws) : ∀ y ∈ ws, PyData.strOk y = true := by
  have hall : (spaces3.all fun sp => names30.all fun nm => PyData.strOk (wordOf sp nm)) = true := by decide +kernel
  intro y hy
  obtain ⟨j, hj, rfl⟩ := List.getElem_of_mem hy
  have hj' : j < 12 := by rw [← h.lw]; exact hj
  have e : ws[j] = ws.getD j Str.empty := by simp [List.getD, hj]
  rw [e, h.w j hj']
  exact List.all_eq_true.mp (List.all_eq_true.mp hall _ (h.sp j hj')) _ (h.nm j hj')
theorem off1_mem {D : Addr} : ∀ {l : List (Addr × Obj)}, LCg.Off1 D l → ∀ p ∈ l, p.1 ≠ D
  | [], _, _, h => nomatch h
  | _ :: _, x, p, h => by
    rcases List.mem_cons.mp h with rfl | h
    · exact x.1
    · exact off1_mem x.2 p h
end
section
open PySem PySem.W PyProof.Rows
/-- the ways of _law_is_popped: its number, the sort of names, the names kept, the elements popped -/
def WayP (S Nn : List Str) (but : Str) (way : Int) (WN : Nat) (pr : Str → Bool) (cc : Nat → Bool) : Prop :=
  (way = 0 ∧ WN = 0 ∧ pr = (fun _ => true) ∧ cc = (fun j => impl.any (· == stNm S Nn j) && !(stNm S Nn j == Str.empty))) ∨ (way = 1 ∧ WN = 0 ∧ pr = (fun y => !(y == but)) ∧ cc = (fun j => impl.any (· == stNm S Nn j) && !(stNm S Nn j == but))) ∨ (way = 2 ∧ WN = 4 ∧ pr = (fun _ => true) ∧ cc = (fun j => (impl ++ more).any (· == stNm S Nn j)))
theorem wayAll {S Nn ws : List Str} (hW : WS S Nn ws) {but : Str} {way : Int} {WN : Nat} {pr : Str → Bool} {cc : Nat → Bool} (hw : WayP S Nn but way WN pr cc) {i : Nat} (hi : i < 12) :
    (!(((lawNames WN).filter pr).map fun y => Str.ofString "html." ++ y).any (· == ws.getD i Str.empty)) = !(cc (i + 1)) := by
  rcases hw with ⟨rfl, rfl, rfl, rfl⟩ | ⟨rfl, rfl, rfl, rfl⟩ | ⟨rfl, rfl, rfl, rfl⟩
  · exact way0 hW hi
  · exact way1 hW but hi
  · exact way2 hW hi
theorem WayP.le {S Nn : List Str} {but : Str} {way : Int} {WN : Nat} {pr : Str → Bool} {cc : Nat → Bool} (hw : WayP S Nn but way WN pr cc) : WN ≤ 4 := by
  rcases hw with ⟨rfl, rfl, rfl, rfl⟩ | ⟨rfl, rfl, rfl, rfl⟩ | ⟨rfl, rfl, rfl, rfl⟩ <;> decide
theorem eval_way {M : Model} {A : Around} {e : Expr} {env : Env} {E : Value → Shared → Prop} {s : Shared} {Q : Value → Shared → Prop} (n : Nat)
    (key : ∀ R : Value → Shared → Prop, (∀ t tk, R (.int n t) { s with toks := tk }) → wpAny M A (eval e env) R E s) (go : ∀ t tk, Q (.int n t) { s with toks := tk }) : wpAny M A (eval e env) Q E s := key Q go
theorem exec_way {M : Model} {A : Around} {st : Stmt} {env : Env} {E : Value → Shared → Prop} {s : Shared} {Q : Flow → Shared → Prop} {h₀ : Heap} {L : Addr} {m : Str → Option Value} {l : Addr} {o : Obj} {news : Led} {g : Obj → Led} (k : Nat)
    (F : Fr h₀ L s.heap m) (N : News h₀ L s.heap news) (U : UpdF l o news g)
    (key : ∀ R : Flow → Shared → Prop, (∀ h' tk' its e, IntsAre its (upTo k) → Fr h₀ L h' m → News h₀ L h' (g (listOf (List.toArray its) e)) → R .next { s with heap := h', toks := tk' }) → wpAny M A (exec st env) R E s)
    (go : ∀ h' tk' its e, IntsAre its (upTo k) → Fr h₀ L h' m → News h₀ L h' (g (listOf (List.toArray its) e)) → Q .next { s with heap := h', toks := tk' }) : wpAny M A (exec st env) Q E s := key Q go
end
set_option maxRecDepth 100000 in
set_option maxHeartbeats 0 in
theorem is_popped_ctr : ∀ (w : World) (news : Led) (t nl wl : Addr) (S Nn ws : List Str) (nvs wvs : List Value) (en ew : Nat) (but : Str) (tw tb : Tok) (way : Int) (WN : Nat) (pr : Str → Bool) (cc : Nat → Bool) (hT : Tre news t S Nn) (hnl : (nl, listOf nvs.toArray en) ∈ news) (hni : IntsAre nvs (upTo 12)) (hwl : (wl, listOf wvs.toArray ew) ∈ news) (hwi : StrsAre wvs ws) (hW : WS S Nn ws) (hw : WayP S Nn but way WN pr cc),
      Ctr w 25 700 351 [.ref t, .ref nl, .ref wl, .int way tw, .str but tb] news (fun r news' => r = .bool true ∧ news' = news) := by
  k_with_none
  k_with "k_memx" => assumption
  k_with "k_ne" => (refine neN ?_; (try dsimp only); first | with_reducible assumption | exact Ne.symm (by with_reducible assumption) | exact neB0 (by with_reducible assumption) | exact neA0 (by with_reducible assumption) | exact neF0 (by with_reducible assumption) | exact neE0 (by with_reducible assumption) | exact neB1 (by with_reducible assumption) | exact neA1 (by with_reducible assumption) | exact neF1 (by with_reducible assumption) | exact neE1 (by with_reducible assumption) | exact neB2 (by with_reducible assumption) | exact neA2 (by with_reducible assumption) | exact neF2 (by with_reducible assumption) | exact neE2 (by with_reducible assumption) | exact neB3 (by with_reducible assumption) | exact neA3 (by with_reducible assumption) | exact neF3 (by with_reducible assumption) | exact neE3 (by with_reducible assumption) | exact neB4 (by with_reducible assumption) | exact neA4 (by with_reducible assumption) | exact neF4 (by with_reducible assumption) | exact neE4 (by with_reducible assumption) | exact neB5 (by with_reducible assumption) | exact neA5 (by with_reducible assumption) | exact neF5 (by with_reducible assumption) | exact neE5 (by with_reducible assumption) | exact neB6 (by with_reducible assumption) | exact neA6 (by with_reducible assumption) | exact neF6 (by with_reducible assumption) | exact neE6 (by with_reducible assumption) | exact neB7 (by with_reducible assumption) | exact neA7 (by with_reducible assumption) | exact neF7 (by with_reducible assumption) | exact neE7 (by with_reducible assumption) | exact neB8 (by with_reducible assumption) | exact neA8 (by with_reducible assumption) | exact neF8 (by with_reducible assumption) | exact neE8 (by with_reducible assumption) | exact neB9 (by with_reducible assumption) | exact neA9 (by with_reducible assumption) | exact neF9 (by with_reducible assumption) | exact neE9 (by with_reducible assumption) | exact neB10 (by with_reducible assumption) | exact neA10 (by with_reducible assumption) | exact neF10 (by with_reducible assumption) | exact neE10 (by with_reducible assumption) | exact neB11 (by with_reducible assumption) | exact neA11 (by with_reducible assumption) | exact neF11 (by with_reducible assumption) | exact neE11 (by with_reducible assumption) | exact neB12 (by with_reducible assumption) | exact neA12 (by with_reducible assumption) | exact neF12 (by with_reducible assumption) | exact neE12 (by with_reducible assumption))
  k_with "call builtin:len" => (k_here; (with_reducible show wpAny _ _ (call (Value.builtin "len") [Value.ref _]) _ _ _); k_dflt (refine' KM.len_K (by k_asm) (by (first | assumption | k_mem)) (by (first | exact List.size_toArray | with_reducible rfl)) (by (first | omega | (simp only [List.size_toArray, List.length_append, List.length_cons, List.length_nil]; omega))) ?_))
  k_with "k_all" => assumption
  k_with "callm" => (k_here; (with_reducible show wpAny _ _ (call (Value.ref 339) _) _ _ _); k_dflt (refine' Ctr.use (by k_asm) (by k_asm) (by k_asm) (by k_asm) (by k_asm) (by (first | exact rfl | assumption)) (law_stack_ctr _ _ _ _ _ _ _ (by k_mem) (by assumption) (by decide)) (by (first | exact room hd rfl | ktr_room)) (by (first | exact room hu rfl | ktr_units)) ?_); (k_dflt (intro r9 n9 hA tkA p9 F9 N9; (try k_fold); obtain ⟨st, l, d, od, its, e0, rx9, en9, i9, S9, ap9, la9, lb9, lc9⟩ := p9; subst r9; subst n9; (try k_lt la9))); (try dsimp only); (try k_fold))
  k_with "callm" => (k_here; (with_reducible show wpAny _ _ (call (Value.ref 325) _) _ _ _); k_dflt (refine' Ctr.use (by k_asm) (by k_asm) (by k_asm) (by k_asm) (by k_asm) (by (first | exact rfl | assumption)) (law_names2cp _ _ _ WN _ (by exact rfl) (by assumption)) (by (first | exact room hd rfl | ktr_room)) (by (first | exact room hu rfl | ktr_units)) ?_); (k_dflt (intro r9 n9 hC tkC p9 FC NC; (try k_fold); obtain ⟨Dn, vsn, en0, rx9, e9', stn, ltn, lnn, lan, lbn, lcn⟩ := p9; subst r9; subst n9; (try k_lt ltn))); (try dsimp only); (try k_fold))
  k_with "exec Assign cons ListComp" => (k_here; lct_look; k_dflt (refine LCt.Assign_ListComp_T (F₀ := by k_asm) (by rfl) (by with_unfolding_all rfl) (by with_unfolding_all rfl) (by decide) (by rfl) (by decide) (by rfl) (by rfl) (by rfl) ?_))
  k_with "CompSrcT" => (k_dflt (refine' strT_src (by exact rfl) (by k_asm) (by k_asm) (by k_mem) (by assumption) (by (first | with_reducible assumption | omega)) ?_))
  k_with "exec While Compare cons nil" => (k_here; (with_unfolding_all refine' while_X (by k_asm) (by k_asm) (by passes_own) ?_))
  k_with "compareOp NotEq ref ref" => (k_here; (with_reducible show wpAny _ _ (compareOp CmpOp.NotEq (Value.ref _) (Value.ref _)) _ _ _); k_dflt (refine' ne_nil_strs (by k_asm) (by (first | exact room hu rfl | ktr_units)) (by k_mem) (by assumption) (by k_mem) (by assumption) ?_))
  k_with "eval ListComp" => (k_here; (with_reducible show wpAny _ _ (eval (PySem.Expr.ListComp _ (List.cons (PySem.Comprehension.mk (PySem.Expr.Tuple _ _ _) _ _ _) _) _ _) _) _ _ _); k_dflt (refine enum_ListComp (by k_asm) (by with_unfolding_all rfl) (by decide) (by rfl) (by decide) (by rfl) (by rfl) (by decide) ?_))
  k_with "call type:enumerate" => (k_here; k_dflt (refine' enum_src (by exact rfl) (by k_asm) (by k_asm) (by k_mem) (by (first | with_reducible assumption | omega)) ?_))
  k_with "callm" => (k_here; (with_reducible show wpAny _ _ (call (Value.ref 63) _) _ _ _); k_dflt (refine' CtrU.use (by k_asm) (by k_asm) (by k_asm) (by k_asm) (by k_asm) (by (first | exact rfl | assumption)) (pop_U _ _ _ _ _ _ _ _ (by assumption) (by assumption) (by (first | with_reducible assumption | omega))) (by k_updF) (by exact fun p hp => by k_mem) (by assumption) (by (first | exact room hd rfl | ktr_room)) (by (first | exact room hu rfl | ktr_units)) ?_); (k_dflt (intro r9 o9' h9 tk9 p9 F9 N9; (try k_fold); obtain ⟨⟨t9, rx9⟩, o9⟩ := p9; subst r9; obtain ⟨its9, ep9, eo9, i9⟩ := o9; subst o9')); (try dsimp only); (try dsimp only at N9); (try k_fold); (try k_sweep))
  k_with "callm" => (k_here; (with_reducible show wpAny _ _ (call (Value.ref 148) _) _ _ _); k_dflt (refine' CtrU.use (by k_asm) (by k_asm) (by k_asm) (by k_asm) (by k_asm) (by (first | exact rfl | assumption)) (pop_implied_U2p _ _ _ _ _ _ _ _ _ _ _ _ (by assumption) (by assumption) (by assumption) (by (first | with_reducible assumption | omega)) (by (first | with_reducible assumption | omega)) (by (first | with_reducible assumption | omega))) (by k_updF) (by exact fun p hp => by k_mem) (by assumption) (by (first | exact room hd rfl | ktr_room)) (by (first | exact room hu rfl | ktr_units)) ?_); (k_dflt (intro r9 o9' hF1 tkF p9 F9 N9; (try k_fold); obtain ⟨rx9, o9⟩ := p9; subst r9; obtain ⟨itsP, epP, eo9, iP⟩ := o9; subst o9')); (try dsimp only); (try dsimp only at N9); (try k_fold); (try k_sweep))
  k_with "callm" => (k_here; (with_reducible show wpAny _ _ (call (Value.ref 155) _) _ _ _); k_dflt (refine' CtrU.use (by k_asm) (by k_asm) (by k_asm) (by k_asm) (by k_asm) (by (first | exact rfl | assumption)) (pop_all_implied_Up _ _ _ _ _ _ _ _ _ _ (by assumption) (by assumption) (by assumption) (by (first | with_reducible assumption | omega)) (by (first | with_reducible assumption | omega)) (by (first | with_reducible assumption | omega))) (by k_updF) (by exact fun p hp => by k_mem) (by assumption) (by (first | exact room hd rfl | ktr_room)) (by (first | exact room hu rfl | ktr_units)) ?_); (k_dflt (intro r9 o9' hF1 tkF p9 F9 N9; (try k_fold); obtain ⟨rx9, o9⟩ := p9; subst r9; obtain ⟨itsP, epP, eo9, iP⟩ := o9; subst o9')); (try dsimp only); (try dsimp only at N9); (try k_fold); (try k_sweep))
  k_with "callm" => (k_here; (with_reducible show wpAny _ _ (call (Value.ref 148) _) _ _ _); k_dflt (refine' CtrU.use (by k_asm) (by k_asm) (by k_asm) (by k_asm) (by k_asm) (by (first | exact rfl | assumption)) (pop_implied_U1p _ _ _ _ _ _ _ _ _ _ (by assumption) (by assumption) (by assumption) (by (first | with_reducible assumption | omega)) (by (first | with_reducible assumption | omega)) (by (first | with_reducible assumption | omega))) (by k_updF) (by exact fun p hp => by k_mem) (by assumption) (by (first | exact room hd rfl | ktr_room)) (by (first | exact room hu rfl | ktr_units)) ?_); (k_dflt (intro r9 o9' hF1 tkF p9 F9 N9; (try k_fold); obtain ⟨rx9, o9⟩ := p9; subst r9; obtain ⟨itsP, epP, eo9, iP⟩ := o9; subst o9')); (try dsimp only); (try dsimp only at N9); (try k_fold); (try k_sweep))
  k_with "callm" => (k_here; (with_reducible show wpAny _ _ (call (Value.ref 346) _) _ _ _); k_dflt (refine' Ctr.use (by k_asm) (by k_asm) (by k_asm) (by k_asm) (by k_asm) (by (first | exact rfl | assumption)) (law_is_seen_ctrp _ _ _ _ _ _ _ _ _ _ _ _ _ _ _ _ _ (by exact Stk.mono (by assumption) (fun p hp => by k_mem)) (by exact Tre.mono (by assumption) (fun p hp => by k_mem)) (by assumption) (by k_mem) (by assumption) (by (first | with_reducible assumption | omega)) (by k_mem) (by (first | assumption | exact StrsAre.nil)) (by k_mem) (by assumption)) (by (first | exact room hd rfl | ktr_room)) (by (first | exact room hu rfl | ktr_units)) ?_); (k_dflt (intro r9 n9 h9 tk9 p9 F9 N9; (try k_fold); obtain ⟨rx9, e9'⟩ := p9; subst r9; subst n9)); (try dsimp only); (try k_fold))
  k_with "binaryOp Add ref ref" => (k_here; (with_reducible show wpAny _ _ (binaryOp _ (Value.ref _) (Value.ref _)) _ _ _); k_dflt (refine' add_listN (by k_asm) (by k_asm) (by k_mem) (by k_mem) (by (first | omega | (simp only [List.length_cons, List.length_nil, List.length_append]; omega))) ?_); intro D' h' F' N' l1; (try k_lt l1); (try k_sweep))
  k_with "subscriptTail BinOp" => (k_here; (with_reducible show wpAny _ _ (subscriptTail _ _ (Value.ref _) (Value.int _ _)) _ _ _); k_dflt (refine' item_intsT (by k_asm) (by k_mem) (by exact ints_app1 (by with_reducible assumption)) (by exact Int.natCast_nonneg _) (by (first | omega | (simp only [List.length_append, List.length_cons, List.length_nil, upTo_len]; omega))) (by (first | omega | (simp only [List.length_append, List.length_cons, List.length_nil, upTo_len]; omega))) ?_ (by with_unfolding_all rfl);); intro t9)
  k_with "subscriptTail Name Slice ref ref" => (k_here; (with_reducible show wpAny _ _ (subscriptTail _ (PySem.Expr.Slice _ _ none _) (Value.ref _) (Value.ref _)) _ _ _); k_dflt (first | (refine' slice_uptoN (by k_asm) (by k_asm) (by k_mem) (by (first | with_reducible assumption | omega)) (by (first | with_reducible assumption | omega)) ?_ (by with_unfolding_all rfl) (by (intro _; with_unfolding_all rfl))) | (refine' slice_uptoNegN (by k_asm) (by k_asm) (by k_mem) (by (first | with_reducible assumption | omega)) (by (first | with_reducible assumption | omega)) ?_ (by with_unfolding_all rfl) (by (intro _; with_unfolding_all rfl)))); intro D9 h9 F9 N9 l9; (try k_lt l9); (try k_sweep))
  k_with "call builtin:max" => (k_here; (with_reducible show wpAny _ _ (call (Value.builtin _) [Value.ref _]) _ _ _); k_dflt (refine' max0_N (by k_asm) (by k_asm) (by k_mem) (by assumption) (by exact rfl) ?_))
  k_with "compareOp In str ref" => (k_here; k_dflt (first | (refine' in_tupN (by k_asm) (by k_mem) (by assumption) ?_) | (refine' in_listN (by k_asm) (by k_mem) (by assumption) ?_)))
  k_with "compareOp NotIn str ref" => (k_here; k_dflt (first | (refine' notin_tupN (by k_asm) (by k_mem) (by assumption) ?_) | (refine' notin_listN (by k_asm) (by k_mem) (by assumption) ?_)))
  k_with "eval IfExp" => (k_here; k_dflt ((refine eval_way WN ?key ?go); (case key => (intro R hR; rcases hw with ⟨rfl, rfl, rfl, rfl⟩ | ⟨rfl, rfl, rfl, rfl⟩ | ⟨rfl, rfl, rfl, rfl⟩ <;> (k_steps; exact hR _ _))); (intro tkW tkV)); (try dsimp only))
  k_with "exec If Compare" => (k_here; k_dflt ((refine exec_way (l := l) (o := listOf its'.toArray e') (stopN cc n) (by k_asm) (by k_asm) (by k_updF) ?keyF ?goF); (case keyF => (intro R hR; rcases hw with ⟨rfl, rfl, rfl, rfl⟩ | ⟨rfl, rfl, rfl, rfl⟩ | ⟨rfl, rfl, rfl, rfl⟩ <;> (k_steps; exact hR _ _ _ _ iP (by assumption) (by assumption)))); (intro hF1 tkF itsP epP iP F9 N9)); (try dsimp only); (try dsimp only at N9); (try k_fold); (try k_sweep))
  intro w news t nl wl S Nn ws nvs wvs en ew but tw tb way WN pr cc hT hnl hni hwl hwi hW hw
  have hWN := hw.le
  unfold Ctr
  k_fill
  intro dp un gd cn cs a ccd cl outer A₀ base h₀ L m s Q E p loose mean mg mb B F X N T hk hd hu hret
  refine wpAny_call ?_
  k_dflt (refine' code_defC (by k_asm) (by k_asm) (by k_asm) (by k_asm) (by k_asm) (by exact rfl) (by exact rfl) (by assumption) (by k_is) (by k_is) (by ktr_room) (by exact BindsTo.of_eq rfl) (by exact rfl) (by decide +kernel) ?_ (by exact rfl) (by exact rfl) (by exact rfl); k_whole; intro g' L' h' tk' cells' FG' F' N' Y' B' X' T' l1; (try k_lt l1); k_cells Y'; (try simp only [List.cons_append, List.nil_append] at N'); (try dsimp only); (try k_lift B'); (try k_fold))
  k_steps
  rename_i o1 o2 o3 d1 d2 d3 hB FB NB
  replace d1 : o1.data = .cell none := d1
  replace d2 : o2.data = .cell (some (.str but tb)) := d2
  replace d3 : o3.data = .cell (some (.int way tw)) := d3
  refine ⟨⟨pr, fun y => Str.ofString "html." ++ y, ?_, ?_, ?_⟩⟩
  · intro y ty C oC m₂ h tk E' hy hC hx F₁ N₁
    rcases hw with ⟨rfl, rfl, rfl, rfl⟩ | ⟨rfl, rfl, rfl, rfl⟩ | ⟨rfl, rfl, rfl, rfl⟩
    · k_steps
      exact ⟨⟨_, rfl⟩, rfl⟩
    · k_steps
      all_goals first | (rename (_ != _) = true => a1; exact ⟨⟨_, rfl⟩, a1.symm⟩) | (rename (_ != _) = false => a1; exact ⟨⟨_, rfl⟩, a1.symm⟩)
    · k_steps
      exact ⟨⟨_, rfl⟩, rfl⟩
  · intro y ty C oC m₂ h tk E' hy hp hC hx F₁ N₁
    have ly := (lcn y hy).1
    k_steps
    exact ⟨⟨_, rfl⟩, _, rfl⟩
  · intro h' zs hzs
    k_steps
    rename News _ _ _ ((_, LCg.lst zs) :: _) => NZ
    rename_i Dz hZ tkZ FZ oz
    obtain ⟨z1, z2, z3, z4, z5, z6, z7, z8⟩ := oz
    have zn : ∀ p ∈ news, p.1 ≠ Dz := off1_mem z8
    obtain ⟨part, hpart⟩ : ∃ part : Led, part = (Dz, listOf zs.toArray zs.length) :: (st, instObj 136 d) :: (d, od) :: news := ⟨_, rfl⟩
    have NP : News g' L' hZ ((l, listOf its.toArray e0) :: (L' + 1 + 1 + 1, o1) :: (L' + 1 + 1, o2) :: (L' + 1, o3) :: part) := fun p hp => NZ p (by
      subst hpart
      simp only [List.mem_cons] at hp ⊢
      rcases hp with h | h | h | h | h | h | h | h <;> simp [h])
    have pS : Stk part st l t := S9.mono fun p hp => by
      subst hpart
      simp only [List.mem_cons, List.not_mem_nil, or_false] at hp ⊢
      rcases hp with h | h <;> simp [h]
    have pS' := pS
    obtain ⟨sd, sh1, sk1, sh2, sk2, pSa, pSb⟩ := pS'
    have pN : ∀ p ∈ news, p ∈ part := fun p hp => by subst hpart; k_mem
    have pT : Tre part t S Nn := hT.mono pN
    have pnl := pN _ hnl
    have pwl := pN _ hwl
    have pz : (Dz, listOf zs.toArray zs.length) ∈ part := by subst hpart; exact List.mem_cons_self
    obtain ⟨q1, q2, q3, q4⟩ := la9
    have lb9 : @LT.lt Nat _ d st := lb9
    have lc9 : @LT.lt Nat _ st l := lc9
    have pap : ∀ p ∈ part, p.1 ≠ l := fun p hp => by
      subst hpart
      rcases List.mem_cons.mp hp with h | hp
      · rw [h]; exact Ne.symm z2
      · exact ap9 p (by simp only [List.mem_cons] at hp ⊢; rcases hp with h | h | h <;> simp [h])
    have pcell : ∀ c : Nat, (c = L' + 1 + 1 + 1 ∨ c = L' + 1 + 1 ∨ c = L' + 1) → ∀ p ∈ part, p.1 ≠ c := fun c hc p hp => by
      subst hpart
      rcases List.mem_cons.mp hp with h | hp
      · rw [h]; rcases hc with h | h | h <;> subst h
        · exact Ne.symm z5
        · exact Ne.symm z6
        · exact Ne.symm z7
      · rcases List.mem_cons.mp hp with h | hp
        · rw [h]; exact Nat.ne_of_gt (by omega)
        · rcases List.mem_cons.mp hp with h | hp
          · rw [h]; exact Nat.ne_of_gt (by omega)
          · have : @LT.lt Nat _ p.1 L' := l1 p hp
            exact Nat.ne_of_lt (by omega)
    have pc3 := pcell _ (Or.inl rfl)
    have pc2 := pcell _ (Or.inr (Or.inl rfl))
    have pc1 := pcell _ (Or.inr (Or.inr rfl))
    have hlc3 : @Ne Nat l (L' + 1 + 1 + 1) := Nat.ne_of_gt (by omega)
    have hlc2 : @Ne Nat l (L' + 1 + 1) := Nat.ne_of_gt (by omega)
    have hlc1 : @Ne Nat l (L' + 1) := Nat.ne_of_gt (by omega)
    clear NZ hpart pcell ap9 S9
    k_steps
    rename_i hD oN dN hE FE NE
    have lS := hW.lS
    have lN := hW.lN
    have lw := hW.lw
    have lnv := hni.length
    rw [upTo_len] at lnv
    refine ⟨⟨Str.ofString "left", fun n v nx => n ≤ 12 ∧ ∃ lw wv ewl its e, v = .ref lw ∧ @Ne Nat lw l ∧ nx = (l, listOf (List.toArray its) e) :: (lw, listOf (List.toArray wv) ewl) :: (L' + 1 + 1 + 1, oN) :: (L' + 1 + 1, o2) :: (L' + 1, o3) :: part ∧ IntsAre its (upTo n) ∧ StrsAre wv (ws.take n), 12, .ref wl, rfl, ⟨_, ?_, Nat.le_refl _, wl, wvs, ew, its, e0, rfl, pap _ pwl, rfl, i9, ?_⟩, ?_⟩⟩
    · intro p hp
      simp only [List.mem_cons] at hp ⊢
      rcases hp with h | h | h | h | h | h <;> simp [h, pwl]
    · rw [← lw, List.take_length]; exact hwi
    rintro n v news₁ h₁ tk₁ F₁ N₁ ⟨hn, lq, wv, ewl, its', e', rfl, hlq, rfl, hi', hw'⟩
    clear FE NE
    have lwv := StrsAre.len_eq hw'
    rw [List.length_take] at lwv
    have lit := hi'.length
    rw [upTo_len] at lit
    have okw : ∀ y ∈ ws.take n, PyData.strOk y = true := fun y hy => word_ok hW y (List.mem_of_mem_take hy)
    k_steps
    · rename_i lE hE1 lt1 ha0 tkx tky qk ek lZ hG FG2 NG2 lt2
      have hnn : wv.length = n := by omega
      have hk : stopN cc n ≤ n := stopN_le _ _
      refine ⟨⟨fun i => !(((lawNames WN).filter pr).map fun y => Str.ofString "html." ++ y).any (· == ws.getD i Str.empty), fun i => (i : Int) + 1, ⟨?_, ?_⟩, ?_⟩⟩
      · intro i x ti C oC m₂ h tk E' hv hC ha hb F₂ N₂
        have hin := (List.getElem?_eq_some_iff.mp hv).1
        obtain ⟨tx, hx⟩ := hw'.at (take_at (n := n) (ws := ws) (i := i) (by omega) (by omega))
        obtain rfl := Option.some.inj (hv.symm.trans hx)
        k_steps
        exact ⟨⟨_, rfl⟩, rfl⟩
      · intro i x ti C oC m₂ h tk E' hv hp hC ha hb F₂ N₂
        k_steps
        exact ⟨⟨_, rfl⟩, _, rfl⟩
      · intro h' ys hys
        have lys : ys.length ≤ 12 := by rw [hys.length, List.length_map]; exact Nat.le_trans (List.length_filter_le _ _) (by rw [List.length_range]; omega)
        k_steps
        refine ⟨⟨stopN cc n, fun M aM bM => max_stop hnn (fun i hi => wayAll hW hw (by omega)) aM bM, ?_⟩⟩
        generalize hkk : stopN cc n = k at *
        have hwk : StrsAre (wv.take ((k : Nat) : Int).toNat) (ws.take k) := strs_take hw' hk
        have hlk : (wv.take ((k : Nat) : Int).toNat).length = k := by rw [List.length_take, Int.toNat_natCast]; omega
        intro h7 t7 tk7 F7 N7
        k_steps
        · exfalso
          rename _ ≠ List.getD _ _ _ => a1
          exact a1 (cur_at (by rw [hlk]; exact Int.toNat_natCast k) (by omega))
        · rename News _ _ _ _ => NN
          rename Fr _ _ _ _ => FF
          rename IntsAre _ (upTo (k - 1)) => iN
          refine' ⟨_, _, _, _, k - 1, _, rfl, FF, NN, fun z hz => by simp only [hz, if_false], if_pos rfl, pred_lt' hk hnn (by assumption), _, ?sub, le_trans3 hk hn, _, _, _, _, _, rfl, ?ne, rfl, iN, ?st⟩
          case sub =>
            refine' List.forall_mem_cons.mpr ⟨?_, List.forall_mem_cons.mpr ⟨?_, List.forall_mem_cons.mpr ⟨?_, List.forall_mem_cons.mpr ⟨?_, List.forall_mem_cons.mpr ⟨?_, fun p hp => ?_⟩⟩⟩⟩⟩
            all_goals k_mem
          case ne => omega
          case st =>
            have e : (List.take ((k : Nat) : Int).toNat wv).length - (-(-1 : Int)).toNat = ((k - 1 : Nat) : Int).toNat := by rw [hlk]; exact pred_toNat k
            have h8 := strs_take hwk (k := k - 1) (by omega)
            rw [← e] at h8
            exact h8
    · have n0 : n = 0 := by omega
      subst n0
      k_steps
      rename News h₀ L _ _ => kN
      exact hret _ _ _ _ ⟨rfl, rfl⟩ (by assumption) (fun p hp => kN p (by have hq := pN p hp; k_mem))
section
open PySem PySem.W PyProof.Rows PySem.Calls PySem.Spec PyProof.Rows.LCg
section
variable {prog : Program} {w : World} {A : Around} {E : Value → Shared → Prop} {s : Shared} {h₀ : Heap} {L : Addr} {m : Str → Option Value} {env : Env}
/-- the source of a comprehension over a ledger's tuple -/
def TupSrc (prog : Program) (w : World) (A : Around) (h₀ : Heap) (L : Addr) (m : Str → Option Value) (env : Env) (elt : Expr) (x : Str) (scope : Scope) (cl : List (Str × Addr)) (Fin : Shared → List Value → List (Addr × Obj) → Prop) (xv : Value) (s₁ : Shared) : Prop :=
  ∃ ax vs news, xv = .ref ax ∧ A.handled = none ∧ Fr h₀ L s₁.heap m ∧ News h₀ L s₁.heap news ∧ (ax, tupOf vs) ∈ news ∧ vs.length ≤ 1000 ∧
    ∀ s₂ : Shared, (∃ h, s₂ = { s₁ with heap := h }) → CompRest prog w A h₀ L m env elt x scope cl s₂ (fun nw => (ax, tupOf vs) ∈ nw) (fun i v => vs.toArray[i]? = some v) (Fin s₂) vs.toArray.size 0 [] news
theorem tup_st {ax I : Addr} {vs : List Value} : ∀ i (h h' : Heap) (o : Obj) (nw : List (Addr × Obj)), (h.IsTupleIter I ax i ∧ h.IsTuple ax vs.toArray) → h.get? I = some o → h'.get? I = some o → (∀ b o, h₀.get? b = some o → h'.get? b = some o) → News h₀ L h' nw → (ax, tupOf vs) ∈ nw → (h'.IsTupleIter I ax i ∧ h'.IsTuple ax vs.toArray) :=
  fun i h h' o nw st e e' k N S => ⟨by obtain ⟨o', q, r⟩ := st.1; rw [e] at q; cases q; exact ⟨o, e', r⟩, ⟨_, (N _ S).1, rfl, _, rfl⟩⟩
theorem tup_ListComp {elt iter : Expr} {x : Str} {px : Pos} {scope : Scope} {cl : List (Str × Addr)} {pos : Pos} {Q : Value → Shared → Prop} (_F₀ : Fr h₀ L s.heap m)
    (hclos : closureFor scope env = pure cl) (hcell : ∀ y ∈ scope.names, y.2 ≠ .cell) (hkind : scope.kind = .function)
    (hnames : ∀ y ∈ scope.names, y.2 = .local → scope.names.lookup y.1 = some .local) (hx : scope.names.lookup x = some .local)
    (h : wpAny (model prog w) A (eval iter env) (TupSrc prog w A h₀ L m env elt x scope cl (fun s₂ => FinE h₀ L m s₂ Q)) E s)
    (hs : ∀ x, foldedSetIterable iter env x = pure x := by intro _; rfl) :
    wpAny (model prog w) A (eval (.ListComp elt [⟨.Name x px, iter, [], 0⟩] scope pos) env) Q E s := by
  rw [eval_ListComp]
  refine wpAny_comprehension_free (use := none) rfl hs hclos hkind hnames (wpAny_mono h (fun xv s₁ h₁ => ?_) fun _ _ e => e)
  obtain ⟨ax, vs, news, rfl, hh, F, N, hm, hsz, R⟩ := h₁
  have hl : s₁.heap.IsTuple ax vs.toArray := ⟨_, (N _ hm).1, rfl, _, rfl⟩
  have hlt : ax < s₁.heap.objs.size := Heap.lt_size (N _ hm).1
  refine wpAny_pyIter_tuple hl ?_
  have up : ∀ b o, s₁.heap.get? b = some o → (s₁.heap.push { cls := .type "tuple_iterator", data := .fields #[.ref ax, .int 0 0] }).get? b = some o := fun b o e => Heap.get?_push_of_some _ e
  refine block_U (Walks.tuple hh s₁.heap.objs.size ax (Nat.ne_of_lt hlt) vs.toArray) (by rw [List.size_toArray, PySem.sizeLine_eq]; omega) (fun i h st => by obtain ⟨o, e, _⟩ := st.1; exact ⟨o, e⟩) tup_st hcell hkind hx ⟨⟨_, Heap.get?_push_size _ rfl, rfl, rfl⟩, ⟨_, up _ _ (N _ hm).1, rfl, _, rfl⟩⟩ (fun b hb => ?_)
    (F.keeps up) (N.grown up) (Nat.ne_of_lt F.ns.lt) (next_is_new F) (fun p hp => Nat.ne_of_lt (Heap.lt_size (N p hp).1)) hm (R _ ⟨_, rfl⟩) ?_
  · show b < (s₁.heap.push _).objs.size
    rw [Heap.size_push]
    rcases List.mem_cons.mp hb with rfl | hb
    · exact Nat.lt_succ_self _
    · rw [List.mem_singleton.mp hb]; exact Nat.lt_succ_of_lt hlt
  · intro D C h tk m' ys news' F' N' o1 hn hC₀ hD₀ hCL hDL hCD offC fin
    refine ⟨m', hn, fun h'' hs'' => fin D h'' tk (F'.change hs'' hCL hC₀) (fun p hp => ?_) o1⟩
    refine ⟨hs''.extBut _ _ ?_ (N' p hp).1, (N' p hp).2⟩
    rcases List.mem_cons.mp hp with rfl | hp
    · exact Ne.symm hCD
    · exact offC p hp
theorem tup_Assign {elt iter : Expr} {x y : Str} {px py : Pos} {scope : Scope} {cl : List (Str × Addr)} {pos spos : Pos} {Q : Flow → Shared → Prop} (_F₀ : Fr h₀ L s.heap m) (hLe : env.locals = L)
    (hsw : swapsWith (.ListComp elt [⟨.Name x px, iter, [], 0⟩] scope pos) (some (.Name y py)) spos.line env = pure true)
    (hclos : closureFor scope env = pure cl) (hcell : ∀ z ∈ scope.names, z.2 ≠ .cell) (hkind : scope.kind = .function)
    (hnames : ∀ z ∈ scope.names, z.2 = .local → scope.names.lookup z.1 = some .local) (hx : scope.names.lookup x = some .local)
    (hy : env.kindOf y = some .local) (hp : (env.scope.kind == .class || (env.scope.kind == .module && env.locals != env.globals)) = false)
    (h : wpAny (model prog w) A (eval iter env) (TupSrc prog w A h₀ L m env elt x scope cl (fun s₂ => FinA h₀ L m s₂ y Q)) E s)
    (hs : ∀ x, foldedSetIterable iter env x = pure x := by intro _; rfl) :
    wpAny (model prog w) A (exec (.Assign [.Name y py] (.ListComp elt [⟨.Name x px, iter, [], 0⟩] scope pos) spos) env) Q E s := by
  subst hLe
  rw [exec_Assign_Name_used _ _ _ _ hsw]
  refine wpAny_bind (wpAny_standAt (wpAny_bind ?_))
  show wpAny _ A (do let _ ← comprehension (.ListComp elt [⟨.Name x px, iter, [], 0⟩] scope pos) scope env _ (newList []) false (eval iter env) (some (assign (.Name y py) env))) _ _ s
  refine wpAny_bind (wpAny_mono (wpAny_comprehension_free (use := some (assign (.Name y py) env)) (Q := fun _ s' => Q .next s') rfl hs hclos hkind hnames
    (wpAny_mono h (fun xv s₁ h₁ => ?_) fun _ _ e => e)) (fun _ s' hq => wpAny_pure (wpAny_pure hq)) fun _ _ e => e)
  obtain ⟨ax, vs, news, rfl, hh, F, N, hm, hsz, R⟩ := h₁
  have hl : s₁.heap.IsTuple ax vs.toArray := ⟨_, (N _ hm).1, rfl, _, rfl⟩
  have hlt : ax < s₁.heap.objs.size := Heap.lt_size (N _ hm).1
  refine wpAny_pyIter_tuple hl ?_
  have up : ∀ b o, s₁.heap.get? b = some o → (s₁.heap.push { cls := .type "tuple_iterator", data := .fields #[.ref ax, .int 0 0] }).get? b = some o := fun b o e => Heap.get?_push_of_some _ e
  refine block_U (Walks.tuple hh s₁.heap.objs.size ax (Nat.ne_of_lt hlt) vs.toArray) (by rw [List.size_toArray, PySem.sizeLine_eq]; omega) (fun i h st => by obtain ⟨o, e, _⟩ := st.1; exact ⟨o, e⟩) tup_st hcell hkind hx ⟨⟨_, Heap.get?_push_size _ rfl, rfl, rfl⟩, ⟨_, up _ _ (N _ hm).1, rfl, _, rfl⟩⟩ (fun b hb => ?_)
    (F.keeps up) (N.grown up) (Nat.ne_of_lt F.ns.lt) (next_is_new F) (fun p hp => Nat.ne_of_lt (Heap.lt_size (N p hp).1)) hm (R _ ⟨_, rfl⟩) ?_
  · show b < (s₁.heap.push _).objs.size
    rw [Heap.size_push]
    rcases List.mem_cons.mp hb with rfl | hb
    · exact Nat.lt_succ_self _
    · rw [List.mem_singleton.mp hb]; exact Nat.lt_succ_of_lt hlt
  · intro D C h' tk m' ys news' F' N' o1 hn hC₀ hD₀ hCL hDL hCD offC fin
    show wpAny _ A (assign (.Name y py) env (.ref D)) _ _ _
    refine wpAny_assign_Name (wpAny_storeName_local hy F'.ns (fun h₂ hn₂ hs₂ => ?_) hp)
    have hL₀ : h₀.get? env.locals = none := Heap.get?_none_of_le F'.above
    have F₂ : Fr h₀ env.locals h₂ (fun z => if z = y then some (.ref D) else m z) := ⟨hn₂, fun b o q => hs₂.extBut b o (fun z => by rw [z, hL₀] at q; cases q) (F'.keep b o q), F'.above⟩
    refine ⟨m', hn.sameBut hs₂ hCL, fun h'' hs'' => fin D h'' _ (F₂.change hs'' hCL hC₀) (fun p hp => ?_) o1⟩
    have z : h₂.get? p.1 = some p.2 := hs₂.extBut _ _ (N' p hp).2.1 (N' p hp).1
    refine ⟨hs''.extBut _ _ ?_ z, (N' p hp).2⟩
    rcases List.mem_cons.mp hp with rfl | hp
    · exact Ne.symm hCD
    · exact offC p hp
/-- texts of a tuple's texts; the element stores nothing -/
theorem tupS_src {elt : Expr} {x : Str} {scope : Scope} {cl : List (Str × Addr)} {Fin : Shared → List Value → List (Addr × Obj) → Prop} {ax : Addr} {vs : List Value} {ys : List Str} {news : List (Addr × Obj)}
    (hh : A.handled = none) (F : Fr h₀ L s.heap m) (N : News h₀ L s.heap news) (hm : (ax, tupOf vs) ∈ news) (hi : StrsAre vs ys) (hz : vs.length ≤ 1000)
    (h : Later (∃ f : Str → Str,
      (∀ (y : Str) (t : Tok) C oC m₂ h tk (E' : Value → Shared → Prop), y ∈ ys → NsObj oC m₂ → m₂ x = some (.str y t) → Fr h₀ L h m → News h₀ L h ((C, oC) :: news) →
        wpAny (model prog w) A (eval elt (compEnvC scope cl C env)) (fun v s₃ => PureEnd s h (∃ t', v = .str (f y) t') s₃) E' { s with heap := h, toks := tk }) ∧
      (∀ h' zs, StrsAre zs (ys.map f) → Fin { s with heap := h' } zs news))) :
    TupSrc prog w A h₀ L m env elt x scope cl Fin (.ref ax) s := by
  obtain ⟨f, T, fin⟩ := h.out
  have hlen := StrsAre.len_eq hi
  refine ⟨ax, vs, news, rfl, hh, F, N, hm, hz, fun s₂ ⟨g, e⟩ => ?_⟩
  subst e
  have hsz : vs.toArray.size = vs.length := List.size_toArray
  have key : ∀ (j i : Nat) (zs : List Value), i + j = vs.toArray.size → StrsAre zs ((ys.take i).map f) →
      CompRest prog w A h₀ L m env elt x scope cl { s with heap := g } (fun nw => (ax, tupOf vs) ∈ nw) (fun i v => vs.toArray[i]? = some v) (Fin { s with heap := g }) j i zs news := by
    intro j
    induction j with
    | zero =>
      intro i zs hij hzs
      refine CompRest.zero (fin g zs ?_)
      rw [List.take_of_length_le (by omega)] at hzs
      exact hzs
    | succ j ih =>
      intro i zs hij hzs
      refine CompRest.succ ?_
      intro v I oI C oC D m₂ h tk E' hv hC hx F₁ N₁ off ne
      have hlt : i < ys.length := by omega
      obtain ⟨t, ht⟩ := hi.at (List.getElem?_eq_getElem hlt)
      rw [List.getElem?_toArray] at hv
      obtain rfl : v = .str ys[i] t := Option.some.inj (hv.symm.trans ht)
      have N₂ : News h₀ L h ((C, oC) :: news) := fun q hq => N₁ q (by
        rcases List.mem_cons.mp hq with rfl | hq
        · exact List.mem_cons_of_mem _ List.mem_cons_self
        · exact List.mem_cons_of_mem _ (List.mem_cons_of_mem _ (List.mem_cons_of_mem _ hq)))
      refine wpAny_mono (T ys[i] t C oC m₂ h tk E' (List.getElem_mem hlt) hC hx F₁ N₂) (fun y s₄ q => ?_) fun _ _ e => e
      obtain ⟨⟨tk₄, rfl⟩, t', rfl⟩ := q
      refine ⟨h, tk₄, news, rfl, F₁, N₁, off, hm, ih (i + 1) _ (by omega) ?_⟩
      rw [List.take_add_one, List.getElem?_eq_getElem hlt]
      simp only [Option.toList_some, List.map_append, List.map_cons, List.map_nil]
      exact strs_snoc hzs (f ys[i]) t'
  exact key _ 0 [] (by omega) .nil
end
end
section
open PySem PySem.W PyProof.Rows
theorem want_eq {S N ws : List Str} (hW : WS S N ws) {ys : List Str} (hb : ∀ y ∈ ys, y ∈ names31) {i : Nat} (hi : i < 12) :
    (ys.map fun y => Str.ofString "html." ++ y).any (· == ws.getD i Str.empty) = ys.any (· == stNm S N (i + 1)) := by
  have h := law_eq hW hb (fun _ => true) hi
  rw [Bool.and_true, List.filter_eq_self.mpr (fun _ _ => rfl)] at h
  exact h
theorem max_want {p q : Nat → Bool} {n m : Nat} (hm : m = n) (hn : 0 < n) (h : ∀ i, i < n → p i = q (i + 1)) (M : Int) (aM : M ∈ 0 :: ((List.range m).filter p).map (fun (i : Nat) => (i : Int)))
    (bM : ∀ a, a ∈ 0 :: ((List.range m).filter p).map (fun (i : Nat) => (i : Int)) → a ≤ M) : M = (stopN (fun j => decide (1 < j) && !(q j)) n - 1 : Nat) := by
  subst hm
  obtain ⟨h1, h2⟩ := stopN_spec (fun j => decide (1 < j) && !(q j)) m
  have hle := stopN_le (fun j => decide (1 < j) && !(q j)) m
  generalize stopN (fun j => decide (1 < j) && !(q j)) m = k at *
  have k1 : 1 ≤ k := by
    by_cases h0 : k = 0
    · have := h2 1 (by omega) (by omega)
      simp at this
    · omega
  have l1 : ((k - 1 : Nat) : Int) ≤ M := by
    refine bM _ ?_
    rcases h1 with h1 | h1
    · omega
    · by_cases hk : k = 1
      · subst hk; exact List.mem_cons_self
      · have hq : q k = true := by
          have : decide (1 < k) = true := decide_eq_true (by omega)
          simp only [this, Bool.true_and, Bool.not_eq_false'] at h1
          exact h1
        refine List.mem_cons_of_mem _ (List.mem_map.mpr ⟨k - 1, List.mem_filter.mpr ⟨List.mem_range.mpr (by omega), ?_⟩, rfl⟩)
        rw [h _ (by omega), show k - 1 + 1 = k by omega, hq]
  have l2 : M ≤ (k - 1 : Nat) := by
    rcases List.mem_cons.mp aM with h0 | hm
    · omega
    · obtain ⟨i, hi, rfl⟩ := List.mem_map.mp hm
      obtain ⟨hi1, hi2⟩ := List.mem_filter.mp hi
      have hi1 := List.mem_range.mp hi1
      rw [h i hi1] at hi2
      by_cases hlt : k < i + 1
      · have := h2 (i + 1) hlt (by omega)
        simp [hi2] at this
      · omega
  omega
theorem stop_one {q : Nat → Bool} {n : Nat} (hn : 0 < n) : 1 ≤ stopN (fun j => decide (1 < j) && !(q j)) n := by
  obtain ⟨_, h2⟩ := stopN_spec (fun j => decide (1 < j) && !(q j)) n
  by_cases h0 : stopN (fun j => decide (1 < j) && !(q j)) n = 0
  · have := h2 1 (by omega) (by omega)
    simp at this
  · omega
/-- the places below n that q holds of, from above -/
def downs (q : Nat → Bool) : Nat → List Nat
  | 0 => []
  | n + 1 => if q (n + 1) then n :: downs q n else downs q n
theorem downs_lt {q : Nat → Bool} : ∀ n, ∀ i ∈ downs q n, i < n
  | 0, i, h => nomatch h
  | n + 1, i, h => by
    unfold downs at h
    split at h
    · rcases List.mem_cons.mp h with rfl | h
      · exact Nat.lt_succ_self _
      · exact Nat.lt_succ_of_lt (downs_lt n i h)
    · exact Nat.lt_succ_of_lt (downs_lt n i h)
theorem downs_cons {q : Nat → Bool} {i : Nat} {r : List Nat} : ∀ n, downs q n = i :: r → stopN (fun j => !(q j)) n = i + 1 ∧ r = downs q i
  | 0, h => nomatch h
  | n + 1, h => by
    unfold downs at h
    cases hq : q (n + 1) with
    | true =>
      rw [hq, if_pos rfl] at h
      injection h with h1 h2
      subst h1
      exact ⟨by rw [stopN, if_neg (by simp [hq])], h2.symm⟩
    | false =>
      rw [hq, if_neg (by decide)] at h
      obtain ⟨e1, e2⟩ := downs_cons n h
      exact ⟨by rw [stopN, if_pos (by simp [hq]), e1], e2⟩
theorem downs_nil {q : Nat → Bool} : ∀ n, downs q n = [] → stopN (fun j => !(q j)) n = 0
  | 0, _ => rfl
  | n + 1, h => by
    unfold downs at h
    cases hq : q (n + 1) with
    | true => rw [hq, if_pos rfl] at h; cases h
    | false =>
      rw [hq, if_neg (by decide)] at h
      rw [stopN, if_pos (by simp [hq])]
      exact downs_nil n h
theorem downs_eq {p q : Nat → Bool} : ∀ {n}, (∀ i, i < n → p i = q (i + 1)) → ((List.range n).filter p).reverse = downs q n
  | 0, _ => rfl
  | n + 1, h => by
    rw [List.range_succ, List.filter_append, List.reverse_append, downs_eq fun i hi => h i (Nat.lt_succ_of_lt hi), downs, List.filter_cons, h n (Nat.lt_succ_self _)]
    cases q (n + 1) <;> rfl
end
section
open PySem PySem.W PyProof.Rows
/-- as Ctr.use, but the walk stops behind the call -/
theorem Ctr.useL {w : World} {d u : Nat} {f : Addr} {vs : List Value} {news : Led} {Post : Value → Led → Prop} {dp un : Nat} {gd : Option (List Code)} {cn : Str} {cs : Scope} {a : Addr} {ccd : Value} {cl : List (Str × Addr)} {outer : List Env} {A₀ : Around} {base h₀ : Heap} {L : Addr} {m : Str → Option Value} {s : Shared}
    {Q E : Value → Shared → Prop} {p : Program} {loose : List Str} {mean : ExcName → Option Value} {mg mb : Str → Option Value}
    (B : Below A₀ base outer h₀) (F : Fr h₀ L s.heap m) (X : (_root_.Mine.h0.heap_1_1 w.params).In h₀) (N : News h₀ L s.heap news) (T : Top p loose mean mg mb h₀) (hk : cs.kind = .function)
    (C : Ctr w d u f vs news Post) (hd : dp + d < recursionLimit) (hu : un + u < cLine)
    (ret : Later (∀ r news' h' tk', Post r news' → Fr h₀ L h' m → News h₀ L h' news' → Q r { s with heap := h', toks := tk' })) :
    wpAny (model PySem.Challenge.rw_nt0596_01.prog w) (ktrTop dp un gd cn cs L a ccd cl outer) (call (.ref f) vs) Q E s :=
  Ctr.use B F X N T hk C hd hu ret.out
section
variable {prog : Program} {w : World} {A : Around} {E : Value → Shared → Prop} {s : Shared} {env : Env} {h₀ : Heap} {target : Expr} {body : List Stmt} {Q : Flow → Shared → Prop} {ax : Addr} {a b : Value} {m₀ : Str → Option Value} {news : Led}
theorem tup1_iter (hh : A.handled = none) (F : Fr h₀ env.locals s.heap m₀) (N : News h₀ env.locals s.heap news) (hm : (ax, tupOf [a]) ∈ news)
    (rest₀ : ∀ I : Addr, (∀ p ∈ news, p.1 < I) → ItemsRest prog w A E h₀ env target body Q s [(I, "tuple_iterator")] [(ax, tupOf [a])] [.val a] m₀ news) :
    wpAny (model prog w) A (pyIter (.ref ax)) (fun it s₂ => TurnsAt prog w A h₀ env target body Q E it s₂) E s := iter_tupTurns hh F N hm rfl rfl rest₀
theorem tup2_iter (hh : A.handled = none) (F : Fr h₀ env.locals s.heap m₀) (N : News h₀ env.locals s.heap news) (hm : (ax, tupOf [a, b]) ∈ news)
    (rest₀ : ∀ I : Addr, (∀ p ∈ news, p.1 < I) → ItemsRest prog w A E h₀ env target body Q s [(I, "tuple_iterator")] [(ax, tupOf [a, b])] [.val a, .val b] m₀ news) :
    wpAny (model prog w) A (pyIter (.ref ax)) (fun it s₂ => TurnsAt prog w A h₀ env target body Q E it s₂) E s := iter_tupTurns hh F N hm rfl rfl rest₀
end
theorem full_at {ws : List Str} {i : Nat} (h2 : i < ws.length) : ws[i]? = some (ws.getD i Str.empty) := by
  simp [List.getD, h2]
theorem len31 {y : Str} (h : y ∈ names31) : y.length ≤ 100 := by
  have hall : (names31.all fun y => decide (y.length ≤ 100)) = true := by decide +kernel
  exact of_decide_eq_true (List.all_eq_true.mp hall y h)
section
variable (w : World) (part : Led) (st l t : Addr) (its : List Value) (e k r : Nat) (S Nn : List Str)
end
theorem item_up {prog : Program} {w : World} {A : Around} {E : Value → Shared → Prop} {s : Shared} {h₀ : Heap} {L : Addr} {news : Led} {value slice : Expr} {a : Addr} {l : List Value} {n : Nat} {u : Tok} {Q : Value → Shared → Prop} {r : Nat}
    (N : News h₀ L s.heap news) (hm : (a, listOf l.toArray n) ∈ news) (hi : IntsAre l (upTo 12)) (hr : r < 12) (h : ∀ t', Q (.int ((r : Int) + 1) t') s)
    (hs : subscripted slice false (.ref a) (.int ((r : Nat) : Int) u) = operate [.ref a, .int ((r : Nat) : Int) u] (getItem (.ref a) (.int ((r : Nat) : Int) u))) :
    wpAny (model prog w) A (subscriptTail value slice (.ref a) (.int ((r : Nat) : Int) u)) Q E s := by
  refine item_intsT N hm hi (Int.natCast_nonneg _) (by rw [upTo_len]; omega) (by rw [upTo_len]; decide) (fun t' => ?_) hs
  rw [Int.toNat_natCast, upTo_getD hr]
  exact h t'
/-- html's element of a name is among the words -/
theorem any_words {S N ws : List Str} (hW : WS S N ws) {y : Str} (hy : y ∈ names31) : (List.range 12).any (fun i => isH S N y (i + 1)) = ws.any (· == Str.ofString "html." ++ y) := by
  have e1 : ∀ i, i < 12 → isH S N y (i + 1) = (ws.getD i Str.empty == Str.ofString "html." ++ y) := by
    intro i hi
    rw [hW.w i hi, Bool.beq_comm, html_word (hW.sp i hi) hy (hW.nm i hi), isH]
    congr 1
    exact Bool.beq_comm
  apply Bool.eq_iff_iff.mpr
  constructor
  · intro h
    obtain ⟨i, hi, hb⟩ := List.any_eq_true.mp h
    have hi := List.mem_range.mp hi
    rw [e1 i hi] at hb
    have hlt : i < ws.length := by rw [hW.lw]; exact hi
    refine List.any_eq_true.mpr ⟨ws[i], List.getElem_mem hlt, ?_⟩
    have e : ws.getD i Str.empty = ws[i] := by simp [List.getD, hlt]
    rw [← e]; exact hb
  · intro h
    obtain ⟨x, hx, hb⟩ := List.any_eq_true.mp h
    obtain ⟨i, hi, rfl⟩ := List.getElem_of_mem hx
    have hi' : i < 12 := by rw [← hW.lw]; exact hi
    refine List.any_eq_true.mpr ⟨i, List.mem_range.mpr hi', ?_⟩
    rw [e1 i hi']
    have e : ws.getD i Str.empty = ws[i] := by simp [List.getD, hi]
    rw [e]; exact hb
end
set_option maxRecDepth 100000 in
set_option maxHeartbeats 0 in
theorem pop_until_V : ∀ (w : World) (part : Led) (st l t : Addr) (its : List Value) (e k r : Nat) (S Nn : List Str) (D : Addr) (vs : List Value) (ys : List Str) (hst : stopN (fun j => !(ys.any (· == stNm S Nn j))) k = r + 1) (hS : Stk part st l t) (hT : Tre part t S Nn) (hD : (D, tupOf vs) ∈ part) (hy : StrsAre vs ys) (hk1 : k < S.length) (hk2 : k < Nn.length) (hi : IntsAre its (upTo k)) (hz : k ≤ 100),
      CtrU w 9 80 126 [.ref st, .ref D] part l (listOf its.toArray e) (fun v o' => (∃ tk, v = .int ((r : Int) + 1) tk) ∧ StO r o') := by
  k_with_none
  intro w part st l t its e k r S Nn D vs ys hst hS hT hD hy hk1 hk2 hi hz
  have h := pop_until_U w part st l t its e k S Nn D vs ys hS hT hD hy hk1 hk2 hi hz
  rw [hst, if_neg (Nat.succ_ne_zero r)] at h
  exact h
theorem pop_until_Vp : ∀ (w : World) (part : Led) (st : Addr) (l : Addr) (t : Addr) (its : List Value) (e : Nat) (k : Nat) (r : Nat) (S : List Str) (Nn : List Str) (D : Addr) (vs : List Value) (ys : List Str) (hS : Stk part st l t) (hT : Tre part t S Nn) (hD : (D, tupOf vs) ∈ part) (hy : StrsAre vs ys) (hi : IntsAre its (upTo k)) (hst : stopN (fun j => !(ys.any (· == stNm S Nn j))) k = r + 1) (hk1 : k < S.length) (hk2 : k < Nn.length) (hz : k ≤ 100),
      CtrU w 9 80 126 [.ref st, .ref D] part l (listOf its.toArray e) (fun v o' => (∃ tk, v = .int ((r : Int) + 1) tk) ∧ StO r o') :=
    fun w part st l t its e k r S Nn D vs ys hS hT hD hy hi hst hk1 hk2 hz => pop_until_V w part st l t its e k r S Nn D vs ys hst hS hT hD hy hk1 hk2 hi hz
set_option maxRecDepth 100000 in
set_option maxHeartbeats 0 in
theorem pop_until_Z : ∀ (w : World) (part : Led) (st l t : Addr) (its : List Value) (e k : Nat) (S Nn : List Str) (D : Addr) (vs : List Value) (ys : List Str) (hst : stopN (fun j => !(ys.any (· == stNm S Nn j))) k = 0) (hS : Stk part st l t) (hT : Tre part t S Nn) (hD : (D, tupOf vs) ∈ part) (hy : StrsAre vs ys) (hk1 : k < S.length) (hk2 : k < Nn.length) (hi : IntsAre its (upTo k)) (hz : k ≤ 100),
      CtrU w 9 80 126 [.ref st, .ref D] part l (listOf its.toArray e) (fun v o' => (∃ tk, v = .int (-1) tk) ∧ StO 0 o') := by
  intro w part st l t its e k S Nn D vs ys hst hS hT hD hy hk1 hk2 hi hz
  have h := pop_until_U w part st l t its e k S Nn D vs ys hS hT hD hy hk1 hk2 hi hz
  rw [hst, if_pos rfl] at h
  exact h
theorem pop_until_Zp : ∀ (w : World) (part : Led) (st : Addr) (l : Addr) (t : Addr) (its : List Value) (e : Nat) (k : Nat) (S : List Str) (Nn : List Str) (D : Addr) (vs : List Value) (ys : List Str) (hS : Stk part st l t) (hT : Tre part t S Nn) (hD : (D, tupOf vs) ∈ part) (hy : StrsAre vs ys) (hi : IntsAre its (upTo k)) (hst : stopN (fun j => !(ys.any (· == stNm S Nn j))) k = 0) (hk1 : k < S.length) (hk2 : k < Nn.length) (hz : k ≤ 100),
      CtrU w 9 80 126 [.ref st, .ref D] part l (listOf its.toArray e) (fun v o' => (∃ tk, v = .int (-1) tk) ∧ StO 0 o') :=
    fun w part st l t its e k S Nn D vs ys hS hT hD hy hi hst hk1 hk2 hz => pop_until_Z w part st l t its e k S Nn D vs ys hst hS hT hD hy hk1 hk2 hi hz
set_option maxRecDepth 100000 in
set_option maxHeartbeats 0 in
theorem has_name_W : ∀ (w : World) (news : Led) (st l t : Addr) (S Nn ws : List Str) (its : List Value) (e : Nat) (tk : Tok) (nam : Str) (hS : Stk news st l t) (hT : Tre news t S Nn) (hl : (l, listOf its.toArray e) ∈ news) (hi : IntsAre its (upTo 12)) (hW : WS S Nn ws) (hy : nam ∈ names31),
      Ctr w 6 60 119 [.ref st, .str nam tk] news (fun r news' => r = .bool (ws.any (· == Str.ofString "html." ++ nam)) ∧ news' = news) := by
  intro w news st l t S Nn ws its e tk nam hS hT hl hi hW hy
  have h := has_name_ctr w news st l t S Nn its e 12 tk nam hS hT hl hi (by rw [hW.lS]; decide) (by rw [hW.lN]; decide) (by decide)
  rw [any_words hW hy] at h
  exact h
section
open PySem PySem.W PyProof.Rows
section
variable {prog : Program} {w : World} {A : Around} {E : Value → Shared → Prop} {s : Shared} {env : Env} {h₀ : Heap} {target : Expr} {body : List Stmt} {Q : Flow → Shared → Prop} {ax : Addr} {m : Str → Option Value} {news : Led} {ks : List (Addr × String)} {keep : Led}
theorem tupL_iter {vs : List Value} (hh : A.handled = none) (F : Fr h₀ env.locals s.heap m) (N : News h₀ env.locals s.heap news) (hm : (ax, tupOf vs) ∈ news)
    (rest₀ : Later (∀ I : Addr, (∀ p ∈ news, p.1 < I) → ItemsRest prog w A E h₀ env target body Q s [(I, "tuple_iterator")] [(ax, tupOf vs)] (vs.map .val) m news)) :
    wpAny (model prog w) A (pyIter (.ref ax)) (fun it s₂ => TurnsAt prog w A h₀ env target body Q E it s₂) E s := iter_tupTurns hh F N hm rfl rfl rest₀.out
theorem ItemsRest_upd2 {x : Str} {a v : Option Value} {r : List Itm} (h : ItemsRest prog w A E h₀ env target body Q s ks keep r (fun z => if z = x then a else m z) news) :
    ItemsRest prog w A E h₀ env target body Q s ks keep r (fun z => if z = x then a else if z = x then v else m z) news := by
  have e : (fun z => if z = x then a else if z = x then v else m z) = fun z => if z = x then a else m z := funext fun z => by
    by_cases hz : z = x
    · rw [if_pos hz, if_pos hz]
    · rw [if_neg hz, if_neg hz, if_neg hz]
  rw [e]; exact h
theorem ItemsRest_strs {x : Str} {vs : List Value} {ys : List Str} (hv : StrsAre vs ys)
    (zero : ∀ (v : Option Value) h tk, Fr h₀ env.locals h (fun z => if z = x then v else m z) → News h₀ env.locals h news → Q .next { s with heap := h, toks := tk })
    (turn : ∀ (y : Str) (t : Tok) (v : Option Value) (r : List Itm), y ∈ ys → (∀ v', ItemsRest prog w A E h₀ env target body Q s ks keep r (fun z => if z = x then v' else m z) news) →
      ItemsRest prog w A E h₀ env target body Q s ks keep (.val (.str y t) :: r) (fun z => if z = x then v else m z) news) :
    ItemsRest prog w A E h₀ env target body Q s ks keep (vs.map .val) m news := by
  have key : ∀ v, ItemsRest prog w A E h₀ env target body Q s ks keep (vs.map .val) (fun z => if z = x then v else m z) news := by
    induction hv with
    | nil => exact fun v => ItemsRest.zero (zero v)
    | cons y t _ ih => exact fun v => turn y t v _ List.mem_cons_self (ih fun y' t' v' r hy' => turn y' t' v' r (List.mem_cons_of_mem _ hy'))
  have h := key (m x)
  have e : (fun z => if z = x then m x else m z) = m := funext fun z => by
    by_cases hz : z = x
    · rw [if_pos hz, hz]
    · rw [if_neg hz]
  rw [e] at h; exact h
end
end
set_option maxRecDepth 100000 in
set_option maxHeartbeats 0 in
theorem is_sought_ctr : ∀ (w : World) (news : Led) (t nl wl D : Addr) (S Nn ws : List Str) (nvs wvs : List Value) (en ew : Nat) (vsv : List Value) (ys : List Str) (hT : Tre news t S Nn) (hnl : (nl, listOf nvs.toArray en) ∈ news) (hni : IntsAre nvs (upTo 12)) (hwl : (wl, listOf wvs.toArray ew) ∈ news) (hwi : StrsAre wvs ws) (hW : WS S Nn ws) (hD : (D, tupOf vsv) ∈ news) (hy : StrsAre vsv ys) (h31 : ∀ y ∈ ys, y ∈ names31) (lvs : vsv.length ≤ 2),
      Ctr w 25 700 356 [.ref t, .ref nl, .ref wl, .ref D] news (fun r news' => r = .bool true ∧ news' = news) := by
  k_with_none
  k_with "k_memx" => assumption
  k_with "k_ne" => (refine neN ?_; (try dsimp only); first | with_reducible assumption | exact Ne.symm (by with_reducible assumption) | exact neB0 (by with_reducible assumption) | exact neA0 (by with_reducible assumption) | exact neF0 (by with_reducible assumption) | exact neE0 (by with_reducible assumption) | exact neB1 (by with_reducible assumption) | exact neA1 (by with_reducible assumption) | exact neF1 (by with_reducible assumption) | exact neE1 (by with_reducible assumption) | exact neB2 (by with_reducible assumption) | exact neA2 (by with_reducible assumption) | exact neF2 (by with_reducible assumption) | exact neE2 (by with_reducible assumption) | exact neB3 (by with_reducible assumption) | exact neA3 (by with_reducible assumption) | exact neF3 (by with_reducible assumption) | exact neE3 (by with_reducible assumption) | exact neB4 (by with_reducible assumption) | exact neA4 (by with_reducible assumption) | exact neF4 (by with_reducible assumption) | exact neE4 (by with_reducible assumption) | exact neB5 (by with_reducible assumption) | exact neA5 (by with_reducible assumption) | exact neF5 (by with_reducible assumption) | exact neE5 (by with_reducible assumption) | exact neB6 (by with_reducible assumption) | exact neA6 (by with_reducible assumption) | exact neF6 (by with_reducible assumption) | exact neE6 (by with_reducible assumption) | exact neB7 (by with_reducible assumption) | exact neA7 (by with_reducible assumption) | exact neF7 (by with_reducible assumption) | exact neE7 (by with_reducible assumption) | exact neB8 (by with_reducible assumption) | exact neA8 (by with_reducible assumption) | exact neF8 (by with_reducible assumption) | exact neE8 (by with_reducible assumption) | exact neB9 (by with_reducible assumption) | exact neA9 (by with_reducible assumption) | exact neF9 (by with_reducible assumption) | exact neE9 (by with_reducible assumption) | exact neB10 (by with_reducible assumption) | exact neA10 (by with_reducible assumption) | exact neF10 (by with_reducible assumption) | exact neE10 (by with_reducible assumption) | exact neB11 (by with_reducible assumption) | exact neA11 (by with_reducible assumption) | exact neF11 (by with_reducible assumption) | exact neE11 (by with_reducible assumption) | exact neB12 (by with_reducible assumption) | exact neA12 (by with_reducible assumption) | exact neF12 (by with_reducible assumption) | exact neE12 (by with_reducible assumption))
  k_with "call builtin:len" => (k_here; (with_reducible show wpAny _ _ (call (Value.builtin "len") [Value.ref _]) _ _ _); k_dflt (refine' KM.len_K (by k_asm) (by (first | assumption | k_mem)) (by (first | exact List.size_toArray | with_reducible rfl)) (by (first | omega | (simp only [List.size_toArray, List.length_append, List.length_cons, List.length_nil]; omega))) ?_))
  k_with "k_all" => assumption
  k_with "exec For Name Name cons nil" => (k_here; (rename Fr _ _ _ _ => lF'); (with_unfolding_all refine' For_invVF lF' (by exact rfl) (by exact rfl) ?_; k_whole))
  k_with "exec For Name Attribute cons nil" => (k_here; (rename Fr _ _ _ _ => lF'); (with_unfolding_all refine' For_invVF lF' (by exact rfl) (by exact rfl) ?_; k_whole))
  k_with "exec For Name Subscript cons nil" => (k_here; (rename Fr _ _ _ _ => lF'); (with_unfolding_all refine' For_invVF lF' (by exact rfl) (by exact rfl) ?_; k_whole))
  k_with "exec For Name Call cons nil" => (k_here; (rename Fr _ _ _ _ => lF'); (with_unfolding_all refine' For_invVF lF' (by exact rfl) (by exact rfl) ?_; k_whole))
  k_with "loopm" => (k_here; (with_reducible show wpAny _ _ (pyIter (Value.ref _)) (fun it s₂ => LoopAtV _ _ _ _ _ _ _ _ _ it s₂) _ _); (with_unfolding_all refine' for_H (by exact rfl) (by k_asm) (by k_asm) (by k_mem) ?_))
  k_with "TurnW" => ((with_reducible show TurnW _ _ _ _ _ _ _ _ (Flow.ret _) _); dsimp only [TurnW])
  k_with "TurnF" => ((with_reducible show TurnF _ _ _ _ _ _ _ _ _ _ (Flow.ret _) _); dsimp only [TurnF])
  k_with "exec For Name Name cons nil" => (k_here; (rename Fr _ _ _ _ => lF'); (with_unfolding_all refine' For_turns lF' ?_; k_whole))
  k_with "loopm" => (k_here; (with_reducible show wpAny _ _ (pyIter (Value.ref _)) (fun it s₂ => TurnsAt _ _ _ _ _ _ _ _ _ it s₂) _ _); k_dflt (refine' tupL_iter (by exact rfl) (by k_asm) (by k_asm) (by k_mem) ?_))
  k_with "callm" => (k_here; (with_reducible show wpAny _ _ (call (Value.ref 339) _) _ _ _); k_dflt (refine' Ctr.useL (by k_asm) (by k_asm) (by k_asm) (by k_asm) (by k_asm) (by (first | exact rfl | assumption)) (law_stack_ctr _ _ _ _ _ _ _ (by k_mem) (by assumption) (by decide)) (by (first | exact room hd rfl | ktr_room)) (by (first | exact room hu rfl | ktr_units)) ?_))
  k_with "eval ListComp" => (k_here; (with_reducible show wpAny _ _ (eval (PySem.Expr.ListComp _ (List.cons (PySem.Comprehension.mk (PySem.Expr.Name _ _) _ List.nil _) _) _ _) _) _ _ _); k_dflt (refine tup_ListComp (by k_asm) (by with_unfolding_all rfl) (by decide) (by rfl) (by decide) (by rfl) ?_))
  k_with "TupSrc" => (k_dflt (refine' tupS_src (by exact rfl) (by k_asm) (by k_asm) (by k_mem) (by assumption) (by (first | exact Nat.le_of_ble_eq_true rfl | omega)) ?_))
  k_with "compareOp In str ref" => (k_here; k_dflt (first | (refine' in_tupN (by k_asm) (by k_mem) (by assumption) ?_) | (refine' in_listN (by k_asm) (by k_mem) (by assumption) ?_)))
  k_with "compareOp NotIn str ref" => (k_here; k_dflt (first | (refine' notin_tupN (by k_asm) (by k_mem) (by assumption) ?_) | (refine' notin_listN (by k_asm) (by k_mem) (by assumption) ?_)))
  k_with "callm" => (k_here; (with_reducible show wpAny _ _ (call (Value.ref 119) _) _ _ _); k_dflt (refine' Ctr.use (by k_asm) (by k_asm) (by k_asm) (by k_asm) (by k_asm) (by (first | exact rfl | assumption)) (has_name_W _ _ _ _ _ _ _ _ _ _ _ _ (by exact Stk.mono (by assumption) (fun p hp => by k_mem)) (by exact Tre.mono (by assumption) (fun p hp => by k_mem)) (by k_mem) (by assumption) (by assumption) (by assumption)) (by (first | exact room hd rfl | ktr_room)) (by (first | exact room hu rfl | ktr_units)) ?_); (k_dflt (intro r9 n9 h9 tk9 p9 F9 N9; (try k_fold); obtain ⟨rx9, e9'⟩ := p9; subst r9; subst n9)); (try dsimp only); (try k_fold))
  k_with "exec Assign cons ListComp" => (k_here; (with_reducible show wpAny _ _ (exec (PySem.Stmt.Assign _ (PySem.Expr.ListComp _ (List.cons (PySem.Comprehension.mk (PySem.Expr.Tuple _ _ _) _ _ _) _) _ _) _) _) _ _ _); k_dflt (refine enum_Assign (by k_asm) (by rfl) (by with_unfolding_all rfl) (by with_unfolding_all rfl) (by decide) (by rfl) (by decide) (by rfl) (by rfl) (by decide) (by rfl) (by rfl) ?_))
  k_with "call type:enumerate" => (k_here; k_dflt (refine' enum_src (by exact rfl) (by k_asm) (by k_asm) (by k_mem) (by (first | with_reducible assumption | omega)) ?_))
  k_with "callm" => (k_here; (with_reducible show wpAny _ _ (call (Value.ref 133) _) _ _ _); k_dflt (refine' CtrU.use (by k_asm) (by k_asm) (by k_asm) (by k_asm) (by k_asm) (by (first | exact rfl | assumption)) (pop_to_Up _ _ _ _ _ _ _ _ _ _ _ _ _ (by assumption) (by assumption) (by assumption) (by assumption) (by assumption) (by (first | with_reducible assumption | omega)) (by (first | with_reducible assumption | omega)) (by (first | with_reducible assumption | omega))) (by k_updF) (by exact fun p hp => by k_mem) (by assumption) (by (first | exact room hd rfl | ktr_room)) (by (first | exact room hu rfl | ktr_units)) ?_); (k_dflt (intro r9 o9' h9 tk9 p9 F9 N9; (try k_fold); obtain ⟨rx9, o9⟩ := p9; subst r9; obtain ⟨its9, ep9, eo9, i9⟩ := o9; subst o9')); (try dsimp only); (try dsimp only at N9); (try k_fold); (try k_sweep))
  k_with "callm" => (k_here; (with_reducible show wpAny _ _ (call (Value.ref 126) _) _ _ _); k_dflt (refine' CtrU.use (by k_asm) (by k_asm) (by k_asm) (by k_asm) (by k_asm) (by (first | exact rfl | assumption)) (pop_until_Zp _ _ _ _ _ _ _ _ _ _ _ _ _ (by assumption) (by assumption) (by assumption) (by assumption) (by assumption) (by assumption) (by (first | with_reducible assumption | omega)) (by (first | with_reducible assumption | omega)) (by (first | with_reducible assumption | omega))) (by k_updF) (by exact fun p hp => by k_mem) (by assumption) (by (first | exact room hd rfl | ktr_room)) (by (first | exact room hu rfl | ktr_units)) ?_); (k_dflt (intro r9 o9' h9 tk9 p9 F9 N9; (try k_fold); obtain ⟨⟨t9, rx9⟩, o9⟩ := p9; subst r9; obtain ⟨its9, ep9, eo9, i9⟩ := o9; subst o9')); (try dsimp only); (try dsimp only at N9); (try k_fold); (try k_sweep))
  k_with "callm" => (k_here; (with_reducible show wpAny _ _ (call (Value.ref 126) _) _ _ _); k_dflt (refine' CtrU.use (by k_asm) (by k_asm) (by k_asm) (by k_asm) (by k_asm) (by (first | exact rfl | assumption)) (pop_until_Vp _ _ _ _ _ _ _ _ _ _ _ _ _ _ (by assumption) (by assumption) (by assumption) (by assumption) (by assumption) (by assumption) (by (first | with_reducible assumption | omega)) (by (first | with_reducible assumption | omega)) (by (first | with_reducible assumption | omega))) (by k_updF) (by exact fun p hp => by k_mem) (by assumption) (by (first | exact room hd rfl | ktr_room)) (by (first | exact room hu rfl | ktr_units)) ?_); (k_dflt (intro r9 o9' h9 tk9 p9 F9 N9; (try k_fold); obtain ⟨⟨t9, rx9⟩, o9⟩ := p9; subst r9; obtain ⟨its9, ep9, eo9, i9⟩ := o9; subst o9')); (try dsimp only); (try dsimp only at N9); (try k_fold); (try k_sweep))
  k_with "subscriptTail Name Name ref int" => (k_here; k_dflt (refine' item_up (by k_asm) (by k_mem) (by with_reducible assumption) (by (first | with_reducible assumption | omega)) ?_ (by with_unfolding_all rfl)); intro t9)
  k_with "callm" => (k_here; (with_reducible show wpAny _ _ (call (Value.ref 346) _) _ _ _); k_dflt (refine' Ctr.use (by k_asm) (by k_asm) (by k_asm) (by k_asm) (by k_asm) (by (first | exact rfl | assumption)) (law_is_seen_ctrp _ _ _ _ _ _ _ _ _ _ _ _ _ _ _ _ _ (by exact Stk.mono (by assumption) (fun p hp => by k_mem)) (by exact Tre.mono (by assumption) (fun p hp => by k_mem)) (by assumption) (by k_mem) (by assumption) (by (first | with_reducible assumption | omega)) (by k_mem) (by (first | assumption | exact StrsAre.nil)) (by k_mem) (by assumption)) (by (first | exact room hd rfl | ktr_room)) (by (first | exact room hu rfl | ktr_units)) ?_); (k_dflt (intro r9 n9 h9 tk9 p9 F9 N9; (try k_fold); obtain ⟨rx9, e9'⟩ := p9; subst r9; subst n9)); (try dsimp only); (try k_fold))
  k_with "binaryOp Add ref ref" => (k_here; (with_reducible show wpAny _ _ (binaryOp _ (Value.ref _) (Value.ref _)) _ _ _); k_dflt (refine' add_listN (by k_asm) (by k_asm) (by k_mem) (by k_mem) (by (first | omega | (simp only [List.length_cons, List.length_nil, List.length_append]; omega))) ?_); intro D' h' F' N' l1; (try k_lt l1); (try k_sweep))
  k_with "call builtin:max" => (k_here; (with_reducible show wpAny _ _ (call (Value.builtin _) [Value.ref _]) _ _ _); k_dflt (refine' max0_N (by k_asm) (by k_asm) (by k_mem) (by assumption) (by exact rfl) ?_))
  k_with "subscriptTail Name Slice ref ref" => (k_here; (with_reducible show wpAny _ _ (subscriptTail _ (PySem.Expr.Slice _ _ none _) (Value.ref _) (Value.ref _)) _ _ _); k_dflt (first | (refine' slice_uptoN (by k_asm) (by k_asm) (by k_mem) (by (first | with_reducible assumption | omega)) (by (first | with_reducible assumption | omega)) ?_ (by with_unfolding_all rfl) (by (intro _; with_unfolding_all rfl))) | (refine' slice_uptoNegN (by k_asm) (by k_asm) (by k_mem) (by (first | with_reducible assumption | omega)) (by (first | with_reducible assumption | omega)) ?_ (by with_unfolding_all rfl) (by (intro _; with_unfolding_all rfl)))); intro D9 h9 F9 N9 l9; (try k_lt l9); (try k_sweep))
  k_with "subscriptTail BinOp" => (k_here; (with_reducible show wpAny _ _ (subscriptTail _ _ (Value.ref _) (Value.int _ _)) _ _ _); k_dflt (refine' item_intsT (by k_asm) (by k_mem) (by exact ints_app1 (by with_reducible assumption)) (by exact Int.natCast_nonneg _) (by (first | omega | (simp only [List.length_append, List.length_cons, List.length_nil, upTo_len]; omega))) (by (first | omega | (simp only [List.length_append, List.length_cons, List.length_nil, upTo_len]; omega))) ?_ (by with_unfolding_all rfl);); intro t9)
  intro w news t nl wl D S Nn ws nvs wvs en ew vsv ys hT hnl hni hwl hwi hW hD hy h31 lvs
  unfold Ctr
  k_fill
  intro dp un gd cn cs a ccd cl outer A₀ base h₀ L m s Q E p loose mean mg mb B F X N T hk hd hu hret
  refine wpAny_call ?_
  k_dflt (refine' code_defC (by k_asm) (by k_asm) (by k_asm) (by k_asm) (by k_asm) (by exact rfl) (by exact rfl) (by assumption) (by k_is) (by k_is) (by ktr_room) (by exact BindsTo.of_eq rfl) (by exact rfl) (by decide +kernel) ?_ (by exact rfl) (by exact rfl) (by exact rfl); k_whole; intro g' L' h' tk' cells' FG' F' N' Y' B' X' T' l1; (try k_lt l1); k_cells Y'; (try simp only [List.cons_append, List.nil_append] at N'); (try dsimp only); (try k_lift B'); (try k_fold))
  have lyz : ∀ y ∈ ys, y.length ≤ 100 := fun y hm => len31 (h31 y hm)
  k_steps
  rename_i o1 d1
  replace d1 : o1.data = .cell none := d1
  refine ⟨⟨fun y => Str.ofString "html." ++ y, ?_, ?_⟩⟩
  · intro y ty C oC m₂ h tk E' hm hC hx F₁ N₁
    have ly := lyz y hm
    k_steps
    exact ⟨⟨_, rfl⟩, _, rfl⟩
  · intro h' zs hzs
    have c1 : ∀ p ∈ news, p.1 ≠ L' + 1 := fun p hp => Nat.ne_of_lt (Nat.lt_succ_of_lt (l1 p hp))
    k_steps
    rename_i Dz hz1 tkz oz hz2 oN FN NN dN
    refine ⟨?_⟩
    rintro r n7 h7 tk7 ⟨st, l, d, od, its, e, rfl, rfl, iA, S9, ap9, la9, lb9, lc9⟩ F7 N7
    obtain ⟨part, hpart⟩ : ∃ part : Led, part = (st, instObj 136 d) :: (d, od) :: (Dz, listOf zs.toArray zs.length) :: (L' + 1, oN) :: news := ⟨_, rfl⟩
    have NP : News g' L' h7 ((l, listOf its.toArray e) :: part) := by rw [hpart]; exact N7
    have pS : Stk part st l t := S9.mono fun p hp => by
      subst hpart
      simp only [List.mem_cons, List.not_mem_nil, or_false] at hp ⊢
      rcases hp with h | h <;> simp [h]
    have pS' := pS
    obtain ⟨sd, sh1, sk1, sh2, sk2, pSa, pSb⟩ := pS'
    have pN : ∀ p ∈ news, p ∈ part := fun p hp => by subst hpart; k_mem
    have pT : Tre part t S Nn := hT.mono pN
    have pnl := pN _ hnl
    have pwl := pN _ hwl
    have pD := pN _ hD
    have pz : (Dz, listOf zs.toArray zs.length) ∈ part := by subst hpart; k_mem
    have pc : (L' + 1, oN) ∈ part := by subst hpart; k_mem
    have pap : ∀ p ∈ part, p.1 ≠ l := by rw [hpart]; exact ap9
    have lS := hW.lS
    have lN := hW.lN
    have lw := hW.lw
    have lnv := hni.length
    rw [upTo_len] at lnv
    have lwv : wvs.length = 12 := by rw [StrsAre.len_eq hwi]; exact lw
    have NQ : News g' L' h7 ((l, listOf its.toArray e) :: (D, tupOf vsv) :: part) := fun p hp => NP p (by
      simp only [List.mem_cons] at hp ⊢
      rcases hp with h | h | h
      · simp [h]
      · exact Or.inr (h ▸ pD)
      · simp [h])
    have hDl : @Ne Nat D l := pap _ pD
    clear N7 hpart ap9 S9 la9 NN FN NP
    k_steps
    refine ⟨fun I' lI => ?_⟩
    refine ItemsRest_strs (x := Str.ofString "name") hy (fun v h8 tk8 F8 N8 => ?_) (fun y ty v r hym next => ?_)
    rotate_left
    · have ly := lyz y hym
      have h1 := h31 y hym
      k_steps
      · exfalso
        rename (bne _ _) = true => a1
        simp at a1
      rename News _ _ _ ((_, _) :: (l, _) :: _) => NN
      rename Fr _ _ _ _ => FF
      refine ⟨_, _, _, (l, listOf its.toArray e) :: (D, tupOf vsv) :: part, rfl, FF, NN, fun p hp q hq => by rw [List.mem_singleton.mp hq]; exact Nat.ne_of_lt (lI p hp), ⟨by k_mem, trivial⟩, ?_⟩
      exact ItemsRest_upd2 (next _)
    replace F8 : Fr g' L' h8 _ := F8
    replace N8 : News g' L' h8 ((l, listOf its.toArray e) :: (D, tupOf vsv) :: part) := N8
    k_steps
    refine ⟨⟨fun i => (List.map (fun y => Str.ofString "html." ++ y) ys).any (· == ws.getD i Str.empty), fun i => (i : Int), ⟨?_, ?_⟩, ?_⟩⟩
    · intro i x ti C oC m₂ h tk E' hv hC ha hb F₂ N₂
      have hin := (List.getElem?_eq_some_iff.mp hv).1
      obtain ⟨tx, hx⟩ := hwi.at (full_at (ws := ws) (i := i) (by omega))
      obtain rfl := Option.some.inj (hv.symm.trans hx)
      k_steps
      exact ⟨⟨_, rfl⟩, rfl⟩
    · intro i x ti C oC m₂ h tk E' hv hp hC ha hb F₂ N₂
      k_steps
      exact ⟨⟨_, rfl⟩, _, rfl⟩
    · intro h' ps hps
      have lps : ps.length ≤ 12 := by rw [hps.length, List.length_map]; exact Nat.le_trans (List.length_filter_le _ _) (by rw [List.length_range]; omega)
      intro Dp hpp tkp Fp Np op
      k_steps
      refine ⟨⟨stopN (fun j => decide (1 < j) && !(ys.any fun x => x == stNm S Nn j)) 12 - 1, fun M aM bM => max_want lwv (by decide) (fun i hi => want_eq hW h31 hi) M aM bM, ?_⟩⟩
      have k1 := stop_one (q := fun j => ys.any fun x => x == stNm S Nn j) (n := 12) (by decide)
      have k2 := stopN_le (fun j => decide (1 < j) && !(ys.any fun x => x == stNm S Nn j)) 12
      generalize stopN (fun j => decide (1 < j) && !(ys.any fun x => x == stNm S Nn j)) 12 = k at *
      have hwk : StrsAre (wvs.take (((k - 1 : Nat) : Int) + 1).toNat) (ws.take k) := by
        have e : (((k - 1 : Nat) : Int) + 1).toNat = ((k : Nat) : Int).toNat := pred_up (Nat.ne_of_gt k1)
        rw [e]
        exact strs_take (n := 12) (by rw [← lw, List.take_length]; exact hwi) k2
      intro h11 t11 tk11 F11 N11
      k_steps
      refine ⟨?_⟩
      rintro r n12 h12 tk12 ⟨st2, l2, d2, od2, its2, e2, rfl, rfl, iA2, S92, ap92, la92, lb92, lc92⟩ F12 N12
      obtain ⟨part2, N13, pap2, pS2, pN2, pp2⟩ : ∃ part2 : Led, News g' L' h12 ((l2, listOf its2.toArray e2) :: part2) ∧ (∀ p ∈ part2, p.1 ≠ l2) ∧ Stk part2 st2 l2 t ∧ (∀ p ∈ part, p ∈ part2) ∧ (Dp, listOf ps.toArray ps.length) ∈ part2 :=
        ⟨_, N12, ap92, S92.mono (fun p hp => by
          simp only [List.mem_cons, List.not_mem_nil, or_false] at hp
          rcases hp with h | h <;> subst h <;> k_mem), fun p hp => by k_mem, by k_mem⟩
      have pS2' := pS2
      obtain ⟨sd2, sh12, sk12, sh22, sk22, pSa2, pSb2⟩ := pS2'
      have pT2 : Tre part2 t S Nn := pT.mono pN2
      have pnl2 := pN2 _ pnl
      have pwl2 := pN2 _ pwl
      have pD2 := pN2 _ pD
      have pN3 : ∀ p ∈ news, p ∈ part2 := fun p hp => pN2 p (pN p hp)
      clear N12 ap92 S92 la92
      k_steps
      rename_i hRa Dr wr hRb FR NR iR cR lR
      clear cR
      have hdown : ((List.range wvs.length).filter fun i => (List.map (fun y => Str.ofString "html." ++ y) ys).any fun x => x == ws.getD i Str.empty).reverse = downs (fun j => ys.any fun x => x == stNm S Nn j) 12 := by
        rw [lwv]; exact downs_eq (fun i hi => want_eq hW h31 hi)
      rw [← List.map_reverse, hdown] at iR
      clear hdown
      generalize hRd : downs (fun j => ys.any fun x => x == stNm S Nn j) 12 = R at iR
      have lRR := iR.length
      rw [List.length_map] at lRR
      have lRa : l2 < Dr := lR.1
      have nDl : @Ne Nat Dr l2 := Nat.ne_of_gt lRa
      refine ⟨⟨[], fun i nx => ∃ n its e, n ≤ 12 ∧ R.drop i = downs (fun j => ys.any fun x => x == stNm S Nn j) n ∧ nx = (l2, listOf (List.toArray its) e) :: (Dr, listOf wr.toArray 0) :: part2 ∧ IntsAre its (upTo n), (l2, listOf its2.toArray e2) :: (Dr, listOf wr.toArray 0) :: part2, sub_swap, ⟨12, its2, e2, Nat.le_refl _, ?_, rfl, iA2⟩, ?_, ?_, ?_⟩⟩
      · rw [List.drop_zero]; exact hRd.symm
      · rintro i nx ⟨n, its', e', _, _, rfl, _⟩
        exact ⟨rfl, List.mem_cons_of_mem _ List.mem_cons_self⟩
      · rintro I i v u it h₁ tk₁ nx hv ⟨n, its', e', hn, hd, rfl, hi'⟩ hoff F₁ N₁
        have hik : i < R.length := by
          have := (List.getElem?_eq_some_iff.mp hv).1
          omega
        have hdc := List.drop_eq_getElem_cons hik
        obtain ⟨hst, hrest⟩ := downs_cons n (hd.symm.trans hdc)
        have hrn := downs_lt n R[i] (by rw [← hd, hdc]; exact List.mem_cons_self)
        obtain ⟨tv, hx⟩ := iR.get i ((R[i] : Nat) : Int) (by rw [List.getElem?_map, List.getElem?_eq_getElem hik]; rfl)
        obtain rfl := Option.some.inj (hv.symm.trans hx)
        clear hdc hx hv
        generalize R[i] = r at *
        have hwr := strs_take (n := 12) (k := r) (wv := wvs) (ws := ws) (by rw [← lw, List.take_length]; exact hwi) (by omega)
        have hIl : @Ne Nat I l2 := Ne.symm (hoff _ List.mem_cons_self)
        simp only [List.contains_nil, Bool.false_eq_true, if_false] at F₁
        replace F₁ : Fr g' L' h₁ _ := F₁
        have N₂ : News g' L' h₁ ((l2, listOf its'.toArray e') :: (I, it) :: (Dr, listOf wr.toArray 0) :: part2) := fun p hp => N₁ p (sub_swap p hp)
        clear N₁
        k_steps
        · exfalso
          rename (_ : Int) ≠ _ => a1
          exact a1 rfl
        · rename News _ _ _ _ => NN
          rename Fr _ _ _ _ => FF
          rename IntsAre _ (upTo r) => iN
          refine' ⟨_, _, _, _, rfl, FF, NN, fun z hz _ => if_neg hz, _, ?sub, r, _, _, by omega, hrest, rfl, iN⟩
          case sub =>
            refine' List.forall_mem_cons.mpr ⟨?_, List.forall_mem_cons.mpr ⟨?_, List.forall_mem_cons.mpr ⟨?_, fun p hp => ?_⟩⟩⟩
            all_goals k_mem
      · rintro u h₁ tk₁ nx ⟨n, its', e', hn, hd, rfl, hi'⟩ F₁ N₁
        rw [lRR, List.drop_length] at hd
        have hst := downs_nil n hd.symm
        have hz0 : stopN (fun j => decide (1 < j) && !(ys.any fun x => x == stNm S Nn j)) 0 = 0 := rfl
        have hz1 : stopN (fun j => !(ys.any fun x => x == stNm S Nn j)) (stopN (fun j => decide (1 < j) && !(ys.any fun x => x == stNm S Nn j)) 0) = 0 := rfl
        simp only [List.contains_nil, Bool.false_eq_true, if_false] at F₁
        replace F₁ : Fr g' L' h₁ _ := F₁
        replace N₁ : News g' L' h₁ ((l2, listOf its'.toArray e') :: (Dr, listOf wr.toArray 0) :: part2) := N₁
        k_steps
        rename News h₀ L _ _ => kN
        exact hret _ _ _ _ ⟨rfl, rfl⟩ (by assumption) (fun p hp => kN p (by have hq := pN3 p hp; k_mem))
set_option maxRecDepth 100000 in
set_option maxHeartbeats 0 in
theorem is_sought1_ctr : ∀ (w : World) (news : Led) (t nl wl D : Addr) (S Nn ws : List Str) (nvs wvs : List Value) (en ew : Nat) (y1 : Str) (t1 : Tok) (hT : Tre news t S Nn) (hnl : (nl, listOf nvs.toArray en) ∈ news) (hni : IntsAre nvs (upTo 12)) (hwl : (wl, listOf wvs.toArray ew) ∈ news) (hwi : StrsAre wvs ws) (hW : WS S Nn ws) (hD : (D, tupOf [.str y1 t1]) ∈ news) (h1 : y1 ∈ names31),
      Ctr w 25 700 356 [.ref t, .ref nl, .ref wl, .ref D] news (fun r news' => r = .bool true ∧ news' = news) := by
  intro w news t nl wl D S Nn ws nvs wvs en ew y1 t1 hT hnl hni hwl hwi hW hD h1
  exact is_sought_ctr w news t nl wl D S Nn ws nvs wvs en ew _ _ hT hnl hni hwl hwi hW hD (.cons _ _ .nil) (List.forall_mem_cons.mpr ⟨h1, List.forall_mem_nil _⟩) (Nat.le_of_ble_eq_true rfl)
set_option maxRecDepth 100000 in
set_option maxHeartbeats 0 in
theorem is_sought2_ctr : ∀ (w : World) (news : Led) (t nl wl D : Addr) (S Nn ws : List Str) (nvs wvs : List Value) (en ew : Nat) (y1 y2 : Str) (t1 t2 : Tok) (hT : Tre news t S Nn) (hnl : (nl, listOf nvs.toArray en) ∈ news) (hni : IntsAre nvs (upTo 12)) (hwl : (wl, listOf wvs.toArray ew) ∈ news) (hwi : StrsAre wvs ws) (hW : WS S Nn ws) (hD : (D, tupOf [.str y1 t1, .str y2 t2]) ∈ news) (h1 : y1 ∈ names31) (h2 : y2 ∈ names31),
      Ctr w 25 700 356 [.ref t, .ref nl, .ref wl, .ref D] news (fun r news' => r = .bool true ∧ news' = news) := by
  intro w news t nl wl D S Nn ws nvs wvs en ew y1 y2 t1 t2 hT hnl hni hwl hwi hW hD h1 h2
  exact is_sought_ctr w news t nl wl D S Nn ws nvs wvs en ew _ _ hT hnl hni hwl hwi hW hD (.cons _ _ (.cons _ _ .nil)) (List.forall_mem_cons.mpr ⟨h1, List.forall_mem_cons.mpr ⟨h2, List.forall_mem_nil _⟩⟩) (Nat.le_of_ble_eq_true rfl)
section
open PySem PySem.W PyProof.Rows
/-- a tree's objects: itself, its dict, its lists -/
def TL (t td kd sp nm at' tx pa ch ct : Addr) (kv sv nv av tv pv cv : List Value) (e1 e2 e3 e4 e5 e6 e7 : Nat) (oc : Obj) (g0 g1 g2 g3 g4 g5 g6 g7 : Int) (u0 u1 u2 u3 u4 u5 u6 u7 : Tok) (rest : Led) : Led :=
  (t, instObj 300 td) :: (td, dictOf [⟨g0, .str (Str.ofString "kinds") u0, .ref kd⟩, ⟨g1, .str (Str.ofString "spaces") u1, .ref sp⟩, ⟨g2, .str (Str.ofString "names") u2, .ref nm⟩, ⟨g3, .str (Str.ofString "attrs") u3, .ref at'⟩, ⟨g4, .str (Str.ofString "texts") u4, .ref tx⟩, ⟨g5, .str (Str.ofString "parents") u5, .ref pa⟩, ⟨g6, .str (Str.ofString "children") u6, .ref ch⟩, ⟨g7, .str (Str.ofString "contents") u7, .ref ct⟩] 8) ::
  (kd, listOf kv.toArray e1) :: (sp, listOf sv.toArray e2) :: (nm, listOf nv.toArray e3) :: (at', listOf av.toArray e4) :: (tx, listOf tv.toArray e5) :: (pa, listOf pv.toArray e6) :: (ch, listOf cv.toArray e7) :: (ct, oc) :: rest
theorem list_baseT {prog : Program} {w : World} {A : Around} {E : Value → Shared → Prop} {s : Shared} {h₀ : Heap} {L a : Addr} {m : Str → Option Value} {news : Led} {K : Frag} {items : Array Value} {n : Nat} {dd : Option Addr} {sl : Array (Option Value)} {Q : Value → Shared → Prop}
    (F : Fr h₀ L s.heap m) (N : News h₀ L s.heap news) (X₀ : K.In h₀) (hl : K.lookup a = some ⟨.type "tuple", dd, .seq items n, sl⟩) (hz : items.size = 0)
    (h : ∀ D c h', Fr h₀ L h' m → News h₀ L h' ((D, listOf (List.toArray []) c) :: news) → (∀ q ∈ news, q.1 < D) → Q (.ref D) { s with heap := h' }) :
    wpAny (model prog w) A (call (.type "list") [.ref a]) Q E s := by
  have e : items = #[] := Array.eq_empty_of_size_eq_zero hz
  subst e
  exact list_copyKT F N ⟨_, (X₀.keeps F.keep) _ _ hl, rfl, n, rfl⟩ h (Nat.zero_le _)
theorem allLt_mem {d : Nat} : ∀ {l : List (Addr × Obj)}, AllLt d l → ∀ p ∈ l, @LT.lt Nat _ p.1 d
  | [], _, _, h => nomatch h
  | _ :: _, x, p, h => by
    rcases List.mem_cons.mp h with rfl | h
    · exact x.1
    · exact allLt_mem x.2 p h
end
set_option maxRecDepth 100000 in
set_option maxHeartbeats 0 in
theorem add_ctr : ∀ (w : World) (t td kd sp nm at' tx pa ch ct : Addr) (kv sv nv av tv pv cv : List Value) (e1 e2 e3 e4 e5 e6 e7 : Nat) (oc : Obj) (g0 g1 g2 g3 g4 g5 g6 g7 : Int) (u0 u1 u2 u3 u4 u5 u6 u7 : Tok) (rest : Led) (kind space name : Str) (tk1 tk2 tk3 : Tok) (oR : ∀ p ∈ rest, p.1 ≠ kd) (oS : ∀ p ∈ rest, p.1 ≠ sp) (oN : ∀ p ∈ rest, p.1 ≠ nm) (oA : ∀ p ∈ rest, p.1 ≠ at') (oX : ∀ p ∈ rest, p.1 ≠ tx) (oP : ∀ p ∈ rest, p.1 ≠ pa) (oC : ∀ p ∈ rest, p.1 ≠ ch) (od : @Ne Nat t td) (o1 : @LT.lt Nat _ t kd) (o2 : @LT.lt Nat _ td kd) (o3 : @LT.lt Nat _ kd sp) (o4 : @LT.lt Nat _ sp nm) (o5 : @LT.lt Nat _ nm at') (o6 : @LT.lt Nat _ at' tx) (o7 : @LT.lt Nat _ tx pa) (o8 : @LT.lt Nat _ pa ch) (o9 : @LT.lt Nat _ ch ct) (hz : kv.length ≤ 100 ∧ sv.length ≤ 100 ∧ nv.length ≤ 100 ∧ av.length ≤ 100 ∧ tv.length ≤ 100 ∧ pv.length ≤ 100 ∧ cv.length ≤ 100),
      Ctr w 6 150 210 [.ref t, .str kind tk1, .str space tk2, .str name tk3, .ref 211] (TL t td kd sp nm at' tx pa ch ct kv sv nv av tv pv cv e1 e2 e3 e4 e5 e6 e7 oc g0 g1 g2 g3 g4 g5 g6 g7 u0 u1 u2 u3 u4 u5 u6 u7 rest) (fun r n' => (∃ tk, r = .int (kv.length : Nat) tk) ∧ ∃ (a b : Addr) (c1 c2 : Nat) (ta tb : Tok), n' = (b, listOf (List.toArray []) c2) :: (a, listOf (List.toArray []) c1) :: TL t td kd sp nm at' tx pa ch ct (kv ++ [.str kind tk1]) (sv ++ [.str space tk2]) (nv ++ [.str name tk3]) (av ++ [.ref a]) (tv ++ [.str (Str.ofString "") ta]) (pv ++ [.int (-1) tb]) (cv ++ [.ref b]) (e1 + 1) (e2 + 1) (e3 + 1) (e4 + 1) (e5 + 1) (e6 + 1) (e7 + 1) oc g0 g1 g2 g3 g4 g5 g6 g7 u0 u1 u2 u3 u4 u5 u6 u7 rest ∧ @LT.lt Nat _ ct a ∧ @LT.lt Nat _ a b ∧ ∀ p ∈ rest, @LT.lt Nat _ p.1 a) := by
  k_with_none
  k_with "k_ne" => (refine neN ?_; (try dsimp only); first | with_reducible assumption | exact Ne.symm (by with_reducible assumption) | exact neB0 (by with_reducible assumption) | exact neA0 (by with_reducible assumption) | exact neF0 (by with_reducible assumption) | exact neE0 (by with_reducible assumption) | exact neB1 (by with_reducible assumption) | exact neA1 (by with_reducible assumption) | exact neF1 (by with_reducible assumption) | exact neE1 (by with_reducible assumption) | exact neB2 (by with_reducible assumption) | exact neA2 (by with_reducible assumption) | exact neF2 (by with_reducible assumption) | exact neE2 (by with_reducible assumption) | exact neB3 (by with_reducible assumption) | exact neA3 (by with_reducible assumption) | exact neF3 (by with_reducible assumption) | exact neE3 (by with_reducible assumption) | exact neB4 (by with_reducible assumption) | exact neA4 (by with_reducible assumption) | exact neF4 (by with_reducible assumption) | exact neE4 (by with_reducible assumption) | exact neB5 (by with_reducible assumption) | exact neA5 (by with_reducible assumption) | exact neF5 (by with_reducible assumption) | exact neE5 (by with_reducible assumption) | exact neB6 (by with_reducible assumption) | exact neA6 (by with_reducible assumption) | exact neF6 (by with_reducible assumption) | exact neE6 (by with_reducible assumption) | exact neB7 (by with_reducible assumption) | exact neA7 (by with_reducible assumption) | exact neF7 (by with_reducible assumption) | exact neE7 (by with_reducible assumption) | exact neB8 (by with_reducible assumption) | exact neA8 (by with_reducible assumption) | exact neF8 (by with_reducible assumption) | exact neE8 (by with_reducible assumption) | exact neB9 (by with_reducible assumption) | exact neA9 (by with_reducible assumption) | exact neF9 (by with_reducible assumption) | exact neE9 (by with_reducible assumption) | exact neB10 (by with_reducible assumption) | exact neA10 (by with_reducible assumption) | exact neF10 (by with_reducible assumption) | exact neE10 (by with_reducible assumption) | exact neB11 (by with_reducible assumption) | exact neA11 (by with_reducible assumption) | exact neF11 (by with_reducible assumption) | exact neE11 (by with_reducible assumption) | exact neB12 (by with_reducible assumption) | exact neA12 (by with_reducible assumption) | exact neF12 (by with_reducible assumption) | exact neE12 (by with_reducible assumption))
  k_with "call builtin:len" => (k_here; (with_reducible show wpAny _ _ (call (Value.builtin "len") [Value.ref _]) _ _ _); k_dflt (refine' KM.len_K (by k_asm) (by (first | assumption | k_mem)) (by (first | exact List.size_toArray | with_reducible rfl)) (by (first | omega | (simp only [List.size_toArray, List.length_append, List.length_cons, List.length_nil]; omega))) ?_))
  k_with "k_all" => assumption
  k_with "call type:list" => (k_here; (with_reducible show wpAny _ _ (call (Value.type _) [Value.ref _]) _ _ _); k_dflt (refine' list_baseT (by k_asm) (by k_asm) (by k_asm) (by k_is) (by exact rfl) ?_); intro D' c' h' F' N' l1; (try k_lt l1); (try k_sweep))
  k_with "call builtin:len" => (k_here; (with_reducible show wpAny _ _ (call (Value.builtin "len") [Value.ref _]) _ _ _); k_dflt (refine' KM.len_K (by k_asm) (by k_mem) (by exact Array.size_push _) (by (simp only [List.size_toArray]; omega)) ?_))
  intro w t td kd sp nm at' tx pa ch ct kv sv nv av tv pv cv e1 e2 e3 e4 e5 e6 e7 oc g0 g1 g2 g3 g4 g5 g6 g7 u0 u1 u2 u3 u4 u5 u6 u7 rest kind space name tk1 tk2 tk3 oR oS oN oA oX oP oC od o1 o2 o3 o4 o5 o6 o7 o8 o9 hz
  unfold Ctr TL
  k_fill
  obtain ⟨hz1, hz2, hz3, hz4, hz5, hz6, hz7⟩ := hz
  have P2 : @LT.lt Nat _ t kd ∧ @LT.lt Nat _ td kd := ⟨o1, o2⟩
  have P3 : @LT.lt Nat _ t sp ∧ @LT.lt Nat _ td sp ∧ @LT.lt Nat _ kd sp := ⟨Nat.lt_trans P2.1 o3, Nat.lt_trans P2.2 o3, o3⟩
  have P4 : @LT.lt Nat _ t nm ∧ @LT.lt Nat _ td nm ∧ @LT.lt Nat _ kd nm ∧ @LT.lt Nat _ sp nm := ⟨Nat.lt_trans P3.1 o4, Nat.lt_trans P3.2.1 o4, Nat.lt_trans P3.2.2 o4, o4⟩
  have P5 : @LT.lt Nat _ t at' ∧ @LT.lt Nat _ td at' ∧ @LT.lt Nat _ kd at' ∧ @LT.lt Nat _ sp at' ∧ @LT.lt Nat _ nm at' := ⟨Nat.lt_trans P4.1 o5, Nat.lt_trans P4.2.1 o5, Nat.lt_trans P4.2.2.1 o5, Nat.lt_trans P4.2.2.2 o5, o5⟩
  have P6 : @LT.lt Nat _ t tx ∧ @LT.lt Nat _ td tx ∧ @LT.lt Nat _ kd tx ∧ @LT.lt Nat _ sp tx ∧ @LT.lt Nat _ nm tx ∧ @LT.lt Nat _ at' tx := ⟨Nat.lt_trans P5.1 o6, Nat.lt_trans P5.2.1 o6, Nat.lt_trans P5.2.2.1 o6, Nat.lt_trans P5.2.2.2.1 o6, Nat.lt_trans P5.2.2.2.2 o6, o6⟩
  have P7 : @LT.lt Nat _ t pa ∧ @LT.lt Nat _ td pa ∧ @LT.lt Nat _ kd pa ∧ @LT.lt Nat _ sp pa ∧ @LT.lt Nat _ nm pa ∧ @LT.lt Nat _ at' pa ∧ @LT.lt Nat _ tx pa := ⟨Nat.lt_trans P6.1 o7, Nat.lt_trans P6.2.1 o7, Nat.lt_trans P6.2.2.1 o7, Nat.lt_trans P6.2.2.2.1 o7, Nat.lt_trans P6.2.2.2.2.1 o7, Nat.lt_trans P6.2.2.2.2.2 o7, o7⟩
  have P8 : @LT.lt Nat _ t ch ∧ @LT.lt Nat _ td ch ∧ @LT.lt Nat _ kd ch ∧ @LT.lt Nat _ sp ch ∧ @LT.lt Nat _ nm ch ∧ @LT.lt Nat _ at' ch ∧ @LT.lt Nat _ tx ch ∧ @LT.lt Nat _ pa ch := ⟨Nat.lt_trans P7.1 o8, Nat.lt_trans P7.2.1 o8, Nat.lt_trans P7.2.2.1 o8, Nat.lt_trans P7.2.2.2.1 o8, Nat.lt_trans P7.2.2.2.2.1 o8, Nat.lt_trans P7.2.2.2.2.2.1 o8, Nat.lt_trans P7.2.2.2.2.2.2 o8, o8⟩
  have P9 : @LT.lt Nat _ t ct ∧ @LT.lt Nat _ td ct ∧ @LT.lt Nat _ kd ct ∧ @LT.lt Nat _ sp ct ∧ @LT.lt Nat _ nm ct ∧ @LT.lt Nat _ at' ct ∧ @LT.lt Nat _ tx ct ∧ @LT.lt Nat _ pa ct ∧ @LT.lt Nat _ ch ct := ⟨Nat.lt_trans P8.1 o9, Nat.lt_trans P8.2.1 o9, Nat.lt_trans P8.2.2.1 o9, Nat.lt_trans P8.2.2.2.1 o9, Nat.lt_trans P8.2.2.2.2.1 o9, Nat.lt_trans P8.2.2.2.2.2.1 o9, Nat.lt_trans P8.2.2.2.2.2.2.1 o9, Nat.lt_trans P8.2.2.2.2.2.2.2 o9, o9⟩
  intro dp un gd cn cs a ccd cl outer A₀ base h₀ L m s Q E p loose mean mg mb B F X N T hk hd hu hret
  refine wpAny_call ?_
  k_dflt (refine' code_def (by k_asm) (by k_asm) (by k_asm) (by k_asm) (by k_asm) (by exact rfl) (by exact rfl) (by assumption) (by k_is) (by k_is) (by ktr_room) (by (first | exact BindsTo.of_eq rfl | exact binds_K (by k_in) rfl (by k_is) rfl rfl rfl)) (by exact locs rfl) ?_ (by exact rfl) (by exact rfl) (by exact rfl) (by decide); k_whole; intro g' L' h' FG' F' N' B' X' T'; (try dsimp only); (try k_lift B'); (try k_fold))
  k_steps
  rename News h₀ L _ _ => kN
  simp only [List.push_toArray] at kN
  rename (@LT.lt Nat _ t _ ∧ _) => la
  rename (_ ∧ @LT.lt Nat _ t _ ∧ _) => lb
  have e : ((kv.toArray.size + 1 : Nat) : Int) - 1 = (kv.length : Nat) := by rw [List.size_toArray]; omega
  rw [e]
  exact hret _ _ _ _ ⟨⟨_, rfl⟩, _, _, _, _, _, _, rfl, la.2.2.2.2.2.2.2.2.2.1, lb.1, allLt_mem la.2.2.2.2.2.2.2.2.2.2⟩ (by assumption) kN
set_option maxRecDepth 100000 in
set_option maxHeartbeats 0 in
theorem element_ctr : ∀ (w : World) (t td kd sp nm at' tx pa ch ct : Addr) (kv sv nv av tv pv cv : List Value) (e1 e2 e3 e4 e5 e6 e7 : Nat) (oc : Obj) (g0 g1 g2 g3 g4 g5 g6 g7 : Int) (u0 u1 u2 u3 u4 u5 u6 u7 : Tok) (rest : Led) (name space : Str) (tk2 tk3 : Tok) (oR : ∀ p ∈ rest, p.1 ≠ kd) (oS : ∀ p ∈ rest, p.1 ≠ sp) (oN : ∀ p ∈ rest, p.1 ≠ nm) (oA : ∀ p ∈ rest, p.1 ≠ at') (oX : ∀ p ∈ rest, p.1 ≠ tx) (oP : ∀ p ∈ rest, p.1 ≠ pa) (oC : ∀ p ∈ rest, p.1 ≠ ch) (od : @Ne Nat t td) (o1 : @LT.lt Nat _ t kd) (o2 : @LT.lt Nat _ td kd) (o3 : @LT.lt Nat _ kd sp) (o4 : @LT.lt Nat _ sp nm) (o5 : @LT.lt Nat _ nm at') (o6 : @LT.lt Nat _ at' tx) (o7 : @LT.lt Nat _ tx pa) (o8 : @LT.lt Nat _ pa ch) (o9 : @LT.lt Nat _ ch ct) (hz : kv.length ≤ 100 ∧ sv.length ≤ 100 ∧ nv.length ≤ 100 ∧ av.length ≤ 100 ∧ tv.length ≤ 100 ∧ pv.length ≤ 100 ∧ cv.length ≤ 100) (hnt : (name == Str.ofString "template") = false),
      Ctr w 9 250 219 [.ref t, .str name tk3, .str space tk2] (TL t td kd sp nm at' tx pa ch ct kv sv nv av tv pv cv e1 e2 e3 e4 e5 e6 e7 oc g0 g1 g2 g3 g4 g5 g6 g7 u0 u1 u2 u3 u4 u5 u6 u7 rest) (fun r n' => (∃ tk, r = .int (kv.length : Nat) tk) ∧ ∃ (a b : Addr) (c1 c2 : Nat) (tk1 ta tb : Tok), n' = (b, listOf (List.toArray []) c2) :: (a, listOf (List.toArray []) c1) :: TL t td kd sp nm at' tx pa ch ct (kv ++ [.str (Str.ofString "element") tk1]) (sv ++ [.str space tk2]) (nv ++ [.str name tk3]) (av ++ [.ref a]) (tv ++ [.str (Str.ofString "") ta]) (pv ++ [.int (-1) tb]) (cv ++ [.ref b]) (e1 + 1) (e2 + 1) (e3 + 1) (e4 + 1) (e5 + 1) (e6 + 1) (e7 + 1) oc g0 g1 g2 g3 g4 g5 g6 g7 u0 u1 u2 u3 u4 u5 u6 u7 rest ∧ @LT.lt Nat _ ct a ∧ @LT.lt Nat _ a b ∧ ∀ p ∈ rest, @LT.lt Nat _ p.1 a) := by
  k_with "callm" => (k_here; (with_reducible show wpAny _ _ (call (Value.ref 210) _) _ _ _); k_dflt (refine' Ctr.use (by k_asm) (by k_asm) (by k_asm) (by k_asm) (by k_asm) (by (first | exact rfl | assumption)) (add_ctr _ _ _ _ _ _ _ _ _ _ _ _ _ _ _ _ _ _ _ _ _ _ _ _ _ _ _ _ _ _ _ _ _ _ _ _ _ _ _ _ _ _ _ _ _ _ _ _ _ (by assumption) (by assumption) (by assumption) (by assumption) (by assumption) (by assumption) (by assumption) (by assumption) (by assumption) (by assumption) (by assumption) (by assumption) (by assumption) (by assumption) (by assumption) (by assumption) (by assumption) (by (first | assumption | exact ⟨by omega, by omega, by omega, by omega, by omega, by omega, by omega⟩))) (by (first | exact room hd rfl | ktr_room)) (by (first | exact room hu rfl | ktr_units)) ?_); (k_dflt (intro r9 n9 h9 tk9 p9 F9 N9; (try k_fold); obtain ⟨⟨t9, rx9⟩, a9, b9, c9, d9, ta9, tb9, e9', la9, lb9, lc9⟩ := p9; subst r9; subst n9; unfold TL at N9)); (try dsimp only); (try k_fold))
  intro w t td kd sp nm at' tx pa ch ct kv sv nv av tv pv cv e1 e2 e3 e4 e5 e6 e7 oc g0 g1 g2 g3 g4 g5 g6 g7 u0 u1 u2 u3 u4 u5 u6 u7 rest name space tk2 tk3 oR oS oN oA oX oP oC od o1 o2 o3 o4 o5 o6 o7 o8 o9 hz hnt
  unfold Ctr TL
  k_fill
  have hz' := hz
  obtain ⟨hz1, hz2, hz3, hz4, hz5, hz6, hz7⟩ := hz
  have P2 : @LT.lt Nat _ t kd ∧ @LT.lt Nat _ td kd := ⟨o1, o2⟩
  have P3 : @LT.lt Nat _ t sp ∧ @LT.lt Nat _ td sp ∧ @LT.lt Nat _ kd sp := ⟨Nat.lt_trans P2.1 o3, Nat.lt_trans P2.2 o3, o3⟩
  have P4 : @LT.lt Nat _ t nm ∧ @LT.lt Nat _ td nm ∧ @LT.lt Nat _ kd nm ∧ @LT.lt Nat _ sp nm := ⟨Nat.lt_trans P3.1 o4, Nat.lt_trans P3.2.1 o4, Nat.lt_trans P3.2.2 o4, o4⟩
  have P5 : @LT.lt Nat _ t at' ∧ @LT.lt Nat _ td at' ∧ @LT.lt Nat _ kd at' ∧ @LT.lt Nat _ sp at' ∧ @LT.lt Nat _ nm at' := ⟨Nat.lt_trans P4.1 o5, Nat.lt_trans P4.2.1 o5, Nat.lt_trans P4.2.2.1 o5, Nat.lt_trans P4.2.2.2 o5, o5⟩
  have P6 : @LT.lt Nat _ t tx ∧ @LT.lt Nat _ td tx ∧ @LT.lt Nat _ kd tx ∧ @LT.lt Nat _ sp tx ∧ @LT.lt Nat _ nm tx ∧ @LT.lt Nat _ at' tx := ⟨Nat.lt_trans P5.1 o6, Nat.lt_trans P5.2.1 o6, Nat.lt_trans P5.2.2.1 o6, Nat.lt_trans P5.2.2.2.1 o6, Nat.lt_trans P5.2.2.2.2 o6, o6⟩
  have P7 : @LT.lt Nat _ t pa ∧ @LT.lt Nat _ td pa ∧ @LT.lt Nat _ kd pa ∧ @LT.lt Nat _ sp pa ∧ @LT.lt Nat _ nm pa ∧ @LT.lt Nat _ at' pa ∧ @LT.lt Nat _ tx pa := ⟨Nat.lt_trans P6.1 o7, Nat.lt_trans P6.2.1 o7, Nat.lt_trans P6.2.2.1 o7, Nat.lt_trans P6.2.2.2.1 o7, Nat.lt_trans P6.2.2.2.2.1 o7, Nat.lt_trans P6.2.2.2.2.2 o7, o7⟩
  have P8 : @LT.lt Nat _ t ch ∧ @LT.lt Nat _ td ch ∧ @LT.lt Nat _ kd ch ∧ @LT.lt Nat _ sp ch ∧ @LT.lt Nat _ nm ch ∧ @LT.lt Nat _ at' ch ∧ @LT.lt Nat _ tx ch ∧ @LT.lt Nat _ pa ch := ⟨Nat.lt_trans P7.1 o8, Nat.lt_trans P7.2.1 o8, Nat.lt_trans P7.2.2.1 o8, Nat.lt_trans P7.2.2.2.1 o8, Nat.lt_trans P7.2.2.2.2.1 o8, Nat.lt_trans P7.2.2.2.2.2.1 o8, Nat.lt_trans P7.2.2.2.2.2.2 o8, o8⟩
  have P9 : @LT.lt Nat _ t ct ∧ @LT.lt Nat _ td ct ∧ @LT.lt Nat _ kd ct ∧ @LT.lt Nat _ sp ct ∧ @LT.lt Nat _ nm ct ∧ @LT.lt Nat _ at' ct ∧ @LT.lt Nat _ tx ct ∧ @LT.lt Nat _ pa ct ∧ @LT.lt Nat _ ch ct := ⟨Nat.lt_trans P8.1 o9, Nat.lt_trans P8.2.1 o9, Nat.lt_trans P8.2.2.1 o9, Nat.lt_trans P8.2.2.2.1 o9, Nat.lt_trans P8.2.2.2.2.1 o9, Nat.lt_trans P8.2.2.2.2.2.1 o9, Nat.lt_trans P8.2.2.2.2.2.2.1 o9, Nat.lt_trans P8.2.2.2.2.2.2.2 o9, o9⟩
  intro dp un gd cn cs a ccd cl outer A₀ base h₀ L m s Q E p loose mean mg mb B F X N T hk hd hu hret
  refine wpAny_call ?_
  k_dflt (refine' code_def (by k_asm) (by k_asm) (by k_asm) (by k_asm) (by k_asm) (by exact rfl) (by exact rfl) (by assumption) (by k_is) (by k_is) (by ktr_room) (by (first | exact BindsTo.of_eq rfl | exact binds_K (by k_in) rfl (by k_is) rfl rfl rfl)) (by exact locs rfl) ?_ (by exact rfl) (by exact rfl) (by exact rfl) (by decide); k_whole; intro g' L' h' FG' F' N' B' X' T'; (try dsimp only); (try k_lift B'); (try k_fold))
  k_steps
  all_goals
    rename News h₀ L _ _ => kN
    exact hret _ _ _ _ ⟨⟨_, rfl⟩, _, _, _, _, _, _, _, rfl, by assumption, by assumption, by assumption⟩ (by assumption) kN
set_option maxRecDepth 100000 in
set_option maxHeartbeats 0 in
theorem above_ctr : ∀ (w : World) (news : Led) (t td pa : Addr) (pv : List Value) (P : List Int) (e6 k : Nat) (tk : Tok) (g0 g1 g2 g3 g4 g5 g6 g7 : Int) (u0 u1 u2 u3 u4 u5 u6 u7 : Tok) (v0 v1 v2 v3 v4 v6 v7 : Value) (h1 : (t, instObj 300 td) ∈ news) (h2 : (td, dictOf [⟨g0, .str (Str.ofString "kinds") u0, v0⟩, ⟨g1, .str (Str.ofString "spaces") u1, v1⟩, ⟨g2, .str (Str.ofString "names") u2, v2⟩, ⟨g3, .str (Str.ofString "attrs") u3, v3⟩, ⟨g4, .str (Str.ofString "texts") u4, v4⟩, ⟨g5, .str (Str.ofString "parents") u5, .ref pa⟩, ⟨g6, .str (Str.ofString "children") u6, v6⟩, ⟨g7, .str (Str.ofString "contents") u7, v7⟩] 8) ∈ news) (h3 : (pa, listOf pv.toArray e6) ∈ news) (hi : IntsAre pv P) (hP : ∀ j, j ≤ k → P.getD j 0 = (j : Int) - 1) (hk : k < P.length) (hz : P.length ≤ 100),
      Ctr w 3 150 311 [.ref t, .int (k : Nat) tk] news (fun r n' => ∃ D vs ns e, r = .ref D ∧ n' = (D, listOf (List.toArray vs) e) :: news ∧ IntsAre vs ns ∧ ns.length ≤ 100 ∧ (∀ x ∈ ns, x < (k : Int)) ∧ ∀ p ∈ news, p.1 < D) := by
  k_with_none
  k_with "call builtin:len" => (k_here; (with_reducible show wpAny _ _ (call (Value.builtin "len") [Value.ref _]) _ _ _); k_dflt (refine' KM.len_K (by k_asm) (by (first | assumption | k_mem)) (by (first | exact List.size_toArray | with_reducible rfl)) (by (first | omega | (simp only [List.size_toArray, List.length_append, List.length_cons, List.length_nil]; omega))) ?_))
  k_with "k_all" => assumption
  k_with "subscriptTail Attribute Name ref int" => (k_here; k_dflt (refine' item_intsT (by k_asm) (by k_mem) (by with_reducible assumption) (by (first | with_reducible assumption | omega)) (by (first | with_reducible assumption | omega)) (by (first | with_reducible assumption | omega)) ?_ (by with_unfolding_all rfl)); intro t9)
  k_with "exec While Compare cons nil" => (k_here; (with_unfolding_all refine' while_X (by k_asm) (by k_asm) (by passes_own) ?_))
  intro w news t td pa pv P e6 k tk g0 g1 g2 g3 g4 g5 g6 g7 u0 u1 u2 u3 u4 u5 u6 u7 v0 v1 v2 v3 v4 v6 v7 h1 h2 h3 hi hP hk hz
  unfold Ctr
  k_fill
  have hlen := hi.length
  intro dp un gd cn cs a ccd cl outer A₀ base h₀ L m s Q E p loose mean mg mb B F X N T hkkk hd hu hret
  refine wpAny_call ?_
  k_dflt cell_enter
  k_steps
  rename_i g1 L1 hh1 FG1 B1 X1 T1 l hh2 l1 hh3 tu hh4 F1 N1
  have hap : ∀ p ∈ news, p.1 ≠ l := fun p hp => Nat.ne_of_lt (l1 p hp)
  refine ⟨⟨Str.ofString "up", fun n v nx => n ≤ k ∧ ∃ vs ns e tv, v = .int ((n : Int) - 1) tv ∧ nx = (l, listOf (List.toArray vs) e) :: news ∧ IntsAre vs ns ∧ ns.length + n ≤ k ∧ (∀ x ∈ ns, x < (k : Int)), k, _, rfl, ⟨_, sub_refl, Nat.le_refl _, [], [], 0, tu, ?_, rfl, .nil, by simp, fun x hx => nomatch hx⟩, ?_⟩⟩
  · rw [Int.toNat_natCast, hP k (Nat.le_refl _)]
  · rintro n v news₁ h₁ tk₁ F₁ N₁ ⟨hn, vs, ns, e, tv, rfl, rfl, hi', hl, hx⟩
    have hlen' := hi'.length
    k_steps
    · rename News _ _ _ _ => NN
      rename Fr _ _ _ _ => FF
      rw [List.push_toArray] at NN
      rename (n : Int) - 1 ≠ -1 => a1
      have e1 : P.getD ((n : Int) - 1).toNat 0 = ((n - 1 : Nat) : Int) - 1 := by
        rw [show ((n : Int) - 1).toNat = n - 1 by omega, hP (n - 1) (by omega)]
      rw [e1] at FF
      refine ⟨_, _, _, _, n - 1, _, rfl, FF, NN, fun z hz => by simp only [hz, if_false], if_pos rfl, by omega, _, sub_refl, by omega, _, _, _, _, rfl, rfl, ints_push hi' _ _, by rw [List.length_append, List.length_singleton]; omega, fun x hm => ?_⟩
      rcases List.mem_append.mp hm with hm | hm
      · exact hx x hm
      · rw [List.mem_singleton.mp hm]; omega
    · rename News h₀ L _ _ => kN
      exact hret _ _ _ _ ⟨_, _, _, _, rfl, rfl, hi', by omega, hx, l1⟩ (by assumption) kN
section
open PySem PySem.W PyProof.Rows
section
variable {prog : Program} {w : World} {A : Around} {E : Value → Shared → Prop} {s : Shared} {h₀ : Heap} {L : Addr} {news : Led} {value slice : Expr} {a : Addr} {l : List Value} {n k : Nat} {u : Tok} {v : Value} {Q : Value → Shared → Prop}
theorem item_nat (N : News h₀ L s.heap news) (hm : (a, listOf l.toArray n) ∈ news) (hx : l[k]? = some v) (hz : k ≤ 1000) (h : Q v s)
    (hs : subscripted slice false (.ref a) (.int ((k : Nat) : Int) u) = operate [.ref a, .int ((k : Nat) : Int) u] (getItem (.ref a) (.int ((k : Nat) : Int) u))) :
    wpAny (model prog w) A (subscriptTail value slice (.ref a) (.int ((k : Nat) : Int) u)) Q E s := by
  have hl := News.isList N hm
  exact tail_any hl.typeIs slot_list_getitem.lookup (wpAny_getItem_list hl (Int.natCast_nonneg _) (by omega) (by rw [List.getElem?_toArray, Int.toNat_natCast]; exact hx) h) hs
theorem in_no {ns : List Int} {K x : Int} (N : News h₀ L s.heap news) (hm : (a, listOf l.toArray n) ∈ news) (hi : IntsAre l ns) (hx : ∀ y ∈ ns, y < K) (hk : K ≤ x) (h : Q (.bool false) s) :
    wpAny (model prog w) A (compareOp .In (.int x u) (.ref a)) Q E s := by
  refine in_list_ints (News.isList N hm) hi ?_
  have e : (ns.any (· == x)) = false := by
    rw [List.any_eq_false]
    intro y hy e
    have := hx y hy
    have := eq_of_beq e
    omega
  rw [e]; exact h
end
end
set_option maxRecDepth 100000 in
set_option maxHeartbeats 0 in
theorem remove_ctr : ∀ (w : World) (news : Led) (t td pa : Addr) (pv : List Value) (e6 k : Nat) (tk tb : Tok) (g0 g1 g2 g3 g4 g5 g6 g7 : Int) (u0 u1 u2 u3 u4 u5 u6 u7 : Tok) (v0 v1 v2 v3 v4 v6 v7 : Value) (h1 : (t, instObj 300 td) ∈ news) (h2 : (td, dictOf [⟨g0, .str (Str.ofString "kinds") u0, v0⟩, ⟨g1, .str (Str.ofString "spaces") u1, v1⟩, ⟨g2, .str (Str.ofString "names") u2, v2⟩, ⟨g3, .str (Str.ofString "attrs") u3, v3⟩, ⟨g4, .str (Str.ofString "texts") u4, v4⟩, ⟨g5, .str (Str.ofString "parents") u5, .ref pa⟩, ⟨g6, .str (Str.ofString "children") u6, v6⟩, ⟨g7, .str (Str.ofString "contents") u7, v7⟩] 8) ∈ news) (h3 : (pa, listOf pv.toArray e6) ∈ news) (hpn : pv[k]? = some (.int (-1) tb)) (hk : k ≤ 100),
      Ctr w 3 100 262 [.ref t, .int ((k : Nat) : Int) tk] news (fun r n' => r = .none ∧ n' = news) := by
  k_with_none
  k_with "k_ne" => (refine neN ?_; (try dsimp only); first | with_reducible assumption | exact Ne.symm (by with_reducible assumption) | exact neB0 (by with_reducible assumption) | exact neA0 (by with_reducible assumption) | exact neF0 (by with_reducible assumption) | exact neE0 (by with_reducible assumption) | exact neB1 (by with_reducible assumption) | exact neA1 (by with_reducible assumption) | exact neF1 (by with_reducible assumption) | exact neE1 (by with_reducible assumption) | exact neB2 (by with_reducible assumption) | exact neA2 (by with_reducible assumption) | exact neF2 (by with_reducible assumption) | exact neE2 (by with_reducible assumption) | exact neB3 (by with_reducible assumption) | exact neA3 (by with_reducible assumption) | exact neF3 (by with_reducible assumption) | exact neE3 (by with_reducible assumption) | exact neB4 (by with_reducible assumption) | exact neA4 (by with_reducible assumption) | exact neF4 (by with_reducible assumption) | exact neE4 (by with_reducible assumption) | exact neB5 (by with_reducible assumption) | exact neA5 (by with_reducible assumption) | exact neF5 (by with_reducible assumption) | exact neE5 (by with_reducible assumption) | exact neB6 (by with_reducible assumption) | exact neA6 (by with_reducible assumption) | exact neF6 (by with_reducible assumption) | exact neE6 (by with_reducible assumption) | exact neB7 (by with_reducible assumption) | exact neA7 (by with_reducible assumption) | exact neF7 (by with_reducible assumption) | exact neE7 (by with_reducible assumption) | exact neB8 (by with_reducible assumption) | exact neA8 (by with_reducible assumption) | exact neF8 (by with_reducible assumption) | exact neE8 (by with_reducible assumption) | exact neB9 (by with_reducible assumption) | exact neA9 (by with_reducible assumption) | exact neF9 (by with_reducible assumption) | exact neE9 (by with_reducible assumption) | exact neB10 (by with_reducible assumption) | exact neA10 (by with_reducible assumption) | exact neF10 (by with_reducible assumption) | exact neE10 (by with_reducible assumption) | exact neB11 (by with_reducible assumption) | exact neA11 (by with_reducible assumption) | exact neF11 (by with_reducible assumption) | exact neE11 (by with_reducible assumption) | exact neB12 (by with_reducible assumption) | exact neA12 (by with_reducible assumption) | exact neF12 (by with_reducible assumption) | exact neE12 (by with_reducible assumption))
  k_with "call builtin:len" => (k_here; (with_reducible show wpAny _ _ (call (Value.builtin "len") [Value.ref _]) _ _ _); k_dflt (refine' KM.len_K (by k_asm) (by (first | assumption | k_mem)) (by (first | exact List.size_toArray | with_reducible rfl)) (by (first | omega | (simp only [List.size_toArray, List.length_append, List.length_cons, List.length_nil]; omega))) ?_))
  k_with "k_all" => assumption
  k_with "subscriptTail Attribute" => (k_here; k_dflt (refine' item_nat (by k_asm) (by k_mem) (by assumption) (by (first | with_reducible assumption | omega)) ?_ (by with_unfolding_all rfl)))
  k_with "compareOp In int ref" => (k_here; k_dflt (refine' in_no (by k_asm) (by k_mem) (by assumption) (by assumption) (by (first | with_reducible assumption | omega)) ?_))
  k_with "callm" => (k_here; (with_reducible show wpAny _ _ (call (Value.ref 311) _) _ _ _); k_dflt (refine' Ctr.use (by k_asm) (by k_asm) (by k_asm) (by k_asm) (by k_asm) (by (first | exact rfl | assumption)) (above_ctr _ _ _ _ _ _ _ _ _ _ _ _ _ _ _ _ _ _ _ _ _ _ _ _ _ _ _ _ _ _ _ _ _ (by k_mem) (by k_mem) (by k_mem) (by assumption) (by assumption) (by (first | with_reducible assumption | omega)) (by (first | with_reducible assumption | omega))) (by (first | exact room hd rfl | ktr_room)) (by (first | exact room hu rfl | ktr_units)) ?_); (k_dflt (intro r9 n9 h9 tk9 p9 F9 N9; (try k_fold); obtain ⟨D9, vs9, ns9, e9, rx9, e9', i9, lz9, x9, lt9⟩ := p9; subst r9; subst n9; (try k_lt lt9))); (try dsimp only); (try k_fold))
  k_with "exec Raise some none" => (exfalso; omega)
  intro w news t td pa pv e6 k tk tb g0 g1 g2 g3 g4 g5 g6 g7 u0 u1 u2 u3 u4 u5 u6 u7 v0 v1 v2 v3 v4 v6 v7 h1 h2 h3 hpn hk
  unfold Ctr
  k_fill
  intro dp un gd cn cs a ccd cl outer A₀ base h₀ L m s Q E p loose mean mg mb B F X N T hkk hd hu hret
  refine wpAny_call ?_
  k_dflt cell_enter
  k_steps
  rename News h₀ L _ _ => kN
  exact hret _ _ _ _ ⟨rfl, rfl⟩ (by assumption) kN
set_option maxRecDepth 100000 in
set_option maxHeartbeats 0 in
theorem insert_ctr : ∀ (w : World) (t td kd sp nm at' tx pa ch ct : Addr) (kv sv nv av tv pv cv : List Value) (e1 e2 e3 e4 e5 e6 e7 : Nat) (oc : Obj) (g0 g1 g2 g3 g4 g5 g6 g7 : Int) (u0 u1 u2 u3 u4 u5 u6 u7 : Tok) (rest : Led) (c : Addr) (ec k : Nat) (P : List Int) (tkp tkn tb : Tok) (oR : ∀ p ∈ rest, p.1 ≠ kd) (oS : ∀ p ∈ rest, p.1 ≠ sp) (oN : ∀ p ∈ rest, p.1 ≠ nm) (oA : ∀ p ∈ rest, p.1 ≠ at') (oX : ∀ p ∈ rest, p.1 ≠ tx) (oP : ∀ p ∈ rest, p.1 ≠ pa) (oC : ∀ p ∈ rest, p.1 ≠ ch) (oc' : ∀ p ∈ rest, p.1 ≠ c) (od : @Ne Nat t td) (o1 : @LT.lt Nat _ t kd) (o2 : @LT.lt Nat _ td kd) (o3 : @LT.lt Nat _ kd sp) (o4 : @LT.lt Nat _ sp nm) (o5 : @LT.lt Nat _ nm at') (o6 : @LT.lt Nat _ at' tx) (o7 : @LT.lt Nat _ tx pa) (o8 : @LT.lt Nat _ pa ch) (o9 : @LT.lt Nat _ ch ct) (oz : @LT.lt Nat _ ct c) (hz : kv.length ≤ 100 ∧ sv.length ≤ 100 ∧ nv.length ≤ 100 ∧ av.length ≤ 100 ∧ tv.length ≤ 100 ∧ pv.length ≤ 100 ∧ cv.length ≤ 100) (hi : IntsAre pv P) (hP : ∀ j, j ≤ k → P.getD j 0 = (j : Int) - 1) (hl : P.length = k + 2) (hpn : pv[k + 1]? = some (.int (-1) tb)) (hcv : cv[k]? = some (.ref c)),
      Ctr w 12 350 248 [.ref t, .int (k : Nat) tkp, .int ((k + 1 : Nat) : Int) tkn] (TL t td kd sp nm at' tx pa ch ct kv sv nv av tv pv cv e1 e2 e3 e4 e5 e6 e7 oc g0 g1 g2 g3 g4 g5 g6 g7 u0 u1 u2 u3 u4 u5 u6 u7 ((c, listOf (List.toArray []) ec) :: rest)) (fun r n' => r = .none ∧ n' = TL t td kd sp nm at' tx pa ch ct kv sv nv av tv (pv.set (k + 1) (.int (k : Nat) tkp)) cv e1 e2 e3 e4 e5 e6 e7 oc g0 g1 g2 g3 g4 g5 g6 g7 u0 u1 u2 u3 u4 u5 u6 u7 ((c, listOf (List.toArray [.int ((k + 1 : Nat) : Int) tkn]) (ec + 1)) :: rest)) := by
  k_with "callm" => (k_here; (with_reducible show wpAny _ _ (call (Value.ref 262) _) _ _ _); k_dflt (refine' Ctr.use (by k_asm) (by k_asm) (by k_asm) (by k_asm) (by k_asm) (by (first | exact rfl | assumption)) (remove_ctr _ _ _ _ _ _ _ _ _ _ _ _ _ _ _ _ _ _ _ _ _ _ _ _ _ _ _ _ _ _ _ _ _ (by k_mem) (by k_mem) (by k_mem) (by assumption) (by (first | with_reducible assumption | omega))) (by (first | exact room hd rfl | ktr_room)) (by (first | exact room hu rfl | ktr_units)) ?_); (k_dflt (intro r9 n9 h9 tk9 p9 F9 N9; (try k_fold); obtain ⟨rx9, e9'⟩ := p9; subst r9; subst n9)); (try dsimp only); (try k_fold))
  k_with "getMethod ref" => (k_here; k_dflt (refine' method_inst (by k_asm) (by k_asm) (by k_inst) (by k_is) (by k_is) (by k_is) (by k_get) ?_; k_whole))
  intro w t td kd sp nm at' tx pa ch ct kv sv nv av tv pv cv e1 e2 e3 e4 e5 e6 e7 oc g0 g1 g2 g3 g4 g5 g6 g7 u0 u1 u2 u3 u4 u5 u6 u7 rest c ec k P tkp tkn tb oR oS oN oA oX oP oC oc' od o1 o2 o3 o4 o5 o6 o7 o8 o9 oz hz hi hP hl hpn hcv
  unfold Ctr TL
  k_fill
  have hz' := hz
  obtain ⟨hz1, hz2, hz3, hz4, hz5, hz6, hz7⟩ := hz
  have P2 : @LT.lt Nat _ t kd ∧ @LT.lt Nat _ td kd := ⟨o1, o2⟩
  have P3 : @LT.lt Nat _ t sp ∧ @LT.lt Nat _ td sp ∧ @LT.lt Nat _ kd sp := ⟨Nat.lt_trans P2.1 o3, Nat.lt_trans P2.2 o3, o3⟩
  have P4 : @LT.lt Nat _ t nm ∧ @LT.lt Nat _ td nm ∧ @LT.lt Nat _ kd nm ∧ @LT.lt Nat _ sp nm := ⟨Nat.lt_trans P3.1 o4, Nat.lt_trans P3.2.1 o4, Nat.lt_trans P3.2.2 o4, o4⟩
  have P5 : @LT.lt Nat _ t at' ∧ @LT.lt Nat _ td at' ∧ @LT.lt Nat _ kd at' ∧ @LT.lt Nat _ sp at' ∧ @LT.lt Nat _ nm at' := ⟨Nat.lt_trans P4.1 o5, Nat.lt_trans P4.2.1 o5, Nat.lt_trans P4.2.2.1 o5, Nat.lt_trans P4.2.2.2 o5, o5⟩
  have P6 : @LT.lt Nat _ t tx ∧ @LT.lt Nat _ td tx ∧ @LT.lt Nat _ kd tx ∧ @LT.lt Nat _ sp tx ∧ @LT.lt Nat _ nm tx ∧ @LT.lt Nat _ at' tx := ⟨Nat.lt_trans P5.1 o6, Nat.lt_trans P5.2.1 o6, Nat.lt_trans P5.2.2.1 o6, Nat.lt_trans P5.2.2.2.1 o6, Nat.lt_trans P5.2.2.2.2 o6, o6⟩
  have P7 : @LT.lt Nat _ t pa ∧ @LT.lt Nat _ td pa ∧ @LT.lt Nat _ kd pa ∧ @LT.lt Nat _ sp pa ∧ @LT.lt Nat _ nm pa ∧ @LT.lt Nat _ at' pa ∧ @LT.lt Nat _ tx pa := ⟨Nat.lt_trans P6.1 o7, Nat.lt_trans P6.2.1 o7, Nat.lt_trans P6.2.2.1 o7, Nat.lt_trans P6.2.2.2.1 o7, Nat.lt_trans P6.2.2.2.2.1 o7, Nat.lt_trans P6.2.2.2.2.2 o7, o7⟩
  have P8 : @LT.lt Nat _ t ch ∧ @LT.lt Nat _ td ch ∧ @LT.lt Nat _ kd ch ∧ @LT.lt Nat _ sp ch ∧ @LT.lt Nat _ nm ch ∧ @LT.lt Nat _ at' ch ∧ @LT.lt Nat _ tx ch ∧ @LT.lt Nat _ pa ch := ⟨Nat.lt_trans P7.1 o8, Nat.lt_trans P7.2.1 o8, Nat.lt_trans P7.2.2.1 o8, Nat.lt_trans P7.2.2.2.1 o8, Nat.lt_trans P7.2.2.2.2.1 o8, Nat.lt_trans P7.2.2.2.2.2.1 o8, Nat.lt_trans P7.2.2.2.2.2.2 o8, o8⟩
  have P9 : @LT.lt Nat _ t ct ∧ @LT.lt Nat _ td ct ∧ @LT.lt Nat _ kd ct ∧ @LT.lt Nat _ sp ct ∧ @LT.lt Nat _ nm ct ∧ @LT.lt Nat _ at' ct ∧ @LT.lt Nat _ tx ct ∧ @LT.lt Nat _ pa ct ∧ @LT.lt Nat _ ch ct := ⟨Nat.lt_trans P8.1 o9, Nat.lt_trans P8.2.1 o9, Nat.lt_trans P8.2.2.1 o9, Nat.lt_trans P8.2.2.2.1 o9, Nat.lt_trans P8.2.2.2.2.1 o9, Nat.lt_trans P8.2.2.2.2.2.1 o9, Nat.lt_trans P8.2.2.2.2.2.2.1 o9, Nat.lt_trans P8.2.2.2.2.2.2.2 o9, o9⟩
  have P10 : @LT.lt Nat _ t c ∧ @LT.lt Nat _ td c ∧ @LT.lt Nat _ kd c ∧ @LT.lt Nat _ sp c ∧ @LT.lt Nat _ nm c ∧ @LT.lt Nat _ at' c ∧ @LT.lt Nat _ tx c ∧ @LT.lt Nat _ pa c ∧ @LT.lt Nat _ ch c ∧ @LT.lt Nat _ ct c := ⟨Nat.lt_trans P9.1 oz, Nat.lt_trans P9.2.1 oz, Nat.lt_trans P9.2.2.1 oz, Nat.lt_trans P9.2.2.2.1 oz, Nat.lt_trans P9.2.2.2.2.1 oz, Nat.lt_trans P9.2.2.2.2.2.1 oz, Nat.lt_trans P9.2.2.2.2.2.2.1 oz, Nat.lt_trans P9.2.2.2.2.2.2.2.1 oz, Nat.lt_trans P9.2.2.2.2.2.2.2.2 oz, oz⟩
  have hlen := hi.length
  intro dp un gd cn cs a ccd cl outer A₀ base h₀ L m s Q E p loose mean mg mb B F X N T hk hd hu hret
  refine wpAny_call ?_
  k_dflt (refine' code_def (by k_asm) (by k_asm) (by k_asm) (by k_asm) (by k_asm) (by exact rfl) (by exact rfl) (by assumption) (by k_is) (by k_is) (by ktr_room) (by (first | exact BindsTo.of_eq rfl | exact binds_K (by k_in) rfl (by k_is) rfl rfl rfl)) (by exact locs rfl) ?_ (by exact rfl) (by exact rfl) (by exact rfl) (by decide); k_whole; intro g' L' h' FG' F' N' B' X' T'; (try dsimp only); (try k_lift B'); (try k_fold))
  k_steps
  · exfalso; omega
  · rename News h₀ L _ _ => kN
    exact hret _ _ _ _ ⟨rfl, rfl⟩ (by assumption) (fun p hp => kN p (List.mem_cons_of_mem _ hp))
set_option maxRecDepth 100000 in
set_option maxHeartbeats 0 in
theorem append_ctr : ∀ (w : World) (t td kd sp nm at' tx pa ch ct : Addr) (kv sv nv av tv pv cv : List Value) (e1 e2 e3 e4 e5 e6 e7 : Nat) (oc : Obj) (g0 g1 g2 g3 g4 g5 g6 g7 : Int) (u0 u1 u2 u3 u4 u5 u6 u7 : Tok) (rest : Led) (c : Addr) (ec k : Nat) (P : List Int) (tkp tkn tb : Tok) (oR : ∀ p ∈ rest, p.1 ≠ kd) (oS : ∀ p ∈ rest, p.1 ≠ sp) (oN : ∀ p ∈ rest, p.1 ≠ nm) (oA : ∀ p ∈ rest, p.1 ≠ at') (oX : ∀ p ∈ rest, p.1 ≠ tx) (oP : ∀ p ∈ rest, p.1 ≠ pa) (oC : ∀ p ∈ rest, p.1 ≠ ch) (oc' : ∀ p ∈ rest, p.1 ≠ c) (od : @Ne Nat t td) (o1 : @LT.lt Nat _ t kd) (o2 : @LT.lt Nat _ td kd) (o3 : @LT.lt Nat _ kd sp) (o4 : @LT.lt Nat _ sp nm) (o5 : @LT.lt Nat _ nm at') (o6 : @LT.lt Nat _ at' tx) (o7 : @LT.lt Nat _ tx pa) (o8 : @LT.lt Nat _ pa ch) (o9 : @LT.lt Nat _ ch ct) (oz : @LT.lt Nat _ ct c) (hz : kv.length ≤ 100 ∧ sv.length ≤ 100 ∧ nv.length ≤ 100 ∧ av.length ≤ 100 ∧ tv.length ≤ 100 ∧ pv.length ≤ 100 ∧ cv.length ≤ 100) (hi : IntsAre pv P) (hP : ∀ j, j ≤ k → P.getD j 0 = (j : Int) - 1) (hl : P.length = k + 2) (hpn : pv[k + 1]? = some (.int (-1) tb)) (hcv : cv[k]? = some (.ref c)) (kp kn : Int) (hkp : kp = (k : Nat)) (hkn : kn = ((k + 1 : Nat) : Int)),
      Ctr w 15 450 255 [.ref t, .int kp tkp, .int kn tkn] (TL t td kd sp nm at' tx pa ch ct kv sv nv av tv pv cv e1 e2 e3 e4 e5 e6 e7 oc g0 g1 g2 g3 g4 g5 g6 g7 u0 u1 u2 u3 u4 u5 u6 u7 ((c, listOf (List.toArray []) ec) :: rest)) (fun r n' => r = .none ∧ n' = TL t td kd sp nm at' tx pa ch ct kv sv nv av tv (pv.set (k + 1) (.int (k : Nat) tkp)) cv e1 e2 e3 e4 e5 e6 e7 oc g0 g1 g2 g3 g4 g5 g6 g7 u0 u1 u2 u3 u4 u5 u6 u7 ((c, listOf (List.toArray [.int ((k + 1 : Nat) : Int) tkn]) (ec + 1)) :: rest)) := by
  k_with "callm" => (k_here; (with_reducible show wpAny _ _ (call (Value.ref 248) _) _ _ _); k_dflt (refine' Ctr.use (by k_asm) (by k_asm) (by k_asm) (by k_asm) (by k_asm) (by (first | exact rfl | assumption)) (insert_ctr _ _ _ _ _ _ _ _ _ _ _ _ _ _ _ _ _ _ _ _ _ _ _ _ _ _ _ _ _ _ _ _ _ _ _ _ _ _ _ _ _ _ _ _ _ _ _ _ _ _ (by assumption) (by assumption) (by assumption) (by assumption) (by assumption) (by assumption) (by assumption) (by assumption) (by assumption) (by assumption) (by assumption) (by assumption) (by assumption) (by assumption) (by assumption) (by assumption) (by assumption) (by assumption) (by assumption) (by assumption) (by assumption) (by assumption) (by assumption) (by assumption) (by assumption)) (by (first | exact room hd rfl | ktr_room)) (by (first | exact room hu rfl | ktr_units)) ?_); (k_dflt (intro r9 n9 h9 tk9 p9 F9 N9; (try k_fold); obtain ⟨rx9, e9'⟩ := p9; subst r9; subst n9)); (try dsimp only); (try k_fold))
  intro w t td kd sp nm at' tx pa ch ct kv sv nv av tv pv cv e1 e2 e3 e4 e5 e6 e7 oc g0 g1 g2 g3 g4 g5 g6 g7 u0 u1 u2 u3 u4 u5 u6 u7 rest c ec k P tkp tkn tb oR oS oN oA oX oP oC oc' od o1 o2 o3 o4 o5 o6 o7 o8 o9 oz hz hi hP hl hpn hcv kp kn hkp hkn
  unfold Ctr
  k_fill
  subst hkp hkn
  unfold TL
  intro dp un gd cn cs a ccd cl outer A₀ base h₀ L m s Q E p loose mean mg mb B F X N T hk hd hu hret
  refine wpAny_call ?_
  k_dflt cell_enter
  k_steps
  rename News h₀ L _ _ => kN
  exact hret _ _ _ _ ⟨rfl, rfl⟩ (by assumption) kN
set_option maxRecDepth 100000 in
set_option maxHeartbeats 0 in
theorem add0_ctr : ∀ (w : World) (t td kd sp nm at' tx pa ch ct : Addr) (kv sv nv av tv pv cv : List Value) (e1 e2 e3 e4 e5 e6 e7 : Nat) (oc : Obj) (g0 g1 g2 g3 g4 g5 g6 g7 : Int) (u0 u1 u2 u3 u4 u5 u6 u7 : Tok) (rest : Led) (kind : Str) (tk1 : Tok) (oR : ∀ p ∈ rest, p.1 ≠ kd) (oS : ∀ p ∈ rest, p.1 ≠ sp) (oN : ∀ p ∈ rest, p.1 ≠ nm) (oA : ∀ p ∈ rest, p.1 ≠ at') (oX : ∀ p ∈ rest, p.1 ≠ tx) (oP : ∀ p ∈ rest, p.1 ≠ pa) (oC : ∀ p ∈ rest, p.1 ≠ ch) (od : @Ne Nat t td) (o1 : @LT.lt Nat _ t kd) (o2 : @LT.lt Nat _ td kd) (o3 : @LT.lt Nat _ kd sp) (o4 : @LT.lt Nat _ sp nm) (o5 : @LT.lt Nat _ nm at') (o6 : @LT.lt Nat _ at' tx) (o7 : @LT.lt Nat _ tx pa) (o8 : @LT.lt Nat _ pa ch) (o9 : @LT.lt Nat _ ch ct) (hz : kv.length ≤ 100 ∧ sv.length ≤ 100 ∧ nv.length ≤ 100 ∧ av.length ≤ 100 ∧ tv.length ≤ 100 ∧ pv.length ≤ 100 ∧ cv.length ≤ 100),
      Ctr w 6 150 210 [.ref t, .str kind tk1] (TL t td kd sp nm at' tx pa ch ct kv sv nv av tv pv cv e1 e2 e3 e4 e5 e6 e7 oc g0 g1 g2 g3 g4 g5 g6 g7 u0 u1 u2 u3 u4 u5 u6 u7 rest) (fun r n' => (∃ tk, r = .int (kv.length : Nat) tk) ∧ ∃ (a b : Addr) (c1 c2 : Nat) (tk2 tk3 ta tb : Tok), n' = (b, listOf (List.toArray []) c2) :: (a, listOf (List.toArray []) c1) :: TL t td kd sp nm at' tx pa ch ct (kv ++ [.str kind tk1]) (sv ++ [.str (Str.ofString "") tk2]) (nv ++ [.str (Str.ofString "") tk3]) (av ++ [.ref a]) (tv ++ [.str (Str.ofString "") ta]) (pv ++ [.int (-1) tb]) (cv ++ [.ref b]) (e1 + 1) (e2 + 1) (e3 + 1) (e4 + 1) (e5 + 1) (e6 + 1) (e7 + 1) oc g0 g1 g2 g3 g4 g5 g6 g7 u0 u1 u2 u3 u4 u5 u6 u7 rest ∧ @LT.lt Nat _ ct a ∧ @LT.lt Nat _ a b ∧ ∀ p ∈ rest, @LT.lt Nat _ p.1 a) := by
  k_with_none
  k_with "k_ne" => (refine neN ?_; (try dsimp only); first | with_reducible assumption | exact Ne.symm (by with_reducible assumption) | exact neB0 (by with_reducible assumption) | exact neA0 (by with_reducible assumption) | exact neF0 (by with_reducible assumption) | exact neE0 (by with_reducible assumption) | exact neB1 (by with_reducible assumption) | exact neA1 (by with_reducible assumption) | exact neF1 (by with_reducible assumption) | exact neE1 (by with_reducible assumption) | exact neB2 (by with_reducible assumption) | exact neA2 (by with_reducible assumption) | exact neF2 (by with_reducible assumption) | exact neE2 (by with_reducible assumption) | exact neB3 (by with_reducible assumption) | exact neA3 (by with_reducible assumption) | exact neF3 (by with_reducible assumption) | exact neE3 (by with_reducible assumption) | exact neB4 (by with_reducible assumption) | exact neA4 (by with_reducible assumption) | exact neF4 (by with_reducible assumption) | exact neE4 (by with_reducible assumption) | exact neB5 (by with_reducible assumption) | exact neA5 (by with_reducible assumption) | exact neF5 (by with_reducible assumption) | exact neE5 (by with_reducible assumption) | exact neB6 (by with_reducible assumption) | exact neA6 (by with_reducible assumption) | exact neF6 (by with_reducible assumption) | exact neE6 (by with_reducible assumption) | exact neB7 (by with_reducible assumption) | exact neA7 (by with_reducible assumption) | exact neF7 (by with_reducible assumption) | exact neE7 (by with_reducible assumption) | exact neB8 (by with_reducible assumption) | exact neA8 (by with_reducible assumption) | exact neF8 (by with_reducible assumption) | exact neE8 (by with_reducible assumption) | exact neB9 (by with_reducible assumption) | exact neA9 (by with_reducible assumption) | exact neF9 (by with_reducible assumption) | exact neE9 (by with_reducible assumption) | exact neB10 (by with_reducible assumption) | exact neA10 (by with_reducible assumption) | exact neF10 (by with_reducible assumption) | exact neE10 (by with_reducible assumption) | exact neB11 (by with_reducible assumption) | exact neA11 (by with_reducible assumption) | exact neF11 (by with_reducible assumption) | exact neE11 (by with_reducible assumption) | exact neB12 (by with_reducible assumption) | exact neA12 (by with_reducible assumption) | exact neF12 (by with_reducible assumption) | exact neE12 (by with_reducible assumption))
  k_with "call builtin:len" => (k_here; (with_reducible show wpAny _ _ (call (Value.builtin "len") [Value.ref _]) _ _ _); k_dflt (refine' KM.len_K (by k_asm) (by (first | assumption | k_mem)) (by (first | exact List.size_toArray | with_reducible rfl)) (by (first | omega | (simp only [List.size_toArray, List.length_append, List.length_cons, List.length_nil]; omega))) ?_))
  k_with "k_all" => assumption
  k_with "call type:list" => (k_here; (with_reducible show wpAny _ _ (call (Value.type _) [Value.ref _]) _ _ _); k_dflt (refine' list_baseT (by k_asm) (by k_asm) (by k_asm) (by k_is) (by exact rfl) ?_); intro D' c' h' F' N' l1; (try k_lt l1); (try k_sweep))
  k_with "call builtin:len" => (k_here; (with_reducible show wpAny _ _ (call (Value.builtin "len") [Value.ref _]) _ _ _); k_dflt (refine' KM.len_K (by k_asm) (by k_mem) (by exact Array.size_push _) (by (simp only [List.size_toArray]; omega)) ?_))
  intro w t td kd sp nm at' tx pa ch ct kv sv nv av tv pv cv e1 e2 e3 e4 e5 e6 e7 oc g0 g1 g2 g3 g4 g5 g6 g7 u0 u1 u2 u3 u4 u5 u6 u7 rest kind tk1 oR oS oN oA oX oP oC od o1 o2 o3 o4 o5 o6 o7 o8 o9 hz
  unfold Ctr TL
  k_fill
  obtain ⟨hz1, hz2, hz3, hz4, hz5, hz6, hz7⟩ := hz
  have P2 : @LT.lt Nat _ t kd ∧ @LT.lt Nat _ td kd := ⟨o1, o2⟩
  have P3 : @LT.lt Nat _ t sp ∧ @LT.lt Nat _ td sp ∧ @LT.lt Nat _ kd sp := ⟨Nat.lt_trans P2.1 o3, Nat.lt_trans P2.2 o3, o3⟩
  have P4 : @LT.lt Nat _ t nm ∧ @LT.lt Nat _ td nm ∧ @LT.lt Nat _ kd nm ∧ @LT.lt Nat _ sp nm := ⟨Nat.lt_trans P3.1 o4, Nat.lt_trans P3.2.1 o4, Nat.lt_trans P3.2.2 o4, o4⟩
  have P5 : @LT.lt Nat _ t at' ∧ @LT.lt Nat _ td at' ∧ @LT.lt Nat _ kd at' ∧ @LT.lt Nat _ sp at' ∧ @LT.lt Nat _ nm at' := ⟨Nat.lt_trans P4.1 o5, Nat.lt_trans P4.2.1 o5, Nat.lt_trans P4.2.2.1 o5, Nat.lt_trans P4.2.2.2 o5, o5⟩
  have P6 : @LT.lt Nat _ t tx ∧ @LT.lt Nat _ td tx ∧ @LT.lt Nat _ kd tx ∧ @LT.lt Nat _ sp tx ∧ @LT.lt Nat _ nm tx ∧ @LT.lt Nat _ at' tx := ⟨Nat.lt_trans P5.1 o6, Nat.lt_trans P5.2.1 o6, Nat.lt_trans P5.2.2.1 o6, Nat.lt_trans P5.2.2.2.1 o6, Nat.lt_trans P5.2.2.2.2 o6, o6⟩
  have P7 : @LT.lt Nat _ t pa ∧ @LT.lt Nat _ td pa ∧ @LT.lt Nat _ kd pa ∧ @LT.lt Nat _ sp pa ∧ @LT.lt Nat _ nm pa ∧ @LT.lt Nat _ at' pa ∧ @LT.lt Nat _ tx pa := ⟨Nat.lt_trans P6.1 o7, Nat.lt_trans P6.2.1 o7, Nat.lt_trans P6.2.2.1 o7, Nat.lt_trans P6.2.2.2.1 o7, Nat.lt_trans P6.2.2.2.2.1 o7, Nat.lt_trans P6.2.2.2.2.2 o7, o7⟩
  have P8 : @LT.lt Nat _ t ch ∧ @LT.lt Nat _ td ch ∧ @LT.lt Nat _ kd ch ∧ @LT.lt Nat _ sp ch ∧ @LT.lt Nat _ nm ch ∧ @LT.lt Nat _ at' ch ∧ @LT.lt Nat _ tx ch ∧ @LT.lt Nat _ pa ch := ⟨Nat.lt_trans P7.1 o8, Nat.lt_trans P7.2.1 o8, Nat.lt_trans P7.2.2.1 o8, Nat.lt_trans P7.2.2.2.1 o8, Nat.lt_trans P7.2.2.2.2.1 o8, Nat.lt_trans P7.2.2.2.2.2.1 o8, Nat.lt_trans P7.2.2.2.2.2.2 o8, o8⟩
  have P9 : @LT.lt Nat _ t ct ∧ @LT.lt Nat _ td ct ∧ @LT.lt Nat _ kd ct ∧ @LT.lt Nat _ sp ct ∧ @LT.lt Nat _ nm ct ∧ @LT.lt Nat _ at' ct ∧ @LT.lt Nat _ tx ct ∧ @LT.lt Nat _ pa ct ∧ @LT.lt Nat _ ch ct := ⟨Nat.lt_trans P8.1 o9, Nat.lt_trans P8.2.1 o9, Nat.lt_trans P8.2.2.1 o9, Nat.lt_trans P8.2.2.2.1 o9, Nat.lt_trans P8.2.2.2.2.1 o9, Nat.lt_trans P8.2.2.2.2.2.1 o9, Nat.lt_trans P8.2.2.2.2.2.2.1 o9, Nat.lt_trans P8.2.2.2.2.2.2.2 o9, o9⟩
  intro dp un gd cn cs a ccd cl outer A₀ base h₀ L m s Q E p loose mean mg mb B F X N T hk hd hu hret
  refine wpAny_call ?_
  k_dflt (refine' code_def (by k_asm) (by k_asm) (by k_asm) (by k_asm) (by k_asm) (by exact rfl) (by exact rfl) (by assumption) (by k_is) (by k_is) (by ktr_room) (by (first | exact BindsTo.of_eq rfl | exact binds_K (by k_in) rfl (by k_is) rfl rfl rfl)) (by exact locs rfl) ?_ (by exact rfl) (by exact rfl) (by exact rfl) (by decide); k_whole; intro g' L' h' FG' F' N' B' X' T'; (try dsimp only); (try k_lift B'); (try k_fold))
  k_steps
  rename News h₀ L _ _ => kN
  simp only [List.push_toArray] at kN
  rename (@LT.lt Nat _ t _ ∧ _) => la
  rename (_ ∧ @LT.lt Nat _ t _ ∧ _) => lb
  have e : ((kv.toArray.size + 1 : Nat) : Int) - 1 = (kv.length : Nat) := by rw [List.size_toArray]; omega
  rw [e]
  exact hret _ _ _ _ ⟨⟨_, rfl⟩, _, _, _, _, _, _, _, _, rfl, la.2.2.2.2.2.2.2.2.2.1, lb.1, allLt_mem la.2.2.2.2.2.2.2.2.2.2⟩ (by assumption) kN
section
open PySem PySem.W PyProof.Rows PySem.Calls PySem.Spec PyProof.Rows.LCg
section
variable {prog : Program} {w : World} {A : Around} {E : Value → Shared → Prop} {s : Shared} {h₀ : Heap} {L : Addr} {m : Str → Option Value} {env : Env}
/-- the end of an element's evaluation: the ledger stands, J of the items so far -/
def EltEnd (h₀ : Heap) (L : Addr) (m : Str → Option Value) (s : Shared) (news : List (Addr × Obj)) (J : Value → Prop) (y : Value) (s₂ : Shared) : Prop :=
  ∃ h' tk, s₂ = { s with heap := h', toks := tk } ∧ Fr h₀ L h' m ∧ News h₀ L h' news ∧ J y
/-- a comprehension over a range, by an invariant of the items -/
theorem range_src {elt : Expr} {x : Str} {scope : Scope} {cl : List (Str × Addr)} {Fin : Shared → List Value → List (Addr × Obj) → Prop} {r : Addr} {b : Int} {t u v : Tok} {n : Nat} {news : List (Addr × Obj)}
    (hh : A.handled = none) (F : Fr h₀ L s.heap m) (N : News h₀ L s.heap news) (hr : IsRange s.heap r 0 b 1 t u v) (hsm : Builtin.Range.small 0 b 1 = true) (hn : Builtin.Range.rangeSize 0 b 1 = ((n : Nat) : Int)) (hz : n ≤ 1000)
    (h : Later (∃ J : Nat → List Value → Prop, J 0 [] ∧
      (∀ (i : Nat) (ys : List Value) (ti : Tok) I oI C oC D m₂ h tk (E' : Value → Shared → Prop), i < n → J i ys → NsObj oC m₂ → m₂ x = some (.int (i : Nat) ti) → Fr h₀ L h m → News h₀ L h ((I, oI) :: (C, oC) :: (D, lst ys) :: news) →
        wpAny (model prog w) A (eval elt (compEnvC scope cl C env)) (EltEnd h₀ L m s ((I, oI) :: (C, oC) :: (D, lst ys) :: news) (fun y => J (i + 1) (ys ++ [y]))) E' { s with heap := h, toks := tk }) ∧
      (∀ h' zs, J n zs → Fin { s with heap := h' } zs news))) :
    CompSrc prog w A h₀ L m env elt x scope cl Fin (.ref r) s := by
  obtain ⟨J, J0, T, fin⟩ := h.out
  refine CompSrc.range hh F N hr hsm hn (by rw [PySem.sizeLine_eq]; omega) fun g => ?_
  have key : ∀ (j i : Nat) (zs : List Value), i + j = n → J i zs →
      CompRest prog w A h₀ L m env elt x scope cl { s with heap := g } (fun _ => True) (fun i v => ∃ t, v = .int (0 + (i : Int)) t) (Fin { s with heap := g }) j i zs news := by
    intro j
    induction j with
    | zero =>
      intro i zs hij hJ
      have e : i = n := by omega
      subst e
      exact CompRest.zero (fin g zs hJ)
    | succ j ih =>
      intro i zs hij hJ
      refine CompRest.succ ?_
      rintro v I oI C oC D m₂ h tk E' ⟨ti, rfl⟩ hC hx F₁ N₁ off ne
      rw [Int.zero_add] at hx
      refine wpAny_mono (T i zs ti I oI C oC D m₂ h tk E' (by omega) hJ hC hx F₁ N₁) (fun y s₄ q => ?_) fun _ _ e => e
      obtain ⟨h', tk', rfl, F', N', hJ'⟩ := q
      exact ⟨h', tk', news, rfl, F', N', off, trivial, ih (i + 1) _ (by omega) hJ'⟩
  exact key n 0 [] (by omega) J0
/-- a comprehension over a ledger's list, by an invariant of the items -/
theorem list_src {elt : Expr} {x : Str} {scope : Scope} {cl : List (Str × Addr)} {Fin : Shared → List Value → List (Addr × Obj) → Prop} {ax : Addr} {vs : List Value} {k : Nat} {news : List (Addr × Obj)}
    (hh : A.handled = none) (F : Fr h₀ L s.heap m) (N : News h₀ L s.heap news) (hm : (ax, listOf vs.toArray k) ∈ news) (hz : vs.length ≤ 1000)
    (h : Later (∃ J : Nat → List Value → List (Addr × Obj) → Prop, J 0 [] news ∧ (∀ i ys nw, J i ys nw → (ax, listOf vs.toArray k) ∈ nw) ∧
      (∀ (i : Nat) (ys : List Value) nw v I oI C oC D m₂ h tk (E' : Value → Shared → Prop), vs[i]? = some v → J i ys nw → NsObj oC m₂ → m₂ x = some v → Fr h₀ L h m → News h₀ L h ((I, oI) :: (C, oC) :: (D, lst ys) :: nw) → Off3 I C D nw → ((@Ne Nat I C) ∧ (@Ne Nat I D) ∧ (@Ne Nat C D)) →
        wpAny (model prog w) A (eval elt (compEnvC scope cl C env)) (fun y s₂ => ∃ h' tk nw', s₂ = { s with heap := h', toks := tk } ∧ Fr h₀ L h' m ∧ News h₀ L h' ((I, oI) :: (C, oC) :: (D, lst ys) :: nw') ∧ Off3 I C D nw' ∧ J (i + 1) (ys ++ [y]) nw') E' { s with heap := h, toks := tk }) ∧
      (∀ h' zs nw, J vs.length zs nw → Fin { s with heap := h' } zs nw))) :
    CompSrc prog w A h₀ L m env elt x scope cl Fin (.ref ax) s := by
  obtain ⟨J, J0, hJm, T, fin⟩ := h.out
  refine CompSrc.ledger hh F N hm (by rw [List.size_toArray, PySem.sizeLine_eq]; omega) fun g => ?_
  have hsz : vs.toArray.size = vs.length := List.size_toArray
  have key : ∀ (j i : Nat) (zs : List Value) nw, i + j = vs.toArray.size → J i zs nw →
      CompRest prog w A h₀ L m env elt x scope cl { s with heap := g } (SrcAt h₀ ax vs.toArray) (fun i v => vs.toArray[i]? = some v) (Fin { s with heap := g }) j i zs nw := by
    intro j
    induction j with
    | zero =>
      intro i zs nw hij hJ
      have e : i = vs.length := by omega
      subst e
      exact CompRest.zero (fin g zs nw hJ)
    | succ j ih =>
      intro i zs nw hij hJ
      refine CompRest.succ ?_
      intro v I oI C oC D m₂ h tk E' hv hC hx F₁ N₁ off ne
      rw [List.getElem?_toArray] at hv
      refine wpAny_mono (T i zs nw v I oI C oC D m₂ h tk E' hv hJ hC hx F₁ N₁ off ne) (fun y s₄ q => ?_) fun _ _ e => e
      obtain ⟨h', tk', nw', rfl, F', N', off', hJ'⟩ := q
      exact ⟨h', tk', nw', rfl, F', N', off', .inr ⟨_, hJm _ _ _ hJ', rfl, _, rfl⟩, ih (i + 1) _ nw' (by omega) hJ'⟩
  exact key _ 0 [] news (by omega) J0
end
end
section
open PySem PySem.W PyProof.Rows
/-- data without depth that may be compared -/
def FlatOk (ds : List PyData) : Prop := PyData.canLayAll0 ds = true ∧ PyData.depthAll ds ≤ 1
def CarD (vs : List Value) (ds : List PyData) : Prop := CarriedAll vs ds ∧ FlatOk ds
theorem CarD.nil : CarD [] [] := ⟨.nil, rfl, by decide⟩
theorem CarD.one (i : Int) (t : Tok) : CarD [.int i t] [.int i] := ⟨.cons (.int i t) .nil, rfl, Nat.zero_le _⟩
theorem CarD.strs {vs : List Value} {ys : List Str} (h : StrsAre vs ys) (ok : ∀ y ∈ ys, PyData.strOk y = true) : CarD vs (ys.map PyData.str) := by
  refine ⟨h.carried, ?_⟩
  clear h
  induction ys with
  | nil => exact ⟨rfl, by decide⟩
  | cons y ys ih =>
    obtain ⟨h1, h2⟩ := ih fun z hz => ok z (List.mem_cons_of_mem _ hz)
    refine ⟨?_, ?_⟩
    · simp [PyData.canLayAll0, PyData.canLay0, ok y List.mem_cons_self, h1]
    · simp only [List.map_cons, PyData.depthAll, PyData.depth]; omega
theorem CarD.ints {vs : List Value} {ns : List Int} (h : IntsAre vs ns) : CarD vs (ns.map PyData.int) := by
  induction h with
  | nil => exact .nil
  | cons k t _ ih =>
    obtain ⟨h0, h1, h2⟩ := ih
    refine ⟨.cons (.int k t) h0, ?_, ?_⟩
    · simp [PyData.canLayAll0, PyData.canLay0, h1]
    · simp only [List.map_cons, PyData.depthAll, PyData.depth]; omega
/-- rows of values, in a ledger -/
inductive Rows (Z : Led) : List Value → List (List PyData) → Prop
  | nil : Rows Z [] []
  | cons {a : Addr} {vs : List Value} {n : Nat} {ds : List PyData} {vl : List Value} {rl : List (List PyData)} : (a, listOf (List.toArray vs) n) ∈ Z → CarD vs ds → vs.length ≤ 100 → Rows Z vl rl → Rows Z (.ref a :: vl) (ds :: rl)
theorem Rows.mono {Z Y : Led} {vl : List Value} {rl : List (List PyData)} (h : Rows Z vl rl) (s : ∀ p ∈ Z, p ∈ Y) : Rows Y vl rl := by
  induction h with
  | nil => exact .nil
  | cons a b c _ ih => exact .cons (s _ a) b c ih
theorem Rows.snoc {Z : Led} {vl : List Value} {rl : List (List PyData)} {a : Addr} {vs : List Value} {n : Nat} {ds : List PyData} (h : Rows Z vl rl) (h1 : (a, listOf (List.toArray vs) n) ∈ Z) (h2 : CarD vs ds) (h3 : vs.length ≤ 100) : Rows Z (vl ++ [.ref a]) (rl ++ [ds]) := by
  induction h with
  | nil => exact .cons h1 h2 h3 .nil
  | cons a b c _ ih => exact .cons a b c ih
theorem Rows.len {Z : Led} {vl : List Value} {rl : List (List PyData)} (h : Rows Z vl rl) : vl.length = rl.length := by
  induction h with
  | nil => rfl
  | cons a b c _ ih => simp [ih]
/-- the tree's addresses, values, sizes, keys -/
structure TV where
  td : Addr
  kd : Addr
  sp : Addr
  nm : Addr
  at' : Addr
  tx : Addr
  pa : Addr
  ch : Addr
  ct : Addr
  kv : List Value
  sv : List Value
  nv : List Value
  av : List Value
  tv : List Value
  pv : List Value
  cv : List Value
  e1 : Nat
  e2 : Nat
  e3 : Nat
  e4 : Nat
  e5 : Nat
  e6 : Nat
  e7 : Nat
  g0 : Int
  g1 : Int
  g2 : Int
  g3 : Int
  g4 : Int
  g5 : Int
  g6 : Int
  g7 : Int
  u0 : Tok
  u1 : Tok
  u2 : Tok
  u3 : Tok
  u4 : Tok
  u5 : Tok
  u6 : Tok
  u7 : Tok
  oc : Obj
def TV.led (x : TV) (t : Addr) (rest : Led) : Led :=
  TL t x.td x.kd x.sp x.nm x.at' x.tx x.pa x.ch x.ct x.kv x.sv x.nv x.av x.tv x.pv x.cv x.e1 x.e2 x.e3 x.e4 x.e5 x.e6 x.e7 x.oc x.g0 x.g1 x.g2 x.g3 x.g4 x.g5 x.g6 x.g7 x.u0 x.u1 x.u2 x.u3 x.u4 x.u5 x.u6 x.u7 rest
theorem TV.led_app (x : TV) (t : Addr) (rest : Led) : x.led t rest = x.led t [] ++ rest := rfl
theorem TV.mem_led {x : TV} {t : Addr} {rest : Led} {p : Addr × Obj} : p ∈ x.led t rest ↔ p ∈ x.led t [] ∨ p ∈ rest := by
  rw [x.led_app]; exact List.mem_append
theorem TV.mono {x : TV} {t : Addr} {a b : Led} (s : ∀ p ∈ a, p ∈ b) : ∀ p ∈ x.led t a, p ∈ x.led t b := fun p hp => by
  rcases TV.mem_led.mp hp with hp | hp
  · exact TV.mem_led.mpr (.inl hp)
  · exact TV.mem_led.mpr (.inr (s p hp))
theorem same_addr {a b : Led} (e : a.map (·.1) = b.map (·.1)) {q : Addr × Obj} (hq : q ∈ a) : ∃ q' ∈ b, q'.1 = q.1 := by
  have h : q.1 ∈ a.map (·.1) := List.mem_map_of_mem hq
  rw [e] at h
  exact List.mem_map.mp h
structure TV.Ord (x : TV) (t : Addr) : Prop where
  od : @Ne Nat t x.td
  o1 : @LT.lt Nat _ t x.kd
  o2 : @LT.lt Nat _ x.td x.kd
  o3 : @LT.lt Nat _ x.kd x.sp
  o4 : @LT.lt Nat _ x.sp x.nm
  o5 : @LT.lt Nat _ x.nm x.at'
  o6 : @LT.lt Nat _ x.at' x.tx
  o7 : @LT.lt Nat _ x.tx x.pa
  o8 : @LT.lt Nat _ x.pa x.ch
  o9 : @LT.lt Nat _ x.ch x.ct
theorem TV.Ord.le {x : TV} {t : Addr} (o : x.Ord t) : ∀ p ∈ x.led t [], @LE.le Nat _ p.1 x.ct := by
  have e8 : @LE.le Nat _ x.ch x.ct := Nat.le_of_lt o.o9
  have e7 : @LE.le Nat _ x.pa x.ct := Nat.le_trans (Nat.le_of_lt o.o8) e8
  have e6 : @LE.le Nat _ x.tx x.ct := Nat.le_trans (Nat.le_of_lt o.o7) e7
  have e5 : @LE.le Nat _ x.at' x.ct := Nat.le_trans (Nat.le_of_lt o.o6) e6
  have e4 : @LE.le Nat _ x.nm x.ct := Nat.le_trans (Nat.le_of_lt o.o5) e5
  have e3 : @LE.le Nat _ x.sp x.ct := Nat.le_trans (Nat.le_of_lt o.o4) e4
  have e2 : @LE.le Nat _ x.kd x.ct := Nat.le_trans (Nat.le_of_lt o.o3) e3
  have e1 : @LE.le Nat _ x.td x.ct := Nat.le_trans (Nat.le_of_lt o.o2) e2
  have e0 : @LE.le Nat _ t x.ct := Nat.le_trans (Nat.le_of_lt o.o1) e2
  exact List.forall_mem_cons.mpr ⟨e0, List.forall_mem_cons.mpr ⟨e1, List.forall_mem_cons.mpr ⟨e2, List.forall_mem_cons.mpr ⟨e3, List.forall_mem_cons.mpr ⟨e4, List.forall_mem_cons.mpr ⟨e5, List.forall_mem_cons.mpr ⟨e6, List.forall_mem_cons.mpr ⟨e7, List.forall_mem_cons.mpr ⟨e8, List.forall_mem_cons.mpr ⟨Nat.le_refl _, List.forall_mem_nil _⟩⟩⟩⟩⟩⟩⟩⟩⟩⟩
/-- what lies beside the tree's own lists -/
structure TV.Off (x : TV) (rest : Led) : Prop where
  kd : ∀ p ∈ rest, p.1 ≠ x.kd
  sp : ∀ p ∈ rest, p.1 ≠ x.sp
  nm : ∀ p ∈ rest, p.1 ≠ x.nm
  at' : ∀ p ∈ rest, p.1 ≠ x.at'
  tx : ∀ p ∈ rest, p.1 ≠ x.tx
  pa : ∀ p ∈ rest, p.1 ≠ x.pa
  ch : ∀ p ∈ rest, p.1 ≠ x.ch
theorem TV.off_of {x : TV} {t : Addr} {rest : Led} (h : ∀ p ∈ rest, ∀ q ∈ x.led t [], p.1 ≠ q.1) : x.Off rest :=
  ⟨fun p hp => h p hp (x.kd, listOf x.kv.toArray x.e1) (List.mem_cons_of_mem _ (List.mem_cons_of_mem _ (List.mem_cons_self))), fun p hp => h p hp (x.sp, listOf x.sv.toArray x.e2) (List.mem_cons_of_mem _ (List.mem_cons_of_mem _ (List.mem_cons_of_mem _ (List.mem_cons_self)))), fun p hp => h p hp (x.nm, listOf x.nv.toArray x.e3) (List.mem_cons_of_mem _ (List.mem_cons_of_mem _ (List.mem_cons_of_mem _ (List.mem_cons_of_mem _ (List.mem_cons_self))))),
   fun p hp => h p hp (x.at', listOf x.av.toArray x.e4) (List.mem_cons_of_mem _ (List.mem_cons_of_mem _ (List.mem_cons_of_mem _ (List.mem_cons_of_mem _ (List.mem_cons_of_mem _ (List.mem_cons_self)))))), fun p hp => h p hp (x.tx, listOf x.tv.toArray x.e5) (List.mem_cons_of_mem _ (List.mem_cons_of_mem _ (List.mem_cons_of_mem _ (List.mem_cons_of_mem _ (List.mem_cons_of_mem _ (List.mem_cons_of_mem _ (List.mem_cons_self))))))), fun p hp => h p hp (x.pa, listOf x.pv.toArray x.e6) (List.mem_cons_of_mem _ (List.mem_cons_of_mem _ (List.mem_cons_of_mem _ (List.mem_cons_of_mem _ (List.mem_cons_of_mem _ (List.mem_cons_of_mem _ (List.mem_cons_of_mem _ (List.mem_cons_self)))))))),
   fun p hp => h p hp (x.ch, listOf x.cv.toArray x.e7) (List.mem_cons_of_mem _ (List.mem_cons_of_mem _ (List.mem_cons_of_mem _ (List.mem_cons_of_mem _ (List.mem_cons_of_mem _ (List.mem_cons_of_mem _ (List.mem_cons_of_mem _ (List.mem_cons_of_mem _ (List.mem_cons_self)))))))))⟩
/-- the tree's lists hold these, n nodes -/
structure TV.Has (x : TV) (num : Nat) (K S N X : List Str) (P : List Int) (RA : List (List PyData)) (Z : Led) : Prop where
  k : StrsAre x.kv K
  s : StrsAre x.sv S
  n : StrsAre x.nv N
  t : StrsAre x.tv X
  p : IntsAre x.pv P
  a : Rows Z x.av RA
  lk : K.length = num
  ls : S.length = num
  ln : N.length = num
  lt : X.length = num
  lp : P.length = num
  la : RA.length = num
  ok : (∀ y ∈ K, PyData.strOk y = true) ∧ (∀ y ∈ S, PyData.strOk y = true) ∧ (∀ y ∈ N, PyData.strOk y = true) ∧ ∀ y ∈ X, PyData.strOk y = true
/-- an empty dict -/
def DicE (a : Addr) (o : Obj) : Prop := (a == sysModules) = false ∧ o.ExactDict ∧ ∃ ep, o.data = .dict #[] ep
theorem DicE.isOf {a : Addr} {o : Obj} (h : DicE a o) {prog : Program} {w : World} {K : Type} [DecidableEq K] (knd : PySem.KeyKind prog w K) : o.IsDictOf knd [] := by
  obtain ⟨_, h2, ep, h3⟩ := h
  exact ⟨#[], ep, h2, h3, by intro e he; simp at he, .nil, List.nodup_nil⟩
theorem DicE.of {a : Addr} {o : Obj} (h0 : (a == sysModules) = false) {prog : Program} {w : World} {K : Type} [DecidableEq K] {knd : PySem.KeyKind prog w K} (h : o.IsDictOf knd []) : DicE a o := by
  obtain ⟨es, ep, h2, h3, _, h5, _⟩ := h
  have e : es.toList = [] := by generalize es.toList = zs at h5; cases h5; rfl
  have e2 : es = #[] := by rw [← Array.toList_eq_nil_iff]; exact e
  subst e2
  exact ⟨h0, h2, ep, h3⟩
/-- a tree of a document and of these elements, one within the other; the last one's children stand ahead of part -/
inductive TI (ps : List (Str × Str)) (t : Addr) (Z : Led) : Prop
  | mk (x : TV) (c : Addr) (ec : Nat) (part : Led) (cv0 : List Value) (K X : List Str) (P : List Int) (R0 RA : List (List PyData))
      (h1_ : Z = x.led t ((c, listOf (List.toArray []) ec) :: part))
      (h2_ : x.Ord t)
      (h3_ : DicE x.ct x.oc)
      (h4_ : @LT.lt Nat _ x.ct c)
      (h5_ : (∀ p ∈ part, @LT.lt Nat _ x.ct p.1 ∧ p.1 ≠ c))
      (h6_ : x.Has (ps.length + 1) K (Str.ofString "" :: ps.map (·.1)) (Str.ofString "" :: ps.map (·.2)) X P RA part)
      (h7_ : (∀ j, j ≤ ps.length → P.getD j 0 = (j : Int) - 1))
      (h8_ : x.cv = cv0 ++ [.ref c])
      (h9_ : Rows part cv0 R0)
      (h10_ : R0.length = ps.length) : TI ps t Z
/-- the tree with one more element that hangs nowhere -/
inductive TM (ps : List (Str × Str)) (space name : Str) (t : Addr) (Z : Led) : Prop
  | mk (x : TV) (c b : Addr) (ec eb : Nat) (part : Led) (cv0 pv0 : List Value) (K X : List Str) (P0 : List Int) (R0 RA : List (List PyData)) (tb : Tok)
      (h1_ : Z = x.led t ((c, listOf (List.toArray []) ec) :: (b, listOf (List.toArray []) eb) :: part))
      (h2_ : x.Ord t)
      (h3_ : DicE x.ct x.oc)
      (h4_ : @LT.lt Nat _ x.ct c)
      (h5_ : @LT.lt Nat _ c b)
      (h6_ : (∀ p ∈ part, @LT.lt Nat _ x.ct p.1 ∧ p.1 ≠ c ∧ @LT.lt Nat _ p.1 b))
      (h7_ : x.Has (ps.length + 2) K (Str.ofString "" :: (ps ++ [(space, name)]).map (·.1)) (Str.ofString "" :: (ps ++ [(space, name)]).map (·.2)) X (P0 ++ [-1]) RA part)
      (h8_ : (∀ j, j ≤ ps.length → P0.getD j 0 = (j : Int) - 1))
      (h9_ : x.cv = cv0 ++ [.ref c] ++ [.ref b])
      (h10_ : Rows part cv0 R0)
      (h11_ : R0.length = ps.length)
      (h12_ : x.pv = pv0 ++ [.int (-1) tb])
      (h13_ : IntsAre pv0 P0) : TM ps space name t Z
theorem Ctr.perm {w : World} {d u : Nat} {f : Addr} {vs : List Value} {n1 n2 : Led} {P1 P2 : Value → Led → Prop} (h : Ctr w d u f vs n1 P1) (s : ∀ p ∈ n1, p ∈ n2) (hp : ∀ r n', P1 r n' → ∃ n'', P2 r n'' ∧ ∀ p ∈ n'', p ∈ n') : Ctr w d u f vs n2 P2 := by
  intro dp un gd cn cs a ccd cl outer A₀ base h₀ L m s' Q E p loose mean mg mb B F X N T hk hdd huu hret
  refine h dp un gd cn cs a ccd cl outer A₀ base h₀ L m s' Q E p loose mean mg mb B F X (fun p hp => N p (s p hp)) T hk hdd huu fun r n h' tk' hq F' N' => ?_
  obtain ⟨n'', h2, h3⟩ := hp r n hq
  exact hret r n'' h' tk' h2 F' (fun p hp => N' p (h3 p hp))
theorem strOk_spaces : ∀ y ∈ spaces3, PyData.strOk y = true := by
  have h : (spaces3.all PyData.strOk) = true := by decide +kernel
  exact List.all_eq_true.mp h
theorem strOk_names : ∀ y ∈ names30, PyData.strOk y = true := by
  have h : (names30.all PyData.strOk) = true := by decide +kernel
  exact List.all_eq_true.mp h
theorem strOk_el : PyData.strOk (Str.ofString "element") = true := by decide +kernel
theorem strOk_nil : PyData.strOk (Str.ofString "") = true := by decide +kernel
theorem notpl : ∀ y ∈ names30, (y == Str.ofString "template") = false := by
  have h : (names30.all fun y => !(y == Str.ofString "template")) = true := by decide +kernel
  intro y hy
  simpa using List.all_eq_true.mp h y hy
theorem ok_snoc {l : List Str} {y : Str} (h : ∀ y ∈ l, PyData.strOk y = true) (hy : PyData.strOk y = true) : ∀ z ∈ l ++ [y], PyData.strOk z = true := fun z hz => by
  rcases List.mem_append.mp hz with hz | hz
  · exact h z hz
  · rw [List.mem_singleton.mp hz]; exact hy
/-- apart from all of these -/
def Apt (Z : Led) (p : Addr × Obj) : Prop := ∀ q ∈ Z, q.1 ≠ p.1
theorem apt4 {Z : Led} {p1 p2 p3 p4 : Addr × Obj} (h1 : ∀ q ∈ Z, q.1 ≠ p1.1) (h2 : ∀ q ∈ Z, q.1 ≠ p2.1) (h3 : ∀ q ∈ Z, q.1 ≠ p3.1) (h4 : ∀ q ∈ Z, q.1 ≠ p4.1) : ∀ p ∈ [p1, p2, p3, p4], ∀ q ∈ Z, q.1 ≠ p.1 := by
  intro p hp
  simp only [List.mem_cons, List.not_mem_nil, or_false] at hp
  rcases hp with rfl | rfl | rfl | rfl
  · exact h1
  · exact h2
  · exact h3
  · exact h4
end
set_option maxRecDepth 100000 in
set_option maxHeartbeats 0 in
theorem elem_Z : ∀ (w : World) (ps : List (Str × Str)) (t : Addr) (Z : Led) (Y : Led) (name space : Str) (tk2 tk3 : Tok) (hZ : TI ps t Z) (ap : ∀ p ∈ Y, ∀ q ∈ Z, q.1 ≠ p.1) (hk : ps.length ≤ 12) (hn : name ∈ names30) (hs : space ∈ spaces3),
      Ctr w 9 250 219 [.ref t, .str name tk3, .str space tk2] (Y ++ Z) (fun r n' => (∃ tk, r = .int ((ps.length + 1 : Nat) : Int) tk) ∧ ∃ Z', n' = Y ++ Z' ∧ TM ps space name t Z' ∧ ∀ p ∈ Y, ∀ q ∈ Z', q.1 ≠ p.1) := by
  k_with_none
  intro w ps t Z Y name space tk2 tk3 hZ ap hk hn hs
  obtain ⟨x, c, ec, part, cv0, K, X, P, R0, RA, rfl, o, od, oc, op, H, hP, ecv, hR0, lR0⟩ := hZ
  have off : x.Off ((c, listOf (List.toArray []) ec) :: (Y ++ part)) := TV.off_of (t := t) fun p hp q hq => by
    have hq2 : q ∈ x.led t ((c, listOf (List.toArray []) ec) :: part) := TV.mem_led.mpr (.inl hq)
    have hle := o.le q hq
    rcases List.mem_cons.mp hp with rfl | hp
    · exact fun e => by
        have e' : @Eq Nat c q.1 := e
        omega
    rcases List.mem_append.mp hp with hp | hp
    · exact fun e => ap p hp q hq2 e.symm
    · exact fun e => by
        have e' : @Eq Nat p.1 q.1 := e
        have := (op p hp).1
        omega
  have lk := StrsAre.len_eq H.k
  have ls := StrsAre.len_eq H.s
  have ln := StrsAre.len_eq H.n
  have lt := StrsAre.len_eq H.t
  have lp := H.p.length
  have la := H.a.len
  have lc : x.cv.length = ps.length + 1 := by rw [ecv, List.length_append, hR0.len, lR0]; rfl
  have hk' : ps.length ≤ 20 := Nat.le_trans hk (by decide)
  have h1 := H.lk; have h2 := H.ls; have h3 := H.ln; have h4 := H.lt; have h5 := H.lp; have h6 := H.la
  refine (element_ctr w t x.td x.kd x.sp x.nm x.at' x.tx x.pa x.ch x.ct x.kv x.sv x.nv x.av x.tv x.pv x.cv x.e1 x.e2 x.e3 x.e4 x.e5 x.e6 x.e7 x.oc x.g0 x.g1 x.g2 x.g3 x.g4 x.g5 x.g6 x.g7 x.u0 x.u1 x.u2 x.u3 x.u4 x.u5 x.u6 x.u7 ((c, listOf (List.toArray []) ec) :: (Y ++ part)) name space tk2 tk3
    off.kd off.sp off.nm off.at' off.tx off.pa off.ch o.od o.o1 o.o2 o.o3 o.o4 o.o5 o.o6 o.o7 o.o8 o.o9 ⟨len100 hk' (lk.trans h1), len100 hk' (ls.trans h2), len100 hk' (ln.trans h3), len100 hk' (la.trans h6), len100 hk' (lt.trans h4), len100 hk' (lp.trans h5), len100 hk' lc⟩ (notpl name hn)).perm (fun p hp => ?_) fun r n' hpost => ?_
  · rcases TV.mem_led (x := x).mp hp with hp | hp
    · exact List.mem_append_right _ (TV.mem_led.mpr (.inl hp))
    rcases List.mem_cons.mp hp with rfl | hp
    · exact List.mem_append_right _ (TV.mem_led.mpr (.inr List.mem_cons_self))
    rcases List.mem_append.mp hp with hp | hp
    · exact List.mem_append_left _ hp
    · exact List.mem_append_right _ (TV.mem_led.mpr (.inr (List.mem_cons_of_mem _ hp)))
  · obtain ⟨⟨tk, rfl⟩, a, b, c1, c2, tk1, ta, tb, rfl, lca, lab, lr⟩ := hpost
    have lca' := lr _ List.mem_cons_self
    have l1 : ∀ p ∈ Y, @LT.lt Nat _ p.1 a := fun p hp => lr p (List.mem_cons_of_mem _ (List.mem_append_left _ hp))
    have lpt : ∀ p ∈ part, @LT.lt Nat _ p.1 a := fun p hp => lr p (List.mem_cons_of_mem _ (List.mem_append_right _ hp))
    let x' : TV := { x with kv := x.kv ++ [.str (Str.ofString "element") tk1], sv := x.sv ++ [.str space tk2], nv := x.nv ++ [.str name tk3], av := x.av ++ [.ref a], tv := x.tv ++ [.str (Str.ofString "") ta], pv := x.pv ++ [.int (-1) tb], cv := x.cv ++ [.ref b], e1 := x.e1 + 1, e2 := x.e2 + 1, e3 := x.e3 + 1, e4 := x.e4 + 1, e5 := x.e5 + 1, e6 := x.e6 + 1, e7 := x.e7 + 1 }
    have o' : x'.Ord t := ⟨o.od, o.o1, o.o2, o.o3, o.o4, o.o5, o.o6, o.o7, o.o8, o.o9⟩
    have apZ : ∀ p : Addr × Obj, (∀ q ∈ x.led t ((c, listOf (List.toArray []) ec) :: part), q.1 ≠ p.1) → @LT.lt Nat _ p.1 a →
        ∀ q ∈ x'.led t ((c, listOf (List.toArray []) ec) :: (b, listOf (List.toArray []) c2) :: (a, listOf (List.toArray []) c1) :: part), q.1 ≠ p.1 := by
      intro p hap hpa q hq
      have key : (∃ q' ∈ x.led t ((c, listOf (List.toArray []) ec) :: part), q'.1 = q.1) ∨ @LE.le Nat _ a q.1 := by
        rcases TV.mem_led.mp hq with hq | hq
        · obtain ⟨q', g1, g2⟩ := same_addr (a := x'.led t []) (b := x.led t []) rfl hq
          exact .inl ⟨q', TV.mem_led.mpr (.inl g1), g2⟩
        rcases List.mem_cons.mp hq with rfl | hq
        · exact .inl ⟨_, TV.mem_led.mpr (.inr List.mem_cons_self), rfl⟩
        rcases List.mem_cons.mp hq with rfl | hq
        · exact .inr (Nat.le_of_lt lab)
        rcases List.mem_cons.mp hq with rfl | hq
        · exact .inr (Nat.le_refl _)
        · exact .inl ⟨q, TV.mem_led.mpr (.inr (List.mem_cons_of_mem _ hq)), rfl⟩
      rcases key with ⟨q', h1, h2⟩ | h
      · exact fun e => hap q' h1 (h2.trans e)
      · exact fun e => by
          have e' : @Eq Nat q.1 p.1 := e
          omega
    have hsub : ∀ p ∈ part, p ∈ (a, listOf (List.toArray ([] : List Value)) c1) :: part := sub_tail
    refine ⟨_, ⟨⟨tk, by rw [lk, h1]⟩, x'.led t ((c, listOf (List.toArray []) ec) :: (b, listOf (List.toArray []) c2) :: (a, listOf (List.toArray []) c1) :: part), rfl, ⟨x', c, b, ec, c2, (a, listOf (List.toArray []) c1) :: part, cv0, x.pv, K ++ [Str.ofString "element"], X ++ [Str.ofString ""], P, R0, RA ++ [[]], tb, rfl, o', od, oc, by show @LT.lt Nat _ c b; omega, ?_, ?_, hP, by show x.cv ++ _ = _; rw [ecv], hR0.mono hsub, lR0, rfl, H.p⟩, fun p hp => apZ p (ap p hp) (l1 p hp)⟩, ?_⟩
    · intro p hp
      rcases List.mem_cons.mp hp with rfl | hp
      · exact ⟨lca, fun e => by
          have e' : @Eq Nat a c := e
          omega, lab⟩
      · exact ⟨(op p hp).1, (op p hp).2, Nat.lt_trans (lpt p hp) lab⟩
    · obtain ⟨k1, k2, k3, k4⟩ := H.ok
      refine ⟨strs_snoc H.k _ _, ?_, ?_, strs_snoc H.t _ _, ints_push H.p _ _, (H.a.mono hsub).snoc List.mem_cons_self CarD.nil (by decide), by simp [h1], by simp, by simp, by simp [h4], by simp [h5], by simp [h6], ok_snoc k1 strOk_el, ?_, ?_, ok_snoc k4 strOk_nil⟩
      · have := strs_snoc H.s space tk2
        rw [List.map_append]; exact this
      · have := strs_snoc H.n name tk3
        rw [List.map_append]; exact this
      · rw [List.map_append]; exact ok_snoc k2 (strOk_spaces _ hs)
      · rw [List.map_append]; exact ok_snoc k3 (strOk_names _ hn)
    · intro p hp
      rcases List.mem_append.mp hp with hp | hp
      · exact List.mem_cons_of_mem _ (List.mem_cons_of_mem _ (TV.mem_led (x := x').mpr (.inr (List.mem_cons_of_mem _ (List.mem_append_left _ hp)))))
      rcases TV.mem_led.mp hp with hp | hp
      · exact List.mem_cons_of_mem _ (List.mem_cons_of_mem _ (TV.mem_led (x := x').mpr (.inl hp)))
      rcases List.mem_cons.mp hp with rfl | hp
      · exact List.mem_cons_of_mem _ (List.mem_cons_of_mem _ (TV.mem_led (x := x').mpr (.inr List.mem_cons_self)))
      rcases List.mem_cons.mp hp with rfl | hp
      · exact List.mem_cons_self
      rcases List.mem_cons.mp hp with rfl | hp
      · exact List.mem_cons_of_mem _ List.mem_cons_self
      · exact List.mem_cons_of_mem _ (List.mem_cons_of_mem _ (TV.mem_led (x := x').mpr (.inr (List.mem_cons_of_mem _ (List.mem_append_right _ hp)))))
set_option maxRecDepth 100000 in
set_option maxHeartbeats 0 in
theorem append_Z : ∀ (w : World) (ps : List (Str × Str)) (space name : Str) (t : Addr) (Z : Led) (Y : Led) (tkp tkn : Tok) (kp kn : Int) (hkp : kp = (ps.length : Nat)) (hkn : kn = ((ps.length + 1 : Nat) : Int)) (hZ : TM ps space name t Z) (ap : ∀ p ∈ Y, ∀ q ∈ Z, q.1 ≠ p.1) (hk : ps.length ≤ 12),
      Ctr w 15 450 255 [.ref t, .int kp tkp, .int kn tkn] (Y ++ Z) (fun r n' => r = .none ∧ ∃ Z', n' = Y ++ Z' ∧ TI (ps ++ [(space, name)]) t Z' ∧ ∀ p ∈ Y, ∀ q ∈ Z', q.1 ≠ p.1) := by
  intro w ps space name t Z Y tkp tkn kp kn hkp hkn hZ ap hk
  obtain ⟨x, c, b, ec, eb, part, cv0, pv0, K, X, P0, R0, RA, tb, rfl, o, od, oc, ob, op, H, hP, ecv, hR0, lR0, epv, hp0⟩ := hZ
  have hmem : ∀ q ∈ x.led t [], q ∈ x.led t ((c, listOf (List.toArray []) ec) :: (b, listOf (List.toArray []) eb) :: part) := fun q hq => TV.mem_led.mpr (.inl hq)
  have off : x.Off (Y ++ (b, listOf (List.toArray []) eb) :: part) := TV.off_of (t := t) fun p hp q hq => by
    have hq2 := hmem q hq
    have hle := o.le q hq
    rcases List.mem_append.mp hp with hp | hp
    · exact fun e => ap p hp q hq2 e.symm
    rcases List.mem_cons.mp hp with rfl | hp
    · exact fun e => by
        have e' : @Eq Nat b q.1 := e
        omega
    · exact fun e => by
        have e' : @Eq Nat p.1 q.1 := e
        have := (op p hp).1
        omega
  have hc : (c, listOf (List.toArray ([] : List Value)) ec) ∈ x.led t ((c, listOf (List.toArray []) ec) :: (b, listOf (List.toArray []) eb) :: part) := TV.mem_led.mpr (.inr List.mem_cons_self)
  have offc : ∀ p ∈ Y ++ (b, listOf (List.toArray ([] : List Value)) eb) :: part, p.1 ≠ c := fun p hp => by
    rcases List.mem_append.mp hp with hp | hp
    · exact fun e => ap p hp _ hc e.symm
    rcases List.mem_cons.mp hp with rfl | hp
    · exact fun e => by
        have e' : @Eq Nat b c := e
        omega
    · exact (op p hp).2.1
  have lk := StrsAre.len_eq H.k
  have ls := StrsAre.len_eq H.s
  have ln := StrsAre.len_eq H.n
  have lt := StrsAre.len_eq H.t
  have lp := H.p.length
  have la := H.a.len
  have l0 := hp0.length
  have lc0 : cv0.length = ps.length := by rw [hR0.len, lR0]
  have lc : x.cv.length = ps.length + 2 := by rw [ecv, List.length_append, List.length_append, lc0]; rfl
  have hk' : ps.length ≤ 20 := Nat.le_trans hk (by decide)
  have h1 := H.lk; have h2 := H.ls; have h3 := H.ln; have h4 := H.lt; have h5 := H.lp; have h6 := H.la
  have lP0 : P0.length = ps.length + 1 := by
    rw [List.length_append] at h5
    have : [(-1 : Int)].length = 1 := rfl
    omega
  have lpv0 : pv0.length = ps.length + 1 := by omega
  have hset : x.pv.set (ps.length + 1) (.int (ps.length : Nat) tkp) = pv0 ++ [.int (ps.length : Nat) tkp] := by
    rw [epv, List.set_append, if_neg (by omega), lpv0, Nat.sub_self]; rfl
  let x' : TV := { x with pv := pv0 ++ [.int (ps.length : Nat) tkp] }
  have o' : x'.Ord t := ⟨o.od, o.o1, o.o2, o.o3, o.o4, o.o5, o.o6, o.o7, o.o8, o.o9⟩
  refine (append_ctr w t x.td x.kd x.sp x.nm x.at' x.tx x.pa x.ch x.ct x.kv x.sv x.nv x.av x.tv x.pv x.cv x.e1 x.e2 x.e3 x.e4 x.e5 x.e6 x.e7 x.oc x.g0 x.g1 x.g2 x.g3 x.g4 x.g5 x.g6 x.g7 x.u0 x.u1 x.u2 x.u3 x.u4 x.u5 x.u6 x.u7 (Y ++ (b, listOf (List.toArray []) eb) :: part) c ec ps.length (P0 ++ [-1]) tkp tkn tb
    off.kd off.sp off.nm off.at' off.tx off.pa off.ch offc o.od o.o1 o.o2 o.o3 o.o4 o.o5 o.o6 o.o7 o.o8 o.o9 oc ⟨len100 hk' (lk.trans h1), len100 hk' (ls.trans h2), len100 hk' (ln.trans h3), len100 hk' (la.trans h6), len100 hk' (lt.trans h4), len100 hk' (lp.trans h5), len100 hk' lc⟩ H.p (fun j hj => ?_) (by rw [List.length_append, lP0]; rfl) (by rw [epv, List.getElem?_append_right (by omega), lpv0, Nat.sub_self]; rfl) (by rw [ecv, List.append_assoc, List.getElem?_append_right (by omega), lc0, Nat.sub_self]; rfl) kp kn hkp hkn).perm (fun p hp => ?_) fun r n' hpost => ?_
  · rw [← hP j hj]
    simp only [List.getD, List.getElem?_append_left (show j < P0.length by omega)]
  · rcases TV.mem_led (x := x).mp hp with hp | hp
    · exact List.mem_append_right _ (TV.mem_led.mpr (.inl hp))
    rcases List.mem_cons.mp hp with rfl | hp
    · exact List.mem_append_right _ (TV.mem_led.mpr (.inr List.mem_cons_self))
    rcases List.mem_append.mp hp with hp | hp
    · exact List.mem_append_left _ hp
    · exact List.mem_append_right _ (TV.mem_led.mpr (.inr (List.mem_cons_of_mem _ hp)))
  · obtain ⟨rfl, rfl⟩ := hpost
    rw [hset]
    have apZ : ∀ p : Addr × Obj, (∀ q ∈ x.led t ((c, listOf (List.toArray []) ec) :: (b, listOf (List.toArray []) eb) :: part), q.1 ≠ p.1) →
        ∀ q ∈ x'.led t ((b, listOf (List.toArray []) eb) :: (c, listOf (List.toArray [.int ((ps.length + 1 : Nat) : Int) tkn]) (ec + 1)) :: part), q.1 ≠ p.1 := by
      intro p hap q hq
      have key : (∃ q' ∈ x.led t ((c, listOf (List.toArray []) ec) :: (b, listOf (List.toArray []) eb) :: part), q'.1 = q.1) := by
        rcases TV.mem_led.mp hq with hq | hq
        · obtain ⟨q', g1, g2⟩ := same_addr (a := x'.led t []) (b := x.led t []) rfl hq
          exact ⟨q', TV.mem_led.mpr (.inl g1), g2⟩
        rcases List.mem_cons.mp hq with rfl | hq
        · exact ⟨_, TV.mem_led.mpr (.inr (List.mem_cons_of_mem _ List.mem_cons_self)), rfl⟩
        rcases List.mem_cons.mp hq with rfl | hq
        · exact ⟨_, TV.mem_led.mpr (.inr List.mem_cons_self), rfl⟩
        · exact ⟨q, TV.mem_led.mpr (.inr (List.mem_cons_of_mem _ (List.mem_cons_of_mem _ hq))), rfl⟩
      obtain ⟨q', h1, h2⟩ := key
      exact fun e => hap q' h1 (h2.trans e)
    have hsub : ∀ p ∈ part, p ∈ (c, listOf (List.toArray [Value.int ((ps.length + 1 : Nat) : Int) tkn]) (ec + 1)) :: part := sub_tail
    refine ⟨_, ⟨rfl, x'.led t ((b, listOf (List.toArray []) eb) :: (c, listOf (List.toArray [.int ((ps.length + 1 : Nat) : Int) tkn]) (ec + 1)) :: part), rfl, ⟨x', b, eb, (c, listOf (List.toArray [.int ((ps.length + 1 : Nat) : Int) tkn]) (ec + 1)) :: part, cv0 ++ [.ref c], K, X, P0 ++ [((ps.length : Nat) : Int)], R0 ++ [[.int ((ps.length + 1 : Nat) : Int)]], RA, rfl, o', od, by show @LT.lt Nat _ x.ct b; omega, ?_, ?_, ?_, ecv, (hR0.mono hsub).snoc List.mem_cons_self (CarD.one _ _) (show 1 ≤ 100 by decide), by simp [lR0]⟩, fun p hp => apZ p (ap p hp)⟩, ?_⟩
    · intro p hp
      rcases List.mem_cons.mp hp with rfl | hp
      · exact ⟨oc, fun e => by
          have e' : @Eq Nat c b := e
          omega⟩
      · have h := op p hp
        exact ⟨h.1, fun e => by
          have e' : @Eq Nat p.1 b := e
          have := h.2.2
          omega⟩
    · have e1 : (ps ++ [(space, name)]).length + 1 = ps.length + 2 := by simp
      rw [e1]
      exact ⟨H.k, H.s, H.n, H.t, ints_push hp0 _ _, H.a.mono hsub, h1, h2, h3, h4, by simp [lP0], h6, H.ok⟩
    · intro j hj
      rw [List.length_append] at hj
      have e1 : [(space, name)].length = 1 := rfl
      by_cases hjk : j ≤ ps.length
      · rw [← hP j hjk]
        simp only [List.getD, List.getElem?_append_left (show j < P0.length by omega)]
      · obtain rfl : j = ps.length + 1 := by omega
        simp only [List.getD, List.getElem?_append_right (show P0.length ≤ ps.length + 1 by omega), lP0, Nat.sub_self]
        show ((ps.length : Nat) : Int) = _
        omega
    · intro p hp
      rcases List.mem_append.mp hp with hp | hp
      · exact TV.mem_led (x := x').mpr (.inr (List.mem_cons_of_mem _ (List.mem_append_left _ hp)))
      rcases TV.mem_led.mp hp with hp | hp
      · exact TV.mem_led (x := x').mpr (.inl hp)
      rcases List.mem_cons.mp hp with rfl | hp
      · exact TV.mem_led (x := x').mpr (.inr (List.mem_cons_of_mem _ (List.mem_append_right _ List.mem_cons_self)))
      rcases List.mem_cons.mp hp with rfl | hp
      · exact TV.mem_led (x := x').mpr (.inr List.mem_cons_self)
      · exact TV.mem_led (x := x').mpr (.inr (List.mem_cons_of_mem _ (List.mem_append_right _ (List.mem_cons_of_mem _ hp))))
set_option maxRecDepth 100000 in
set_option maxHeartbeats 0 in
theorem elem_4 : ∀ (w : World) (ps : List (Str × Str)) (t : Addr) (Z : Led) (p1 p2 p3 p4 : Addr × Obj) (name space : Str) (tk2 tk3 : Tok) (hZ : TI ps t Z) (h1 : ∀ q ∈ Z, q.1 ≠ p1.1) (h2 : ∀ q ∈ Z, q.1 ≠ p2.1) (h3 : ∀ q ∈ Z, q.1 ≠ p3.1) (h4 : ∀ q ∈ Z, q.1 ≠ p4.1) (hk : ps.length ≤ 12) (hn : name ∈ names30) (hs : space ∈ spaces3),
      Ctr w 9 250 219 [.ref t, .str name tk3, .str space tk2] (p1 :: p2 :: p3 :: p4 :: Z) (fun r n' => (∃ tk, r = .int ((ps.length + 1 : Nat) : Int) tk) ∧ ∃ Z', n' = p1 :: p2 :: p3 :: p4 :: Z' ∧ TM ps space name t Z' ∧ (∀ q ∈ Z', q.1 ≠ p1.1) ∧ (∀ q ∈ Z', q.1 ≠ p2.1) ∧ (∀ q ∈ Z', q.1 ≠ p3.1) ∧ ∀ q ∈ Z', q.1 ≠ p4.1) := by
  intro w ps t Z p1 p2 p3 p4 name space tk2 tk3 hZ h1 h2 h3 h4 hk hn hs
  exact (elem_Z w ps t Z [p1, p2, p3, p4] name space tk2 tk3 hZ (apt4 h1 h2 h3 h4) hk hn hs).perm (fun _ h => h) fun r n' ⟨hr, Z', e, hM, ap⟩ =>
    ⟨n', ⟨hr, Z', e, hM, ap p1 List.mem_cons_self, ap p2 (List.mem_cons_of_mem _ List.mem_cons_self), ap p3 (List.mem_cons_of_mem _ (List.mem_cons_of_mem _ List.mem_cons_self)), ap p4 (List.mem_cons_of_mem _ (List.mem_cons_of_mem _ (List.mem_cons_of_mem _ List.mem_cons_self)))⟩, fun _ h => h⟩
set_option maxRecDepth 100000 in
set_option maxHeartbeats 0 in
theorem append_4 : ∀ (w : World) (ps : List (Str × Str)) (space name : Str) (t : Addr) (Z : Led) (p1 p2 p3 p4 : Addr × Obj) (tkp tkn : Tok) (kp kn : Int) (hkp : kp = (ps.length : Nat)) (hkn : kn = ((ps.length + 1 : Nat) : Int)) (hZ : TM ps space name t Z) (h1 : ∀ q ∈ Z, q.1 ≠ p1.1) (h2 : ∀ q ∈ Z, q.1 ≠ p2.1) (h3 : ∀ q ∈ Z, q.1 ≠ p3.1) (h4 : ∀ q ∈ Z, q.1 ≠ p4.1) (hk : ps.length ≤ 12),
      Ctr w 15 450 255 [.ref t, .int kp tkp, .int kn tkn] (p1 :: p2 :: p3 :: p4 :: Z) (fun r n' => r = .none ∧ ∃ Z', n' = p1 :: p2 :: p3 :: p4 :: Z' ∧ TI (ps ++ [(space, name)]) t Z' ∧ (∀ q ∈ Z', q.1 ≠ p1.1) ∧ (∀ q ∈ Z', q.1 ≠ p2.1) ∧ (∀ q ∈ Z', q.1 ≠ p3.1) ∧ ∀ q ∈ Z', q.1 ≠ p4.1) := by
  intro w ps space name t Z p1 p2 p3 p4 tkp tkn kp kn hkp hkn hZ h1 h2 h3 h4 hk
  exact (append_Z w ps space name t Z [p1, p2, p3, p4] tkp tkn kp kn hkp hkn hZ (apt4 h1 h2 h3 h4) hk).perm (fun _ h => h) fun r n' ⟨hr, Z', e, hM, ap⟩ =>
    ⟨n', ⟨hr, Z', e, hM, ap p1 List.mem_cons_self, ap p2 (List.mem_cons_of_mem _ List.mem_cons_self), ap p3 (List.mem_cons_of_mem _ (List.mem_cons_of_mem _ List.mem_cons_self)), ap p4 (List.mem_cons_of_mem _ (List.mem_cons_of_mem _ (List.mem_cons_of_mem _ List.mem_cons_self)))⟩, fun _ h => h⟩
theorem append_4p : ∀ (w : World) (ps : List (Str × Str)) (space : Str) (name : Str) (t : Addr) (Z : Led) (p1 : Addr × Obj) (p2 : Addr × Obj) (p3 : Addr × Obj) (p4 : Addr × Obj) (tkp : Tok) (tkn : Tok) (kp : Int) (kn : Int) (hZ : TM ps space name t Z) (h1 : ∀ q ∈ Z, q.1 ≠ p1.1) (h2 : ∀ q ∈ Z, q.1 ≠ p2.1) (h3 : ∀ q ∈ Z, q.1 ≠ p3.1) (h4 : ∀ q ∈ Z, q.1 ≠ p4.1) (hk : ps.length ≤ 12) (hkp : kp = (ps.length : Nat)) (hkn : kn = ((ps.length + 1 : Nat) : Int)),
      Ctr w 15 450 255 [.ref t, .int kp tkp, .int kn tkn] (p1 :: p2 :: p3 :: p4 :: Z) (fun r n' => r = .none ∧ ∃ Z', n' = p1 :: p2 :: p3 :: p4 :: Z' ∧ TI (ps ++ [(space, name)]) t Z' ∧ (∀ q ∈ Z', q.1 ≠ p1.1) ∧ (∀ q ∈ Z', q.1 ≠ p2.1) ∧ (∀ q ∈ Z', q.1 ≠ p3.1) ∧ ∀ q ∈ Z', q.1 ≠ p4.1) :=
    fun w ps space name t Z p1 p2 p3 p4 tkp tkn kp kn hZ h1 h2 h3 h4 hk hkp hkn => append_4 w ps space name t Z p1 p2 p3 p4 tkp tkn kp kn hkp hkn hZ h1 h2 h3 h4 hk
section
open PySem PySem.W PyProof.Rows
theorem newsTL {h₀ h : Heap} {L : Addr} {t td kd sp nm at' tx pa ch ct : Addr} {oc od ot : Obj} {o1 o2 o3 o4 o5 o6 o7 : Obj} {rest : Led}
    (N : News h₀ L h ((ct, oc) :: (ch, o7) :: (pa, o6) :: (tx, o5) :: (at', o4) :: (nm, o3) :: (sp, o2) :: (kd, o1) :: (t, ot) :: (td, od) :: rest)) :
    News h₀ L h ((t, ot) :: (td, od) :: (kd, o1) :: (sp, o2) :: (nm, o3) :: (at', o4) :: (tx, o5) :: (pa, o6) :: (ch, o7) :: (ct, oc) :: rest) := fun p hp => N p (by
  have hp : p ∈ (t, ot) :: (td, od) :: ([(ct, oc), (ch, o7), (pa, o6), (tx, o5), (at', o4), (nm, o3), (sp, o2), (kd, o1)].reverse ++ rest) := hp
  show p ∈ [(ct, oc), (ch, o7), (pa, o6), (tx, o5), (at', o4), (nm, o3), (sp, o2), (kd, o1)] ++ (t, ot) :: (td, od) :: rest
  rcases List.mem_cons.mp hp with rfl | hp
  · exact List.mem_append_right _ List.mem_cons_self
  rcases List.mem_cons.mp hp with rfl | hp
  · exact List.mem_append_right _ (List.mem_cons_of_mem _ List.mem_cons_self)
  rcases List.mem_append.mp hp with hp | hp
  · exact List.mem_append_left _ (List.mem_reverse.mp hp)
  · exact List.mem_append_right _ (List.mem_cons_of_mem _ (List.mem_cons_of_mem _ hp)))
theorem strOk_doc : PyData.strOk (Str.ofString "document") = true := by decide +kernel
theorem ok_one {y : Str} (h : PyData.strOk y = true) : ∀ z ∈ [y], PyData.strOk z = true := fun z hz => by rw [List.mem_singleton.mp hz]; exact h
theorem tree_end {h₀ h : Heap} {L : Addr} {t td kd sp nm at' tx pa ch ct a b : Addr} {tk1 tk2 tk3 ta tb : Tok} {c1 c2 e1 e2 e3 e4 e5 e6 e7 : Nat} {oc : Obj} {g0 g1 g2 g3 g4 g5 g6 g7 : Int} {u0 u1 u2 u3 u4 u5 u6 u7 : Tok} {news : Led}
    (N : News h₀ L h ((b, listOf (List.toArray []) c2) :: (a, listOf (List.toArray []) c1) :: TL t td kd sp nm at' tx pa ch ct ([] ++ [.str (Str.ofString "document") tk1]) ([] ++ [.str (Str.ofString "") tk2]) ([] ++ [.str (Str.ofString "") tk3]) ([] ++ [.ref a]) ([] ++ [.str (Str.ofString "") ta]) ([] ++ [.int (-1) tb]) ([] ++ [.ref b]) e1 e2 e3 e4 e5 e6 e7 oc g0 g1 g2 g3 g4 g5 g6 g7 u0 u1 u2 u3 u4 u5 u6 u7 news))
    (hd : DicE ct oc) (ln : ∀ p ∈ news, @LT.lt Nat _ p.1 td) (o0 : @LT.lt Nat _ td t) (od : @Ne Nat t td) (o1 : @LT.lt Nat _ t kd) (o2 : @LT.lt Nat _ td kd) (o3 : @LT.lt Nat _ kd sp) (o4 : @LT.lt Nat _ sp nm) (o5 : @LT.lt Nat _ nm at') (o6 : @LT.lt Nat _ at' tx) (o7 : @LT.lt Nat _ tx pa) (o8 : @LT.lt Nat _ pa ch) (o9 : @LT.lt Nat _ ch ct) (o10 : @LT.lt Nat _ td ct) (la : @LT.lt Nat _ ct a) (lb : @LT.lt Nat _ a b) (lc : ∀ p ∈ news, @LT.lt Nat _ p.1 a) :
    ∃ Z, News h₀ L h (news ++ Z) ∧ TI [] t Z ∧ ∀ q ∈ Z, ∀ p ∈ news, p.1 ≠ q.1 := by
  let x : TV := { td := td, kd := kd, sp := sp, nm := nm, at' := at', tx := tx, pa := pa, ch := ch, ct := ct, kv := [.str (Str.ofString "document") tk1], sv := [.str (Str.ofString "") tk2], nv := [.str (Str.ofString "") tk3], av := [.ref a], tv := [.str (Str.ofString "") ta], pv := [.int (-1) tb], cv := [.ref b], e1 := e1, e2 := e2, e3 := e3, e4 := e4, e5 := e5, e6 := e6, e7 := e7, g0 := g0, g1 := g1, g2 := g2, g3 := g3, g4 := g4, g5 := g5, g6 := g6, g7 := g7, u0 := u0, u1 := u1, u2 := u2, u3 := u3, u4 := u4, u5 := u5, u6 := u6, u7 := u7, oc := oc }
  have o : x.Ord t := ⟨od, o1, o2, o3, o4, o5, o6, o7, o8, o9⟩
  refine ⟨x.led t ((b, listOf (List.toArray []) c2) :: [(a, listOf (List.toArray []) c1)]), fun p hp => N p ?_, ⟨x, b, c2, [(a, listOf (List.toArray []) c1)], [], [Str.ofString "document"], [Str.ofString ""], [-1], [], [[]], rfl, o, hd, Nat.lt_trans la lb, ?_, ⟨.cons _ _ .nil, .cons _ _ .nil, .cons _ _ .nil, .cons _ _ .nil, .cons _ _ .nil, .cons List.mem_cons_self CarD.nil (by decide) .nil, rfl, rfl, rfl, rfl, rfl, rfl, ok_one strOk_doc, ok_one strOk_nil, ok_one strOk_nil, ok_one strOk_nil⟩, ?_, rfl, .nil, rfl⟩, ?_⟩
  · rcases List.mem_append.mp hp with hp | hp
    · exact List.mem_cons_of_mem _ (List.mem_cons_of_mem _ (TV.mem_led (x := x) (t := t).mpr (.inr hp)))
    rcases TV.mem_led.mp hp with hp | hp
    · exact List.mem_cons_of_mem _ (List.mem_cons_of_mem _ (TV.mem_led (x := x) (t := t).mpr (.inl hp)))
    rcases List.mem_cons.mp hp with rfl | hp
    · exact List.mem_cons_self
    rw [List.mem_singleton.mp hp]
    exact List.mem_cons_of_mem _ List.mem_cons_self
  · intro p hp
    rw [List.mem_singleton.mp hp]
    exact ⟨la, Nat.ne_of_lt lb⟩
  · intro j hj
    have : j = 0 := Nat.le_zero.mp hj
    subst this
    rfl
  · intro q hq p hp
    have h1 := ln p hp
    have g0 : @LE.le Nat _ td t := Nat.le_of_lt o0
    have g1 : @LE.le Nat _ td kd := Nat.le_of_lt o2
    have g2 : @LE.le Nat _ td sp := Nat.le_trans g1 (Nat.le_of_lt o3)
    have g3 : @LE.le Nat _ td nm := Nat.le_trans g2 (Nat.le_of_lt o4)
    have g4 : @LE.le Nat _ td at' := Nat.le_trans g3 (Nat.le_of_lt o5)
    have g5 : @LE.le Nat _ td tx := Nat.le_trans g4 (Nat.le_of_lt o6)
    have g6 : @LE.le Nat _ td pa := Nat.le_trans g5 (Nat.le_of_lt o7)
    have g7 : @LE.le Nat _ td ch := Nat.le_trans g6 (Nat.le_of_lt o8)
    have g8 : @LE.le Nat _ td ct := Nat.le_trans g7 (Nat.le_of_lt o9)
    have g9 : @LE.le Nat _ td a := Nat.le_trans g8 (Nat.le_of_lt la)
    have g10 : @LE.le Nat _ td b := Nat.le_trans g9 (Nat.le_of_lt lb)
    have hall : ∀ q ∈ x.led t [], @LE.le Nat _ td q.1 :=
      List.forall_mem_cons.mpr ⟨g0, List.forall_mem_cons.mpr ⟨Nat.le_refl _, List.forall_mem_cons.mpr ⟨g1, List.forall_mem_cons.mpr ⟨g2, List.forall_mem_cons.mpr ⟨g3, List.forall_mem_cons.mpr ⟨g4, List.forall_mem_cons.mpr ⟨g5, List.forall_mem_cons.mpr ⟨g6, List.forall_mem_cons.mpr ⟨g7, List.forall_mem_cons.mpr ⟨g8, List.forall_mem_nil _⟩⟩⟩⟩⟩⟩⟩⟩⟩⟩
    have h2 : @LE.le Nat _ td q.1 := by
      rcases TV.mem_led.mp hq with hq | hq
      · exact hall q hq
      rcases List.mem_cons.mp hq with rfl | hq
      · exact g10
      rw [List.mem_singleton.mp hq]
      exact g9
    exact Nat.ne_of_lt (Nat.lt_of_lt_of_le h1 h2)
end
set_option maxRecDepth 100000 in
set_option maxHeartbeats 0 in
theorem tree_ctr : ∀ (w : World) (news : Led),
      Ctr w 25 600 300 [] news (fun r n' => ∃ t Z, r = .ref t ∧ n' = news ++ Z ∧ TI [] t Z ∧ ∀ q ∈ Z, ∀ p ∈ news, p.1 ≠ q.1) := by
  k_with_none
  k_with "k_ne" => (refine neN ?_; (try dsimp only); first | with_reducible assumption | exact Ne.symm (by with_reducible assumption) | exact neB0 (by with_reducible assumption) | exact neA0 (by with_reducible assumption) | exact neF0 (by with_reducible assumption) | exact neE0 (by with_reducible assumption) | exact neB1 (by with_reducible assumption) | exact neA1 (by with_reducible assumption) | exact neF1 (by with_reducible assumption) | exact neE1 (by with_reducible assumption) | exact neB2 (by with_reducible assumption) | exact neA2 (by with_reducible assumption) | exact neF2 (by with_reducible assumption) | exact neE2 (by with_reducible assumption) | exact neB3 (by with_reducible assumption) | exact neA3 (by with_reducible assumption) | exact neF3 (by with_reducible assumption) | exact neE3 (by with_reducible assumption) | exact neB4 (by with_reducible assumption) | exact neA4 (by with_reducible assumption) | exact neF4 (by with_reducible assumption) | exact neE4 (by with_reducible assumption) | exact neB5 (by with_reducible assumption) | exact neA5 (by with_reducible assumption) | exact neF5 (by with_reducible assumption) | exact neE5 (by with_reducible assumption) | exact neB6 (by with_reducible assumption) | exact neA6 (by with_reducible assumption) | exact neF6 (by with_reducible assumption) | exact neE6 (by with_reducible assumption) | exact neB7 (by with_reducible assumption) | exact neA7 (by with_reducible assumption) | exact neF7 (by with_reducible assumption) | exact neE7 (by with_reducible assumption) | exact neB8 (by with_reducible assumption) | exact neA8 (by with_reducible assumption) | exact neF8 (by with_reducible assumption) | exact neE8 (by with_reducible assumption) | exact neB9 (by with_reducible assumption) | exact neA9 (by with_reducible assumption) | exact neF9 (by with_reducible assumption) | exact neE9 (by with_reducible assumption) | exact neB10 (by with_reducible assumption) | exact neA10 (by with_reducible assumption) | exact neF10 (by with_reducible assumption) | exact neE10 (by with_reducible assumption) | exact neB11 (by with_reducible assumption) | exact neA11 (by with_reducible assumption) | exact neF11 (by with_reducible assumption) | exact neE11 (by with_reducible assumption) | exact neB12 (by with_reducible assumption) | exact neA12 (by with_reducible assumption) | exact neF12 (by with_reducible assumption) | exact neE12 (by with_reducible assumption))
  k_with "call builtin:len" => (k_here; (with_reducible show wpAny _ _ (call (Value.builtin "len") [Value.ref _]) _ _ _); k_dflt (refine' KM.len_K (by k_asm) (by (first | assumption | k_mem)) (by (first | exact List.size_toArray | with_reducible rfl)) (by (first | omega | (simp only [List.size_toArray, List.length_append, List.length_cons, List.length_nil]; omega))) ?_))
  k_with "k_all" => assumption
  intro w news
  unfold Ctr
  k_fill
  intro dp un gd cn cs a ccd cl outer A₀ base h₀ L m s Q E p loose mean mg mb B F X N T hk hd hu hret
  k_dflt (refine' call_cls (by k_asm) (by k_asm) (by k_asm) (by k_is) (by k_is) (by k_is) ?_; k_whole; intro x' d' h' F' N' l1 l2; (try k_lt2 l2); (try k_sweep))
  have ln : ∀ p ∈ news, p.1 < d' := l1
  k_dflt (refine' code_def (by k_asm) (by k_asm) (by k_asm) (by k_asm) (by k_asm) (by exact rfl) (by exact rfl) (by assumption) (by k_is) (by k_is) (by ktr_room) (by (first | exact BindsTo.of_eq rfl | exact binds_K (by k_in) rfl (by k_is) rfl rfl rfl)) (by exact locs rfl) ?_ (by exact rfl) (by exact rfl) (by exact rfl) (by decide); k_whole; intro g' L' h' FG' F' N' B' X' T'; (try dsimp only); (try k_lift B'); (try k_fold))
  k_steps
  rename News g' L' _ _ => kN
  rename Fr g' L' _ _ => kF
  rename Obj.IsDictOf (PySem.strKind _ _) _ _ => hdic
  rename (_ == sysModules) = false => hlow
  have kT := newsTL kN
  k_dflt (refine' Ctr.use B' kF X' (news := TL _ _ _ _ _ _ _ _ _ _ [] [] [] [] [] [] [] _ _ _ _ _ _ _ _ _ _ _ _ _ _ _ _ _ _ _ _ _ _ _ _ _) kT T' rfl (add0_ctr w _ _ _ _ _ _ _ _ _ _ _ _ _ _ _ _ _ _ _ _ _ _ _ _ _ _ _ _ _ _ _ _ _ _ _ _ _ _ _ _ _ _ _ _ ?oR ?oS ?oN ?oA ?oX ?oP ?oC ?od ?o1 ?o2 ?o3 ?o4 ?o5 ?o6 ?o7 ?o8 ?o9 ?hz) ?d ?u ?_)
  case oR | oS | oN | oA | oX | oP | oC => exact fun p hp => Nat.ne_of_lt (Nat.lt_trans (ln p hp) (by omega))
  case od | o1 | o2 | o3 | o4 | o5 | o6 | o7 | o8 | o9 => omega
  case hz => exact ⟨by decide, by decide, by decide, by decide, by decide, by decide, by decide⟩
  case d => ktr_room
  case u => first | (show un + 3 + 150 < cLine; omega) | (show un + 1 + 3 + 150 < cLine; omega) | (show un + 2 + 3 + 150 < cLine; omega)
  intro r9 n9 h9 tk9 p9 F9 N9
  obtain ⟨⟨t9, rx9⟩, a9, b9, c9, d9, k29, k39, ta9, tb9, e9', la9, lb9, lc9⟩ := p9
  subst rx9
  subst e9'
  try dsimp only
  try k_fold
  k_steps
  rename News h₀ L _ _ => kE
  rename Fr h₀ L _ _ => kG
  obtain ⟨Z, q1, q2, q3⟩ := tree_end kE (DicE.of hlow hdic) ln (by omega) (by omega) (by omega) (by omega) (by omega) (by omega) (by omega) (by omega) (by omega) (by omega) (by omega) (by omega) la9 lb9 lc9
  exact hret _ _ _ _ ⟨_, Z, rfl, rfl, q2, q3⟩ kG q1
section
open PySem PySem.W PyProof.Rows PySem.Calls PySem.Spec PyProof.Rows.LCg
section
variable {prog : Program} {w : World} {A : Around} {E : Value → Shared → Prop} {s : Shared} {h₀ : Heap} {L : Addr} {m : Str → Option Value} {env : Env}
/-- the end of an element's evaluation -/
def EltJ (h₀ : Heap) (L : Addr) (m : Str → Option Value) (s : Shared) (I C D : Addr) (oI oC : Obj) (ys : List Value) (J : Value → List (Addr × Obj) → Prop) (y : Value) (s₂ : Shared) : Prop :=
  ∃ h' tk nw', s₂ = { s with heap := h', toks := tk } ∧ Fr h₀ L h' m ∧ News h₀ L h' ((I, oI) :: (C, oC) :: (D, lst ys) :: nw') ∧ Off3 I C D nw' ∧ J y nw'
/-- a comprehension over a ledger's list whose element calls, by an invariant -/
theorem listJ_src {elt : Expr} {x : Str} {scope : Scope} {cl : List (Str × Addr)} {Fin : Shared → List Value → List (Addr × Obj) → Prop} {ax : Addr} {vs : List Value} {k : Nat} {news : List (Addr × Obj)}
    (hh : A.handled = none) (F : Fr h₀ L s.heap m) (N : News h₀ L s.heap news) (hm : (ax, listOf vs.toArray k) ∈ news) (hz : vs.length ≤ 1000)
    (h : Later (∃ J : Nat → List Value → List (Addr × Obj) → Prop, J 0 [] news ∧ (∀ i ys nw, J i ys nw → (ax, listOf vs.toArray k) ∈ nw) ∧
      (∀ (i : Nat) (ys : List Value) nw v I oI C oC D m₂ h tk (E' : Value → Shared → Prop), vs[i]? = some v → J i ys nw → NsObj oC m₂ → m₂ x = some v → Fr h₀ L h m → News h₀ L h ((I, oI) :: (C, oC) :: (D, lst ys) :: nw) → Off3 I C D nw → ((@Ne Nat I C) ∧ (@Ne Nat I D) ∧ (@Ne Nat C D)) →
        wpAny (model prog w) A (eval elt (compEnvC scope cl C env)) (EltJ h₀ L m s I C D oI oC ys (fun y nw' => J (i + 1) (ys ++ [y]) nw')) E' { s with heap := h, toks := tk }) ∧
      (∀ h' zs nw, J vs.length zs nw → Fin { s with heap := h' } zs nw))) :
    CompSrc prog w A h₀ L m env elt x scope cl Fin (.ref ax) s := list_src hh F N hm hz h
/-- a comprehension over a ledger's tuple whose element calls, by an invariant -/
theorem tupJ_src {elt : Expr} {x : Str} {scope : Scope} {cl : List (Str × Addr)} {Fin : Shared → List Value → List (Addr × Obj) → Prop} {ax : Addr} {vs : List Value} {news : List (Addr × Obj)}
    (hh : A.handled = none) (F : Fr h₀ L s.heap m) (N : News h₀ L s.heap news) (hm : (ax, tupOf vs) ∈ news) (hz : vs.length ≤ 1000)
    (h : Later (∃ J : Nat → List Value → List (Addr × Obj) → Prop, J 0 [] news ∧ (∀ i ys nw, J i ys nw → (ax, tupOf vs) ∈ nw) ∧
      (∀ (i : Nat) (ys : List Value) nw v I oI C oC D m₂ h tk (E' : Value → Shared → Prop), vs[i]? = some v → J i ys nw → NsObj oC m₂ → m₂ x = some v → Fr h₀ L h m → News h₀ L h ((I, oI) :: (C, oC) :: (D, lst ys) :: nw) → Off3 I C D nw → ((@Ne Nat I C) ∧ (@Ne Nat I D) ∧ (@Ne Nat C D)) →
        wpAny (model prog w) A (eval elt (compEnvC scope cl C env)) (EltJ h₀ L m s I C D oI oC ys (fun y nw' => J (i + 1) (ys ++ [y]) nw')) E' { s with heap := h, toks := tk }) ∧
      (∀ h' zs nw, J vs.length zs nw → Fin { s with heap := h' } zs nw))) :
    TupSrc prog w A h₀ L m env elt x scope cl Fin (.ref ax) s := by
  obtain ⟨J, J0, hJm, T, fin⟩ := h.out
  refine ⟨ax, vs, news, rfl, hh, F, N, hm, hz, fun s₂ ⟨g, e⟩ => ?_⟩
  subst e
  have hsz : vs.toArray.size = vs.length := List.size_toArray
  have key : ∀ (j i : Nat) (zs : List Value) nw, i + j = vs.toArray.size → J i zs nw →
      CompRest prog w A h₀ L m env elt x scope cl { s with heap := g } (fun nw => (ax, tupOf vs) ∈ nw) (fun i v => vs.toArray[i]? = some v) (Fin { s with heap := g }) j i zs nw := by
    intro j
    induction j with
    | zero =>
      intro i zs nw hij hJ
      have e : i = vs.length := by omega
      subst e
      exact CompRest.zero (fin g zs nw hJ)
    | succ j ih =>
      intro i zs nw hij hJ
      refine CompRest.succ ?_
      intro v I oI C oC D m₂ h tk E' hv hC hx F₁ N₁ off ne
      rw [List.getElem?_toArray] at hv
      refine wpAny_mono (T i zs nw v I oI C oC D m₂ h tk E' hv hJ hC hx F₁ N₁ off ne) (fun y s₄ q => ?_) fun _ _ e => e
      obtain ⟨h', tk', nw', rfl, F', N', off', hJ'⟩ := q
      exact ⟨h', tk', nw', rfl, F', N', off', hJm _ _ _ hJ', ih (i + 1) _ nw' (by omega) hJ'⟩
  exact key _ 0 [] news (by omega) J0
/-- the copies so far of rows of a ledger -/
def CopyJ (base : Led) (rows : List (List PyData)) (i : Nat) (ys : List Value) (nw : Led) : Prop := (∀ p ∈ base, p ∈ nw) ∧ Rows nw ys (rows.take i)
theorem CopyJ.start (base : Led) (rows : List (List PyData)) : CopyJ base rows 0 [] base := ⟨fun _ h => h, .nil⟩
theorem Rows.get {Z : Led} {vl : List Value} {rl : List (List PyData)} (h : Rows Z vl rl) : ∀ {i : Nat} {v : Value}, vl[i]? = some v → ∃ a vs n ds, v = .ref a ∧ (a, listOf (List.toArray vs) n) ∈ Z ∧ CarD vs ds ∧ vs.length ≤ 100 ∧ rl[i]? = some ds := by
  induction h with
  | nil => intro i v e; simp at e
  | @cons a vs n ds vl rl h1 h2 h3 _ ih =>
    intro i v e
    cases i with
    | zero =>
      rw [List.getElem?_cons_zero] at e
      obtain rfl := Option.some.inj e
      exact ⟨a, vs, n, ds, rfl, h1, h2, h3, rfl⟩
    | succ i =>
      rw [List.getElem?_cons_succ] at e
      obtain ⟨a', vs', n', ds', q1, q2, q3, q4, q5⟩ := ih e
      exact ⟨a', vs', n', ds', q1, q2, q3, q4, by rw [List.getElem?_cons_succ]; exact q5⟩
theorem off3_cons {I C D : Addr} {nw : Led} {p : Addr × Obj} (h : Off3 I C D nw) (h1 : @LT.lt Nat _ I p.1) (h2 : @LT.lt Nat _ C p.1) (h3 : @LT.lt Nat _ D p.1) : Off3 I C D (p :: nw) :=
  ⟨⟨(Nat.ne_of_gt h1), (Nat.ne_of_gt h2), (Nat.ne_of_gt h3)⟩, h⟩
/-- the end of a turn that copies a row -/
theorem copy_end {base nw : Led} {rows : List (List PyData)} {i : Nat} {ys : List Value} {I C D D' : Addr} {oI oC : Obj} {h' : Heap} {tk' : Nat} {vs : List Value} {c : Nat} {ds : List PyData}
    (hJ : CopyJ base rows i ys nw) (hr : rows[i]? = some ds) (hc : CarD vs ds) (hl : vs.length ≤ 100) (off : Off3 I C D nw) (F : Fr h₀ L h' m)
    (N : News h₀ L h' ((D', listOf (List.toArray vs) c) :: (I, oI) :: (C, oC) :: (D, lst ys) :: nw)) (l1 : ∀ p ∈ (I, oI) :: (C, oC) :: (D, lst ys) :: nw, p.1 < D') :
    EltJ h₀ L m s I C D oI oC ys (fun y nw' => CopyJ base rows (i + 1) (ys ++ [y]) nw') (.ref D') { s with heap := h', toks := tk' } := by
  refine ⟨h', tk', (D', listOf (List.toArray vs) c) :: nw, rfl, F, fun p hp => N p ?_, off3_cons off (l1 _ List.mem_cons_self) (l1 _ (List.mem_cons_of_mem _ List.mem_cons_self)) (l1 _ (List.mem_cons_of_mem _ (List.mem_cons_of_mem _ List.mem_cons_self))), fun p hp => sub_tail p (hJ.1 p hp), ?_⟩
  · rcases List.mem_cons.mp hp with rfl | hp
    · exact List.mem_cons_of_mem _ List.mem_cons_self
    rcases List.mem_cons.mp hp with rfl | hp
    · exact List.mem_cons_of_mem _ (List.mem_cons_of_mem _ List.mem_cons_self)
    rcases List.mem_cons.mp hp with rfl | hp
    · exact List.mem_cons_of_mem _ (List.mem_cons_of_mem _ (List.mem_cons_of_mem _ List.mem_cons_self))
    rcases List.mem_cons.mp hp with rfl | hp
    · exact List.mem_cons_self
    · exact List.mem_cons_of_mem _ (List.mem_cons_of_mem _ (List.mem_cons_of_mem _ (List.mem_cons_of_mem _ hp)))
  · rw [List.take_add_one, hr]
    exact (hJ.2.mono sub_tail).snoc List.mem_cons_self hc hl
theorem list_rowN {Q : Value → Shared → Prop} {a : Addr} {vs : List Value} {n : Nat} {news : Led} (F : Fr h₀ L s.heap m) (N : News h₀ L s.heap news) (hm : (a, listOf (List.toArray vs) n) ∈ news) (hz : vs.length ≤ 100)
    (h : ∀ D c h', Fr h₀ L h' m → News h₀ L h' ((D, listOf (List.toArray vs) c) :: news) → (∀ q ∈ news, q.1 < D) → Q (.ref D) { s with heap := h' }) :
    wpAny (model prog w) A (call (.type "list") [.ref a]) Q E s :=
  list_copyK F N (News.isList N hm) h (by rw [List.size_toArray, PySem.sizeLine_eq]; omega)
end
section
variable {prog : Program} {w : World} {A : Around} {E : Value → Shared → Prop} {s : Shared} {h₀ : Heap} {L : Addr} {m : Str → Option Value} {news : Led}
theorem dict_nilN {Q : Value → Shared → Prop} {p : Program} {loose : List Str} {mean : ExcName → Option Value} {mg mb : Str → Option Value} {a : Addr} {o : Obj} (F : Fr h₀ L s.heap m) (N : News h₀ L s.heap news) (T : Top p loose mean mg mb h₀) (hm : (a, o) ∈ news) (hd : DicE a o)
    (h : ∀ D o' h', Fr h₀ L h' m → News h₀ L h' ((D, o') :: news) → (∀ q ∈ news, q.1 < D) → DicE D o' → Q (.ref D) { s with heap := h' }) :
    wpAny (model prog w) A (call (.type "dict") [.ref a]) Q E s :=
  kt_dict_K (knd := PySem.strKind _ _) (enc := PyData.str) (D := []) F N T.nolimit ⟨hd.1, [], Heap.dictOf_iff.mpr ⟨o, N.get hm, hd.isOf _⟩, .nil⟩ (by decide) fun D h' o' kvs F' N' l1 lo hk hf => h D o' h' F' N' l1 (DicE.of lo (by cases hf; exact hk))
/-- a list at a, of these rows -/
def LstAt (Z : Led) (a : Addr) (r : List (List PyData)) : Prop := ∃ vl n, (a, listOf (List.toArray vl) n) ∈ Z ∧ Rows Z vl r
/-- what _law_fields gives -/
def FieldsAt (Z : Led) (R : Addr) (r1 r2 r3 : List (List PyData)) : Prop :=
  ∃ a b c D o, (R, tupOf [.ref a, .ref b, .ref c, .ref D]) ∈ Z ∧ LstAt Z a r1 ∧ LstAt Z b r2 ∧ LstAt Z c r3 ∧ (D, o) ∈ Z ∧ DicE D o
theorem LstAt.mono {Z Y : Led} {a : Addr} {r : List (List PyData)} (h : LstAt Z a r) (s : ∀ p ∈ Z, p ∈ Y) : LstAt Y a r := by
  obtain ⟨vl, n, h1, h2⟩ := h
  exact ⟨vl, n, s _ h1, h2.mono s⟩
theorem FieldsAt.mono {Z Y : Led} {R : Addr} {r1 r2 r3 : List (List PyData)} (h : FieldsAt Z R r1 r2 r3) (s : ∀ p ∈ Z, p ∈ Y) : FieldsAt Y R r1 r2 r3 := by
  obtain ⟨a, b, c, D, o, h1, h2, h3, h4, h5, h6⟩ := h
  exact ⟨a, b, c, D, o, s _ h1, h2.mono s, h3.mono s, h4.mono s, s _ h5, h6⟩
theorem Rows.reads {Z : Led} {h : Heap} (N : News h₀ L h Z) {vl : List Value} {r : List (List PyData)} (hr : Rows Z vl r) : ∃ as, ReadsAll h vl (r.map PyData.list) as := by
  induction hr with
  | nil => exact ⟨_, .nil⟩
  | cons h1 h2 _ _ ih =>
    obtain ⟨as, ih⟩ := ih
    exact ⟨_, .cons (reads_list_at (N.get h1) rfl rfl (h2.1.reads h)) ih⟩
theorem LstAt.reads {Z : Led} {h : Heap} (N : News h₀ L h Z) {a : Addr} {r : List (List PyData)} (hr : LstAt Z a r) : ∃ as, Reads h (.ref a) (.list (r.map PyData.list)) as := by
  obtain ⟨vl, n, h1, h2⟩ := hr
  obtain ⟨as, h3⟩ := h2.reads N
  exact ⟨_, reads_list_at (N.get h1) rfl rfl h3⟩
/-- rows that may be compared -/
def RowsOk (r : List (List PyData)) : Prop := PySem.SeqAt.shaped (.list (r.map PyData.list)) = true
theorem Rows.ok {Z : Led} {vl : List Value} {r : List (List PyData)} (h : Rows Z vl r) : RowsOk r := by
  have key : PyData.canLayAll0 (r.map PyData.list) = true ∧ PyData.depthAll (r.map PyData.list) ≤ 2 := by
    induction h with
    | nil => exact ⟨rfl, by decide⟩
    | cons h1 h2 _ _ ih =>
      obtain ⟨i1, i2⟩ := ih
      obtain ⟨_, j1, j2⟩ := h2
      refine ⟨?_, ?_⟩
      · simp [PyData.canLayAll0, PyData.canLay0, j1, i1]
      · simp only [List.map_cons, PyData.depthAll, PyData.depth]; omega
  obtain ⟨h1, h2⟩ := key
  have h3 : (PyData.list (r.map PyData.list)).depth ≤ 64 := by simp only [PyData.depth]; omega
  have h4 : (PyData.list (r.map PyData.list)).canLay0 = true := by simp only [PyData.canLay0, h1]
  simp [RowsOk, PySem.SeqAt.shaped, h3, h4]
theorem lst_eq {Z : Led} (N : News h₀ L s.heap Z) {a b : Addr} {r : List (List PyData)} (ha : LstAt Z a r) (hb : LstAt Z b r) (ok : RowsOk r) (hu : A.units + 64 < cLine) : PySem.SeqAt.EqAt A s (.ref a) (.ref b) true := by
  obtain ⟨as, ra⟩ := ha.reads N
  obtain ⟨bs, rb⟩ := hb.reads N
  have x := PySem.SeqAt.eqAt_reads _ _ A s _ _ as bs ra rb (PySem.SeqAt.canLay_of_shaped ok) (PySem.SeqAt.canLay_of_shaped ok) (PySem.SeqAt.room_of_shaped ok hu)
  rw [PySem.SeqAt.eqv_refl _ (PySem.SeqAt.canLay_of_shaped ok)] at x
  exact x
theorem dic_rc {Z : Led} (N : News h₀ L s.heap Z) {a b : Addr} {oa ob : Obj} (ha : (a, oa) ∈ Z) (hb : (b, ob) ∈ Z) (da : DicE a oa) (db : DicE b ob) (hu : A.units < cLine) : PySem.SeqAt.RcAt A s (.ref a) (.ref b) true := fun prog w _ _ h =>
  keq_eq (knd := PySem.strKind prog w) (r := true) da.1 db.1 (Heap.dictOf_iff.mpr ⟨oa, N.get ha, da.isOf _⟩) (Heap.dictOf_iff.mpr ⟨ob, N.get hb, db.isOf _⟩) hu (fun _ => .nil) h
theorem dic_eq {Z : Led} (N : News h₀ L s.heap Z) {a b : Addr} {oa ob : Obj} (ha : (a, oa) ∈ Z) (hb : (b, ob) ∈ Z) (da : DicE a oa) (db : DicE b ob) (hu : A.units < cLine) : PySem.SeqAt.EqAt A s (.ref a) (.ref b) true := by
  by_cases h : a = b
  · subst h; exact PySem.SeqAt.EqAt.same _
  · exact PySem.SeqAt.EqAt.of_refs h (dic_rc N ha hb da db hu)
theorem fields_eq {Z : Led} {R S : Addr} {r1 r2 r3 : List (List PyData)} {Q : Value → Shared → Prop} (N : News h₀ L s.heap Z) (h1 : FieldsAt Z R r1 r2 r3) (h2 : FieldsAt Z S r1 r2 r3) (ok1 : RowsOk r1) (ok2 : RowsOk r2) (ok3 : RowsOk r3) (hu : A.units + 66 < cLine) (h : Q (.bool true) s) :
    wpAny (model prog w) A (compareOp .Eq (.ref R) (.ref S)) Q E s := by
  obtain ⟨a, b, c, D, o, m1, m2, m3, m4, m5, m6⟩ := h1
  obtain ⟨a', b', c', D', o', k1, k2, k3, k4, k5, k6⟩ := h2
  have hu2 : A.in1.units + 64 < cLine := by show A.units + 1 + 64 < cLine; omega
  have x := PySem.SeqAt.RcAt.tuples (A := A) (e := fun _ => true) (News.isTup N m1) (News.isTup N k1) (by omega) (fun j j1 j2 => ?_)
  · exact x prog w E Q h
  · have hj : j < 4 := j1
    match j, hj with
    | 0, _ => exact lst_eq N m2 k2 ok1 hu2
    | 1, _ => exact lst_eq N m3 k3 ok2 hu2
    | 2, _ => exact lst_eq N m4 k4 ok3 hu2
    | 3, _ => exact dic_eq N m5 k5 m6 k6 (by omega)
end
end
section
open PySem PySem.W PyProof.Rows
/-- what _law_fields reads of a tree -/
inductive FT (Z : Led) (t : Addr) (r1 r2 r3 : List (List PyData)) : Prop
  | mk (td kd sp nm at' tx pa ch ct : Addr) (g0 g1 g2 g3 g4 g5 g6 g7 : Int) (u0 u1 u2 u3 u4 u5 u6 u7 : Tok) (oc : Obj) (cv av : List Value) (e4 e7 : Nat)
      (h1_ : (t, instObj 300 td) ∈ Z)
      (h2_ : (td, dictOf [⟨g0, .str (Str.ofString "kinds") u0, .ref kd⟩, ⟨g1, .str (Str.ofString "spaces") u1, .ref sp⟩, ⟨g2, .str (Str.ofString "names") u2, .ref nm⟩, ⟨g3, .str (Str.ofString "attrs") u3, .ref at'⟩, ⟨g4, .str (Str.ofString "texts") u4, .ref tx⟩, ⟨g5, .str (Str.ofString "parents") u5, .ref pa⟩, ⟨g6, .str (Str.ofString "children") u6, .ref ch⟩, ⟨g7, .str (Str.ofString "contents") u7, .ref ct⟩] 8) ∈ Z)
      (h3_ : Rows Z [.ref kd, .ref sp, .ref nm, .ref tx, .ref pa] r1)
      (h4_ : (ch, listOf (List.toArray cv) e7) ∈ Z)
      (h5_ : Rows Z cv r2)
      (h6_ : cv.length ≤ 100)
      (h7_ : (at', listOf (List.toArray av) e4) ∈ Z)
      (h8_ : Rows Z av r3)
      (h9_ : av.length ≤ 100)
      (h10_ : (ct, oc) ∈ Z)
      (h11_ : DicE ct oc) : FT Z t r1 r2 r3
theorem FT.mono {Z Y : Led} {t : Addr} {r1 r2 r3 : List (List PyData)} (h : FT Z t r1 r2 r3) (s : ∀ p ∈ Z, p ∈ Y) : FT Y t r1 r2 r3 := by
  obtain ⟨td, kd, sp, nm, at', tx, pa, ch, ct, g0, g1, g2, g3, g4, g5, g6, g7, u0, u1, u2, u3, u4, u5, u6, u7, oc, cv, av, e4, e7, h1, h2, h3, h4, h5, h6, h7, h8, h9, h10, h11⟩ := h
  exact ⟨td, kd, sp, nm, at', tx, pa, ch, ct, g0, g1, g2, g3, g4, g5, g6, g7, u0, u1, u2, u3, u4, u5, u6, u7, oc, cv, av, e4, e7, s _ h1, s _ h2, h3.mono s, s _ h4, h5.mono s, h6, s _ h7, h8.mono s, h9, s _ h10, h11⟩
end
set_option maxRecDepth 100000 in
set_option maxHeartbeats 0 in
theorem fields_ctr : ∀ (w : World) (news : Led) (t : Addr) (r1 r2 r3 : List (List PyData)) (hF : FT news t r1 r2 r3),
      Ctr w 6 300 361 [.ref t] news (fun r n' => ∃ R, r = .ref R ∧ (∀ p ∈ news, p ∈ n') ∧ FieldsAt n' R r1 r2 r3) := by
  k_with_none
  k_with "call builtin:len" => (k_here; (with_reducible show wpAny _ _ (call (Value.builtin "len") [Value.ref _]) _ _ _); k_dflt (refine' KM.len_K (by k_asm) (by (first | assumption | k_mem)) (by (first | exact List.size_toArray | with_reducible rfl)) (by (first | omega | (simp only [List.size_toArray, List.length_append, List.length_cons, List.length_nil]; omega))) ?_))
  k_with "k_all" => assumption
  k_with "exec Assign cons ListComp" => (k_here; (with_reducible show wpAny _ _ (exec (PySem.Stmt.Assign _ (PySem.Expr.ListComp _ (List.cons (PySem.Comprehension.mk (PySem.Expr.Name _ _) (PySem.Expr.Tuple _ _ _) List.nil _) _) _ _) _) _) _ _ _); k_dflt (refine tup_Assign (by k_asm) (by rfl) (by with_unfolding_all rfl) (by with_unfolding_all rfl) (by decide) (by rfl) (by decide) (by rfl) (by rfl) (by rfl) ?_))
  k_with "TupSrc" => (k_dflt (refine' tupJ_src (by exact rfl) (by k_asm) (by k_asm) (by k_mem) (by exact Nat.le_of_ble_eq_true rfl) ?_))
  k_with "eval ListComp" => (k_here; (with_reducible show wpAny _ _ (eval (PySem.Expr.ListComp _ (List.cons (PySem.Comprehension.mk (PySem.Expr.Name _ _) _ List.nil _) _) _ _) _) _ _ _); k_dflt (refine LCg.ListComp_U (by k_asm) (by with_unfolding_all rfl) (by decide) (by rfl) (by decide) (by rfl) ?_))
  k_with "CompSrc" => (k_dflt (refine' listJ_src (by exact rfl) (by k_asm) (by k_asm) (by k_mem) (by (first | with_reducible assumption | omega)) ?_))
  k_with "call type:list" => (k_here; (with_reducible show wpAny _ _ (call (Value.type _) [Value.ref _]) _ _ _); k_dflt (refine' list_rowN (by k_asm) (by k_asm) (by k_mem) (by assumption) ?_); intro D9 c9 h9 F9 N9 l9)
  k_with "call type:dict" => (k_here; (with_reducible show wpAny _ _ (call (Value.type _) [Value.ref _]) _ _ _); k_dflt (refine' dict_nilN (by k_asm) (by k_asm) (by k_asm) (by k_mem) (by assumption) ?_); intro D9 o9 h9 F9 N9 l9 d9)
  intro w news t r1 r2 r3 hF
  unfold Ctr
  k_fill
  obtain ⟨td, kd, sp, nm, at', tx, pa, ch, ct, g0, g1, g2, g3, g4, g5, g6, g7, u0, u1, u2, u3, u4, u5, u6, u7, oc, cv, av, e4, e7, f1, f2, f3, f4, f5, f6, f7, f8, f9, f10, f11⟩ := hF
  intro dp un gd cn cs a ccd cl outer A₀ base h₀ L m s Q E p loose mean mg mb B F X N T hk hd hu hret
  refine wpAny_call ?_
  k_dflt cell_enter
  k_steps
  refine ⟨⟨CopyJ _ r1, CopyJ.start _ _, fun i ys nw h => h.1 _ List.mem_cons_self, ?_, ?_⟩⟩
  · intro i ys nw v I oI C oC D m₂ h tk E' hv hJ hC hx F₁ N₁ off ne
    obtain ⟨a, vs, n, ds, rfl, ha, hc, hl, hr⟩ := f3.get hv
    have hm := hJ.1 _ (sub_tail _ ha)
    k_steps
    rename ∀ q ∈ _, _ < _ => l9
    exact copy_end hJ hr hc hl off (by assumption) (by assumption) l9
  · intro h' zs nw hJ
    obtain ⟨hs, hR⟩ := hJ
    rw [f3.len, List.take_length] at hR
    replace f1 := hs _ (sub_tail _ f1)
    replace f2 := hs _ (sub_tail _ f2)
    replace f4 := hs _ (sub_tail _ f4)
    replace f7 := hs _ (sub_tail _ f7)
    replace f10 := hs _ (sub_tail _ f10)
    replace f5 := (f5.mono sub_tail).mono hs
    replace f8 := (f8.mono sub_tail).mono hs
    have hs0 : ∀ p ∈ news, p ∈ nw := fun p hp => hs p (sub_tail p hp)
    clear hs f3
    k_steps
    refine ⟨⟨CopyJ _ r2, CopyJ.start _ _, fun i ys nw h => h.1 _ (sub_tail _ f4), ?_, ?_⟩⟩
    · intro i ys nw v I oI C oC D m₂ h tk E' hv hJ hC hx F₁ N₁ off ne
      obtain ⟨a, vs, n, ds, rfl, ha, hc, hl, hr⟩ := f5.get hv
      have hm := hJ.1 _ (sub_tail _ ha)
      k_steps
      rename ∀ q ∈ _, _ < _ => l9
      exact copy_end hJ hr hc hl off (by assumption) (by assumption) l9
    · intro h' zs2 nw2 hJ
      obtain ⟨hs, hR2⟩ := hJ
      rw [f5.len, List.take_length] at hR2
      have m0 := hs _ List.mem_cons_self
      replace f1 := hs _ (sub_tail _ f1)
      replace f2 := hs _ (sub_tail _ f2)
      replace f7 := hs _ (sub_tail _ f7)
      replace f10 := hs _ (sub_tail _ f10)
      replace f8 := (f8.mono sub_tail).mono hs
      replace hR := (hR.mono sub_tail).mono hs
      have hs1 : ∀ p ∈ news, p ∈ nw2 := fun p hp => hs p (sub_tail p (hs0 p hp))
      clear hs hs0 f5 f4
      k_steps
      refine ⟨⟨CopyJ _ r3, CopyJ.start _ _, fun i ys nw h => h.1 _ (sub_tail _ f7), ?_, ?_⟩⟩
      · intro i ys nw v I oI C oC D m₂ h tk E' hv hJ hC hx F₁ N₁ off ne
        obtain ⟨a, vs, n, ds, rfl, ha, hc, hl, hr⟩ := f8.get hv
        have hm := hJ.1 _ (sub_tail _ ha)
        k_steps
        rename ∀ q ∈ _, _ < _ => l9
        exact copy_end hJ hr hc hl off (by assumption) (by assumption) l9
      · intro h' zs3 nw3 hJ
        obtain ⟨hs, hR3⟩ := hJ
        rw [f8.len, List.take_length] at hR3
        replace m0 := hs _ (sub_tail _ m0)
        have m1 := hs _ List.mem_cons_self
        replace f1 := hs _ (sub_tail _ f1)
        replace f2 := hs _ (sub_tail _ f2)
        replace f10 := hs _ (sub_tail _ f10)
        replace hR := (hR.mono sub_tail).mono hs
        replace hR2 := (hR2.mono sub_tail).mono hs
        have hs2 : ∀ p ∈ news, p ∈ nw3 := fun p hp => hs p (sub_tail p (hs1 p hp))
        clear hs hs1 f8 f7
        k_steps
        rename News h₀ L _ _ => kN
        rename DicE _ _ => kD
        have s3 : ∀ (a b c : Addr × Obj), ∀ p ∈ nw3, p ∈ a :: b :: c :: nw3 := fun _ _ _ p hp => List.mem_cons_of_mem _ (List.mem_cons_of_mem _ (List.mem_cons_of_mem _ hp))
        exact hret _ _ _ _ ⟨_, rfl, fun p hp => s3 _ _ _ p (hs2 p hp), ⟨_, _, _, _, _, List.mem_cons_self, ⟨_, _, s3 _ _ _ _ m0, hR.mono (s3 _ _ _)⟩, ⟨_, _, s3 _ _ _ _ m1, hR2.mono (s3 _ _ _)⟩, ⟨_, _, List.mem_cons_of_mem _ (List.mem_cons_of_mem _ List.mem_cons_self), hR3.mono (s3 _ _ _)⟩, List.mem_cons_of_mem _ List.mem_cons_self, kD⟩⟩ (by assumption) kN
section
open PySem PySem.W PyProof.Rows
theorem TI.tre {ps : List (Str × Str)} {t : Addr} {Z : Led} (h : TI ps t Z) : Tre Z t (Str.ofString "" :: ps.map (·.1)) (Str.ofString "" :: ps.map (·.2)) := by
  obtain ⟨x, c, ec, part, cv0, K, X, P, R0, RA, rfl, o, od, oc, op, H, hP, ecv, hR0, lR0⟩ := h
  refine ⟨x.td, x.g0, x.u0, x.g1, x.u1, x.g2, x.u2, x.g3, x.u3, x.g4, x.u4, x.g5, x.u5, x.g6, x.u6, x.g7, x.u7, .ref x.kd, .ref x.at', .ref x.tx, .ref x.pa, .ref x.ch, .ref x.ct, x.sp, x.nm, x.e2, x.e3, x.sv, x.nv, ?_, ?_, ?_, H.s, ?_, H.n⟩
  · exact List.mem_cons_self
  · exact List.mem_cons_of_mem _ List.mem_cons_self
  · exact List.mem_cons_of_mem _ (List.mem_cons_of_mem _ (List.mem_cons_of_mem _ List.mem_cons_self))
  · exact List.mem_cons_of_mem _ (List.mem_cons_of_mem _ (List.mem_cons_of_mem _ (List.mem_cons_of_mem _ List.mem_cons_self)))
theorem TI.ft {ps : List (Str × Str)} {t : Addr} {Z : Led} (h : TI ps t Z) (hl : ps.length ≤ 20) : ∃ r1 r2 r3, FT Z t r1 r2 r3 ∧ RowsOk r1 ∧ RowsOk r2 ∧ RowsOk r3 := by
  obtain ⟨x, c, ec, part, cv0, K, X, P, R0, RA, rfl, o, od, oc, op, H, hP, ecv, hR0, lR0⟩ := h
  obtain ⟨k1, k2, k3, k4⟩ := H.ok
  have lk := StrsAre.len_eq H.k
  have ls := StrsAre.len_eq H.s
  have ln := StrsAre.len_eq H.n
  have lt := StrsAre.len_eq H.t
  have lp := H.p.length
  have la := H.a.len
  have h1 := H.lk; have h2 := H.ls; have h3 := H.ln; have h4 := H.lt; have h5 := H.lp; have h6 := H.la
  have lc : x.cv.length = ps.length + 1 := by rw [ecv, List.length_append, hR0.len, lR0]; rfl
  have hsub : ∀ p ∈ part, p ∈ x.led t ((c, listOf (List.toArray []) ec) :: part) := fun p hp => TV.mem_led.mpr (.inr (List.mem_cons_of_mem _ hp))
  have hc : (c, listOf (List.toArray ([] : List Value)) ec) ∈ x.led t ((c, listOf (List.toArray []) ec) :: part) := TV.mem_led.mpr (.inr List.mem_cons_self)
  have m1 : (x.kd, listOf x.kv.toArray x.e1) ∈ x.led t ((c, listOf (List.toArray []) ec) :: part) := TV.mem_led.mpr (.inl (List.mem_cons_of_mem _ (List.mem_cons_of_mem _ (List.mem_cons_self))))
  have m2 : (x.sp, listOf x.sv.toArray x.e2) ∈ x.led t ((c, listOf (List.toArray []) ec) :: part) := TV.mem_led.mpr (.inl (List.mem_cons_of_mem _ (List.mem_cons_of_mem _ (List.mem_cons_of_mem _ (List.mem_cons_self)))))
  have m3 : (x.nm, listOf x.nv.toArray x.e3) ∈ x.led t ((c, listOf (List.toArray []) ec) :: part) := TV.mem_led.mpr (.inl (List.mem_cons_of_mem _ (List.mem_cons_of_mem _ (List.mem_cons_of_mem _ (List.mem_cons_of_mem _ (List.mem_cons_self))))))
  have m4 : (x.at', listOf x.av.toArray x.e4) ∈ x.led t ((c, listOf (List.toArray []) ec) :: part) := TV.mem_led.mpr (.inl (List.mem_cons_of_mem _ (List.mem_cons_of_mem _ (List.mem_cons_of_mem _ (List.mem_cons_of_mem _ (List.mem_cons_of_mem _ (List.mem_cons_self)))))))
  have m5 : (x.tx, listOf x.tv.toArray x.e5) ∈ x.led t ((c, listOf (List.toArray []) ec) :: part) := TV.mem_led.mpr (.inl (List.mem_cons_of_mem _ (List.mem_cons_of_mem _ (List.mem_cons_of_mem _ (List.mem_cons_of_mem _ (List.mem_cons_of_mem _ (List.mem_cons_of_mem _ (List.mem_cons_self))))))))
  have m6 : (x.pa, listOf x.pv.toArray x.e6) ∈ x.led t ((c, listOf (List.toArray []) ec) :: part) := TV.mem_led.mpr (.inl (List.mem_cons_of_mem _ (List.mem_cons_of_mem _ (List.mem_cons_of_mem _ (List.mem_cons_of_mem _ (List.mem_cons_of_mem _ (List.mem_cons_of_mem _ (List.mem_cons_of_mem _ (List.mem_cons_self)))))))))
  have m7 : (x.ch, listOf x.cv.toArray x.e7) ∈ x.led t ((c, listOf (List.toArray []) ec) :: part) := TV.mem_led.mpr (.inl (List.mem_cons_of_mem _ (List.mem_cons_of_mem _ (List.mem_cons_of_mem _ (List.mem_cons_of_mem _ (List.mem_cons_of_mem _ (List.mem_cons_of_mem _ (List.mem_cons_of_mem _ (List.mem_cons_of_mem _ (List.mem_cons_self))))))))))
  have m8 : (x.ct, x.oc) ∈ x.led t ((c, listOf (List.toArray []) ec) :: part) := TV.mem_led.mpr (.inl (List.mem_cons_of_mem _ (List.mem_cons_of_mem _ (List.mem_cons_of_mem _ (List.mem_cons_of_mem _ (List.mem_cons_of_mem _ (List.mem_cons_of_mem _ (List.mem_cons_of_mem _ (List.mem_cons_of_mem _ (List.mem_cons_of_mem _ (List.mem_cons_self)))))))))))
  have R1 : Rows (x.led t ((c, listOf (List.toArray []) ec) :: part)) [.ref x.kd, .ref x.sp, .ref x.nm, .ref x.tx, .ref x.pa] [K.map PyData.str, (Str.ofString "" :: ps.map (·.1)).map PyData.str, (Str.ofString "" :: ps.map (·.2)).map PyData.str, X.map PyData.str, P.map PyData.int] :=
    .cons m1 (CarD.strs H.k k1) (len100 hl (lk.trans h1)) (.cons m2 (CarD.strs H.s k2) (len100 hl (ls.trans h2)) (.cons m3 (CarD.strs H.n k3) (len100 hl (ln.trans h3)) (.cons m5 (CarD.strs H.t k4) (len100 hl (lt.trans h4)) (.cons m6 (CarD.ints H.p) (len100 hl (lp.trans h5)) .nil))))
  have R2 : Rows (x.led t ((c, listOf (List.toArray []) ec) :: part)) x.cv (R0 ++ [[]]) := by
    rw [ecv]; exact (hR0.mono hsub).snoc hc CarD.nil (by decide)
  have R3 := H.a.mono hsub
  refine ⟨_, _, _, ⟨x.td, x.kd, x.sp, x.nm, x.at', x.tx, x.pa, x.ch, x.ct, x.g0, x.g1, x.g2, x.g3, x.g4, x.g5, x.g6, x.g7, x.u0, x.u1, x.u2, x.u3, x.u4, x.u5, x.u6, x.u7, x.oc, x.cv, x.av, x.e4, x.e7, List.mem_cons_self, List.mem_cons_of_mem _ List.mem_cons_self, R1, m7, R2, len100 hl lc, m4, R3, len100 hl (la.trans h6), m8, od⟩, R1.ok, R2.ok, R3.ok⟩
theorem WS.of {ps : List (Str × Str)} (hl : ps.length = 12) (hp : ∀ p ∈ ps, p.1 ∈ spaces3 ∧ p.2 ∈ names30) : WS (Str.ofString "" :: ps.map (·.1)) (Str.ofString "" :: ps.map (·.2)) (ps.map fun p => wordOf p.1 p.2) := by
  have g1 : ∀ j, (h : j < 12) → (Str.ofString "" :: ps.map (·.1)).getD (j + 1) Str.empty = (ps[j]'(by omega)).1 := fun j h => by
    simp [List.getD, show j < ps.length by omega]
  have g2 : ∀ j, (h : j < 12) → (Str.ofString "" :: ps.map (·.2)).getD (j + 1) Str.empty = (ps[j]'(by omega)).2 := fun j h => by
    simp [List.getD, show j < ps.length by omega]
  refine ⟨by rw [List.length_map, hl], by rw [List.length_cons, List.length_map, hl], by rw [List.length_cons, List.length_map, hl], fun j h => ?_, fun j h => ?_, fun j => ?_, fun j h => ?_⟩
  · rw [g1 j h]; exact (hp _ (List.getElem_mem _)).1
  · rw [g2 j h]; exact (hp _ (List.getElem_mem _)).2
  · cases j with
    | zero => exact strOk_nil
    | succ j =>
      by_cases h : j < 12
      · rw [g2 j h]; exact strOk_names _ (hp _ (List.getElem_mem _)).2
      · have e : (Str.ofString "" :: ps.map (·.2)).getD (j + 1) Str.empty = Str.empty := by
          simp [List.getD, show ps.length ≤ j by omega]
        rw [e]; exact strOk_nil
  · rw [g1 j h, g2 j h]; simp [List.getD, show j < ps.length by omega]
end
section
open PySem PySem.W PyProof.Rows
section
variable {prog : Program} {w : World} {A : Around} {E : Value → Shared → Prop} {s : Shared} {env : Env} {h₀ : Heap} {L : Addr} {x : Str} {body : List Stmt} {Q : Flow → Shared → Prop}
/-- a for over a list of the ledger, by an invariant; the ledger may grow -/
theorem for_G {ax : Addr} {vs : List Value} {n : Nat} {m₀ : Str → Option Value} {news : Led} (hh : A.handled = none) (F : Fr h₀ env.locals s.heap m₀) (N : News h₀ env.locals s.heap news) (hm : (ax, listOf vs.toArray n) ∈ news)
    (h : Later (∃ (stored : List Str) (J : Addr → Nat → Led → Prop), ∀ I : Addr, (∀ p ∈ news, p.1 < I) → J I 0 news ∧ (∀ i nx, J I i nx → (∀ p ∈ nx, p.1 ≠ I) ∧ (ax, listOf vs.toArray n) ∈ nx) ∧
      (∀ (i : Nat) (v : Value) (u : Str → Option Value) (it : Obj) (h : Heap) (tk : Nat) (nx : Led), vs[i]? = some v → J I i nx → (∀ p ∈ nx, p.1 ≠ I) → Fr h₀ env.locals h (fun z => if z = x then some v else if stored.contains z then u z else m₀ z) → News h₀ env.locals h ((I, it) :: nx) →
        wpAny (model prog w) A (execs body env) (TurnF h₀ env.locals s x stored m₀ (J I (i + 1)) I it Q) E { s with heap := h, toks := tk }) ∧
      (∀ (u : Str → Option Value) (h : Heap) (tk : Nat) (nx : Led), J I vs.length nx → Fr h₀ env.locals h (fun z => if z = x then u z else if stored.contains z then u z else m₀ z) → News h₀ env.locals h nx → Q .next { s with heap := h, toks := tk }))) :
    wpAny (model prog w) A (pyIter (.ref ax)) (fun it s₂ => LoopAtV prog w A h₀ env x body Q E it s₂) E s := by
  obtain ⟨stored, J, H⟩ := h.out
  refine iter_listUnr hh F N hm rfl rfl fun I hI => ?_
  obtain ⟨hJ, hadr, turn, done⟩ := H I hI
  have r := for_rest (prog := prog) (w := w) (A := A) (E := E) (s := s) (env := env) (body := body) (Q := Q) (x := x) (I := I) (lp := (ax, listOf vs.toArray n)) stored m₀ (J I) vs hadr turn done vs.length 0 m₀ news (by omega) (fun _ _ _ => rfl) hJ
  rw [List.drop_zero] at r
  exact r
end
section
variable {prog : Program} {w : World} {A : Around} {E : Value → Shared → Prop} {s : Shared} {h₀ : Heap} {L : Addr} {m : Str → Option Value} {news : Led}
theorem word_split {sp nm : Str} (h1 : sp ∈ spaces3) (h2 : nm ∈ names30) : Txt.split (wordOf sp nm) (Str.ofString ".") = [sp, nm] := by
  have h : (spaces3.all fun sp => names30.all fun nm => Txt.split (wordOf sp nm) (Str.ofString ".") == [sp, nm]) = true := by decide +kernel
  exact eq_of_beq (List.all_eq_true.mp (List.all_eq_true.mp h sp h1) nm h2)
theorem word_len {sp nm : Str} (h1 : sp ∈ spaces3) (h2 : nm ∈ names30) : (wordOf sp nm).length ≤ 100 := by
  have h : (spaces3.all fun sp => names30.all fun nm => decide ((wordOf sp nm).length ≤ 100)) = true := by decide +kernel
  exact of_decide_eq_true (List.all_eq_true.mp (List.all_eq_true.mp h sp h1) nm h2)
theorem two_of {l : List (Str × Tok)} {a b : Str} (e : l.map (·.1) = [a, b]) : ∃ t1 t2, l = [(a, t1), (b, t2)] := by
  match l, e with
  | [(a', t1), (b', t2)], e =>
    simp only [List.map_cons, List.map_nil, List.cons.injEq, and_true] at e
    obtain ⟨rfl, rfl⟩ := e
    exact ⟨t1, t2, rfl⟩
theorem split_word {sp nm : Str} {t u : Tok} {Q : Value → Shared → Prop} (F : Fr h₀ L s.heap m) (N : News h₀ L s.heap news) (h1 : sp ∈ spaces3) (h2 : nm ∈ names30)
    (h : ∀ D t1 t2 h' k, Fr h₀ L h' m → News h₀ L h' ((D, listOf (List.toArray [.str sp t1, .str nm t2]) 0) :: news) → (∀ p ∈ news, p.1 < D) → Q (.ref D) { s with heap := h', toks := k }) :
    wpAny (model prog w) A (call (.builtin "str.split") [.str (wordOf sp nm) t, .str (Str.ofString ".") u]) Q E s := by
  have hl := word_len h1 h2
  refine KSpl.split1 F N (by decide) (fun D l h' k e _ F' N' l1 => ?_) (by rw [PySem.sizeLine_eq]; omega)
  rw [word_split h1 h2] at e
  obtain ⟨t1, t2, rfl⟩ := two_of e
  exact h D t1 t2 h' k F' N' l1
end
end
section
open PySem PySem.W PyProof.Rows
/-- between the turns of the loop that builds the tree -/
def LoopJ (ps : List (Str × Str)) (t nl : Addr) (p3 p4 : Addr × Obj) (I : Addr) (i : Nat) (nx : Led) : Prop :=
  ∃ vsn en Z, nx = (nl, listOf (List.toArray vsn) en) :: p3 :: p4 :: Z ∧ IntsAre vsn (upTo i) ∧ TI (ps.take i) t Z ∧ (∀ q ∈ Z, q.1 ≠ I) ∧ (∀ q ∈ Z, q.1 ≠ nl) ∧ (∀ q ∈ Z, q.1 ≠ p3.1) ∧ (∀ q ∈ Z, q.1 ≠ p4.1) ∧ (@Ne Nat nl I) ∧ (@Ne Nat p3.1 I) ∧ (@Ne Nat p4.1 I)
theorem LoopJ.start {ps : List (Str × Str)} {t nl : Addr} {p3 p4 : Addr × Obj} {I : Addr} {en : Nat} {Z : Led} (hT : TI [] t Z) (hI : ∀ p ∈ (nl, listOf (List.toArray []) en) :: p3 :: p4 :: Z, @LT.lt Nat _ p.1 I) (h1 : AllLt nl Z) (h2 : ∀ q ∈ Z, ∀ p ∈ [p3, p4], p.1 ≠ q.1) :
    LoopJ ps t nl p3 p4 I 0 ((nl, listOf (List.toArray []) en) :: p3 :: p4 :: Z) :=
  ⟨[], en, Z, rfl, .nil, by rw [List.take_zero]; exact hT, fun q hq => Nat.ne_of_lt (hI q (List.mem_cons_of_mem _ (List.mem_cons_of_mem _ (List.mem_cons_of_mem _ hq)))), fun q hq => Nat.ne_of_lt (allLt_mem h1 q hq),
   fun q hq => Ne.symm (h2 q hq p3 List.mem_cons_self), fun q hq => Ne.symm (h2 q hq p4 (List.mem_cons_of_mem _ List.mem_cons_self)), Nat.ne_of_lt (hI _ List.mem_cons_self), Nat.ne_of_lt (hI _ (List.mem_cons_of_mem _ List.mem_cons_self)), Nat.ne_of_lt (hI _ (List.mem_cons_of_mem _ (List.mem_cons_of_mem _ List.mem_cons_self)))⟩
theorem LoopJ.adr {ps : List (Str × Str)} {t nl : Addr} {p3 p4 : Addr × Obj} {I : Addr} {i : Nat} {nx : Led} (h : LoopJ ps t nl p3 p4 I i nx) : (∀ p ∈ nx, p.1 ≠ I) ∧ p3 ∈ nx := by
  obtain ⟨vsn, en, Z, rfl, _, _, a1, _, _, _, b1, b2, b3⟩ := h
  refine ⟨fun p hp => ?_, List.mem_cons_of_mem _ List.mem_cons_self⟩
  rcases List.mem_cons.mp hp with rfl | hp
  · exact b1
  rcases List.mem_cons.mp hp with rfl | hp
  · exact b2
  rcases List.mem_cons.mp hp with rfl | hp
  · exact b3
  · exact a1 p hp
theorem LoopJ.next {ps : List (Str × Str)} {t nl : Addr} {p3 p4 : Addr × Obj} {I : Addr} {i en : Nat} {it : Obj} {vsn : List Value} {tk : Tok} {Z : Led} {sp nm : Str} {h₀ h : Heap} {L : Addr}
    (hNx : News h₀ L h ((I, it) :: (nl, listOf (vsn.toArray.push (.int (((ps.take i).length + 1 : Nat) : Int) tk)) (en + 1)) :: p3 :: p4 :: Z)) (hvi : IntsAre vsn (upTo i)) (hT : TI (ps.take i ++ [(sp, nm)]) t Z) (hpi : ps[i]? = some (sp, nm)) (hti : (ps.take i).length = i)
    (a1 : ∀ q ∈ Z, q.1 ≠ I) (a2 : ∀ q ∈ Z, q.1 ≠ nl) (a3 : ∀ q ∈ Z, q.1 ≠ p3.1) (a4 : ∀ q ∈ Z, q.1 ≠ p4.1) (b1 : @Ne Nat nl I) (b2 : @Ne Nat p3.1 I) (b3 : @Ne Nat p4.1 I) :
    ∃ ny, (∀ p ∈ (I, it) :: ny, p ∈ (I, it) :: (nl, listOf (vsn.toArray.push (.int (((ps.take i).length + 1 : Nat) : Int) tk)) (en + 1)) :: p3 :: p4 :: Z) ∧ LoopJ ps t nl p3 p4 I (i + 1) ny := by
  refine ⟨_, fun _ h => h, vsn ++ [.int (((ps.take i).length + 1 : Nat) : Int) tk], en + 1, Z, by rw [List.push_toArray], ?_, ?_, a1, a2, a3, a4, b1, b2, b3⟩
  · have := ints_push hvi (((ps.take i).length + 1 : Nat) : Int) tk
    rw [upTo_succ]
    have e : (((ps.take i).length + 1 : Nat) : Int) = (i : Int) + 1 := by omega
    rw [e] at this ⊢
    exact this
  · rw [List.take_add_one, hpi]; exact hT
/-- the tree's object and its dict -/
inductive Ins (Z : Led) (t : Addr) : Prop
  | mk (td : Addr) (g0 g1 g2 g3 g4 g5 g6 g7 : Int) (u0 u1 u2 u3 u4 u5 u6 u7 : Tok) (v0 v1 v2 v3 v4 v5 v6 v7 : Value)
      (h1_ : (t, instObj 300 td) ∈ Z)
      (h2_ : (td, dictOf [⟨g0, .str (Str.ofString "kinds") u0, v0⟩, ⟨g1, .str (Str.ofString "spaces") u1, v1⟩, ⟨g2, .str (Str.ofString "names") u2, v2⟩, ⟨g3, .str (Str.ofString "attrs") u3, v3⟩, ⟨g4, .str (Str.ofString "texts") u4, v4⟩, ⟨g5, .str (Str.ofString "parents") u5, v5⟩, ⟨g6, .str (Str.ofString "children") u6, v6⟩, ⟨g7, .str (Str.ofString "contents") u7, v7⟩] 8) ∈ Z) : Ins Z t
theorem TI.ins {ps : List (Str × Str)} {t : Addr} {Z : Led} (h : TI ps t Z) : Ins Z t := by
  obtain ⟨x, c, ec, part, cv0, K, X, P, R0, RA, rfl, o, od, oc, op, H, hP, ecv, hR0, lR0⟩ := h
  exact ⟨x.td, x.g0, x.g1, x.g2, x.g3, x.g4, x.g5, x.g6, x.g7, x.u0, x.u1, x.u2, x.u3, x.u4, x.u5, x.u6, x.u7, _, _, _, _, _, _, _, _, List.mem_cons_self, List.mem_cons_of_mem _ List.mem_cons_self⟩
theorem TM.ins {ps : List (Str × Str)} {sp nm : Str} {t : Addr} {Z : Led} (h : TM ps sp nm t Z) : Ins Z t := by
  obtain ⟨x, c, b, ec, eb, part, cv0, pv0, K, X, P0, R0, RA, tb, rfl, o, od, oc, ob, op, H, hP, ecv, hR0, lR0, epv, hp0⟩ := h
  exact ⟨x.td, x.g0, x.g1, x.g2, x.g3, x.g4, x.g5, x.g6, x.g7, x.u0, x.u1, x.u2, x.u3, x.u4, x.u5, x.u6, x.u7, _, _, _, _, _, _, _, _, List.mem_cons_self, List.mem_cons_of_mem _ List.mem_cons_self⟩
theorem newsTail {h₀ h : Heap} {L : Addr} {p : Addr × Obj} {news : Led} (N : News h₀ L h (p :: news)) : News h₀ L h news := fun q hq => N q (List.mem_cons_of_mem _ hq)
section
variable {prog : Program} {w : World} {A : Around} {E : Value → Shared → Prop} {s : Shared} {h₀ : Heap} {L : Addr} {m : Str → Option Value} {news : Led} {value slice : Expr} {a b : Addr} {l vs : List Value} {n k : Nat} {u : Tok} {Q : Value → Shared → Prop}
theorem ne_nil_led {ns : List Int} {n2 : Nat} (N : News h₀ L s.heap news) (hu : A.units + 64 < cLine) (hm : (a, listOf vs.toArray n) ∈ news) (hi : IntsAre vs ns) (hb : (b, listOf (List.toArray []) n2) ∈ news) (h : Q (.bool (decide (ns ≠ []))) s) :
    wpAny (model prog w) A (compareOp .NotEq (.ref a) (.ref b)) Q E s := ne_nil_ints N hu (News.isList N hm) hi hb h
theorem ne_nil_upTo {n2 : Nat} (N : News h₀ L s.heap news) (hu : A.units + 64 < cLine) (hm : (a, listOf vs.toArray n) ∈ news) (hi : IntsAre vs (upTo k)) (hb : (b, listOf (List.toArray []) n2) ∈ news) (h : Q (.bool (decide (k ≠ 0))) s) :
    wpAny (model prog w) A (compareOp .NotEq (.ref a) (.ref b)) Q E s := by
  refine ne_nil_ints N hu (News.isList N hm) hi hb ?_
  have e : decide (upTo k ≠ []) = decide (k ≠ 0) := by
    cases k with
    | zero => rfl
    | succ k => rw [upTo_succ]; simp
  rw [e]; exact h
theorem item_last_upTo (N : News h₀ L s.heap news) (hm : (a, listOf l.toArray n) ∈ news) (hi : IntsAre l (upTo k)) (hk : 0 < k) (hz : k ≤ 1000) (h : ∀ t', Q (.int (k : Nat) t') s)
    (hs : subscripted slice false (.ref a) (.int (-1) u) = operate [.ref a, .int (-1) u] (getItem (.ref a) (.int (-1) u)) := by with_unfolding_all rfl) (hg : ∀ r, letTemporaryGo value (.ref a) r = pure () := by intro _; with_unfolding_all rfl) :
    wpAny (model prog w) A (subscriptTail value slice (.ref a) (.int (-1) u)) Q E s := by
  have hlen := hi.length
  rw [upTo_len] at hlen
  obtain ⟨t, ht⟩ := hi.get (k - 1) _ (upTo_get (show k - 1 < k by omega))
  have e1 : (((k - 1 : Nat) : Int) + 1) = (k : Nat) := by omega
  rw [e1] at ht
  refine kim_back N hm rfl rfl (by decide) (by omega) (by decide) (x := .int (k : Nat) t) ?_ (h t) hs hg
  have e2 : ((-1 : Int) + (l.length : Int)).toNat = k - 1 := by omega
  rw [e2]; exact ht
end
/-- the words so far -/
def WordsJ (i : Nat) (ys : List Value) : Prop := ∃ ps : List (Str × Str), ps.length = i ∧ (∀ p ∈ ps, p.1 ∈ spaces3 ∧ p.2 ∈ names30) ∧ StrsAre ys (ps.map fun p => wordOf p.1 p.2)
theorem WordsJ.snoc {i : Nat} {ys : List Value} (h : WordsJ i ys) {sp nm : Str} {t : Tok} (h1 : sp ∈ spaces3) (h2 : nm ∈ names30) : WordsJ (i + 1) (ys ++ [.str (wordOf sp nm) t]) := by
  obtain ⟨ps, hl, hps, hys⟩ := h
  refine ⟨ps ++ [(sp, nm)], by rw [List.length_append, hl]; rfl, fun p hp => ?_, by rw [List.map_append]; exact strs_snoc hys _ _⟩
  rcases List.mem_append.mp hp with hp | hp
  · exact hps p hp
  · rw [List.mem_singleton.mp hp]; exact ⟨h1, h2⟩
theorem words_get {ps : List (Str × Str)} {vs : List Value} (h : StrsAre vs (ps.map fun p => wordOf p.1 p.2)) (hp : ∀ p ∈ ps, p.1 ∈ spaces3 ∧ p.2 ∈ names30) {i : Nat} {v : Value} (hv : vs[i]? = some v) :
    ∃ sp nm tv, v = .str (wordOf sp nm) tv ∧ sp ∈ spaces3 ∧ nm ∈ names30 ∧ ps[i]? = some (sp, nm) ∧ i < ps.length := by
  have hl := StrsAre.len_eq h
  rw [List.length_map] at hl
  have hi : i < ps.length := by
    have := (List.getElem?_eq_some_iff.mp hv).1
    omega
  have e : (ps.map fun p => wordOf p.1 p.2)[i]? = some (wordOf ps[i].1 ps[i].2) := by simp [hi]
  obtain ⟨t, ht⟩ := h.at e
  obtain rfl := Option.some.inj (hv.symm.trans ht)
  exact ⟨_, _, t, rfl, (hp _ (List.getElem_mem hi)).1, (hp _ (List.getElem_mem hi)).2, by simp [hi], hi⟩
section
variable {prog : Program} {w : World} {A : Around} {E : Value → Shared → Prop} {s : Shared} {h₀ : Heap} {L : Addr} {m : Str → Option Value} {news : Led} {a b : Addr} {vs ws : List Value} {n n2 : Nat} {Q : Value → Shared → Prop}
theorem add_strsL {ys zs : List Str} (F : Fr h₀ L s.heap m) (N : News h₀ L s.heap news) (ha : (a, listOf vs.toArray n) ∈ news) (hb : (b, listOf ws.toArray n2) ∈ news) (hv : StrsAre vs ys) (hw : StrsAre ws zs) (hz : vs.length + ws.length ≤ 1000)
    (h : ∀ D bs h', Fr h₀ L h' m → News h₀ L h' ((D, listOf (List.toArray bs) 0) :: news) → StrsAre bs (ys ++ zs) → bs.length = vs.length + ws.length → (∀ p ∈ news, p.1 < D) → Q (.ref D) { s with heap := h' }) : wpAny (model prog w) A (binaryOp .Add (.ref a) (.ref b)) Q E s :=
  add_listN F N ha hb hz fun D h' F' N' l1 => h D (vs ++ ws) h' F' N' (StrsAre.append' hv hw) (List.length_append) l1
end
/-- the names so far -/
def PlainJ (base : Led) (ps : List (Str × Str)) (i : Nat) (ys : List Value) (nw : Led) : Prop := nw = base ∧ StrsAre ys ((ps.take i).map (·.2))
theorem PlainJ.start (base : Led) (ps : List (Str × Str)) : PlainJ base ps 0 [] base := ⟨rfl, .nil⟩
theorem plain_end {s : Shared} {h₀ h' : Heap} {L : Addr} {m : Str → Option Value} {base : Led} {ps : List (Str × Str)} {i : Nat} {ys : List Value} {I C D D9 : Addr} {o9 oI oC : Obj} {tk' : Nat} {sp nm : Str} {t : Tok}
    (hy : StrsAre ys ((ps.take i).map (·.2))) (hpi : ps[i]? = some (sp, nm)) (off : LCg.Off3 I C D base) (F : Fr h₀ L h' m) (N : News h₀ L h' ((D9, o9) :: (I, oI) :: (C, oC) :: (D, LCg.lst ys) :: base)) :
    EltJ h₀ L m s I C D oI oC ys (fun y nw' => PlainJ base ps (i + 1) (ys ++ [y]) nw') (.str nm t) { s with heap := h', toks := tk' } :=
  ⟨h', tk', base, rfl, F, newsTail N, off, rfl, by
    rw [List.take_add_one, hpi]
    have := strs_snoc hy nm t
    rw [List.map_append]
    exact this⟩
theorem names_B0 {ps : List (Str × Str)} (hp : ∀ p ∈ ps, p.1 ∈ spaces3 ∧ p.2 ∈ names30) : ∀ y ∈ ps.map (·.2), y ∈ names31 := by
  intro y hy
  obtain ⟨p, hp', rfl⟩ := List.mem_map.mp hy
  exact in31 (hp p hp').2
theorem names_B1 {ps : List (Str × Str)} (hp : ∀ p ∈ ps, p.1 ∈ spaces3 ∧ p.2 ∈ names30) : ∀ y ∈ lawNames 0 ++ ps.map (·.2), y ∈ names31 := by
  intro y hy
  rcases List.mem_append.mp hy with hy | hy
  · exact in31 (lawNames_in (by decide) y hy).2
  · exact names_B0 hp y hy
theorem names_B2 {ps : List (Str × Str)} (hp : ∀ p ∈ ps, p.1 ∈ spaces3 ∧ p.2 ∈ names30) : ∀ y ∈ ps.map (·.2) ++ [Str.ofString "p", Str.ofString "table", Str.ofString "tr", Str.ofString "nobody"], y ∈ names31 := by
  have h : ([Str.ofString "p", Str.ofString "table", Str.ofString "tr", Str.ofString "nobody"].all fun y => names31.contains y) = true := by decide +kernel
  intro y hy
  rcases List.mem_append.mp hy with hy | hy
  · exact names_B0 hp y hy
  · simpa using List.all_eq_true.mp h y hy
theorem unr_endG {h₀ : Heap} {L I : Addr} {it : Obj} {rest : (Str → Option Value) → List (Addr × Obj) → Prop} {s₁ : Shared} {h' : Heap} {tk : Nat} {m' : Str → Option Value} {news' : List (Addr × Obj)} (F : Fr h₀ L h' m') (N : News h₀ L h' ((I, it) :: news'))
    (off : AllLt I news') (r : rest m' news') : UnrEnd h₀ L s₁ I it rest { s₁ with heap := h', toks := tk } :=
  UnrEnd.intro F N news' (fun _ h => h) (fun p hp => Nat.ne_of_lt (allLt_mem off p hp)) r
end
set_option maxRecDepth 100000 in
set_option maxHeartbeats 0 in
theorem fields_3 : ∀ (w : World) (p1 p2 p3 : Addr × Obj) (Z : Led) (t : Addr) (r1 r2 r3 : List (List PyData)) (hF : FT Z t r1 r2 r3),
      Ctr w 6 300 361 [.ref t] (p1 :: p2 :: p3 :: Z) (fun r n' => ∃ R Z', r = .ref R ∧ n' = p1 :: p2 :: p3 :: Z' ∧ (∀ p ∈ Z, p ∈ Z') ∧ FieldsAt Z' R r1 r2 r3) := by
  k_with_none
  k_with "k_ne" => (refine neN ?_; (try dsimp only); first | with_reducible assumption | exact Ne.symm (by with_reducible assumption) | exact neB0 (by with_reducible assumption) | exact neA0 (by with_reducible assumption) | exact neF0 (by with_reducible assumption) | exact neE0 (by with_reducible assumption) | exact neB1 (by with_reducible assumption) | exact neA1 (by with_reducible assumption) | exact neF1 (by with_reducible assumption) | exact neE1 (by with_reducible assumption) | exact neB2 (by with_reducible assumption) | exact neA2 (by with_reducible assumption) | exact neF2 (by with_reducible assumption) | exact neE2 (by with_reducible assumption) | exact neB3 (by with_reducible assumption) | exact neA3 (by with_reducible assumption) | exact neF3 (by with_reducible assumption) | exact neE3 (by with_reducible assumption) | exact neB4 (by with_reducible assumption) | exact neA4 (by with_reducible assumption) | exact neF4 (by with_reducible assumption) | exact neE4 (by with_reducible assumption) | exact neB5 (by with_reducible assumption) | exact neA5 (by with_reducible assumption) | exact neF5 (by with_reducible assumption) | exact neE5 (by with_reducible assumption) | exact neB6 (by with_reducible assumption) | exact neA6 (by with_reducible assumption) | exact neF6 (by with_reducible assumption) | exact neE6 (by with_reducible assumption) | exact neB7 (by with_reducible assumption) | exact neA7 (by with_reducible assumption) | exact neF7 (by with_reducible assumption) | exact neE7 (by with_reducible assumption) | exact neB8 (by with_reducible assumption) | exact neA8 (by with_reducible assumption) | exact neF8 (by with_reducible assumption) | exact neE8 (by with_reducible assumption) | exact neB9 (by with_reducible assumption) | exact neA9 (by with_reducible assumption) | exact neF9 (by with_reducible assumption) | exact neE9 (by with_reducible assumption) | exact neB10 (by with_reducible assumption) | exact neA10 (by with_reducible assumption) | exact neF10 (by with_reducible assumption) | exact neE10 (by with_reducible assumption) | exact neB11 (by with_reducible assumption) | exact neA11 (by with_reducible assumption) | exact neF11 (by with_reducible assumption) | exact neE11 (by with_reducible assumption) | exact neB12 (by with_reducible assumption) | exact neA12 (by with_reducible assumption) | exact neF12 (by with_reducible assumption) | exact neE12 (by with_reducible assumption))
  intro w p1 p2 p3 Z t r1 r2 r3 hF
  exact (fields_ctr w (p1 :: p2 :: p3 :: Z) t r1 r2 r3 (hF.mono fun _ h => List.mem_cons_of_mem _ (List.mem_cons_of_mem _ (List.mem_cons_of_mem _ h)))).perm (fun _ h => h) fun r n' ⟨R, e, hs, hf⟩ =>
    ⟨p1 :: p2 :: p3 :: n', ⟨R, n', e, rfl, fun p hp => hs p (List.mem_cons_of_mem _ (List.mem_cons_of_mem _ (List.mem_cons_of_mem _ hp))), hf⟩, fun p hp => by
      rcases List.mem_cons.mp hp with rfl | hp
      · exact hs _ List.mem_cons_self
      rcases List.mem_cons.mp hp with rfl | hp
      · exact hs _ (List.mem_cons_of_mem _ List.mem_cons_self)
      rcases List.mem_cons.mp hp with rfl | hp
      · exact hs _ (List.mem_cons_of_mem _ (List.mem_cons_of_mem _ List.mem_cons_self))
      · exact hp⟩
section
open PySem PySem.W PyProof.Rows
theorem stopA {M : Model} {A : Around} {X : Sem Value} {Q E : Value → Shared → Prop} {s : Shared} (h : Later (wpAny M A X Q E s)) : wpAny M A X Q E s := h.out
theorem stopL {M : Model} {A : Around} {X : Sem Value} {Q E : Value → Shared → Prop} {s : Shared} (h : Later (wpAny M A X Q E s)) : wpAny M A X Q E s := h.out
end
set_option maxRecDepth 100000 in
set_option maxHeartbeats 0 in
theorem popped0' : ∀ (w : World) (news : Led) (t nl wl : Addr) (S Nn ws : List Str) (nvs wvs : List Value) (en ew : Nat) (but : Str) (tw tb : Tok) (wy : Int) (hw : wy = 0) (hT : Tre news t S Nn) (hnl : (nl, listOf nvs.toArray en) ∈ news) (hni : IntsAre nvs (upTo 12)) (hwl : (wl, listOf wvs.toArray ew) ∈ news) (hwi : StrsAre wvs ws) (hW : WS S Nn ws),
      Ctr w 25 700 351 [.ref t, .ref nl, .ref wl, .int wy tw, .str but tb] news (fun r news' => r = .bool true ∧ news' = news) := by
  k_with_none
  k_with "k_ne" => (refine neN ?_; (try dsimp only); first | with_reducible assumption | exact Ne.symm (by with_reducible assumption) | exact neB0 (by with_reducible assumption) | exact neA0 (by with_reducible assumption) | exact neF0 (by with_reducible assumption) | exact neE0 (by with_reducible assumption) | exact neB1 (by with_reducible assumption) | exact neA1 (by with_reducible assumption) | exact neF1 (by with_reducible assumption) | exact neE1 (by with_reducible assumption) | exact neB2 (by with_reducible assumption) | exact neA2 (by with_reducible assumption) | exact neF2 (by with_reducible assumption) | exact neE2 (by with_reducible assumption) | exact neB3 (by with_reducible assumption) | exact neA3 (by with_reducible assumption) | exact neF3 (by with_reducible assumption) | exact neE3 (by with_reducible assumption) | exact neB4 (by with_reducible assumption) | exact neA4 (by with_reducible assumption) | exact neF4 (by with_reducible assumption) | exact neE4 (by with_reducible assumption) | exact neB5 (by with_reducible assumption) | exact neA5 (by with_reducible assumption) | exact neF5 (by with_reducible assumption) | exact neE5 (by with_reducible assumption) | exact neB6 (by with_reducible assumption) | exact neA6 (by with_reducible assumption) | exact neF6 (by with_reducible assumption) | exact neE6 (by with_reducible assumption) | exact neB7 (by with_reducible assumption) | exact neA7 (by with_reducible assumption) | exact neF7 (by with_reducible assumption) | exact neE7 (by with_reducible assumption) | exact neB8 (by with_reducible assumption) | exact neA8 (by with_reducible assumption) | exact neF8 (by with_reducible assumption) | exact neE8 (by with_reducible assumption) | exact neB9 (by with_reducible assumption) | exact neA9 (by with_reducible assumption) | exact neF9 (by with_reducible assumption) | exact neE9 (by with_reducible assumption) | exact neB10 (by with_reducible assumption) | exact neA10 (by with_reducible assumption) | exact neF10 (by with_reducible assumption) | exact neE10 (by with_reducible assumption) | exact neB11 (by with_reducible assumption) | exact neA11 (by with_reducible assumption) | exact neF11 (by with_reducible assumption) | exact neE11 (by with_reducible assumption) | exact neB12 (by with_reducible assumption) | exact neA12 (by with_reducible assumption) | exact neF12 (by with_reducible assumption) | exact neE12 (by with_reducible assumption))
  k_with "subscriptTail Name BinOp ref int" => (k_here; refine stopA ?_)
  k_with "call builtin:len" => (k_here; refine stopA ?_)
  k_with "binaryOp Add ref ref" => (k_here; refine stopA ?_)
  k_with "callm" => (k_here; refine stopA ?_)
  k_with "call builtin:len" => (k_here; (with_reducible show wpAny _ _ (call (Value.builtin "len") [Value.ref _]) _ _ _); k_dflt (refine' KM.len_K (by k_asm) (by (first | assumption | k_mem)) (by (first | exact List.size_toArray | with_reducible rfl)) (by (first | omega | (simp only [List.size_toArray, List.length_append, List.length_cons, List.length_nil]; omega))) ?_))
  k_with "k_all" => assumption
  k_with "exec Assign cons ListComp" => (k_here; (with_reducible show wpAny _ _ (exec (PySem.Stmt.Assign _ (PySem.Expr.ListComp _ (List.cons (PySem.Comprehension.mk (PySem.Expr.Name _ _) _ List.nil _) _) _ _) _) _) _ _ _); k_dflt (refine LCg.Assign_ListComp_U (F₀ := by k_asm) (by rfl) (by with_unfolding_all rfl) (by with_unfolding_all rfl) (by decide) (by rfl) (by decide) (by rfl) (by rfl) (by rfl) ?_))
  k_with "CompSrc" => (k_dflt (refine' range_src (by exact rfl) (by k_asm) (by k_asm) (by assumption) (by decide) (by rfl) (by decide) ?_))
  k_with "callm" => (k_here; (with_reducible show wpAny _ _ (call (Value.ref 332) _) _ _ _); k_dflt (refine' CtrS.use (by k_asm) (by k_asm) (by k_asm) (by k_asm) (by k_asm) (by (first | exact rfl | assumption)) (by assumption) (law_word_ctr _ _ _ _ _ _ _ (by assumption) (by (first | with_reducible assumption | omega)) (by (first | with_reducible assumption | omega)) (by (first | with_reducible assumption | omega))) (by (first | exact room hd rfl | ktr_room)) (by (first | exact room hu rfl | ktr_units)) ?_); (k_dflt (intro r9 n9 h9 tk9 p9 F9 N9; (try k_fold); obtain ⟨⟨sp9, nm9, t9, rx9, q9, q9'⟩, e9'⟩ := p9; subst r9; subst n9)); (try dsimp only); (try k_fold))
  k_with "callm" => (k_here; (with_reducible show wpAny _ _ (call (Value.ref 300) _) _ _ _); k_dflt (refine' Ctr.use (by k_asm) (by k_asm) (by k_asm) (by k_asm) (by k_asm) (by (first | exact rfl | assumption)) (tree_ctr _ _) (by (first | exact room hd rfl | ktr_room)) (by (first | exact room hu rfl | ktr_units)) ?_); (k_dflt (intro r9 n9 h9 tk9 p9 F9 N9; (try k_fold); obtain ⟨t9, Z9, rx9, e9', q9, ap9⟩ := p9; subst r9; subst n9; (try simp only [List.cons_append, List.nil_append] at N9))); (try dsimp only); (try k_fold))
  k_with "exec For Name Name cons nil" => (k_here; (rename Fr _ _ _ _ => lF'); (with_unfolding_all refine' For_invVF lF' (by exact rfl) (by exact rfl) ?_; k_whole))
  k_with "exec For Name Attribute cons nil" => (k_here; (rename Fr _ _ _ _ => lF'); (with_unfolding_all refine' For_invVF lF' (by exact rfl) (by exact rfl) ?_; k_whole))
  k_with "exec For Name Subscript cons nil" => (k_here; (rename Fr _ _ _ _ => lF'); (with_unfolding_all refine' For_invVF lF' (by exact rfl) (by exact rfl) ?_; k_whole))
  k_with "exec For Name Call cons nil" => (k_here; (rename Fr _ _ _ _ => lF'); (with_unfolding_all refine' For_invVF lF' (by exact rfl) (by exact rfl) ?_; k_whole))
  k_with "loopm" => (k_here; (with_reducible show wpAny _ _ (pyIter (Value.ref _)) (fun it s₂ => LoopAtV _ _ _ _ _ _ _ _ _ it s₂) _ _); (with_unfolding_all refine' for_H (by exact rfl) (by k_asm) (by k_asm) (by k_mem) ?_))
  k_with "loopm" => (k_here; (with_reducible show wpAny _ _ (pyIter (Value.ref _)) (fun it s₂ => LoopAtV _ _ _ _ _ _ _ _ _ it s₂) _ _); (with_unfolding_all refine' for_G (by exact rfl) (by k_asm) (by k_asm) (by k_mem) ?_))
  k_with "getMethod ref" => (k_here; k_dflt (refine' method_inst (by k_asm) (by k_asm) (by k_inst) (by k_is) (by k_is) (by k_is) (by k_get) ?_; k_whole))
  k_with "call builtin:str.split" => (k_here; (with_reducible show wpAny _ _ (call (Value.builtin "str.split") _) _ _ _); k_dflt (refine' split_word (by k_asm) (by k_asm) (by assumption) (by assumption) ?_); intro D9 t91 t92 h9 k9 F9 N9 l9)
  k_with "compareOp NotEq ref ref" => (k_here; (with_reducible show wpAny _ _ (compareOp CmpOp.NotEq (Value.ref _) (Value.ref _)) _ _ _); k_dflt (refine' ne_nil_upTo (by k_asm) (by (first | exact room hu rfl | ktr_units)) (by k_mem) (by assumption) (by k_mem) ?_))
  k_with "subscriptTail" => (k_here; (with_reducible show wpAny _ _ (subscriptTail _ _ (Value.ref _) (Value.int (-1) _)) _ _ _); (with_unfolding_all refine' item_last_upTo (by k_asm) (by k_mem) (by assumption) (by (first | with_reducible assumption | omega)) (by (first | with_reducible assumption | omega)) ?_); intro t9)
  k_with "subscriptTail Name UnaryOp ref int" => (k_here; (with_reducible show wpAny _ _ (subscriptTail _ _ (Value.ref _) (Value.int (-1) _)) _ _ _); (with_unfolding_all refine' item_last_upTo (by k_asm) (by k_mem) (by assumption) (by (first | with_reducible assumption | omega)) (by (first | with_reducible assumption | omega)) ?_); intro t9)
  k_with "callm" => (k_here; (with_reducible show wpAny _ _ (call (Value.ref 219) _) _ _ _); k_dflt (refine' Ctr.use (by k_asm) (by k_asm) (by k_asm) (by exact newsTail (p := (_, listOf (List.toArray [_, _]) 0)) (by k_asm)) (by k_asm) (by (first | exact rfl | assumption)) (elem_4 _ _ _ _ _ _ _ _ _ _ _ _ (by assumption) (by assumption) (by assumption) (by assumption) (by assumption) (by (first | with_reducible assumption | omega)) (by assumption) (by assumption)) (by (first | exact room hd rfl | ktr_room)) (by (first | exact room hu rfl | ktr_units)) ?_); (k_dflt (intro r9 n9 h9 tk9 p9 F9 N9; (try k_fold); obtain ⟨⟨t9, rx9⟩, Z9, e9', q9, b91, b92, b93, b94⟩ := p9; subst r9; subst n9; dsimp only at b91 b92 b93 b94; obtain ⟨td9, g90, g91, g92, g93, g94, g95, g96, g97, u90, u91, u92, u93, u94, u95, u96, u97, v90, v91, v92, v93, v94, v95, v96, v97, i91, i92⟩ := q9.ins)); (try dsimp only); (try k_fold))
  k_with "callm" => (k_here; (with_reducible show wpAny _ _ (call (Value.ref 255) _) _ _ _); k_dflt (refine' Ctr.use (by k_asm) (by k_asm) (by k_asm) (by exact newsTail (p := (_, listOf (List.toArray []) 0)) (by k_asm)) (by k_asm) (by (first | exact rfl | assumption)) (append_4p _ _ _ _ _ _ _ _ _ _ _ _ _ _ (by assumption) (by assumption) (by assumption) (by assumption) (by assumption) (by (first | with_reducible assumption | omega)) (by (first | with_reducible assumption | omega)) (by (first | with_reducible assumption | omega))) (by (first | exact room hd rfl | ktr_room)) (by (first | exact room hu rfl | ktr_units)) ?_); (k_dflt (intro r9 n9 h9 tk9 p9 F9 N9; (try k_fold); obtain ⟨rx9, Z9, e9', q9, b91, b92, b93, b94⟩ := p9; subst r9; subst n9; dsimp only at b91 b92 b93 b94)); (try dsimp only); (try k_fold))
  k_with "call builtin:list.append" => (k_here; (with_reducible show wpAny _ _ (call (Value.builtin _) [Value.ref _, _]) _ _ _); k_dflt (refine' append_K (by k_asm) (by k_asm) (by k_upd) ?_ (by (rw [List.size_toArray, PySem.sizeLine_eq]; omega)); k_whole); intro h' F' N'; (try k_sweep))
  k_with "callm" => (k_here; (with_reducible show wpAny _ _ (call (Value.ref 361) _) _ _ _); k_dflt (refine' Ctr.use (by k_asm) (by k_asm) (by k_asm) (by k_asm) (by k_asm) (by (first | exact rfl | assumption)) (fields_ctr _ _ _ _ _ _ (by exact FT.mono (by assumption) (fun q hq => by k_mem))) (by (first | exact room hd rfl | ktr_room)) (by (first | exact room hu rfl | ktr_units)) ?_); (k_dflt (intro r9 n9 h9 tk9 p9 F9 N9; (try k_fold); obtain ⟨R9, rx9, s9, f9⟩ := p9; subst r9; revert f9; (have g9 := FieldsAt.mono ‹FieldsAt _ _ _ _ _› (fun q hq => s9 q (by k_mem))); intro f9)); (try dsimp only); (try k_fold))
  k_with "callm" => (k_here; (with_reducible show wpAny _ _ (call (Value.ref 361) _) _ _ _); k_dflt (refine' Ctr.use (by k_asm) (by k_asm) (by k_asm) (by k_asm) (by k_asm) (by (first | exact rfl | assumption)) (fields_3 _ _ _ _ _ _ _ _ _ (by assumption)) (by (first | exact room hd rfl | ktr_room)) (by (first | exact room hu rfl | ktr_units)) ?_); (k_dflt (intro r9 n9 h9 tk9 p9 F9 N9; (try k_fold); obtain ⟨R9, Z9, rx9, e9', s9, f9⟩ := p9; subst r9; subst n9; (have tr9 := Tre.mono ‹Tre _ _ _ _› s9); (have ft9 := FT.mono ‹FT _ _ _ _ _› s9))); (try dsimp only); (try k_fold))
  k_with "compareOp Eq ref ref" => (k_here; (with_reducible show wpAny _ _ (compareOp CmpOp.Eq (Value.ref _) (Value.ref _)) _ _ _); k_dflt (refine' fields_eq (by k_asm) (by assumption) (by assumption) (by assumption) (by assumption) (by assumption) (by (first | exact room hu rfl | ktr_units)) ?_))
  k_with "CompSrc" => (k_dflt (refine' listJ_src (by exact rfl) (by k_asm) (by k_asm) (by k_mem) (by (first | with_reducible assumption | omega)) ?_))
  k_with "callm" => (k_here; (with_reducible show wpAny _ _ (call (Value.ref 325) _) _ _ _); k_dflt (refine' Ctr.use (by k_asm) (by k_asm) (by k_asm) (by k_asm) (by k_asm) (by (first | exact rfl | assumption)) (law_names_ctr _ _ 0 0 _ (by decide) (by rfl)) (by (first | exact room hd rfl | ktr_room)) (by (first | exact room hu rfl | ktr_units)) ?_); (k_dflt (intro r9 n9 h9 tk9 p9 F9 N9; (try k_fold); obtain ⟨D9, vs9, e9, rx9, e9', st9, lt9⟩ := p9; subst r9; subst n9; (have ln9 := StrsAre.len_eq st9); (have lm9 : (lawNames 0).length = 10 := rfl); rw [lm9] at ln9)); (try dsimp only); (try k_fold))
  k_with "binaryOp Add ref ref" => (k_here; (with_reducible show wpAny _ _ (binaryOp _ (Value.ref _) (Value.ref _)) _ _ _); k_dflt (refine' add_strsL (by k_asm) (by k_asm) (by k_mem) (by k_mem) (by assumption) (by (first | assumption | exact .cons _ _ (.cons _ _ (.cons _ _ (.cons _ _ .nil))))) (by (first | omega | (simp only [List.length_cons, List.length_nil]; omega))) ?_); intro D' bs' h' F' N' sb' lb' l1; (have lsb' := StrsAre.len_eq sb'); (try k_sweep))
  k_with "callm" => (k_here; (with_reducible show wpAny _ _ (call (Value.ref 318) _) _ _ _); k_dflt (refine' CtrS.use (by k_asm) (by k_asm) (by k_asm) (by k_asm) (by k_asm) (by (first | exact rfl | assumption)) (by assumption) (law_digit_ctr _ _ _ _ _ _ _ (by assumption) (by (first | with_reducible assumption | omega)) (by (first | with_reducible assumption | omega)) (by (first | with_reducible assumption | omega))) (by (first | exact room hd rfl | ktr_room)) (by (first | exact room hu rfl | ktr_units)) ?_); (k_dflt (intro r9 n9 h9 tk9 p9 F9 N9; (try k_fold); obtain ⟨⟨t9, rx9⟩, e9'⟩ := p9; subst r9; subst n9)); (try dsimp only); (try k_fold))
  k_with "subscriptTail Name BinOp ref int" => (k_here; (with_reducible show wpAny _ _ (subscriptTail _ _ (Value.ref _) (Value.int _ _)) _ _ _); (with_unfolding_all refine' item_strsB (by k_asm) (by k_mem) (by assumption) (by exact fmod_ge _ (by (first | with_reducible assumption | omega))) (by exact Int.lt_of_lt_of_le (Int.fmod_lt_of_pos _ (by (first | with_reducible assumption | omega))) (by (first | with_reducible assumption | omega))) (by exact fmod_fit _ (by (first | with_reducible assumption | omega)) (by (first | with_reducible assumption | omega))) (by assumption) ?_); intro t9 lb9')
  intro w news t nl wl S Nn ws nvs wvs en ew but tw tb wy hw hT hnl hni hwl hwi hW
  subst hw
  exact is_popped_ctr w news t nl wl S Nn ws nvs wvs en ew but tw tb _ _ _ _ hT hnl hni hwl hwi hW (Or.inl ⟨rfl, rfl, rfl, rfl⟩)
set_option maxRecDepth 100000 in
set_option maxHeartbeats 0 in
theorem popped1' : ∀ (w : World) (news : Led) (t nl wl : Addr) (S Nn ws : List Str) (nvs wvs : List Value) (en ew : Nat) (but : Str) (tw tb : Tok) (wy : Int) (hw : wy = 1) (hT : Tre news t S Nn) (hnl : (nl, listOf nvs.toArray en) ∈ news) (hni : IntsAre nvs (upTo 12)) (hwl : (wl, listOf wvs.toArray ew) ∈ news) (hwi : StrsAre wvs ws) (hW : WS S Nn ws),
      Ctr w 25 700 351 [.ref t, .ref nl, .ref wl, .int wy tw, .str but tb] news (fun r news' => r = .bool true ∧ news' = news) := by
  intro w news t nl wl S Nn ws nvs wvs en ew but tw tb wy hw hT hnl hni hwl hwi hW
  subst hw
  exact is_popped_ctr w news t nl wl S Nn ws nvs wvs en ew but tw tb _ _ _ _ hT hnl hni hwl hwi hW (Or.inr (Or.inl ⟨rfl, rfl, rfl, rfl⟩))
set_option maxRecDepth 100000 in
set_option maxHeartbeats 0 in
theorem popped2' : ∀ (w : World) (news : Led) (t nl wl : Addr) (S Nn ws : List Str) (nvs wvs : List Value) (en ew : Nat) (but : Str) (tw tb : Tok) (wy : Int) (hw : wy = 2) (hT : Tre news t S Nn) (hnl : (nl, listOf nvs.toArray en) ∈ news) (hni : IntsAre nvs (upTo 12)) (hwl : (wl, listOf wvs.toArray ew) ∈ news) (hwi : StrsAre wvs ws) (hW : WS S Nn ws),
      Ctr w 25 700 351 [.ref t, .ref nl, .ref wl, .int wy tw, .str but tb] news (fun r news' => r = .bool true ∧ news' = news) := by
  intro w news t nl wl S Nn ws nvs wvs en ew but tw tb wy hw hT hnl hni hwl hwi hW
  subst hw
  exact is_popped_ctr w news t nl wl S Nn ws nvs wvs en ew but tw tb _ _ _ _ hT hnl hni hwl hwi hW (Or.inr (Or.inr ⟨rfl, rfl, rfl, rfl⟩))
set_option maxHeartbeats 0 in
set_option Elab.async true in
theorem walk_law : PySem.Challenge.rw_nt0596_01.Holds := by
  w_on; o_law; o_head (kHook h0.heap_1_1 [2, 3, 15, 17, 18, 20, 21, 22, 24, 25, 27, 28, 29, 31, 32, 34, 35, 43, 45, 46, 48, 49, 50, 52, 53, 55, 56, 57, 59, 60, 62, 63, 64, 66, 67, 69, 70, 71, 73, 74, 76, 77, 78, 80, 81, 83, 84, 85, 87, 88, 90, 91, 92, 94, 95, 97, 98, 99, 101, 102, 104, 105, 106, 108, 109, 111, 112, 113, 115, 116, 118, 119, 120, 122, 123, 125, 126, 127, 129, 130, 132, 133, 134, 135, 136, 137, 138, 141, 142, 144, 145, 147, 148, 149, 151, 152, 154, 155, 156, 163, 165, 166, 168, 169, 170, 171, 172, 173, 176, 183, 184, 185, 195, 197, 198, 200, 201, 202, 203, 204, 206, 207, 209, 210, 211, 212, 213, 215, 216, 218, 219, 220, 222, 223, 225, 226, 227, 229, 230, 232, 233, 234, 236, 237, 239, 240, 241, 242, 244, 245, 247, 248, 249, 251, 252, 254, 255, 256, 258, 259, 261, 262, 263, 265, 266, 268, 269, 270, 272, 273, 275, 276, 277, 279, 280, 282, 283, 284, 286, 287, 289, 290, 291, 293, 294, 296, 297, 298, 299, 300, 301, 302, 305, 307, 308, 310, 311, 312, 314, 315, 317, 318, 319, 321, 322, 324, 325, 326, 328, 329, 331, 332, 333, 335, 336, 338, 339, 340, 342, 343, 345, 346, 347, 350, 351, 352, 355, 356, 357, 360, 361, 362, 365, 366] (fun _ => by kernel_rfl)); (case hw => w_witness2)
  w_top off
  k_with "callm" => (k_here; (with_reducible show wpAny _ _ (call (Value.ref 351) _) _ _ _); k_dflt (refine' Ctr.use (by k_asm) (by k_asm) (by k_asm) (by k_asm) (by k_asm) (by (first | exact rfl | assumption)) (popped0' _ _ _ _ _ _ _ _ _ _ _ _ _ _ _ _ (by decide) (by exact Tre.mono (by assumption) (fun q hq => by k_mem)) (by k_mem) (by assumption) (by k_mem) (by assumption) (by assumption)) (by (first | exact room hd rfl | ktr_room)) (by (first | exact room hu rfl | ktr_units)) ?_); (k_dflt (intro r9 n9 h9 tk9 p9 F9 N9; (try k_fold); obtain ⟨rx9, e9'⟩ := p9; subst r9; subst n9)); (try dsimp only); (try k_fold))
  k_with "callm" => (k_here; (with_reducible show wpAny _ _ (call (Value.ref 351) _) _ _ _); k_dflt (refine' Ctr.use (by k_asm) (by k_asm) (by k_asm) (by k_asm) (by k_asm) (by (first | exact rfl | assumption)) (popped1' _ _ _ _ _ _ _ _ _ _ _ _ _ _ _ _ (by decide) (by exact Tre.mono (by assumption) (fun q hq => by k_mem)) (by k_mem) (by assumption) (by k_mem) (by assumption) (by assumption)) (by (first | exact room hd rfl | ktr_room)) (by (first | exact room hu rfl | ktr_units)) ?_); (k_dflt (intro r9 n9 h9 tk9 p9 F9 N9; (try k_fold); obtain ⟨rx9, e9'⟩ := p9; subst r9; subst n9)); (try dsimp only); (try k_fold))
  k_with "callm" => (k_here; (with_reducible show wpAny _ _ (call (Value.ref 351) _) _ _ _); k_dflt (refine' Ctr.use (by k_asm) (by k_asm) (by k_asm) (by k_asm) (by k_asm) (by (first | exact rfl | assumption)) (popped2' _ _ _ _ _ _ _ _ _ _ _ _ _ _ _ _ (by decide) (by exact Tre.mono (by assumption) (fun q hq => by k_mem)) (by k_mem) (by assumption) (by k_mem) (by assumption) (by assumption)) (by (first | exact room hd rfl | ktr_room)) (by (first | exact room hu rfl | ktr_units)) ?_); (k_dflt (intro r9 n9 h9 tk9 p9 F9 N9; (try k_fold); obtain ⟨rx9, e9'⟩ := p9; subst r9; subst n9)); (try dsimp only); (try k_fold))
  k_with "callm" => (k_here; (with_reducible show wpAny _ _ (call (Value.ref 356) _) _ _ _); k_dflt (refine' Ctr.use (by k_asm) (by k_asm) (by k_asm) (by k_asm) (by k_asm) (by (first | exact rfl | assumption)) (is_sought1_ctr _ _ _ _ _ _ _ _ _ _ _ _ _ _ _ (by exact Tre.mono (by assumption) (fun q hq => by k_mem)) (by k_mem) (by assumption) (by k_mem) (by assumption) (by assumption) (by k_mem) (by assumption)) (by (first | exact room hd rfl | ktr_room)) (by (first | exact room hu rfl | ktr_units)) ?_); (k_dflt (intro r9 n9 h9 tk9 p9 F9 N9; (try k_fold); obtain ⟨rx9, e9'⟩ := p9; subst r9; subst n9)); (try dsimp only); (try k_fold))
  k_with "callm" => (k_here; (with_reducible show wpAny _ _ (call (Value.ref 356) _) _ _ _); k_dflt (refine' Ctr.use (by k_asm) (by k_asm) (by k_asm) (by k_asm) (by k_asm) (by (first | exact rfl | assumption)) (is_sought2_ctr _ _ _ _ _ _ _ _ _ _ _ _ _ _ _ _ _ (by exact Tre.mono (by assumption) (fun q hq => by k_mem)) (by k_mem) (by assumption) (by k_mem) (by assumption) (by assumption) (by k_mem) (by assumption) (by assumption)) (by (first | exact room hd rfl | ktr_room)) (by (first | exact room hu rfl | ktr_units)) ?_); (k_dflt (intro r9 n9 h9 tk9 p9 F9 N9; (try k_fold); obtain ⟨rx9, e9'⟩ := p9; subst r9; subst n9)); (try dsimp only); (try k_fold))
  k_with "UnrEnd" => (refine' unr_endG (by k_asm) (by exact newsTail (by k_asm)) (by (first | assumption | (simp only [AllLt, and_true]; assumption))) ?_)
  k_with "UnrEnd" => (refine' unr_endG (by k_asm) (by k_asm) (by (first | assumption | (simp only [AllLt, and_true]; assumption))) ?_)
  k_go0
  (all_goals try k_fold)
  k_steps
  rename Heap.IsList _ _ _ => hSL
  rename IntsAre _ _ => hSI
  refine ⟨⟨WordsJ, ⟨[], rfl, (fun p hp => nomatch hp), .nil⟩, ?_, ?_⟩⟩
  · rintro i ys ti I oI C oC D m₂ h tk E' hi ⟨ps, hl, hps, hys⟩ hC hx F₁ N₁
    have hi' : i < 12 := hi
    k_steps
    rename News _ _ _ _ => NN
    rename Fr _ _ _ _ => FF
    rename (_ ∈ names30) => q2
    rename (_ ∈ spaces3) => q1
    exact ⟨_, _, rfl, FF, NN, WordsJ.snoc ⟨ps, hl, hps, hys⟩ q1 q2⟩
  · rintro h' zs ⟨ps, hl, hps, hzs⟩
    have hl12 : ps.length = 12 := hl
    have lzs := StrsAre.len_eq hzs
    rw [List.length_map] at lzs
    have hlz : zs.length ≤ 100 := by omega
    rename Below _ _ _ _ => K0
    dsimp only [Top.heap] at K0
    k_steps
    rename TI [] _ _ => q9
    rename ∀ (q : Addr × Obj), q ∈ (_ : Led) → ∀ (p : Addr × Obj), p ∈ (_ : Led) → p.1 ≠ q.1 => ap9
    rename (_ ∧ _ ∧ AllLt _ _) => al9
    refine ⟨⟨[Str.ofString "space", Str.ofString "name", Str.ofString "node"], fun I i nx => LoopJ ps _ _ _ _ I i nx, fun I hI => ⟨LoopJ.start q9 hI al9.2.2 ap9, fun i nx h => h.adr, ?_, ?_⟩⟩⟩
    · rintro i v u it h₁ tk₁ nx hv ⟨vsn, en, Z, rfl, hvi, hTI, a1, a2, a3, a4, b1, b2, b3⟩ hoff F₁ N₁
      obtain ⟨sp, nm, tv, rfl, hsp, hnm, hpi, hi⟩ := words_get hzs hps hv
      have hti : (ps.take i).length = i := by rw [List.length_take]; omega
      dsimp only [envOfC] at F₁ N₁
      clear hoff ap9 q9
      have hlen : vsn.length = i := by rw [hvi.length, upTo_len]
      obtain ⟨td, g0, g1, g2, g3, g4, g5, g6, g7, u0, u1, u2, u3, u4, u5, u6, u7, v0, v1, v2, v3, v4, v5, v6, v7, i1, i2⟩ := hTI.ins
      k_steps
      all_goals
        rename News _ _ _ _ => NN
        rename Fr _ _ _ _ => FF
        rename TI (_ ++ _) _ _ => q9
        refine ⟨_, _, _, _, rfl, FF, NN, fun z hz hs => ?_, LoopJ.next NN hvi q9 hpi hti (by assumption) (by assumption) (by assumption) (by assumption) b1 b2 b3⟩
        have hs' := hs
        simp only [List.contains_cons, List.contains_nil, Bool.or_false, Bool.or_eq_false_iff, beq_eq_false_iff_ne, ne_eq] at hs
        simp only [hz, hs, hs', if_false, Bool.false_eq_true]
        try rfl
    · intro u h₁ tk₁ nx hJ F₁ N₁
      obtain ⟨vsn, en, Z, rfl, hvi, hTI, a1, a2, a3, a4, b1, b2, b3⟩ := hJ
      dsimp only [envOfC] at F₁ N₁
      clear ap9 q9
      have eps : ps.take zs.length = ps := by rw [List.take_of_length_le (by omega)]
      rw [eps] at hTI
      have lz12 : zs.length = 12 := by omega
      rw [lz12] at hvi
      obtain ⟨r1, r2, r3, hFT, ok1, ok2, ok3⟩ := hTI.ft (by omega)
      have hTre := hTI.tre
      have hWS := WS.of hl12 hps
      clear a1 a2 a3 a4 b1 b2 b3 hTI
      dsimp only
      k_steps
      refine ⟨⟨PlainJ _ ps, PlainJ.start _ ps, ?_, ?_, ?_⟩⟩
      · rintro i ys nw ⟨rfl, _⟩
        exact List.mem_cons_of_mem _ List.mem_cons_self
      · rintro i ys nw v I oI C oC D m₂ h tk E' hv ⟨rfl, hy⟩ hC hx F₁ N₁ off ne
        obtain ⟨sp, nm, tv, rfl, hsp, hnm, hpi, hi⟩ := words_get hzs hps hv
        k_steps
        rename News _ _ _ _ => NN
        rename Fr _ _ _ _ => FF
        exact plain_end hy hpi off FF NN
      · rintro h' pvs nw ⟨rfl, hy⟩
        rw [eps] at hy
        have hB1 : ∀ y ∈ lawNames 0 ++ ps.map (·.2), y ∈ names31 := names_B1 hps
        have hB2 : ∀ y ∈ ps.map (·.2) ++ [Str.ofString "p", Str.ofString "table", Str.ofString "tr", Str.ofString "nobody"], y ∈ names31 := names_B2 hps
        have lB2 : (ps.map (·.2) ++ [Str.ofString "p", Str.ofString "table", Str.ofString "tr", Str.ofString "nobody"]).length = 16 := by rw [List.length_append, List.length_map, hl12]; rfl
        have lpv : pvs.length = 12 := by rw [StrsAre.len_eq hy, List.length_map]; omega
        k_steps
        skip
end Mine
set_option maxRecDepth 100000 in
theorem PySem.Challenge.cw_nt0596_01_holds : PySem.Challenge.rw_nt0596_01.Holds :=
  Mine.walk_law
