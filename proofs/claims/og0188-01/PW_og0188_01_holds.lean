import PyProof.Rows.All
import Wide.All
import OpenK.AllK
import Wide.FinOn
import PySem.Challenge.RW_og0188_01
section
open PySem PySem.W PyProof.Rows
namespace Mine.h0
set_option Elab.async false
theorem tw11320821149192881102 : True := trivial
theorem tw9636162430350437923 : True := trivial
theorem tw4180546935164859356 : True := trivial
theorem tw3898839524458568509 : True := trivial
theorem tw1270287161788596174 : True := trivial
theorem tw17498552580007177261 : True := trivial
theorem tw1281095506500193755 : True := trivial
theorem tw2065709187975769052 : True := trivial
theorem tw9117659903417140062 : True := trivial
theorem tw9728326532861356907 : True := trivial
theorem tw1348334617554067115 : True := trivial
theorem tw11482005054129796641 : True := trivial
theorem tw2797297164063420635 : True := trivial
theorem tw12060618688741047819 : True := trivial
theorem tw6127208540806456920 : True := trivial
theorem tw16584622985297111268 : True := trivial
theorem tw17644042637451415569 : True := trivial
theorem tw15511655261967260031 : True := trivial
theorem tw12798934155195380403 : True := trivial
theorem tw8633032871871302571 : True := trivial
theorem tw17451962187380428190 : True := trivial
theorem tw15177187366770842420 : True := trivial
theorem tw13428721754777370371 : True := trivial
theorem tw1659646050662142430 : True := trivial
theorem tw708699609108303529 : True := trivial
theorem tw14379413657103509249 : True := trivial
theorem tw14592353054933039756 : True := trivial
theorem tw16504506979051933328 : True := trivial
theorem tw11071380959171577731 : True := trivial
theorem tw11726561858443960359 : True := trivial
theorem tw15586721077045167844 : True := trivial
theorem tw13356945364733144934 : True := trivial
theorem tw8178348772169755637 : True := trivial
theorem tw10207280042863096026 : True := trivial
theorem tw6876849896888031990 : True := trivial
theorem tw11695344257665795552 : True := trivial
theorem tw12471785677079792507 : True := trivial
theorem tw14036087349896685714 : True := trivial
theorem tw13094198153292168033 : True := trivial
theorem tw13353828215357793269 : True := trivial
theorem tw13588401598096891569 : True := trivial
theorem tw17660258873592258798 : True := trivial
theorem tw6352206803697432067 : True := trivial
theorem tw7732227690703949348 : True := trivial
theorem tw1208095855235968688 : True := trivial
theorem tw11783800251234250412 : True := trivial
theorem tw4267412274519072954 : True := trivial
theorem tw9922951121205627989 : True := trivial
theorem tw8424374929111349434 : True := trivial
theorem tw16212399793595145887 : True := trivial
theorem tw2177048924834719834 : True := trivial
theorem tw5784713366291160019 : True := trivial
theorem tw10238238033767498532 : True := trivial
theorem tw8623004558516992981 : True := trivial
theorem tw16390823650083362897 : True := trivial
theorem tw2152123244109758300 : True := trivial
theorem tw14529611280170532530 : True := trivial
theorem tw8025754453300304438 : True := trivial
theorem tw9665641030319907233 : True := trivial
theorem tw15904550311919063610 : True := trivial
theorem tw8722000341124395473 : True := trivial
theorem tw1734226601470752215 : True := trivial
theorem tw8187913945257921495 : True := trivial
theorem tw1703070057531897520 : True := trivial
theorem tw17563155538075125883 : True := trivial
theorem tw3225427463025686046 : True := trivial
theorem tw4896940137985072322 : True := trivial
theorem tw12258493645971703222 : True := trivial
theorem tw309009825020243456 : True := trivial
theorem tw8359033805367166379 : True := trivial
theorem tw10580115063282698534 : True := trivial
theorem tw6535458104355512843 : True := trivial
theorem tw7472121786958918723 : True := trivial
theorem tw4911217719921788968 : True := trivial
theorem tw8761695436359613427 : True := trivial
theorem tw905219014857253098 : True := trivial
theorem tw3921903420096232037 : True := trivial
theorem tw7607508411731673307 : True := trivial
theorem tw2845677305891486147 : True := trivial
theorem tw8374213171170128259 : True := trivial
theorem tw12089249829292663885 : True := trivial
theorem tw16338362887189284379 : True := trivial
theorem tw3820884695609932291 : True := trivial
theorem tw1520538627739437968 : True := trivial
theorem tw12212024663201924829 : True := trivial
theorem tw17020515755695874886 : True := trivial
theorem tw8814093901796077865 : True := trivial
theorem tw4955733730220032979 : True := trivial
theorem tw2612460510383841583 : True := trivial
theorem tw8850369151664550709 : True := trivial
theorem tw18273075908993645674 : True := trivial
theorem tw1238828662806013023 : True := trivial
theorem tw1283065738450460450 : True := trivial
theorem tw1929595723607962472 : True := trivial
theorem tw16354368192709152269 : True := trivial
theorem tw14774321504664041362 : True := trivial
theorem tw16633308401008660688 : True := trivial
theorem tw3548665813795951017 : True := trivial
theorem tw6838538786266254422 : True := trivial
theorem tw15379275120997646145 : True := trivial
theorem tw6958488796080836576 : True := trivial
theorem tw10835423802198496322 : True := trivial
theorem tw11752493748525743379 : True := trivial
theorem tw17250136860981254603 : True := trivial
theorem tw10983085871054566518 : True := trivial
theorem tw13998453111060538446 : True := trivial
theorem tw3353501706874057790 : True := trivial
theorem tw2381745293521861919 : True := trivial
theorem tw2627439650047902540 : True := trivial
theorem tw11257839613246630795 : True := trivial
theorem tw3013456027866384753 : True := trivial
theorem tw11985479789558760470 : True := trivial
theorem tw13862557412587311547 : True := trivial
theorem tw10119472602172212655 : True := trivial
theorem tw12816028189351045425 : True := trivial
theorem tw10415162559289145589 : True := trivial
theorem tw3880672907914087874 : True := trivial
theorem tw8042831879622645945 : True := trivial
theorem tw14952855439641330696 : True := trivial
theorem tw1221397297181698902 : True := trivial
theorem tw3112274479899902563 : True := trivial
theorem tw12157072517896203713 : True := trivial
theorem tw11292619699618662546 : True := trivial
theorem tw12186122002281744631 : True := trivial
theorem tw18341644848587327342 : True := trivial
theorem tw259847239198454599 : True := trivial
theorem tw16590870679435226228 : True := trivial
theorem tw1665078233521779743 : True := trivial
theorem tw11298601072899375484 : True := trivial
theorem tw6084151716811462520 : True := trivial
theorem tw3846841910522743236 : True := trivial
theorem tw15176102352184123566 : True := trivial
theorem tw2617617001648382052 : True := trivial
theorem tw11237341634421071422 : True := trivial
theorem tw10260501434273942599 : True := trivial
theorem tw5516717828014391238 : True := trivial
theorem tw6273633062814151316 : True := trivial
theorem tw8641510719432489668 : True := trivial
theorem tw17469380542069495786 : True := trivial
theorem tw8887932966549204779 : True := trivial
theorem tw2997325639675662944 : True := trivial
theorem tw11880079704871210817 : True := trivial
theorem tw516621911986041150 : True := trivial
theorem tw2980852105064871180 : True := trivial
theorem tw10434871610932973227 : True := trivial
theorem tw1274155967344468090 : True := trivial
theorem tw7436934397927724294 : True := trivial
theorem tw9492828882142629918 : True := trivial
theorem tw10930868481771794492 : True := trivial
theorem tw17133690070080172185 : True := trivial
theorem tw11769288772503161504 : True := trivial
theorem tw3352868831914529549 : True := trivial
theorem tw315737977332210345 : True := trivial
theorem tw17454629662083663844 : True := trivial
theorem tw3028020904904987531 : True := trivial
theorem tw16067910495121874047 : True := trivial
theorem tw9242129905532361598 : True := trivial
theorem tw1903562594476465543 : True := trivial
theorem tw2843341132791932032 : True := trivial
theorem tw16019657911929878948 : True := trivial
theorem tw16743746383161732225 : True := trivial
theorem tw5002409540297709392 : True := trivial
theorem tw14437580271843073067 : True := trivial
theorem tw9815895068137521125 : True := trivial
theorem tw5511373502424188203 : True := trivial
theorem tw1453748555723558567 : True := trivial
theorem tw14101207912280773705 : True := trivial
theorem tw13247336323242608514 : True := trivial
theorem tw15243033423689832378 : True := trivial
theorem tw10194825565455570988 : True := trivial
theorem tw16510772549855244365 : True := trivial
theorem tw14436878610621563730 : True := trivial
theorem tw18166394773367877903 : True := trivial
theorem tw13002598536876892750 : True := trivial
theorem tw17798662673846769023 : True := trivial
theorem tw11279051134153851184 : True := trivial
theorem tw14705417126667523934 : True := trivial
theorem tw17633186797664359727 : True := trivial
theorem tw5585174963456173400 : True := trivial
theorem tw1451584770471018468 : True := trivial
theorem tw11144547896643767039 : True := trivial
theorem tw2255790964480663336 : True := trivial
theorem tw6410839706384643165 : True := trivial
theorem tw16135929993094243936 : True := trivial
theorem tw4197778175967263855 : True := trivial
theorem tw4967582900935672457 : True := trivial
theorem tw13088291418643026975 : True := trivial
theorem tw18059158300982006251 : True := trivial
theorem tw5640176611544327496 : True := trivial
theorem tw13174085689672465585 : True := trivial
theorem tw16718556204062534234 : True := trivial
theorem tw2039585107946831182 : True := trivial
theorem tw8392165027114999185 : True := trivial
theorem tw13643287580020656241 : True := trivial
theorem tw12082449551554634278 : True := trivial
theorem tw10214401180190451077 : True := trivial
theorem tw6660283794314180987 : True := trivial
theorem tw9890401828787048779 : True := trivial
theorem tw383287100759434601 : True := trivial
theorem tw7257365452434676071 : True := trivial
theorem tw9256901483587876142 : True := trivial
theorem tw7766270355814575840 : True := trivial
theorem tw2033868928877676015 : True := trivial
theorem tw15100298481008233714 : True := trivial
theorem tw3391596905396101797 : True := trivial
theorem tw11383741484249373746 : True := trivial
theorem tw6846028082471638298 : True := trivial
theorem tw1344623626192521210 : True := trivial
theorem tw9982867925491735008 : True := trivial
theorem tw12190348874917586967 : True := trivial
theorem tw7502377700484918466 : True := trivial
theorem tw6297617762009510678 : True := trivial
theorem tw9025090187670611047 : True := trivial
theorem tw12917150993943427725 : True := trivial
theorem tw9880651309096593588 : True := trivial
theorem tw9118801163071168397 : True := trivial
theorem tw4595195206640900026 : True := trivial
theorem tw256485394379975661 : True := trivial
theorem tw5858878814874488534 : True := trivial
theorem tw9318119886681605803 : True := trivial
theorem tw10795425292807571715 : True := trivial
theorem tw9067025432760835197 : True := trivial
theorem tw8976364092149940651 : True := trivial
theorem tw13306268735910616298 : True := trivial
theorem tw15501184942930984010 : True := trivial
theorem tw3914410902411777622 : True := trivial
theorem tw12223792403116127181 : True := trivial
theorem tw10076327799927492316 : True := trivial
theorem tw5583033974982105231 : True := trivial
theorem tw9421876003277245631 : True := trivial
theorem tw12055135632636490865 : True := trivial
theorem tw6055295664834943761 : True := trivial
theorem tw8092455632256667436 : True := trivial
theorem tw3632606957844781398 : True := trivial
theorem tw12215808092320044325 : True := trivial
theorem tw16387974048471114161 : True := trivial
theorem tw6424241345488092306 : True := trivial
theorem tw17650389268097828633 : True := trivial
theorem tw14684463680145934037 : True := trivial
theorem tw15782274267762634812 : True := trivial
theorem tw10382443961695244489 : True := trivial
theorem tw15672312562950134725 : True := trivial
theorem tw13406136778054030525 : True := trivial
theorem tw2620008734136862272 : True := trivial
theorem tw15372698890590699103 : True := trivial
theorem tw201636225645789219 : True := trivial
theorem tw6094247076961636732 : True := trivial
theorem tw9177222209460309205 : True := trivial
theorem tw853182085383128686 : True := trivial
theorem tw10844939981614286264 : True := trivial
theorem tw5332403567344231715 : True := trivial
theorem tw14225048766368896325 : True := trivial
theorem tw15457791804864959479 : True := trivial
theorem tw3163257929493725371 : True := trivial
theorem tw11011986719260483328 : True := trivial
theorem tw12868830970419679022 : True := trivial
theorem tw7554571642868920442 : True := trivial
theorem tw7956526721593074052 : True := trivial
theorem tw10319141391865436870 : True := trivial
theorem tw12627577357528499728 : True := trivial
theorem tw11756010980023828979 : True := trivial
theorem tw7963456635684166951 : True := trivial
theorem tw14905021323614928821 : True := trivial
theorem tw11064570863350752466 : True := trivial
theorem tw1107471686938180393 : True := trivial
theorem tw557660533004440156 : True := trivial
theorem tw14344417855754095137 : True := trivial
theorem tw16981243746944155839 : True := trivial
theorem tw2540601054191465860 : True := trivial
theorem tw13735801576626225392 : True := trivial
theorem tw10456735623641266705 : True := trivial
theorem tw13077191033295257382 : True := trivial
theorem tw14725554973861892178 : True := trivial
theorem tw9198075654626600789 : True := trivial
theorem tw17955954229689541017 : True := trivial
theorem tw13624650487294844052 : True := trivial
theorem tw6944712029667455450 : True := trivial
theorem tw14589230676712342110 : True := trivial
theorem tw10886741299638372202 : True := trivial
theorem tw11541817477103689948 : True := trivial
theorem tw6535614214831943722 : True := trivial
theorem tw13067032873628234245 : True := trivial
theorem tw2395727450626748908 : True := trivial
theorem tw6729373472634832600 : True := trivial
theorem tw6049671950177758757 : True := trivial
theorem tw14857240474300831897 : True := trivial
theorem tw4353556627882386746 : True := trivial
theorem tw13265174966928768664 : True := trivial
theorem tw13217822668245674232 : True := trivial
theorem tw1456162097735802843 : True := trivial
theorem tw18314189261129862878 : True := trivial
theorem tw10529670187242881017 : True := trivial
theorem tw16200869799790290801 : True := trivial
theorem tw5340863632954496049 : True := trivial
theorem tw14358126514579283187 : True := trivial
theorem tw5200276743111997080 : True := trivial
theorem tw10439629082592381469 : True := trivial
theorem tw11548809930054366048 : True := trivial
theorem tw10017594109556034781 : True := trivial
theorem tw15357354424390146993 : True := trivial
theorem tw11890164214695412072 : True := trivial
theorem tw13761303003958994989 : True := trivial
theorem tw15316408284645075144 : True := trivial
theorem tw16474551367353578956 : True := trivial
theorem tw12512260832148694339 : True := trivial
theorem tw3183411701926427947 : True := trivial
theorem tw593086735438457924 : True := trivial
theorem tw17159167289931748480 : True := trivial
theorem tw5950045311063005598 : True := trivial
theorem tw3794273830223084892 : True := trivial
theorem tw9560714145211891185 : True := trivial
theorem tw16057040823684697191 : True := trivial
theorem tw5616165503567518440 : True := trivial
theorem tw18343708109495570831 : True := trivial
theorem tw8179261026223156886 : True := trivial
theorem tw14506297956194944699 : True := trivial
theorem tw739834805700027229 : True := trivial
theorem tw2051451748135845978 : True := trivial
theorem tw3325148560643163779 : True := trivial
theorem tw13973470683061513571 : True := trivial
theorem tw2729225979408662628 : True := trivial
theorem tw15548550798437907708 : True := trivial
theorem tw3911460813702264686 : True := trivial
theorem tw16474424210907479407 : True := trivial
theorem tw12711198927149690553 : True := trivial
theorem tw1963574599266878151 : True := trivial
theorem tw12736809808497669059 : True := trivial
theorem tw14410061699392674544 : True := trivial
theorem tw9289677306843623407 : True := trivial
theorem tw14996749479872837036 : True := trivial
theorem tw14978068108432239910 : True := trivial
theorem tw5002846180882802622 : True := trivial
theorem tw9165653268500999214 : True := trivial
theorem tw2296957820185507412 : True := trivial
theorem tw18352892801677474792 : True := trivial
theorem tw13475682832182836106 : True := trivial
theorem tw16497282417159659858 : True := trivial
theorem tw6580897869869143801 : True := trivial
theorem tw13221223621128587428 : True := trivial
theorem tw8987227157700081827 : True := trivial
theorem tw13541886664651099080 : True := trivial
theorem tw7822834533947421566 : True := trivial
theorem tw4550195374240602729 : True := trivial
theorem tw460443236203682826 : True := trivial
theorem tw14755131137401554638 : True := trivial
theorem tw10536474244777180169 : True := trivial
theorem tw8002864666333376985 : True := trivial
theorem tw9741648650557404915 : True := trivial
theorem tw8601340747923050112 : True := trivial
theorem tw16195161284700469532 : True := trivial
theorem tw15209740874618743506 : True := trivial
theorem tw5222137366309223424 : True := trivial
theorem tw11002022052570987557 : True := trivial
theorem tw2188996903394556439 : True := trivial
theorem tw2480271536287283598 : True := trivial
theorem tw9533406109128153449 : True := trivial
theorem tw9432740041837459621 : True := trivial
theorem tw265055799437516331 : True := trivial
theorem tw8433256737139960426 : True := trivial
theorem tw13328550180969373674 : True := trivial
theorem tw5163469197465677204 : True := trivial
theorem tw2770762502134461607 : True := trivial
theorem tw3089657871599240637 : True := trivial
theorem tw10025362633608045143 : True := trivial
theorem tw10169648782543258830 : True := trivial
theorem tw16752482240664570805 : True := trivial
theorem tw11139410820804778098 : True := trivial
theorem tw9438486637927213348 : True := trivial
theorem tw8395058777512956496 : True := trivial
theorem tw16600016365851254738 : True := trivial
theorem tw15657344652490148328 : True := trivial
theorem tw540371531147120950 : True := trivial
theorem tw7709785844591439685 : True := trivial
theorem tw16382952760125283980 : True := trivial
theorem tw11328254188656229198 : True := trivial
theorem tw16155494440769894896 : True := trivial
theorem tw9530369851709841175 : True := trivial
theorem tw14896409721537676024 : True := trivial
theorem tw15037995700020373260 : True := trivial
theorem tw18387460970165292665 : True := trivial
theorem tw16474007507153162040 : True := trivial
theorem tw12964557092691732021 : True := trivial
theorem tw13474891334799376072 : True := trivial
theorem tw13177096144220635079 : True := trivial
theorem tw17205318104488847615 : True := trivial
theorem tw15680186471486777182 : True := trivial
theorem tw14790534842872491299 : True := trivial
theorem tw9145569264516484399 : True := trivial
theorem tw10156675476022117541 : True := trivial
theorem tw9634867679916159894 : True := trivial
theorem tw4725419018234412406 : True := trivial
theorem tw484497197556925362 : True := trivial
theorem tw6368827281094040134 : True := trivial
theorem tw16875501341846509056 : True := trivial
theorem tw5855346352654177868 : True := trivial
theorem tw15672959599434194814 : True := trivial
theorem tw9379609548582255357 : True := trivial
theorem tw13535335637642258008 : True := trivial
theorem tw15145753427235556085 : True := trivial
theorem tw1590585917951809750 : True := trivial
theorem tw12077810693856093080 : True := trivial
theorem tw650829734784328848 : True := trivial
theorem tw13722731519036949397 : True := trivial
theorem tw11275521837109870566 : True := trivial
theorem tw3976775774053727736 : True := trivial
theorem tw17624098579016377321 : True := trivial
theorem tw14151065212596873788 : True := trivial
theorem tw12844488972014321520 : True := trivial
theorem tw11776443800099568279 : True := trivial
theorem tw17727772164012788889 : True := trivial
theorem tw5095109543398993034 : True := trivial
theorem tw11190401749334714206 : True := trivial
theorem tw12147153187168351353 : True := trivial
theorem tw12115607378166789987 : True := trivial
theorem tw8637126730520081291 : True := trivial
theorem tw8114333337559660526 : True := trivial
theorem tw6338962096104415412 : True := trivial
theorem tw14988566313389725209 : True := trivial
theorem tw9508247017310603890 : True := trivial
theorem tw5926436224392723206 : True := trivial
theorem tw8548483670235635614 : True := trivial
theorem tw16860103224867076484 : True := trivial
theorem tw17381323192542076295 : True := trivial
theorem tw986198316838521039 : True := trivial
theorem tw2192519698178427076 : True := trivial
theorem tw11946178271998300661 : True := trivial
theorem tw1574601587965037793 : True := trivial
theorem tw12990736492102518391 : True := trivial
theorem tw9919415698094610329 : True := trivial
theorem tw6113771130717379868 : True := trivial
theorem tw16765483113403897725 : True := trivial
theorem tw7265546162459185295 : True := trivial
theorem tw11438360540616046117 : True := trivial
theorem tw14403125572704176100 : True := trivial
theorem tw11561248822825265415 : True := trivial
theorem tw10023592965192695150 : True := trivial
theorem tw3291105801718280718 : True := trivial
theorem tw18193496173243652561 : True := trivial
theorem tw9860777295895486153 : True := trivial
theorem tw4623727097878636803 : True := trivial
theorem tw5571925363956168481 : True := trivial
theorem tw4795462946392419140 : True := trivial
theorem tw18037871045212077495 : True := trivial
theorem tw9100963550272774227 : True := trivial
theorem tw17080180758655679191 : True := trivial
theorem tw7558379923973224192 : True := trivial
theorem tw7721897534688220840 : True := trivial
theorem tw1447316616175980873 : True := trivial
theorem tw4091625341231492703 : True := trivial
theorem tw6059935515576284218 : True := trivial
theorem tw4815130955182674186 : True := trivial
theorem tw6289303174006370703 : True := trivial
theorem tw6109136569804775618 : True := trivial
theorem tw8136810388793036665 : True := trivial
theorem tw8528402420080813730 : True := trivial
theorem tw11876944973240409721 : True := trivial
theorem tw10656554359832518861 : True := trivial
theorem tw10128879752551204940 : True := trivial
theorem tw13283840724170915085 : True := trivial
theorem tw3487396089035477641 : True := trivial
theorem tw3581772974796792257 : True := trivial
theorem tw6453413489625269901 : True := trivial
theorem tw17811762444693911201 : True := trivial
theorem tw17595460303489062161 : True := trivial
theorem tw11557201728913098701 : True := trivial
theorem tw347199028864547782 : True := trivial
theorem tw2646819634581056407 : True := trivial
theorem tw8014111272054603128 : True := trivial
theorem tw16687026318273387535 : True := trivial
theorem tw7717288822092626203 : True := trivial
theorem tw16342209635007083457 : True := trivial
theorem tw4600916986806250454 : True := trivial
theorem tw1524268239902235216 : True := trivial
theorem tw15162549892835542006 : True := trivial
theorem tw2024977538370080481 : True := trivial
theorem tw14390458977646933828 : True := trivial
theorem tw14549961491672753858 : True := trivial
theorem tw13505836941674961503 : True := trivial
theorem tw15066740580278992468 : True := trivial
theorem tw15273770383296423315 : True := trivial
theorem tw11674176227268927970 : True := trivial
theorem tw2226447956159211994 : True := trivial
theorem tw15018480458051796988 : True := trivial
theorem tw14654356202349643759 : True := trivial
theorem tw5619527307132202948 : True := trivial
theorem tw7978763748812983772 : True := trivial
theorem tw10580518429992404841 : True := trivial
theorem tw4899616470907327989 : True := trivial
theorem tw9783793074909438677 : True := trivial
theorem tw2291059708349509821 : True := trivial
theorem tw17969006127852211366 : True := trivial
theorem tw6913633958454327176 : True := trivial
theorem tw567177025200476436 : True := trivial
theorem tw18172574551403924839 : True := trivial
theorem tw3707493426992295555 : True := trivial
theorem tw7480202386591885793 : True := trivial
theorem tw11156156193053338651 : True := trivial
theorem tw5013893581291427881 : True := trivial
theorem tw6557711320453919821 : True := trivial
theorem tw5321142266373993345 : True := trivial
theorem tw9763862868824163868 : True := trivial
theorem tw5861899477830484850 : True := trivial
theorem tw4980502989961539550 : True := trivial
theorem tw10598151849221702874 : True := trivial
theorem tw5823638213467505069 : True := trivial
theorem tw4509868253164738065 : True := trivial
theorem tw9897054594501740262 : True := trivial
theorem tw5600681607793470359 : True := trivial
theorem tw17983578503797544568 : True := trivial
theorem tw1026102559349117412 : True := trivial
theorem tw10788250826918944707 : True := trivial
theorem tw17975128789629174793 : True := trivial
theorem tw3127597209705626842 : True := trivial
theorem tw15708071033695779215 : True := trivial
theorem tw10993206368045639185 : True := trivial
theorem tw6961226954016877254 : True := trivial
theorem tw12375237897028079591 : True := trivial
theorem tw2105706996124039959 : True := trivial
theorem tw5020451595342780341 : True := trivial
theorem tw9132555722551562487 : True := trivial
theorem tw7937895932737364410 : True := trivial
theorem tw2622932881359236566 : True := trivial
theorem tw3155062883950879829 : True := trivial
theorem tw15653835859030992291 : True := trivial
theorem tw3504213483016479671 : True := trivial
theorem tw9422829158406843059 : True := trivial
theorem tw7077200354598616433 : True := trivial
theorem tw17776167816894596356 : True := trivial
theorem tw12992164527811336863 : True := trivial
theorem tw25052378123239191 : True := trivial
theorem tw14249523853479548464 : True := trivial
theorem tw15653301640010691416 : True := trivial
theorem tw6265947962835391325 : True := trivial
theorem tw10134380526629438885 : True := trivial
theorem tw6382968963985289564 : True := trivial
theorem tw7895532891837162810 : True := trivial
theorem tw2928411720476997921 : True := trivial
theorem tw11410646843959637478 : True := trivial
theorem tw6329540825781946645 : True := trivial
theorem tw5120395809153039859 : True := trivial
theorem tw11123619305163199293 : True := trivial
theorem tw8059443278411620393 : True := trivial
theorem tw8930858142141259252 : True := trivial
theorem tw14719631123845806015 : True := trivial
theorem tw8152078813274758384 : True := trivial
theorem tw17592142925427602674 : True := trivial
theorem tw15860022018829709907 : True := trivial
theorem tw9924778399668603250 : True := trivial
theorem tw15912537713315444039 : True := trivial
theorem tw16763468833561558324 : True := trivial
theorem tw3573363092587464854 : True := trivial
theorem tw12976892419175772481 : True := trivial
theorem tw4653268549698064191 : True := trivial
theorem tw3054838087832536348 : True := trivial
theorem tw14906889363123044932 : True := trivial
theorem tw9544153919160730355 : True := trivial
theorem tw2839304348429843373 : True := trivial
theorem tw7635800600833212051 : True := trivial
end Mine.h0
namespace Mine
theorem drop_it (T : Prop) (_ : T) : True := trivial
set_option Elab.async true in
set_option maxRecDepth 100000 in
set_option maxHeartbeats 8000000 in
theorem h0 : True := by
  refine' (?k : PySem.Challenge.rw_og0188_01.Holds → True) ?d
  case k => exact fun _ => trivial
  clear h0
  have hz : type_of% (drop_it _ ?z) := trivial
  clear hz
  w_on; o_law; k_head
  (case hw => w_witness2)
  exact ?z
open PySem PySem.W
end Mine
end
section
open PySem PySem.W PyProof.Rows
set_option Elab.async false
namespace Mine
open PySem.Calls PySem.Spec
noncomputable abbrev Ls : List Str := looseW h0.view_1_40 [Str.ofString "PaperError", Str.ofString "name_text"]
/-- what a call of a def of the text hands back, whatever stands around it -/
def Tells (f : Addr) (vs : List Value) (news : List (Addr × Obj))
    (Back : (h₀ : Heap) → Addr → (Str → Option Value) → Shared → (Value → Shared → Prop) → Prop) : Prop :=
  ∀ (w : World) (mg mb : Str → Option Value) (mean : ExcName → Option Value) (dp un : Nat) (gd : Option (List Code)) (cn : Str) (cs : Scope) (a : Addr) (ccd : Value) (cl : List (Str × Addr)) (outer : List Env) (A₀ : Around) (base h₀ : Heap) (L : Addr) (m : Str → Option Value) (s : Shared) (Q E : Value → Shared → Prop),
    Below A₀ base outer h₀ → Fr h₀ L s.heap m → (h0.heap_1_39 w.params).In h₀ → News h₀ L s.heap news → Top h0.view_1_40 Ls mean mg mb h₀ → cs.kind = .function →
    dp + 20 < recursionLimit → un + 60 < cLine → Back h₀ L m s Q →
      wpAny (model Challenge.rw_og0188_01.row.prog w) (ktrTop dp un gd cn cs L a ccd cl outer) (call (.ref f) vs) Q E s
/-- a value is handed back, the ledger stands -/
def BackV (news : List (Addr × Obj)) (R : Tok → Value) (h₀ : Heap) (L : Addr) (m : Str → Option Value) (s : Shared) (Q : Value → Shared → Prop) : Prop :=
  ∀ (t : Tok) (h' : Heap) (tk' : Nat), Fr h₀ L h' m → News h₀ L h' news → Q (R t) { s with heap := h', toks := tk' }
def codeOf (l : List UInt8) : Int := l.foldl (fun c o => 256 * c + (o.toNat : Int)) 0
theorem fill : Challenge.rw_og0188_01 = Challenge.rw_og0188_01 ∧ Mine.h0.heap_1_39 = Mine.h0.heap_1_39 := by
  k_fill
  exact ⟨rfl, rfl⟩
end Mine
end
section
open PySem PySem.W PyProof.Rows
set_option Elab.async false
set_option maxRecDepth 100000
set_option maxHeartbeats 8000000
namespace Mine
open PySem.Calls PySem.Spec
section
variable {prog : Program} {w : World} {A : Around} {E : Value → Shared → Prop} {s : Shared} {env : Env} {h₀ : Heap} {x : PySem.Str} {body : List Stmt} {Q : Flow → Shared → Prop}
theorem bytesJ {b : Array UInt8} {tb : Tok} {m₀ : PySem.Str → Option Value} {news : List (Addr × Obj)} (J : Nat → (PySem.Str → Option Value) → List (Addr × Obj) → Prop)
    (hh : A.handled = none) (F : Fr h₀ env.locals s.heap m₀) (N : News h₀ env.locals s.heap news) (hj : J 0 m₀ news)
    (turn : ∀ (i : Nat) (n : Int) t m₁ nx h tk own, (KBw.bInts b)[i]? = some n → 0 ≤ n → n < 256 → OwnOff own (news.map (·.1)) → J i m₁ nx →
      Fr h₀ env.locals h (fun y => if y = x then some (.int n t) else m₁ y) → News h₀ env.locals h (nx ++ own) →
      wpAny (model prog w) A (execs body env) (InvPostN h₀ env.locals (J (i + 1)) own (news.map (·.1)) { s with heap := h, toks := tk } Q) E { s with heap := h, toks := tk })
    (done : ∀ m₁ nx h tk, J b.size m₁ nx → Fr h₀ env.locals h m₁ → News h₀ env.locals h nx → Q .next { s with heap := h, toks := tk }) :
    wpAny (model prog w) A (pyIter (.bytes b tb)) (fun it s₂ => LoopAtV prog w A h₀ env x body Q E it s₂) E s := by
  refine KBw.pyIter_bytes ?_
  have W := KBw.walks (prog := prog) (w := w) hh s.heap.objs.size b tb
  refine loop_invN J W ?_ ?_ ?_ ?_ ⟨_, Heap.get?_push_size _ rfl, rfl, rfl⟩ (F.push _) (fun p hp => ⟨Heap.get?_push_of_some _ (N p hp).1, (N p hp).2⟩) hj ?_ ?_
  · intro hm
    exact absurd F.ns.lt ((List.mem_singleton.mp hm) ▸ Nat.lt_irrefl _)
  · intro b' hb
    rw [List.mem_singleton.mp hb]
    exact next_is_new F
  · intro p hp hI
    exact absurd (Heap.lt_size (N p hp).1) ((List.mem_singleton.mp hI) ▸ Nat.lt_irrefl _)
  · intro p hp hI
    exact absurd (Heap.lt_size (N p hp).1) ((List.mem_singleton.mp hI) ▸ Nat.lt_irrefl _)
  · rintro i v m₁ nx h tk own hi ⟨n, u, hn, rfl⟩ _ hoff hJ F₁ N₁
    have hn' := KBw.ints_get hn
    have hb := KBw.ints_in (List.mem_of_getElem? hn')
    exact turn i (n.toNat : Int) u m₁ nx h tk own hn' hb.1 hb.2 hoff hJ F₁ N₁
  · rintro m₁ nx h tk hJ F₁ N₁
    exact done m₁ nx h tk hJ F₁ N₁
theorem rangeJ {r : Addr} {a₀ b₀ : Int} {t₀ u₀ v₀ : Tok} {n : Nat} {m₀ : PySem.Str → Option Value} {news : List (Addr × Obj)} (J : Nat → (PySem.Str → Option Value) → List (Addr × Obj) → Prop)
    (hh : A.handled = none) (hr : IsRange s.heap r a₀ b₀ 1 t₀ u₀ v₀) (hsmall : Builtin.Range.small a₀ b₀ 1 = true) (hn : Builtin.Range.rangeSize a₀ b₀ 1 = (n : Int)) (F : Fr h₀ env.locals s.heap m₀) (N : News h₀ env.locals s.heap news) (hj : J 0 m₀ news)
    (turn : ∀ (i : Nat) t m₁ nx h tk own, i < n → OwnOff own (news.map (·.1)) → J i m₁ nx →
      Fr h₀ env.locals h (fun y => if y = x then some (.int (a₀ + i) t) else m₁ y) → News h₀ env.locals h (nx ++ own) →
      wpAny (model prog w) A (execs body env) (InvPostN h₀ env.locals (J (i + 1)) own (news.map (·.1)) { s with heap := h, toks := tk } Q) E { s with heap := h, toks := tk })
    (done : ∀ m₁ nx h tk, J n m₁ nx → Fr h₀ env.locals h m₁ → News h₀ env.locals h nx → Q .next { s with heap := h, toks := tk }) :
    wpAny (model prog w) A (pyIter (.ref r)) (fun it s₂ => LoopAtV prog w A h₀ env x body Q E it s₂) E s := by
  refine wpAny_pyIter_range hr hsmall ?_
  have W : Walks prog w A s.heap.objs.size [s.heap.objs.size] [s.heap.objs.size] n (fun i v => i < n ∧ ∃ t, v = .int (a₀ + i * 1) t)
      (fun i h => IsRangeIter h s.heap.objs.size (a₀ + (i : Nat) * 1) ((n : Int) - (i : Nat)) 1) := (Walks.range hh _ a₀ 1 n).bound
  refine loop_invN J W ?_ ?_ ?_ ?_ (by show IsRangeIter _ _ _ _ _; rw [hn]; simpa using Heap.get?_push_size _ rfl) (F.push _) (fun p hp => ⟨Heap.get?_push_of_some _ (N p hp).1, (N p hp).2⟩) hj ?_ ?_
  · intro hm
    exact absurd F.ns.lt ((List.mem_singleton.mp hm) ▸ Nat.lt_irrefl _)
  · intro b hb
    rw [List.mem_singleton.mp hb]
    exact next_is_new F
  · intro p hp hI
    exact absurd (Heap.lt_size (N p hp).1) ((List.mem_singleton.mp hI) ▸ Nat.lt_irrefl _)
  · intro p hp hI
    exact absurd (Heap.lt_size (N p hp).1) ((List.mem_singleton.mp hI) ▸ Nat.lt_irrefl _)
  · rintro i v m₁ nx h tk own hi ⟨_, t, rfl⟩ _ hoff hJ F₁ N₁
    have e1 : a₀ + (i : Int) * 1 = a₀ + (i : Int) := by omega
    rw [e1] at F₁
    exact turn i t m₁ nx h tk own hi hoff hJ F₁ N₁
  · rintro m₁ nx h tk hJ F₁ N₁
    exact done m₁ nx h tk hJ F₁ N₁
/-- a frame whose map is told off one name -/
theorem fr_same {L : Addr} {h : Heap} {m m' : PySem.Str → Option Value} (F : Fr h₀ L h m) (e : ∀ z, m z = m' z) : Fr h₀ L h m' := by
  have : m = m' := funext e
  exact this ▸ F
theorem fr_off {L : Addr} {h : Heap} {v : Option Value} {m₁ m₀ : PySem.Str → Option Value} (F : Fr h₀ L h (fun y => if y = x then v else m₁ y)) (e : ∀ z, z ≠ x → m₁ z = m₀ z) : Fr h₀ L h (fun y => if y = x then v else m₀ y) :=
  fr_same F fun z => by
    by_cases h : z = x
    · simp [h]
    · simp [h, e z h]
theorem fr_out {L : Addr} {h : Heap} {m₁ m₀ : PySem.Str → Option Value} (F : Fr h₀ L h m₁) (e : ∀ z, z ≠ x → m₁ z = m₀ z) : Fr h₀ L h (fun y => if y = x then m₁ y else m₀ y) :=
  fr_same F fun z => by
    by_cases h : z = x
    · simp [h]
    · simp [h, e z h]
theorem news_sub {L : Addr} {h : Heap} {l l' : List (Addr × Obj)} (N : News h₀ L h l) (hs : ∀ p ∈ l', p ∈ l) : News h₀ L h l' := fun p hp => N p (hs p hp)
end
end Mine
end
section
open PySem PySem.W PyProof.Rows
set_option Elab.async false
namespace Mine
theorem sh4_bound {n : Int} (h0 : 0 ≤ n) (h1 : n < 256) : 0 ≤ n.fdiv (2 ^ Int.toNat 4) ∧ n.fdiv (2 ^ Int.toNat 4) < 16 := by
  have : (2 : Int) ^ Int.toNat 4 = 16 := by decide
  rw [this, Int.fdiv_eq_ediv_of_nonneg _ (by decide)]
  omega
theorem and15_bound {n : Int} : 0 ≤ Builtin.bitAnd n 15 ∧ Builtin.bitAnd n 15 < 16 := by
  rw [bitAnd_m4]; omega
end Mine
end
section
open PySem PySem.W PyProof.Rows
set_option Elab.async false
set_option maxRecDepth 100000
set_option maxHeartbeats 8000000
namespace Mine
open PySem.Calls PySem.Spec
theorem reset_T1 {prog : Program} {w : World} {A : Around} {env : Env} {Q : Flow → Shared → Prop} {E : Value → Shared → Prop} {s : Shared} (h : Q .next s) : wpAny (model prog w) A (execs [] env) Q E s := by
  w_top off
  k_with_none
  walk1
  exact h
def codeI (l : List Int) : Int := l.foldl (fun c o => 256 * c + o) 0
theorem codeI_snoc (l : List Int) (x : Int) : codeI (l ++ [x]) = 256 * codeI l + x := by
  unfold codeI; rw [List.foldl_append]; rfl
theorem code_of_tells (news : List (Addr × Obj)) (B : Array UInt8) (t : Tok) (hB : B.size ≤ 2 ^ 10) : Tells 432 [.bytes B t] news (BackV news fun t' => .int (codeI (KBw.bInts B)) t') := by
  unfold Tells BackV
  intros
  rename_i hret
  refine wpAny_call ?_
  k_dflt cell_enter
  k_with "pyIter bytes" => k_state (fun pre c => c = codeI pre) "code"
  k_with "state" => (subst_vars; exact (codeI_snoc _ _).symm)
  k_steps
  subst_vars
  exact hret _ _ _ (by assumption) (by assumption)
end Mine
end
section
open PySem PySem.W PyProof.Rows
set_option Elab.async false
set_option maxRecDepth 100000
set_option maxHeartbeats 8000000
namespace Mine
open PySem.Calls PySem.Spec
theorem reset_T2 {prog : Program} {w : World} {A : Around} {env : Env} {Q : Flow → Shared → Prop} {E : Value → Shared → Prop} {s : Shared} (h : Q .next s) : wpAny (model prog w) A (execs [] env) Q E s := by
  w_top off
  k_with_none
  k_with "z0" => ((refine' code_defC ?k1 ?k2 ?k3 ?k4 ?k5 ?kA ?kF ?kK ?k6 ?k7 ?k8 ?k9 ?kB ?kD ?_ ?c2 ?c3 ?c4; (case kA => exact rfl); (case kF => exact rfl); (case kK => assumption); (case k1 => k_asm); (case k2 => k_asm); (case k3 => k_asm); (case k4 => k_asm); (case k5 => k_asm); (case k6 => k_is); (case k7 => k_is); (case k8 => ktr_room); (case k9 => first | exact BindsTo.of_eq rfl | exact binds_K (by k_in) rfl (by k_is) rfl rfl rfl | fail "k_enter: no rule for these arguments"); (case kB => exact rfl); (case kD => decide +kernel); (case c2 => exact rfl); (case c3 => exact rfl); (case c4 => exact rfl); k_whole; intro g' L' h' tk' cells' FG' F' N' Y' B' X' T' l1; (try k_lt l1); k_cells Y'; (try simp only [List.cons_append, List.nil_append] at N'); (try dsimp only); (try k_lift B'); (try k_fold)))
  k_with "z1" => ((k_here; (with_reducible show wpAny _ _ (call (Value.type "bytes") [Value.ref _]) _ _ _); k_dflt (refine' KBa.make_K ?kbaF ?kbaN ?kbah ?kbal ?kbai ?kbar ?kban ?_; (case kbaF => k_asm); (case kbaN => k_asm); (case kbah => rfl); (case kbal => kba_isList); (case kbai => kba_listInts); (case kbar => exact octets_in); (case kban => kba_size)); intro _ _ _ F' N' kbaIn))
  walk1
  exact h
local macro_rules | `(tactic| cell_enter) => `(tactic| k_extra "z0")
def beI (n : Nat) (c : Int) : List Int := (List.range n).map fun k => c / 256 ^ (n - 1 - k) % 256
theorem octet_val {n c k : Int} (hk : 0 ≤ k) (hk' : k < n) : Builtin.bitAnd (c.fdiv (2 ^ (8 * (n - 1 - k)).toNat)) 255 = c / 256 ^ (n.toNat - 1 - k.toNat) % 256 := by
  have e : (8 * (n - 1 - k)).toNat = 8 * (n.toNat - 1 - k.toNat) := by omega
  rw [bitAnd_m8, e, Int.fdiv_eq_ediv_of_nonneg _ (Int.pow_nonneg (by decide)), Int.pow_mul]
  rfl
theorem octets_val {n c : Int} (hn : 0 ≤ n) : List.map (fun k' => Builtin.bitAnd (c.fdiv (2 ^ (8 * (n - 1 - k')).toNat)) 255) (rangeKs 0 (n - 0).toNat) = beI n.toNat c := by
  unfold rangeKs beI
  rw [List.map_map, Int.sub_zero]
  refine List.map_congr_left fun k hk => ?_
  have hk := List.mem_range.mp hk
  show Builtin.bitAnd (c.fdiv (2 ^ (8 * (n - 1 - (0 + (k : Int)))).toNat)) 255 = _
  rw [octet_val (by omega) (by omega)]
  rw [show (0 + (k : Int)).toNat = k by omega]
theorem octets_in {n c : Int} {l : List Int} : KBa.In (List.map (fun k' => Builtin.bitAnd (c.fdiv (2 ^ (8 * (n - 1 - k')).toNat)) 255) l) := by
  intro x hx
  obtain ⟨k, _, rfl⟩ := List.mem_map.mp hx
  rw [bitAnd_m8]
  omega
local macro_rules | `(tactic| walk_at "call type:bytes") => `(tactic| k_extra "z1")
theorem code_octets_tells (news : List (Addr × Obj)) (n c : Int) (t t' : Tok) (hn : 0 ≤ n) (hn' : n ≤ 8) : Tells 437 [.int n t, .int c t'] news (BackV news fun t' => .bytes (byteArr (beI n.toNat c)) t') := by
  unfold Tells BackV
  intros
  rename_i hret
  refine wpAny_call ?_
  k_dflt cell_enter
  k_steps
  rw [octets_val hn]
  exact hret _ _ _ (by assumption) (news_sub (by assumption) fun p hp => by simp [hp])
end Mine
end
section
open PySem PySem.W PyProof.Rows
set_option Elab.async false
set_option maxRecDepth 100000
set_option maxHeartbeats 800000
namespace Mine
open PySem.Calls PySem.Spec
theorem reset_T3 {prog : Program} {w : World} {A : Around} {env : Env} {Q : Flow → Shared → Prop} {E : Value → Shared → Prop} {s : Shared} (h : Q .next s) : wpAny (model prog w) A (execs [] env) Q E s := by
  w_top off
  k_with_none
  k_with "z2" => ((first | (refine KXi.item (n := 16) (by decide) (Int.le_trans (by decide) (sh4_bound (by assumption) (by assumption)).1) (sh4_bound (by assumption) (by assumption)).2 (by decide) ?_; intro _) | (refine KXi.item (n := 16) (by decide) (Int.le_trans (by decide) and15_bound.1) and15_bound.2 (by decide) ?_; intro _)))
  walk1
  exact h
abbrev HEX : Str := Str.ofString "0123456789ABCDEF"
def hex2 (k : Int) : Str := Txt.item HEX (k.fdiv (2 ^ Int.toNat 4)) ++ Txt.item HEX (Builtin.bitAnd k 15)
theorem hex2_len (k : Int) : (hex2 k).length = 2 := by
  unfold hex2
  rw [Str.length_append, len_item, len_item]
theorem hex2_sum (l : List Int) : ((l.map hex2).map (·.length)).sum = 2 * l.length := by
  induction l with
  | nil => rfl
  | cons a r ih => simp only [List.map_cons, List.sum_cons, ih, hex2_len, List.length_cons]; omega
def hexText (l : List Int) : Str := Str.ofString "<" ++ Txt.join (Str.ofString "") (l.map hex2) ++ Str.ofString ">"
theorem hexJoin_len (l : List Int) : (Txt.join (Str.ofString "") (l.map hex2)).length ≤ 2 * l.length := by
  unfold Txt.join
  rw [StrLaws.glued_eq_join]
  refine Nat.le_trans (StrLaws.join_length_le (Str.ofString "") (l.map hex2)) ?_
  rw [hex2_sum, show (Str.ofString "").length = 0 by decide +kernel]
  omega
def HexJ (l : Addr) (news : List (Addr × Obj)) (B : Array UInt8) (m₀ : PySem.Str → Option Value) (i : Nat) (m : PySem.Str → Option Value) (nx : List (Addr × Obj)) : Prop :=
  (∀ z, z ≠ Str.ofString "octet" → m z = m₀ z) ∧ ∃ vs c, nx = (l, W.listOf vs.toArray c) :: news ∧ StrsAre vs (((KBw.bInts B).take i).map hex2)
local macro_rules | `(tactic| walk_at "subscriptTail Name BinOp str int") => `(tactic| k_extra "z2")
theorem hex_text_tells (news : List (Addr × Obj)) (B : Array UInt8) (t : Tok) (hB : B.size ≤ 2 ^ 10) : Tells 510 [.bytes B t] news (BackV news fun t' => .str (hexText (KBw.bInts B)) t') := by
  unfold Tells BackV
  intros
  rename_i hret
  have hMk := kstMark
  refine wpAny_call ?_
  k_dflt cell_enter
  k_with "pyIter bytes" => (
    (rename Fr _ _ _ _ => lF); (rename News _ _ _ _ => lN);
    refine bytesJ (HexJ _ news B _) (by rfl) lF lN ⟨fun _ _ => rfl, [], 0, rfl, .nil⟩ ?_ ?_;
    (rintro i n t m₁ nx h tk own hn h0 h256 hoff ⟨hm, vs, c, rfl, hvs⟩ F₁ N₁; have F₂ := fr_off F₁ hm; clear F₁ lF lN; simp only [List.cons_append, List.nil_append] at N₁; have hl := StrsAre.length hvs; rw [List.length_map, List.length_take, KBw.ints_length] at hl); rotate_left;
    (rintro m₁ nx h tk ⟨hm, vs, c, rfl, hvs⟩ F₁ N₁; have F₂ := fr_out F₁ hm; clear F₁ lF lN; rw [← KBw.ints_length, List.take_length] at hvs; have hw := hex2_sum (KBw.bInts B); have hl := KBw.ints_length B; have hj := hexJoin_len (KBw.bInts B));
    all_goals (try k_fold))
  k_with "call builtin:str.join" => (refine join_listW (News.isList (by assumption) (by k_mem)) (by assumption) (by decide +kernel) (by rw [List.length_map]; omega) ?_; intro _ _)
  k_steps
  · exact hret _ _ _ (by assumption) (news_sub (by assumption) fun p hp => .tail _ hp)
  · rename Fr _ _ _ _ => F₃
    rename News _ _ _ _ => N₃
    rename StrsAre _ _ => hvs
    rename ((_ : List Int)[_]? = some _) => hn
    simp only [List.push_toArray] at N₃
    refine' InvEndN.intro (nx := (_, W.listOf (vs ++ [Value.str (hex2 n) ?t9]).toArray (c + 1)) :: news) F₃ N₃ ⟨fun z hz => by simp [hz], vs ++ [Value.str (hex2 n) ?t9], c + 1, rfl, ?e1⟩ rfl ?e2 ?e3
    case e2 =>
      intro p hp
      rcases List.mem_cons.mp hp with rfl | h
      · exact .head _
      · exact .tail _ (List.mem_append_left _ h)
    · rw [List.take_add_one, hn]
      simp only [List.map_append, Option.toList_some, List.map_cons, List.map_nil]
      exact StrsAre.append' hvs (.cons _ _ .nil)
    · intro p hp
      exact .tail _ (List.mem_append_right _ hp)
end Mine
end
section
open PySem PySem.W PyProof.Rows
set_option Elab.async false
set_option maxRecDepth 100000
set_option maxHeartbeats 500000
namespace Mine
open PySem.Calls PySem.Spec
theorem reset_T4 {prog : Program} {w : World} {A : Around} {env : Env} {Q : Flow → Shared → Prop} {E : Value → Shared → Prop} {s : Shared} (h : Q .next s) : wpAny (model prog w) A (execs [] env) Q E s := by
  w_top off
  k_with_none
  k_with "z3" => ((with_reducible refine floordiv_int ?kbe ?_ (Or.inl (no_pyl (by assumption) (by assumption))); (case kbe => omega)))
  k_with "z4" => ((refine mod_gen ?kb ?_; (case kb => first | decide | omega); intro _ _ _))
  k_with "z5" => (((with_reducible show wpAny _ _ (binaryOp _ _ (Value.int 3 _)) _ _ _); refine pow3_gen ?kb ?_; (case kb => first | exact pow_b1 (by assumption) (by assumption) (by assumption) (by assumption) | exact pow_b2 (by assumption) (by assumption) (by assumption) (by assumption)); intro _))
  walk1
  exact h
theorem log2_small {n : Nat} (h1 : 1 ≤ n) (h : n < 2 ^ 33) : n.log2 < 33 := (Nat.log2_lt (by omega)).mpr h
theorem no_pyl {x k : Int} (h0 : 1 ≤ k) (h1 : k ≤ 4294967296) : Builtin.divisionGoesByPylong x k = false :=
  PyProof.noPylong_of_log2 (Nat.lt_trans (log2_small (by omega) (by omega)) (by decide))
local macro_rules | `(tactic| walk_at "binaryOp FloorDiv int int") => `(tactic| k_extra "z3")
local macro_rules | `(tactic| k_all) => `(tactic| assumption)
section
variable {prog : Program} {w : World} {A : Around} {E : Value → Shared → Prop} {s : Shared} {a b : Int} {t u : Tok} {Q : Value → Shared → Prop}
theorem mod_gen (hb : 0 < b) (h : ∀ v, 0 ≤ v → v < b → Q (.int v s.toks) { s with toks := s.toks + 1 }) : wpAny (model prog w) A (binaryOp .Mod (.int a t) (.int b u)) Q E s :=
  mod_int' (by omega) (h _ (Int.fmod_nonneg_of_pos a hb) (Int.fmod_lt_of_pos a hb))
theorem pow3_gen (ha : a.natAbs < 2 ^ 64) (h : ∀ v, Q (.int v s.toks) { s with toks := s.toks + 1 }) : wpAny (model prog w) A (binaryOp .Pow (.int a t) (.int 3 u)) Q E s :=
  pow_int_small (by decide) (by decide) ha (h _)
end
theorem mul_small {a b : Int} {A B C : Int} (ha0 : 0 ≤ a) (ha : a ≤ A) (hb0 : 0 ≤ b) (hb : b ≤ B) (hC : A * B ≤ C) : 0 ≤ a * b ∧ a * b ≤ C :=
  ⟨Int.mul_nonneg ha0 hb0, Int.le_trans (Int.mul_le_mul ha hb hb0 (Int.le_trans ha0 ha)) hC⟩
theorem pow_b1 {v pl : Int} (h0 : 0 ≤ v) (h1 : v < 2147483629) (h2 : 0 ≤ pl) (h3 : pl < 1048576) : (v + 40503 * pl + 977).natAbs < 2 ^ 64 := by omega
theorem pow_b2 {v pl : Int} (h0 : 0 ≤ v) (h1 : v < 2147483587) (h2 : 0 ≤ pl) (h3 : pl < 1048576) : (v * (2 * pl + 5003) + pl * pl + 11).natAbs < 2 ^ 64 := by
  have a := mul_small (A := 2147483587) (B := 2102155) (C := 4514343548880000) h0 (by omega) (b := 2 * pl + 5003) (by omega) (by omega) (by decide)
  have b := mul_small (A := 1048576) (B := 1048576) (C := 1099511627776) h2 (by omega) (b := pl) (by omega) (by omega) (by decide)
  generalize v * (2 * pl + 5003) = x at a ⊢
  generalize pl * pl = y at b ⊢
  omega
local macro_rules | `(tactic| walk_at "binaryOp Mod int int") => `(tactic| k_extra "z4")
local macro_rules | `(tactic| walk_at "binaryOp Pow int int") => `(tactic| k_extra "z5")
abbrev penObj (c : Addr) (pl : Int) (t1 : Tok) (fu : Int) (t2 : Tok) (np : Nat) : Obj := W.listOf #[.ref c, .int pl t1, .int fu t2] np
def BackDraw (p c : Addr) (pl : Int) (np : Nat) (k : Int) (rest : List (Addr × Obj)) (h₀ : Heap) (L : Addr) (m : PySem.Str → Option Value) (s : Shared) (Q : Value → Shared → Prop) : Prop :=
  ∀ (d pl' fu' : Int) (t t1 t2 : Tok) (h' : Heap) (tk' : Nat), 0 ≤ d → d < k → pl ≤ pl' → pl' ≤ pl + 1 → 0 ≤ fu' → Fr h₀ L h' m → News h₀ L h' ((p, penObj c pl' t1 fu' t2 np) :: rest) → Q (.int d t) { s with heap := h', toks := tk' }
theorem draw_tells (p c : Addr) (pl fu k : Int) (t1 t2 t3 : Tok) (np nc : Nat) (vs : List Value) (ns : List Int) (rest : List (Addr × Obj)) (hpc : @Ne Nat p c) (hrest : ∀ q ∈ rest, q.1 ≠ p) (hvs : IntsAre vs ns) (hlen : ns.length ≤ 40)
    (hpl : 0 ≤ pl) (hpl' : pl < 1048576) (hfu : 0 ≤ fu) (hk : 1 ≤ k) (hk' : k ≤ 4294967296) :
    Tells 517 [.ref p, .int k t3] ((p, penObj c pl t1 fu t2 np) :: (c, W.listOf vs.toArray nc) :: rest) (BackDraw p c pl np k ((c, W.listOf vs.toArray nc) :: rest)) := by
  unfold Tells BackDraw
  intros
  rename_i hret
  have hMk := kstMark
  have hvl := hvs.length
  refine wpAny_call ?_
  k_dflt cell_enter
  k_steps
  all_goals (refine hret _ _ _ _ _ _ _ _ ?_ ?_ ?_ ?_ ?_ (by assumption) (by assumption) <;> first | assumption | omega | exact Int.fdiv_nonneg (by omega) (by omega) | fail)
end Mine
end
section
open PySem PySem.W PyProof.Rows
set_option Elab.async false
set_option maxRecDepth 100000
set_option maxHeartbeats 400000
namespace Mine
open PySem.Calls PySem.Spec
theorem reset_T5 {prog : Program} {w : World} {A : Around} {env : Env} {Q : Flow → Shared → Prop} {E : Value → Shared → Prop} {s : Shared} (h : Q .next s) : wpAny (model prog w) A (execs [] env) Q E s := by
  w_top off
  k_with_none
  k_with "z6" => ((refine' code_def ?k1 ?k2 ?k3 ?k4 ?k5 ?kA ?kF ?kK ?k6 ?k7 ?k8 ?k9 ?kB ?_ ?c2 ?c3 ?c4 ?c5; (case kA => exact rfl); (case kF => exact rfl); (case kK => first | exact rfl | assumption); (case k1 => k_asm); (case k2 => k_asm); (case k3 => k_asm); (case k4 => k_asm); (case k5 => k_asm); (case k6 => k_is); (case k7 => k_is); (case k8 => ktr_room); (case k9 => first | exact BindsTo.of_eq rfl | exact binds_K (by k_in) rfl (by k_is) rfl rfl rfl | fail "k_enter: no rule for these arguments"); (case c5 => decide); (case kB => exact locs rfl); (case c2 => exact rfl); (case c3 => exact rfl); (case c4 => exact rfl); k_whole; intro g' L' h' FG' F' N' B' X' T'; (try dsimp only); (try k_lift B'); (try k_fold)))
  k_with "z7" => ((k_dflt (refine' notin_tuple_ints (tupK ?kX ?kL) ?kI ?_; (case kX => k_in); (case kL => k_is); (case kI => (repeat constructor)))))
  k_with "z8" => ((k_dflt (refine' in_tuple_ints (tupK ?kX ?kL) ?kI ?_; (case kX => k_in); (case kL => k_is); (case kI => (repeat constructor)))))
  walk1
  exact h
local macro_rules | `(tactic| k_enter) => `(tactic| k_extra "z6")
local macro_rules | `(tactic| k_units) => `(tactic| ktr_units)
local macro_rules | `(tactic| k_room) => `(tactic| ktr_room)
local macro_rules | `(tactic| k_all) => `(tactic| assumption)
local macro_rules | `(tactic| walk_at "compareOp NotIn int ref") => `(tactic| k_extra "z7")
local macro_rules | `(tactic| walk_at "compareOp In int ref") => `(tactic| k_extra "z8")
def hexW (c : Int) : Int := if c ≤ 57 then c - 48 else c - 55
theorem hex_worth_tells (news : List (Addr × Obj)) (c : Int) (t : Tok) (hc : 48 ≤ c) (hc' : c ≤ 70) (hg : c ≤ 57 ∨ 65 ≤ c) : Tells 323 [.int c t] news (BackV news fun t' => .int (hexW c) t') := by
  unfold Tells BackV
  intros
  rename_i hret
  refine wpAny_call ?_
  k_dflt cell_enter
  k_steps
  · rw [show c - 48 = hexW c by unfold hexW; rw [if_pos (by omega)]]
    exact hret _ _ _ (by assumption) (by assumption)
  · rw [show c - 55 = hexW c by unfold hexW; rw [if_neg (by omega)]]
    exact hret _ _ _ (by assumption) (by assumption)
theorem not_white {c : Int} (hc : 97 ≤ c) (hc' : c ≤ 122) : (![0, 9, 10, 12, 13, 32].any fun x => x == c) = true := by
  simp only [List.any_cons, List.any_nil, Bool.not_eq_true', Bool.or_eq_false_iff, beq_eq_false_iff_ne, ne_eq]
  refine ⟨?_, ?_, ?_, ?_, ?_, ?_, trivial⟩ <;> omega
theorem not_delim {c : Int} (hc : 97 ≤ c) (hc' : c ≤ 122) : (![40, 41, 60, 62, 91, 93, 123, 125, 47, 37].any fun x => x == c) = true := by
  simp only [List.any_cons, List.any_nil, Bool.not_eq_true', Bool.or_eq_false_iff, beq_eq_false_iff_ne, ne_eq]
  refine ⟨?_, ?_, ?_, ?_, ?_, ?_, ?_, ?_, ?_, ?_, trivial⟩ <;> omega
theorem is_regular_tells (news : List (Addr × Obj)) (c : Int) (t : Tok) (hc : 97 ≤ c) (hc' : c ≤ 122) : Tells 89 [.int c t] news (BackV news fun t' => .bool true) := by
  unfold Tells BackV
  intros
  rename_i hret
  refine wpAny_call ?_
  k_dflt cell_enter
  k_steps
  · rw [not_white hc hc']
    exact hret 0 _ _ (by assumption) (by assumption)
  · rw [not_delim hc hc']
    exact hret 0 _ _ (by assumption) (by assumption)
theorem is_regular_tells_sp (news : List (Addr × Obj)) (t : Tok) : Tells 89 [.int 32 t] news (BackV news fun t' => .bool false) := by
  unfold Tells BackV
  intros
  rename_i hret
  refine wpAny_call ?_
  k_dflt cell_enter
  k_steps
  rw [show (![0, 9, 10, 12, 13, 32].any fun x => x == (32 : Int)) = false by decide]
  exact hret 0 _ _ (by assumption) (by assumption)
end Mine
end
section
open PySem PySem.W PyProof.Rows
set_option Elab.async false
set_option maxRecDepth 100000
set_option maxHeartbeats 400000
namespace Mine
open PySem.Calls PySem.Spec
theorem bInts_inj {A B : Array UInt8} (h : KBw.bInts A = KBw.bInts B) : A = B := by
  apply Array.toList_inj.mp
  unfold KBw.bInts at h
  refine List.map_inj_right (fun x y e => ?_) |>.mp h
  have e' : x.toNat = y.toNat := by exact_mod_cast e
  exact UInt8.toNat_inj.mp e'
theorem bInts_byteArr {l : List Int} (h : ∀ x ∈ l, 0 ≤ x ∧ x < 256) : KBw.bInts (byteArr l) = l := by
  unfold KBw.bInts byteArr
  rw [List.map_map]
  refine (List.map_congr_left (g := id) fun x hx => ?_).trans (List.map_id _)
  obtain ⟨h0, h1⟩ := h x hx
  show ((x.toNat.toUInt8).toNat : Int) = x
  have : (x.toNat.toUInt8).toNat = x.toNat := by
    show (UInt8.ofNat x.toNat).toNat = x.toNat
    rw [UInt8.toNat_ofNat']
    omega
  omega
section
variable {prog : Program} {w : World} {A : Around} {E : Value → Shared → Prop} {s : Shared} {value slice : PySem.Expr} {D W V : Array UInt8} {t u : Tok} {i c p q : Int} {Q : Value → Shared → Prop} {h₀ : Heap} {L : Addr} {m : PySem.Str → Option Value} {news : List (Addr × Obj)}
theorem bytes_at (hx : (KBw.bInts D)[i.toNat]? = some c) (h0 : 0 ≤ i) (hz : D.size ≤ 4096) (h : ∀ t' k, Q (.int c t') { s with toks := k })
    (hs : subscripted slice false (.bytes D t) (.int i u) = operate [.bytes D t, .int i u] (getItem (.bytes D t) (.int i u)) := by with_unfolding_all rfl)
    (ht : ∀ r, letTemporaryGo value (.bytes D t) r = pure () := by intro _; with_unfolding_all rfl) :
    wpAny (model prog w) A (subscriptTail value slice (.bytes D t) (.int i u)) Q E s := by
  have hl := KBw.ints_length D
  have hlt : i.toNat < (KBw.bInts D).length := (List.getElem?_eq_some_iff.mp hx).1
  refine KBw.item_K rfl (by omega) h0 (by omega) (fun t' k _ _ => ?_) hs ht
  have e : (KBw.bInts D).getD i.toNat 0 = c := by rw [List.getD_eq_getElem?_getD, hx]; rfl
  rw [e]
  exact h t' k
theorem bytes_cut (hF : Fr h₀ L s.heap m) (hN : News h₀ L s.heap news) (hz : D.size ≤ 4096) (h0 : 0 ≤ p) (h1 : p ≤ q) (h2 : q ≤ D.size) (hW : ((KBw.bInts D).drop p.toNat).take (q - p).toNat = KBw.bInts W) {tp tq : Tok}
    (h : ∀ h' t' k, Fr h₀ L h' m → News h₀ L h' news → Q (.bytes W t') { s with heap := h', toks := k })
    (hs : subscripted slice false (.bytes D t) (.ref s.heap.objs.size) = operate [.ref s.heap.objs.size, .bytes D t] (getItem (.bytes D t) (.ref s.heap.objs.size)) := by with_unfolding_all rfl)
    (ht : ∀ r, letTemporaryGo value (.bytes D t) r = pure () := by intro _; with_unfolding_all rfl) :
    wpAny (model prog w) A (subscriptTail value slice (.bytes D t) (.ref s.heap.objs.size)) Q E { s with heap := s.heap.push { cls := .type "slice", data := .fields #[.int p tp, .int q tq, .none] } } := by
  have hl := KBw.ints_length D
  refine KBc.slice_K (lo := some p) (hi := some q) hF hN rfl (.int p tp) (.int q tq) (by omega) (fun h' t' k F' N' e => ?_) hs ht
  have ep : clipAt (KBw.bInts D).length p = p.toNat := by unfold clipAt; rw [if_neg (by omega)]; omega
  have eq : clipAt (KBw.bInts D).length q = q.toNat := by unfold clipAt; rw [if_neg (by omega)]; omega
  have e2 : KBy.picked D (some p) (some q) = W := bInts_inj (by rw [e, ← hW]; show List.take (clipAt _ q - clipAt _ p) (List.drop (clipAt _ p) _) = _; rw [ep, eq]; congr 1; omega)
  rw [e2]
  exact h h' t' k F' N'
end
end Mine
end
section
open PySem PySem.W PyProof.Rows
set_option Elab.async false
namespace Mine
open PySem.Calls PySem.Spec
section
variable {prog : Program} {w : World} {A : Around} {E : Value → Shared → Prop} {s : Shared} {a b : Int} {t u : Tok} {Q : Value → Shared → Prop}
theorem eqY (e : a = b) (h : Q (.bool true) s) : wpAny (model prog w) A (compareOp .Eq (.int a t) (.int b u)) Q E s := PyProof.Rows.eq_int (by rw [beq_iff_eq.mpr e]; exact h)
theorem eqN (e : a ≠ b) (h : Q (.bool false) s) : wpAny (model prog w) A (compareOp .Eq (.int a t) (.int b u)) Q E s := PyProof.Rows.eq_int (by rw [beq_eq_false_iff_ne.mpr e]; exact h)
theorem neY (e : a ≠ b) (h : Q (.bool true) s) : wpAny (model prog w) A (compareOp .NotEq (.int a t) (.int b u)) Q E s := PyProof.Rows.ne_int (by rw [bne_iff_ne.mpr e]; exact h)
theorem neN (e : a = b) (h : Q (.bool false) s) : wpAny (model prog w) A (compareOp .NotEq (.int a t) (.int b u)) Q E s := PyProof.Rows.ne_int (by subst e; simpa using h)
theorem ltY (e : a < b) (h : Q (.bool true) s) : wpAny (model prog w) A (compareOp .Lt (.int a t) (.int b u)) Q E s := PyProof.Rows.lt_int (by rw [decide_eq_true e]; exact h)
theorem ltN (e : b ≤ a) (h : Q (.bool false) s) : wpAny (model prog w) A (compareOp .Lt (.int a t) (.int b u)) Q E s := PyProof.Rows.lt_int (by rw [decide_eq_false (by omega)]; exact h)
theorem gtY (e : b < a) (h : Q (.bool true) s) : wpAny (model prog w) A (compareOp .Gt (.int a t) (.int b u)) Q E s := PyProof.Rows.gt_int (by rw [decide_eq_true e]; exact h)
theorem gtN (e : a ≤ b) (h : Q (.bool false) s) : wpAny (model prog w) A (compareOp .Gt (.int a t) (.int b u)) Q E s := PyProof.Rows.gt_int (by rw [decide_eq_false (by omega)]; exact h)
theorem leY (e : a ≤ b) (h : Q (.bool true) s) : wpAny (model prog w) A (compareOp .LtE (.int a t) (.int b u)) Q E s := PyProof.Rows.le_int (by rw [decide_eq_true e]; exact h)
theorem leN (e : b < a) (h : Q (.bool false) s) : wpAny (model prog w) A (compareOp .LtE (.int a t) (.int b u)) Q E s := PyProof.Rows.le_int (by rw [decide_eq_false (by omega)]; exact h)
theorem geY (e : b ≤ a) (h : Q (.bool true) s) : wpAny (model prog w) A (compareOp .GtE (.int a t) (.int b u)) Q E s := PyProof.Rows.ge_int (by rw [decide_eq_true e]; exact h)
theorem geN (e : a < b) (h : Q (.bool false) s) : wpAny (model prog w) A (compareOp .GtE (.int a t) (.int b u)) Q E s := PyProof.Rows.ge_int (by rw [decide_eq_false (by omega)]; exact h)
variable {tp : Addr} {items : Array Value} {ns : List Int} {x : Int}
theorem inN (ht : IsTup s.heap tp items) (hi : IntsAre items.toList ns) (e : (ns.any (· == x)) = false) (h : Q (.bool false) s) : wpAny (model prog w) A (compareOp .In (.int x u) (.ref tp)) Q E s := in_tuple_ints ht hi (by rw [e]; exact h)
theorem inY (ht : IsTup s.heap tp items) (hi : IntsAre items.toList ns) (e : (ns.any (· == x)) = true) (h : Q (.bool true) s) : wpAny (model prog w) A (compareOp .In (.int x u) (.ref tp)) Q E s := in_tuple_ints ht hi (by rw [e]; exact h)
theorem notInN (ht : IsTup s.heap tp items) (hi : IntsAre items.toList ns) (e : (ns.any (· == x)) = true) (h : Q (.bool false) s) : wpAny (model prog w) A (compareOp .NotIn (.int x u) (.ref tp)) Q E s := notin_tuple_ints ht hi (by rw [e]; exact h)
theorem notInY (ht : IsTup s.heap tp items) (hi : IntsAre items.toList ns) (e : (ns.any (· == x)) = false) (h : Q (.bool true) s) : wpAny (model prog w) A (compareOp .NotIn (.int x u) (.ref tp)) Q E s := notin_tuple_ints ht hi (by rw [e]; exact h)
end
theorem any_no_cons {a x : Int} {l : List Int} (h : a ≠ x) (hl : (l.any (· == x)) = false) : ((a :: l).any (· == x)) = false := by
  rw [List.any_cons, hl, beq_eq_false_iff_ne.mpr h]; rfl
theorem any_no_nil {x : Int} : (([] : List Int).any (· == x)) = false := rfl
end Mine
end
section
open PySem PySem.W PyProof.Rows
set_option Elab.async false
namespace Mine
open PySem.Calls PySem.Spec
local macro_rules | `(tactic| k_enter) => `(tactic| k_extra "z6")
local macro_rules | `(tactic| k_units) => `(tactic| ktr_units)
local macro_rules | `(tactic| k_room) => `(tactic| ktr_room)
local macro_rules | `(tactic| k_all) => `(tactic| assumption)
local macro_rules | `(tactic| walk_at "compareOp Eq int int") => `(tactic| k_extra "z9")
local macro_rules | `(tactic| walk_at "compareOp NotEq int int") => `(tactic| k_extra "z10")
local macro_rules | `(tactic| walk_at "compareOp Lt int int") => `(tactic| k_extra "z11")
local macro_rules | `(tactic| walk_at "compareOp Gt int int") => `(tactic| k_extra "z12")
local macro_rules | `(tactic| walk_at "compareOp LtE int int") => `(tactic| k_extra "z13")
local macro_rules | `(tactic| walk_at "compareOp GtE int int") => `(tactic| k_extra "z14")
local macro_rules | `(tactic| walk_at "compareOp NotIn int ref") => `(tactic| k_extra "z15")
local macro_rules | `(tactic| walk_at "compareOp In int ref") => `(tactic| k_extra "z16")
local macro_rules | `(tactic| walk_at "exec While Compare cons nil") => `(tactic| k_extra "z17")
local macro_rules | `(tactic| walk_at "subscriptTail") => `(tactic| k_extra "z18")
section
open PySem PySem.W PyProof.Rows
set_option Elab.async false
set_option maxRecDepth 100000
set_option maxHeartbeats 400000
open PySem.Calls PySem.Spec
theorem reset_T6 {prog : Program} {w : World} {A : Around} {env : Env} {Q : Flow → Shared → Prop} {E : Value → Shared → Prop} {s : Shared} (h : Q .next s) : wpAny (model prog w) A (execs [] env) Q E s := by
  w_top off
  k_with_none
  k_with "z6" => ((refine' code_def ?k1 ?k2 ?k3 ?k4 ?k5 ?kA ?kF ?kK ?k6 ?k7 ?k8 ?k9 ?kB ?_ ?c2 ?c3 ?c4 ?c5; (case kA => exact rfl); (case kF => exact rfl); (case kK => first | exact rfl | assumption); (case k1 => k_asm); (case k2 => k_asm); (case k3 => k_asm); (case k4 => k_asm); (case k5 => k_asm); (case k6 => k_is); (case k7 => k_is); (case k8 => ktr_room); (case k9 => first | exact BindsTo.of_eq rfl | exact binds_K (by k_in) rfl (by k_is) rfl rfl rfl | fail "k_enter: no rule for these arguments"); (case c5 => decide); (case kB => exact locs rfl); (case c2 => exact rfl); (case c3 => exact rfl); (case c4 => exact rfl); k_whole; intro g' L' h' FG' F' N' B' X' T'; (try dsimp only); (try k_lift B'); (try k_fold)))
  k_with "z9" => (first | (refine eqN (by omega) ?_) | (refine eqY (by omega) ?_))
  k_with "z10" => (first | (refine neN (by omega) ?_) | (refine neY (by omega) ?_))
  k_with "z11" => (first | (refine ltY (by omega) ?_) | (refine ltN (by omega) ?_))
  k_with "z12" => (first | (refine gtY (by omega) ?_) | (refine gtN (by omega) ?_))
  k_with "z13" => (first | (refine leY (by omega) ?_) | (refine leN (by omega) ?_))
  k_with "z14" => (first | (refine geY (by omega) ?_) | (refine geN (by omega) ?_))
  k_with "z15" => ((k_dflt (first | (refine' notInN (tupK ?kX ?kL) ?kI ?kE ?_; (case kX => k_in); (case kL => k_is); (case kI => (repeat constructor)); (case kE => rfl)) | (refine' notInY (tupK ?kX ?kL) ?kI ?kE ?_; (case kX => k_in); (case kL => k_is); (case kI => (repeat constructor)); (case kE => (repeat (first | exact any_no_nil | (refine any_no_cons (by omega) ?_))))))))
  k_with "z16" => ((k_dflt (first | (refine' inY (tupK ?kX ?kL) ?kI ?kE ?_; (case kX => k_in); (case kL => k_is); (case kI => (repeat constructor)); (case kE => rfl)) | (refine' inN (tupK ?kX ?kL) ?kI ?kE ?_; (case kX => k_in); (case kL => k_is); (case kI => (repeat constructor)); (case kE => (repeat (first | exact any_no_nil | (refine any_no_cons (by omega) ?_))))))))
  k_with "z17" => ((k_dflt (refine whl_start 3 ?_)))
  k_with "z18" => (((with_reducible show wpAny _ _ (subscriptTail _ _ (Value.bytes _ _) (Value.int _ _)) _ _ _); refine bytes_at (by first | assumption | (rw [Int.add_zero]; assumption)) (by omega) (by assumption) ?_; intro _ _))
  walk1
  exact h
abbrev curD (w : World) (D : Array UInt8) (tD k1 k2 k3 : Tok) (p : Int) (tp : Tok) (e : Int) (te : Tok) : Obj :=
  dictOf [{ hash := PyData.keyHash w.params (Str.ofString "data"), key := Value.str (Str.ofString "data") k1, val := Value.bytes D tD },
    { hash := PyData.keyHash w.params (Str.ofString "at"), key := Value.str (Str.ofString "at") k2, val := Value.int p tp },
    { hash := PyData.keyHash w.params (Str.ofString "end"), key := Value.str (Str.ofString "end") k3, val := Value.int e te }] 3
def TellsW (f : Addr) (vs : List Value) (news : World → List (Addr × Obj))
    (Back : World → (h₀ : Heap) → Addr → (Str → Option Value) → Shared → (Value → Shared → Prop) → Prop) : Prop :=
  ∀ (w : World) (mg mb : Str → Option Value) (mean : ExcName → Option Value) (dp un : Nat) (gd : Option (List Code)) (cn : Str) (cs : Scope) (a : Addr) (ccd : Value) (cl : List (Str × Addr)) (outer : List Env) (A₀ : Around) (base h₀ : Heap) (L : Addr) (m : Str → Option Value) (s : Shared) (Q E : Value → Shared → Prop),
    Below A₀ base outer h₀ → Fr h₀ L s.heap m → (h0.heap_1_39 w.params).In h₀ → News h₀ L s.heap (news w) → Top h0.view_1_40 Ls mean mg mb h₀ → cs.kind = .function →
    dp + 20 < recursionLimit → un + 60 < cLine → Back w h₀ L m s Q →
      wpAny (model Challenge.rw_og0188_01.row.prog w) (ktrTop dp un gd cn cs L a ccd cl outer) (call (.ref f) vs) Q E s
/-- a value is handed back, the cursor stands at p' -/
def BackC (x d : Addr) (D : Array UInt8) (tD k1 k2 k3 : Tok) (p' e : Int) (te : Tok) (rest : List (Addr × Obj)) (R : Tok → Value) (w : World) (h₀ : Heap) (L : Addr) (m : Str → Option Value) (s : Shared) (Q : Value → Shared → Prop) : Prop :=
  ∀ (t tp' : Tok) (h' : Heap) (tk' : Nat), Fr h₀ L h' m → News h₀ L h' ((x, instObj 199 d) :: (d, curD w D tD k1 k2 k3 p' tp' e te) :: rest) → Q (R t) { s with heap := h', toks := tk' }
theorem take_tells (x d : Addr) (D : Array UInt8) (tD k1 k2 k3 tp te : Tok) (p e c : Int) (rest : List (Addr × Obj)) (hxd : @Ne Nat x d) (hr : ∀ q ∈ rest, q.1 ≠ d) (hz : D.size ≤ 4096) (he : e = D.size) (hp : 0 ≤ p) (hpe : p < e)
    (hc : (KBw.bInts D)[p.toNat]? = some c) :
    TellsW 133 [.ref x] (fun w => (x, instObj 199 d) :: (d, curD w D tD k1 k2 k3 p tp e te) :: rest) (BackC x d D tD k1 k2 k3 (p + 1) e te rest fun t => .int c t) := by
  unfold TellsW BackC curD
  intros
  rename_i hret
  refine wpAny_call ?_
  k_dflt cell_enter
  k_steps
  exact hret _ _ _ _ (by assumption) (by assumption)
theorem skip_white_tells_0 (x d : Addr) (D : Array UInt8) (tD k1 k2 k3 tp te : Tok) (p e c : Int) (rest : List (Addr × Obj)) (hxd : @Ne Nat x d) (hr : ∀ q ∈ rest, q.1 ≠ d) (hz : D.size ≤ 4096) (he : e = D.size) (hp : 0 ≤ p) (hpe : p < e)
    (hc : (KBw.bInts D)[p.toNat]? = some c) (hc1 : 48 ≤ c) :
    TellsW 154 [.ref x] (fun w => (x, instObj 199 d) :: (d, curD w D tD k1 k2 k3 p tp e te) :: rest) (BackC x d D tD k1 k2 k3 p e te rest fun _ => .none) := by
  unfold TellsW BackC curD
  intros
  rename_i hret
  refine wpAny_call ?_
  k_dflt cell_enter
  k_steps
  exact hret 0 _ _ _ (by assumption) (by assumption)
theorem skip_white_tells_1 (x d : Addr) (D : Array UInt8) (tD k1 k2 k3 tp te : Tok) (p e c : Int) (rest : List (Addr × Obj)) (hxd : @Ne Nat x d) (hr : ∀ q ∈ rest, q.1 ≠ d) (hz : D.size ≤ 4096) (he : e = D.size) (hp : 0 ≤ p) (hpe : p + 1 < e)
    (h32 : (KBw.bInts D)[p.toNat]? = some 32) (hc : (KBw.bInts D)[(p + 1).toNat]? = some c) (hc1 : 48 ≤ c) :
    TellsW 154 [.ref x] (fun w => (x, instObj 199 d) :: (d, curD w D tD k1 k2 k3 p tp e te) :: rest) (BackC x d D tD k1 k2 k3 (p + 1) e te rest fun _ => .none) := by
  unfold TellsW BackC curD
  intros
  rename_i hret
  refine wpAny_call ?_
  k_dflt cell_enter
  k_steps
  exact hret 0 _ _ _ (by assumption) (by assumption)
theorem skip_white_tells_e (x d : Addr) (D : Array UInt8) (tD k1 k2 k3 tp te : Tok) (p e : Int) (rest : List (Addr × Obj)) (hxd : @Ne Nat x d) (hr : ∀ q ∈ rest, q.1 ≠ d) (hz : D.size ≤ 4096) (he : e = D.size) (hp : 0 ≤ p) (hpe : p = e) :
    TellsW 154 [.ref x] (fun w => (x, instObj 199 d) :: (d, curD w D tD k1 k2 k3 p tp e te) :: rest) (BackC x d D tD k1 k2 k3 p e te rest fun _ => .none) := by
  unfold TellsW BackC curD
  intros
  rename_i hret
  refine wpAny_call ?_
  k_dflt cell_enter
  k_steps
  exact hret 0 _ _ _ (by assumption) (by assumption)
end
section
open PySem PySem.W PyProof.Rows
set_option Elab.async false
set_option maxRecDepth 100000
set_option maxHeartbeats 400000
open PySem.Calls PySem.Spec
theorem reset_T7 {prog : Program} {w : World} {A : Around} {env : Env} {Q : Flow → Shared → Prop} {E : Value → Shared → Prop} {s : Shared} (h : Q .next s) : wpAny (model prog w) A (execs [] env) Q E s := by
  w_top off
  k_with_none
  k_with "z6" => ((refine' code_def ?k1 ?k2 ?k3 ?k4 ?k5 ?kA ?kF ?kK ?k6 ?k7 ?k8 ?k9 ?kB ?_ ?c2 ?c3 ?c4 ?c5; (case kA => exact rfl); (case kF => exact rfl); (case kK => first | exact rfl | assumption); (case k1 => k_asm); (case k2 => k_asm); (case k3 => k_asm); (case k4 => k_asm); (case k5 => k_asm); (case k6 => k_is); (case k7 => k_is); (case k8 => ktr_room); (case k9 => first | exact BindsTo.of_eq rfl | exact binds_K (by k_in) rfl (by k_is) rfl rfl rfl | fail "k_enter: no rule for these arguments"); (case c5 => decide); (case kB => exact locs rfl); (case c2 => exact rfl); (case c3 => exact rfl); (case c4 => exact rfl); k_whole; intro g' L' h' FG' F' N' B' X' T'; (try dsimp only); (try k_lift B'); (try k_fold)))
  k_with "z9" => (first | (refine eqN (by omega) ?_) | (refine eqY (by omega) ?_))
  k_with "z10" => (first | (refine neN (by omega) ?_) | (refine neY (by omega) ?_))
  k_with "z11" => (first | (refine ltY (by omega) ?_) | (refine ltN (by omega) ?_))
  k_with "z12" => (first | (refine gtY (by omega) ?_) | (refine gtN (by omega) ?_))
  k_with "z13" => (first | (refine leY (by omega) ?_) | (refine leN (by omega) ?_))
  k_with "z14" => (first | (refine geY (by omega) ?_) | (refine geN (by omega) ?_))
  k_with "z15" => ((k_dflt (first | (refine' notInN (tupK ?kX ?kL) ?kI ?kE ?_; (case kX => k_in); (case kL => k_is); (case kI => (repeat constructor)); (case kE => rfl)) | (refine' notInY (tupK ?kX ?kL) ?kI ?kE ?_; (case kX => k_in); (case kL => k_is); (case kI => (repeat constructor)); (case kE => (repeat (first | exact any_no_nil | (refine any_no_cons (by omega) ?_))))))))
  k_with "z16" => ((k_dflt (first | (refine' inY (tupK ?kX ?kL) ?kI ?kE ?_; (case kX => k_in); (case kL => k_is); (case kI => (repeat constructor)); (case kE => rfl)) | (refine' inN (tupK ?kX ?kL) ?kI ?kE ?_; (case kX => k_in); (case kL => k_is); (case kI => (repeat constructor)); (case kE => (repeat (first | exact any_no_nil | (refine any_no_cons (by omega) ?_))))))))
  k_with "z17" => ((k_dflt (refine whl_start 3 ?_)))
  k_with "z18" => (((with_reducible show wpAny _ _ (subscriptTail _ _ (Value.bytes _ _) (Value.int _ _)) _ _ _); refine bytes_at (by first | assumption | (rw [Int.add_zero]; assumption)) (by omega) (by assumption) ?_; intro _ _))
  k_with "z19" => (((with_reducible show wpAny _ _ (subscriptTail _ (Expr.Slice (some _) (some _) none _) (Value.bytes _ _) (Value.ref _)) _ _ _); (with_reducible rename Fr _ _ _ _ => F'); (with_reducible rename News _ _ _ _ => N'); (refine bytes_cut_gen (s := ⟨_, _, _, _, _⟩) F' N' (by assumption) (by omega) (by omega) (by omega) ?_); intro _ _ _ _ _))
  k_with "z20" => (first | (refine eqbN (cut_ne (by assumption) (by assumption) (by assumption) (by omega) (by assumption) (by assumption) (arr_ne1 (by assumption) (by assumption) (by assumption))) ?_) | (refine eqbN (cut_ne (by assumption) (by assumption) (by assumption) (by omega) (by assumption) (by assumption) (arr_ne2 (by assumption) (by assumption))) ?_))
  k_with "z21" => (((with_reducible show wpAny _ _ (call (Value.builtin "len") [Value.bytes #[_, _] _]) _ _ _); refine bytes_len (n := 2) rfl (by decide) ?_; intro _ _))
  walk1
  exact h
theorem TellsW.use {f : Addr} {vs : List Value} {news : World → List (Addr × Obj)} {Back : World → (h₀ : Heap) → Addr → (Str → Option Value) → Shared → (Value → Shared → Prop) → Prop} (T : TellsW f vs news Back)
    {w : World} {mg mb : Str → Option Value} {mean : ExcName → Option Value} {dp un : Nat} {gd : Option (List Code)} {cn : Str} {cs : Scope} {a : Addr} {ccd : Value} {cl : List (Str × Addr)} {outer : List Env} {A₀ : Around} {base h₀ : Heap} {L : Addr} {m : Str → Option Value} {s : Shared} {Q E : Value → Shared → Prop}
    (B : Below A₀ base outer h₀) (F : Fr h₀ L s.heap m) (X : (h0.heap_1_39 w.params).In h₀) (N : News h₀ L s.heap (news w)) (Tp : Top h0.view_1_40 Ls mean mg mb h₀) (hk : cs.kind = .function)
    (hd : dp + 20 < recursionLimit) (hu : un + 60 < cLine) (h : Back w h₀ L m s Q) :
    wpAny (model Challenge.rw_og0188_01.row.prog w) (ktrTop dp un gd cn cs L a ccd cl outer) (call (.ref f) vs) Q E s :=
  T w mg mb mean dp un gd cn cs a ccd cl outer A₀ base h₀ L m s Q E B F X N Tp hk hd hu h
theorem cut_ne {D : Array UInt8} {p q : Int} {c : Int} {V : Array UInt8} (h1 : (KBw.bInts D)[p.toNat]? = some 60) (h2 : (KBw.bInts D)[(p + 1).toNat]? = some c) (hp : 0 ≤ p) (hq : q = p + 2) (hc : 48 ≤ c) (hc' : c < 256)
    (hV : V ≠ byteArr [60, c]) : byteArr (((KBw.bInts D).drop p.toNat).take (q - p).toNat) ≠ V := by
  have e : (q - p).toNat = 2 := by omega
  have e2 : (p + 1).toNat = p.toNat + 1 := by omega
  rw [e2] at h2
  have l1 := (List.getElem?_eq_some_iff.mp h1)
  have l2 := (List.getElem?_eq_some_iff.mp h2)
  obtain ⟨a1, b1⟩ := l1
  obtain ⟨a2, b2⟩ := l2
  have e3 : ((KBw.bInts D).drop p.toNat).take 2 = [60, c] := by
    rw [List.drop_eq_getElem_cons a1, List.drop_eq_getElem_cons a2, b1, b2]
    rfl
  rw [e, e3]
  exact fun h => hV h.symm
theorem arr_ne1 {c : Int} (hc : 48 ≤ c) (hc' : c < 256) (h : c ≠ 60) : (#[60, 60] : Array UInt8) ≠ byteArr [60, c] := by
  intro h2
  have := congrArg KBw.bInts h2
  rw [bInts_byteArr (by intro x hx; simp at hx; omega)] at this
  simp [KBw.bInts] at this
  omega
theorem arr_ne2 {c : Int} (hc : 48 ≤ c) (hc' : c < 256) : (#[62, 62] : Array UInt8) ≠ byteArr [60, c] := by
  intro h2
  have := congrArg KBw.bInts h2
  rw [bInts_byteArr (by intro x hx; simp at hx; omega)] at this
  simp [KBw.bInts] at this
section
variable {prog : Program} {w : World} {A : Around} {E : Value → Shared → Prop} {s : Shared} {value slice : PySem.Expr} {D V W : Array UInt8} {t u : Tok} {p q : Int} {Q : Value → Shared → Prop} {h₀ : Heap} {L : Addr} {m : PySem.Str → Option Value} {news : List (Addr × Obj)}
theorem eqbN (e : D ≠ V) (h : Q (.bool false) s) : wpAny (model prog w) A (compareOp .Eq (.bytes D t) (.bytes V u)) Q E s := eq_bytes (by rw [show (D.toList == V.toList) = false from beq_eq_false_iff_ne.mpr fun h => e (Array.toList_inj.mp h)]; exact h)
theorem eqbY (e : D = V) (h : Q (.bool true) s) : wpAny (model prog w) A (compareOp .Eq (.bytes D t) (.bytes V u)) Q E s := eq_bytes (by rw [show (D.toList == V.toList) = true from beq_iff_eq.mpr (by rw [e])]; exact h)
theorem bytes_len {n : Nat} (e : V.size = n) (hn : n ≤ 4096) (h : ∀ t' k, Q (.int (n : Nat) t') { s with toks := k }) : wpAny (model prog w) A (call (.builtin "len") [.bytes V t]) Q E s := by
  have hl := KBw.ints_length V
  refine KBw.len_K (ks := KBw.bInts V) rfl (by omega) ?_
  rw [hl, e]
  exact h _ _
theorem bytes_cut_gen (hF : Fr h₀ L s.heap m) (hN : News h₀ L s.heap news) (hz : D.size ≤ 4096) (h0 : 0 ≤ p) (h1 : p ≤ q) (h2 : q ≤ D.size) {tp tq : Tok}
    (h : ∀ h' t' k, Fr h₀ L h' m → News h₀ L h' news → Q (.bytes (byteArr (((KBw.bInts D).drop p.toNat).take (q - p).toNat)) t') { s with heap := h', toks := k })
    (hs : subscripted slice false (.bytes D t) (.ref s.heap.objs.size) = operate [.ref s.heap.objs.size, .bytes D t] (getItem (.bytes D t) (.ref s.heap.objs.size)) := by with_unfolding_all rfl)
    (ht : ∀ r, letTemporaryGo value (.bytes D t) r = pure () := by intro _; with_unfolding_all rfl) :
    wpAny (model prog w) A (subscriptTail value slice (.bytes D t) (.ref s.heap.objs.size)) Q E { s with heap := s.heap.push { cls := .type "slice", data := .fields #[.int p tp, .int q tq, .none] } } :=
  bytes_cut hF hN hz h0 h1 h2 (bInts_byteArr fun x hx => KBw.ints_in (List.mem_of_mem_drop (List.mem_of_mem_take hx))).symm h hs ht
end
local macro_rules | `(tactic| walk_at "subscriptTail") => `(tactic| k_extra "z19")
theorem peek_tells (x d : Addr) (D : Array UInt8) (tD k1 k2 k3 tp te : Tok) (p e c : Int) (rest : List (Addr × Obj)) (hxd : @Ne Nat x d) (hr : ∀ q ∈ rest, q.1 ≠ d) (hz : D.size ≤ 4096) (he : e = D.size) (hp : 0 ≤ p) (hpe : p < e) (hc : (KBw.bInts D)[p.toNat]? = some c) :
    TellsW 126 [.ref x] (fun w => (x, instObj 199 d) :: (d, curD w D tD k1 k2 k3 p tp e te) :: rest) (BackC x d D tD k1 k2 k3 p e te rest fun t => .int c t) := by
  unfold TellsW BackC curD
  intros
  rename_i hret
  refine wpAny_call ?_
  k_dflt k_enter
  k_steps
  exact hret _ _ _ _ (by assumption) (by assumption)
theorem peek_tells_e (x d : Addr) (D : Array UInt8) (tD k1 k2 k3 tp te : Tok) (p e : Int) (rest : List (Addr × Obj)) (hxd : @Ne Nat x d) (hr : ∀ q ∈ rest, q.1 ≠ d) (hz : D.size ≤ 4096) (he : e = D.size) (hp : 0 ≤ p) (hpe : p = e) :
    TellsW 126 [.ref x] (fun w => (x, instObj 199 d) :: (d, curD w D tD k1 k2 k3 p tp e te) :: rest) (BackC x d D tD k1 k2 k3 p e te rest fun t => .int (-1) t) := by
  unfold TellsW BackC curD
  intros
  rename_i hret
  refine wpAny_call ?_
  k_dflt k_enter
  k_steps
  exact hret _ _ _ _ (by assumption) (by assumption)
theorem is_done_tells (x d : Addr) (D : Array UInt8) (tD k1 k2 k3 tp te : Tok) (p e : Int) (rest : List (Addr × Obj)) (hxd : @Ne Nat x d) (hr : ∀ q ∈ rest, q.1 ≠ d) (hz : D.size ≤ 4096) (he : e = D.size) (hp : 0 ≤ p) (hpe : p < e) :
    TellsW 118 [.ref x] (fun w => (x, instObj 199 d) :: (d, curD w D tD k1 k2 k3 p tp e te) :: rest) (BackC x d D tD k1 k2 k3 p e te rest fun t => .bool false) := by
  unfold TellsW BackC curD
  intros
  rename_i hret
  refine wpAny_call ?_
  k_dflt k_enter
  k_steps
  exact hret 0 _ _ _ (by assumption) (by assumption)
local macro_rules | `(tactic| walk_at "compareOp Eq bytes bytes") => `(tactic| k_extra "z20")
local macro_rules | `(tactic| walk_at "call builtin:len") => `(tactic| k_extra "z21")
theorem skip_tells1 (x d : Addr) (D : Array UInt8) (tD k1 k2 k3 tp te : Tok) (p e c : Int) (rest : List (Addr × Obj)) (hxd : @Ne Nat x d) (hr : ∀ q ∈ rest, q.1 ≠ d) (hz : D.size ≤ 4096) (he : e = D.size) (hp : 0 ≤ p) (hpe : p + 1 < e) (tw : Tok) (h60 : (KBw.bInts D)[p.toNat]? = some 60) (hc : (KBw.bInts D)[(p + 1).toNat]? = some c) (hc1 : 48 ≤ c) (hc2 : c < 256) (hc3 : c ≠ 60) :
    TellsW 147 [.ref x, .bytes #[60, 60] tw] (fun w => (x, instObj 199 d) :: (d, curD w D tD k1 k2 k3 p tp e te) :: rest) (BackC x d D tD k1 k2 k3 p e te rest fun t => .bool false) := by
  unfold TellsW BackC curD
  intros
  rename_i hret
  refine wpAny_call ?_
  k_dflt k_enter
  k_steps
  exact hret 0 _ _ _ (by assumption) (by assumption)
theorem skip_tells2 (x d : Addr) (D : Array UInt8) (tD k1 k2 k3 tp te : Tok) (p e c : Int) (rest : List (Addr × Obj)) (hxd : @Ne Nat x d) (hr : ∀ q ∈ rest, q.1 ≠ d) (hz : D.size ≤ 4096) (he : e = D.size) (hp : 0 ≤ p) (hpe : p + 1 < e) (tw : Tok) (h60 : (KBw.bInts D)[p.toNat]? = some 60) (hc : (KBw.bInts D)[(p + 1).toNat]? = some c) (hc1 : 48 ≤ c) (hc2 : c < 256) (hc3 : c ≠ 60) :
    TellsW 147 [.ref x, .bytes #[62, 62] tw] (fun w => (x, instObj 199 d) :: (d, curD w D tD k1 k2 k3 p tp e te) :: rest) (BackC x d D tD k1 k2 k3 p e te rest fun t => .bool false) := by
  unfold TellsW BackC curD
  intros
  rename_i hret
  refine wpAny_call ?_
  k_dflt k_enter
  k_steps
  exact hret 0 _ _ _ (by assumption) (by assumption)
end
section
open PySem PySem.W PyProof.Rows
set_option Elab.async false
open PySem.Calls PySem.Spec
theorem Tells.use {f : Addr} {vs : List Value} {news : List (Addr × Obj)} {Back : (h₀ : Heap) → Addr → (Str → Option Value) → Shared → (Value → Shared → Prop) → Prop} (T : Tells f vs news Back)
    {w : World} {mg mb : Str → Option Value} {mean : ExcName → Option Value} {dp un : Nat} {gd : Option (List Code)} {cn : Str} {cs : Scope} {a : Addr} {ccd : Value} {cl : List (Str × Addr)} {outer : List Env} {A₀ : Around} {base h₀ : Heap} {L : Addr} {m : Str → Option Value} {s : Shared} {Q E : Value → Shared → Prop}
    (B : Below A₀ base outer h₀) (F : Fr h₀ L s.heap m) (X : (h0.heap_1_39 w.params).In h₀) (N : News h₀ L s.heap news) (Tp : Top h0.view_1_40 Ls mean mg mb h₀) (hk : cs.kind = .function)
    (hd : dp + 20 < recursionLimit) (hu : un + 60 < cLine) (h : Back h₀ L m s Q) :
    wpAny (model Challenge.rw_og0188_01.row.prog w) (ktrTop dp un gd cn cs L a ccd cl outer) (call (.ref f) vs) Q E s :=
  T w mg mb mean dp un gd cn cs a ccd cl outer A₀ base h₀ L m s Q E B F X N Tp hk hd hu h
/-- as TellsW, the room said -/
def TellsN (b c : Nat) (f : Addr) (vs : List Value) (news : World → List (Addr × Obj))
    (Back : World → (h₀ : Heap) → Addr → (Str → Option Value) → Shared → (Value → Shared → Prop) → Prop) : Prop :=
  ∀ (w : World) (mg mb : Str → Option Value) (mean : ExcName → Option Value) (dp un : Nat) (gd : Option (List Code)) (cn : Str) (cs : Scope) (a : Addr) (ccd : Value) (cl : List (Str × Addr)) (outer : List Env) (A₀ : Around) (base h₀ : Heap) (L : Addr) (m : Str → Option Value) (s : Shared) (Q E : Value → Shared → Prop),
    Below A₀ base outer h₀ → Fr h₀ L s.heap m → (h0.heap_1_39 w.params).In h₀ → News h₀ L s.heap (news w) → Top h0.view_1_40 Ls mean mg mb h₀ → cs.kind = .function →
    dp + b < recursionLimit → un + c < cLine → Back w h₀ L m s Q →
      wpAny (model Challenge.rw_og0188_01.row.prog w) (ktrTop dp un gd cn cs L a ccd cl outer) (call (.ref f) vs) Q E s
theorem TellsN.use {b c : Nat} {f : Addr} {vs : List Value} {news : World → List (Addr × Obj)} {Back : World → (h₀ : Heap) → Addr → (Str → Option Value) → Shared → (Value → Shared → Prop) → Prop} (T : TellsN b c f vs news Back)
    {w : World} {mg mb : Str → Option Value} {mean : ExcName → Option Value} {dp un : Nat} {gd : Option (List Code)} {cn : Str} {cs : Scope} {a : Addr} {ccd : Value} {cl : List (Str × Addr)} {outer : List Env} {A₀ : Around} {base h₀ : Heap} {L : Addr} {m : Str → Option Value} {s : Shared} {Q E : Value → Shared → Prop}
    (B : Below A₀ base outer h₀) (F : Fr h₀ L s.heap m) (X : (h0.heap_1_39 w.params).In h₀) (N : News h₀ L s.heap (news w)) (Tp : Top h0.view_1_40 Ls mean mg mb h₀) (hk : cs.kind = .function)
    (hd : dp + b < recursionLimit) (hu : un + c < cLine) (h : Back w h₀ L m s Q) :
    wpAny (model Challenge.rw_og0188_01.row.prog w) (ktrTop dp un gd cn cs L a ccd cl outer) (call (.ref f) vs) Q E s :=
  T w mg mb mean dp un gd cn cs a ccd cl outer A₀ base h₀ L m s Q E B F X N Tp hk hd hu h
/-- l stands in D at p -/
def At (D : Array UInt8) (p : Int) (l : List Int) : Prop := ∀ i (h : i < l.length), (KBw.bInts D)[(p + (i : Int)).toNat]? = some l[i]
theorem At.cut {D : Array UInt8} {p : Int} {l : List Int} (h : At D p l) (hp : 0 ≤ p) : ((KBw.bInts D).drop p.toNat).take l.length = l := by
  apply List.ext_getElem?
  intro i
  by_cases hi : i < l.length
  · have := h i hi
    rw [show (p + (i : Int)).toNat = p.toNat + i by omega] at this
    rw [List.getElem?_take_of_lt hi, List.getElem?_drop, this, List.getElem?_eq_getElem hi]
  · rw [List.getElem?_eq_none (by rw [List.length_take]; omega), List.getElem?_eq_none (by omega)]
end
section
open PySem PySem.W PyProof.Rows
set_option Elab.async false
set_option maxRecDepth 100000
set_option maxHeartbeats 400000
open PySem.Calls PySem.Spec
theorem reset_T8 {prog : Program} {w : World} {A : Around} {env : Env} {Q : Flow → Shared → Prop} {E : Value → Shared → Prop} {s : Shared} (h : Q .next s) : wpAny (model prog w) A (execs [] env) Q E s := by
  w_top off
  k_with_none
  k_with "z6" => ((refine' code_def ?k1 ?k2 ?k3 ?k4 ?k5 ?kA ?kF ?kK ?k6 ?k7 ?k8 ?k9 ?kB ?_ ?c2 ?c3 ?c4 ?c5; (case kA => exact rfl); (case kF => exact rfl); (case kK => first | exact rfl | assumption); (case k1 => k_asm); (case k2 => k_asm); (case k3 => k_asm); (case k4 => k_asm); (case k5 => k_asm); (case k6 => k_is); (case k7 => k_is); (case k8 => ktr_room); (case k9 => first | exact BindsTo.of_eq rfl | exact binds_K (by k_in) rfl (by k_is) rfl rfl rfl | fail "k_enter: no rule for these arguments"); (case c5 => decide); (case kB => exact locs rfl); (case c2 => exact rfl); (case c3 => exact rfl); (case c4 => exact rfl); k_whole; intro g' L' h' FG' F' N' B' X' T'; (try dsimp only); (try k_lift B'); (try k_fold)))
  k_with "z9" => (first | (refine eqN (by omega) ?_) | (refine eqY (by omega) ?_))
  k_with "z10" => (first | (refine neN (by omega) ?_) | (refine neY (by omega) ?_))
  k_with "z11" => (first | (refine ltY (by omega) ?_) | (refine ltN (by omega) ?_))
  k_with "z12" => (first | (refine gtY (by omega) ?_) | (refine gtN (by omega) ?_))
  k_with "z13" => (first | (refine leY (by omega) ?_) | (refine leN (by omega) ?_))
  k_with "z14" => (first | (refine geY (by omega) ?_) | (refine geN (by omega) ?_))
  k_with "z15" => ((k_dflt (first | (refine' notInN (tupK ?kX ?kL) ?kI ?kE ?_; (case kX => k_in); (case kL => k_is); (case kI => (repeat constructor)); (case kE => rfl)) | (refine' notInY (tupK ?kX ?kL) ?kI ?kE ?_; (case kX => k_in); (case kL => k_is); (case kI => (repeat constructor)); (case kE => (repeat (first | exact any_no_nil | (refine any_no_cons (by omega) ?_))))))))
  k_with "z16" => ((k_dflt (first | (refine' inY (tupK ?kX ?kL) ?kI ?kE ?_; (case kX => k_in); (case kL => k_is); (case kI => (repeat constructor)); (case kE => rfl)) | (refine' inN (tupK ?kX ?kL) ?kI ?kE ?_; (case kX => k_in); (case kL => k_is); (case kI => (repeat constructor)); (case kE => (repeat (first | exact any_no_nil | (refine any_no_cons (by omega) ?_))))))))
  k_with "z17" => ((k_dflt (refine whl_start 3 ?_)))
  k_with "z18" => (((with_reducible show wpAny _ _ (subscriptTail _ _ (Value.bytes _ _) (Value.int _ _)) _ _ _); refine bytes_at (by first | assumption | (rw [Int.add_zero]; assumption)) (by omega) (by assumption) ?_; intro _ _))
  k_with "z19" => (((with_reducible show wpAny _ _ (subscriptTail _ (Expr.Slice (some _) (some _) none _) (Value.bytes _ _) (Value.ref _)) _ _ _); (with_reducible rename Fr _ _ _ _ => F'); (with_reducible rename News _ _ _ _ => N'); (refine bytes_cut_gen (s := ⟨_, _, _, _, _⟩) F' N' (by assumption) (by omega) (by omega) (by omega) ?_); intro _ _ _ _ _))
  k_with "z22" => (((with_reducible show wpAny _ _ (call (Value.ref 89) _) _ _ _); k_dflt (refine' Tells.use (is_regular_tells _ _ _ ?ha ?hb) ?B9 ?F9 ?X9 ?N9 ?T9 ?K9 ?d9 ?u9 ?h9; (case B9 => k_asm); (case F9 => k_asm); (case X9 => k_asm); (case N9 => k_asm); (case T9 => k_asm); (case K9 => first | exact rfl | assumption); (case d9 => ktr_room); (case u9 => ktr_units); (case ha => assumption); (case hb => assumption)); (dsimp only [BackV]); intro t9 h9 tk9 F9 N9; (try dsimp only); (try k_fold)))
  k_with "z23" => (((with_reducible show wpAny _ _ (call (Value.ref 89) _) _ _ _); k_dflt (refine' Tells.use (is_regular_tells_sp _ _) ?B9 ?F9 ?X9 ?N9 ?T9 ?K9 ?d9 ?u9 ?h9; (case B9 => k_asm); (case F9 => k_asm); (case X9 => k_asm); (case N9 => k_asm); (case T9 => k_asm); (case K9 => first | exact rfl | assumption); (case d9 => ktr_room); (case u9 => ktr_units)); (dsimp only [BackV]); intro t9 h9 tk9 F9 N9; (try dsimp only); (try k_fold)))
  walk1
  exact h
local macro_rules | `(tactic| walk_at "subscriptTail") => `(tactic| k_extra "z19")
local macro_rules | `(tactic| walk_at "call ref") => `(tactic| k_extra "z22")
local macro_rules | `(tactic| walk_at "call ref") => `(tactic| k_extra "z23")
def TrJ (w : World) (x d : Addr) (D : Array UInt8) (tD k1 k2 k3 : Tok) (p e : Int) (te : Tok) (rest : List (Addr × Obj)) (N : Nat) (m₀ : PySem.Str → Option Value) (n : Nat) (m : PySem.Str → Option Value) (nx : List (Addr × Obj)) : Prop :=
  (∀ z, m z = m₀ z) ∧ ∃ (i : Nat) (tp : Tok), i ≤ N ∧ n = N - i ∧ nx = (x, instObj 199 d) :: (d, curD w D tD k1 k2 k3 (p + i) tp e te) :: rest
theorem take_regular_tells (x d : Addr) (D : Array UInt8) (tD k1 k2 k3 tp te : Tok) (p e : Int) (rest : List (Addr × Obj)) (hxd : @Ne Nat x d) (hr : ∀ q ∈ rest, q.1 ≠ d) (hz : D.size ≤ 4096) (he : e = D.size) (hp : 0 ≤ p) (l : List Int) (hl : At D p l) (hlet : ∀ c ∈ l, 97 ≤ c ∧ c ≤ 122) (hend : p + l.length = e ∨ (p + l.length < e ∧ (KBw.bInts D)[(p + l.length).toNat]? = some 32)) :
    TellsN 24 80 161 [.ref x] (fun w => (x, instObj 199 d) :: (d, curD w D tD k1 k2 k3 p tp e te) :: rest) (BackC x d D tD k1 k2 k3 (p + l.length) e te rest fun t => .bytes (byteArr l) t) := by
  unfold TellsN BackC curD
  intros
  rename_i hret
  refine wpAny_call ?_
  k_dflt k_enter
  k_with "exec While BoolOp cons nil" => (
    (rename Fr _ _ _ _ => lF); (rename News _ _ _ _ => lN);
    refine While_inv2 (TrJ _ x d D tD k1 k2 k3 p e te rest l.length _) (n₀ := l.length) lF lN ⟨fun _ => rfl, 0, tp, Nat.zero_le _, rfl, by rw [show p + ((0 : Nat) : Int) = p by omega]⟩ ?_;
    (rintro n m₁ nx h tk F₁ N₁ ⟨hm, i, tp', hi, rfl, rfl⟩; have F₂ := fr_same F₁ hm; clear F₁ lF lN;
      rcases Nat.lt_or_ge i l.length with hlt | hge;
      (have hc := hl i hlt; have hc1 := hlet _ (List.getElem_mem hlt); generalize l[i] = c at hc hc1; obtain ⟨ha, hb⟩ := hc1; have hie : p + (i : Int) < e := by omega); rotate_left;
      (have hi2 : i = l.length := by omega); subst hi2; rcases hend with hend | ⟨hend, h32⟩))
  k_steps
  · rw [show (p + (l.length : Int) - p).toNat = l.length by omega, hl.cut hp]
    exact hret _ _ _ _ (by assumption) (by assumption)
  · rw [show (p + (l.length : Int) - p).toNat = l.length by omega, hl.cut hp]
    exact hret _ _ _ _ (by assumption) (by assumption)
  · rename Fr _ _ _ _ => F₃
    rename News _ _ _ _ => N₃
    exact ⟨_, _, _, _, l.length - (i + 1), rfl, F₃, N₃, by omega, fun _ => rfl, i + 1, _, by omega, rfl, by rw [show p + ((i + 1 : Nat) : Int) = p + (i : Int) + 1 by omega]⟩
def isWord (l : List Int) : Prop := ∀ c ∈ l, 97 ≤ c ∧ c ≤ 122
end
section
open PySem PySem.W PyProof.Rows
set_option Elab.async false
set_option maxRecDepth 100000
set_option maxHeartbeats 400000
open PySem.Calls PySem.Spec
theorem reset_T9 {prog : Program} {w : World} {A : Around} {env : Env} {Q : Flow → Shared → Prop} {E : Value → Shared → Prop} {s : Shared} (h : Q .next s) : wpAny (model prog w) A (execs [] env) Q E s := by
  w_top off
  k_with_none
  k_with "z6" => ((refine' code_def ?k1 ?k2 ?k3 ?k4 ?k5 ?kA ?kF ?kK ?k6 ?k7 ?k8 ?k9 ?kB ?_ ?c2 ?c3 ?c4 ?c5; (case kA => exact rfl); (case kF => exact rfl); (case kK => first | exact rfl | assumption); (case k1 => k_asm); (case k2 => k_asm); (case k3 => k_asm); (case k4 => k_asm); (case k5 => k_asm); (case k6 => k_is); (case k7 => k_is); (case k8 => ktr_room); (case k9 => first | exact BindsTo.of_eq rfl | exact binds_K (by k_in) rfl (by k_is) rfl rfl rfl | fail "k_enter: no rule for these arguments"); (case c5 => decide); (case kB => exact locs rfl); (case c2 => exact rfl); (case c3 => exact rfl); (case c4 => exact rfl); k_whole; intro g' L' h' FG' F' N' B' X' T'; (try dsimp only); (try k_lift B'); (try k_fold)))
  k_with "z9" => (first | (refine eqN (by omega) ?_) | (refine eqY (by omega) ?_))
  k_with "z10" => (first | (refine neN (by omega) ?_) | (refine neY (by omega) ?_))
  k_with "z11" => (first | (refine ltY (by omega) ?_) | (refine ltN (by omega) ?_))
  k_with "z12" => (first | (refine gtY (by omega) ?_) | (refine gtN (by omega) ?_))
  k_with "z13" => (first | (refine leY (by omega) ?_) | (refine leN (by omega) ?_))
  k_with "z14" => (first | (refine geY (by omega) ?_) | (refine geN (by omega) ?_))
  k_with "z15" => ((k_dflt (first | (refine' notInN (tupK ?kX ?kL) ?kI ?kE ?_; (case kX => k_in); (case kL => k_is); (case kI => (repeat constructor)); (case kE => rfl)) | (refine' notInY (tupK ?kX ?kL) ?kI ?kE ?_; (case kX => k_in); (case kL => k_is); (case kI => (repeat constructor)); (case kE => (repeat (first | exact any_no_nil | (refine any_no_cons (by omega) ?_))))))))
  k_with "z16" => ((k_dflt (first | (refine' inY (tupK ?kX ?kL) ?kI ?kE ?_; (case kX => k_in); (case kL => k_is); (case kI => (repeat constructor)); (case kE => rfl)) | (refine' inN (tupK ?kX ?kL) ?kI ?kE ?_; (case kX => k_in); (case kL => k_is); (case kI => (repeat constructor)); (case kE => (repeat (first | exact any_no_nil | (refine any_no_cons (by omega) ?_))))))))
  k_with "z17" => ((k_dflt (refine whl_start 3 ?_)))
  k_with "z18" => (((with_reducible show wpAny _ _ (subscriptTail _ _ (Value.bytes _ _) (Value.int _ _)) _ _ _); refine bytes_at (by first | assumption | (rw [Int.add_zero]; assumption)) (by omega) (by assumption) ?_; intro _ _))
  k_with "z24" => (first | (refine ite_neg Bool.false_ne_true ?_) | (refine ite_pos rfl ?_))
  k_with "z19" => (((with_reducible show wpAny _ _ (subscriptTail _ (Expr.Slice (some _) (some _) none _) (Value.bytes _ _) (Value.ref _)) _ _ _); (with_reducible rename Fr _ _ _ _ => F'); (with_reducible rename News _ _ _ _ => N'); (refine bytes_cut_gen (s := ⟨_, _, _, _, _⟩) F' N' (by assumption) (by omega) (by omega) (by omega) ?_); intro _ _ _ _ _))
  k_with "z25" => ((k_here; (rename Fr _ _ _ _ => lF'); (with_unfolding_all refine' For_invVF lF' ?k1 ?k2 ?_; (case k1 => exact rfl); (case k2 => exact rfl); k_whole)))
  k_with "z25" => ((k_here; (rename Fr _ _ _ _ => lF'); (with_unfolding_all refine' For_invVF lF' ?k1 ?k2 ?_; (case k1 => exact rfl); (case k2 => exact rfl); k_whole)))
  k_with "z26" => (((with_reducible show wpAny _ _ (subscriptTail _ (Expr.Slice (some _) none none _) (Value.bytes _ _) (Value.ref _)) _ _ _); (with_reducible rename Fr _ _ _ _ => F'); (with_reducible rename News _ _ _ _ => N'); (refine bytes_from (s := ⟨_, _, _, _, _⟩) F' N' (by assumption) (by omega) (by omega) ?_); intro _ _ _ _ _))
  k_with "z27" => (((with_reducible show wpAny _ _ (call (Value.ref 161) _) _ _ _); k_dflt (refine' TellsN.use (take_regular_tells _ _ _ _ _ _ _ _ _ _ _ _ ?c1 ?c2 ?c3 ?c4 ?c5 _ ?c6 ?c7 ?c8) ?B9 ?F9 ?X9 ?N9 ?T9 ?K9 ?d9 ?u9 ?_; (case B9 => k_asm); (case F9 => k_asm); (case X9 => k_asm); (case N9 => k_asm); (case T9 => k_asm); (case K9 => first | exact rfl | assumption); (case d9 => ktr_room); (case u9 => ktr_units); (case c1 => assumption); (case c2 => k_all); (case c3 => assumption); (case c4 => assumption); (case c5 => assumption); (case c6 => assumption); (case c7 => assumption); (case c8 => assumption)); (dsimp only [BackC]); intro t9 tp9 h9 tk9 F9 N9; (try dsimp only); (try k_fold)))
  k_with "z28" => (((with_reducible show wpAny _ _ (call (Value.ref 315) _) _ _ _); k_dflt (refine' Tells.use (read_decimal_tells _ _ _ ?c1 _ ?c2 ?c3 ?c4) ?B9 ?F9 ?X9 ?N9 ?T9 ?K9 ?d9 ?u9 ?_; (case B9 => k_asm); (case F9 => k_asm); (case X9 => k_asm); (case N9 => k_asm); (case T9 => k_asm); (case K9 => first | exact rfl | assumption); (case d9 => ktr_room); (case u9 => ktr_units); (case c2 => assumption); (case c1 => assumption); (case c3 => assumption); (case c4 => assumption)); (dsimp only [BackV]); intro t9 h9 tk9 F9 N9; (try dsimp only); (try k_fold)))
  walk1
  exact h
local macro_rules | `(tactic| walk_at "ite") => `(tactic| k_extra "z24")
local macro_rules | `(tactic| walk_at "subscriptTail") => `(tactic| k_extra "z19")
local macro_rules | `(tactic| walk_at "exec For") => `(tactic| k_extra "z25")
local macro_rules | `(tactic| walk_at "exec For Name") => `(tactic| k_extra "z25")
section
variable {prog : Program} {w : World} {A : Around} {E : Value → Shared → Prop} {s : Shared} {value slice : PySem.Expr} {D V W : Array UInt8} {t u : Tok} {p q : Int} {Q : Value → Shared → Prop} {h₀ : Heap} {L : Addr} {m : PySem.Str → Option Value} {news : List (Addr × Obj)}
theorem bytes_from (hF : Fr h₀ L s.heap m) (hN : News h₀ L s.heap news) (hz : D.size ≤ 4096) (h0 : 0 ≤ p) (h1 : p ≤ D.size) {tp : Tok}
    (h : ∀ h' t' k, Fr h₀ L h' m → News h₀ L h' news → Q (.bytes (byteArr ((KBw.bInts D).drop p.toNat)) t') { s with heap := h', toks := k })
    (hs : subscripted slice false (.bytes D t) (.ref s.heap.objs.size) = operate [.ref s.heap.objs.size, .bytes D t] (getItem (.bytes D t) (.ref s.heap.objs.size)) := by with_unfolding_all rfl)
    (ht : ∀ r, letTemporaryGo value (.bytes D t) r = pure () := by intro _; with_unfolding_all rfl) :
    wpAny (model prog w) A (subscriptTail value slice (.bytes D t) (.ref s.heap.objs.size)) Q E { s with heap := s.heap.push { cls := .type "slice", data := .fields #[.int p tp, .none, .none] } } := by
  have hl := KBw.ints_length D
  refine KBc.slice_K (lo := some p) (hi := none) hF hN rfl (.int p tp) .none (by omega) (fun h' t' k F' N' e => ?_) hs ht
  have ep : clipAt (KBw.bInts D).length p = p.toNat := by unfold clipAt; rw [if_neg (by omega)]; omega
  have e2 : KBy.picked D (some p) none = byteArr ((KBw.bInts D).drop p.toNat) := bInts_inj (by
    rw [e, bInts_byteArr fun x hx => KBw.ints_in (List.mem_of_mem_drop hx)]
    show List.take ((KBw.bInts D).length - clipAt _ p) (List.drop (clipAt _ p) _) = _
    rw [ep]
    exact List.take_of_length_le (by rw [List.length_drop]; omega))
  rw [e2]
  exact h h' t' k F' N'
end
local macro_rules | `(tactic| walk_at "subscriptTail") => `(tactic| k_extra "z26")
theorem rd_first {V : Array UInt8} {c n : Int} (hc : (KBw.bInts V)[0]? = some c) (hn : (KBw.bInts (byteArr ((KBw.bInts V).drop (Int.toNat 0))))[0]? = some n) : n = c := by
  rw [bInts_byteArr fun x hx => KBw.ints_in (List.mem_of_mem_drop hx)] at hn
  have : ((KBw.bInts V).drop (Int.toNat 0)) = KBw.bInts V := rfl
  rw [this, hc] at hn
  exact (Option.some.inj hn).symm
theorem rd_size {V : Array UInt8} {c : Int} (hs : (byteArr ((KBw.bInts V).drop (Int.toNat 0))).size = 0) (hc : (KBw.bInts V)[0]? = some c) : False := by
  rw [byteArr_size] at hs
  have h2 : (KBw.bInts V).length = 0 := hs
  have := (List.getElem?_eq_some_iff.mp hc).1
  omega
def RdJ (x : PySem.Str) (m₀ : PySem.Str → Option Value) (news : List (Addr × Obj)) (i : Nat) (m : PySem.Str → Option Value) (nx : List (Addr × Obj)) : Prop := i = 0 ∧ (∀ z, z ≠ x → m z = m₀ z) ∧ nx = news
theorem read_decimal_tells (news : List (Addr × Obj)) (V : Array UInt8) (t : Tok) (hz : V.size ≤ 4096) (c : Int) (hc : (KBw.bInts V)[0]? = some c) (ha : 97 ≤ c) (hb : c ≤ 122) : Tells 315 [.bytes V t] news (BackV news fun _ => .none) := by
  unfold Tells BackV
  intros
  rename_i hret
  refine wpAny_call ?_
  k_dflt k_enter
  have hl := KBw.ints_length V
  have hlt := (List.getElem?_eq_some_iff.mp hc).1
  k_with "pyIter bytes" => (
    (rename Fr _ _ _ _ => lF); (rename News _ _ _ _ => lN); 
    refine' bytesJ (RdJ (Str.ofString "code") _ _) ?hh lF lN ⟨rfl, fun _ _ => rfl, rfl⟩ ?_ ?_; (case hh => rfl);
    (rintro i n t m₁ nx h tk own hn h0 h256 hoff ⟨rfl, hm, rfl⟩ F₁ N₁; have F₂ := fr_off F₁ hm; clear F₁ lF lN; have hnc := rd_first hc hn; subst hnc); rotate_left;
    (rintro m₁ nx h tk ⟨hi, hm, rfl⟩ F₁ N₁; exact (rd_size hi hc).elim);
    all_goals (try k_fold))
  k_steps
  all_goals exact hret 0 _ _ (by assumption) (news_sub (by assumption) fun p hp => by simp [hp])
abbrev tokObj (kind : Str) (tk : Tok) (v : Value) (p : Int) (tp : Tok) : Obj := { cls := .type "tuple", data := .seq [Value.str kind tk, v, Value.int p tp].toArray }
/-- a token is handed back, the cursor stands at p' -/
def BackT (x d : Addr) (D : Array UInt8) (tD k1 k2 k3 : Tok) (p' e : Int) (te : Tok) (rest : List (Addr × Obj)) (kind : Str) (v : Tok → Value) (at_ : Int) (w : World) (h₀ : Heap) (L : Addr) (m : Str → Option Value) (s : Shared) (Q : Value → Shared → Prop) : Prop :=
  ∀ (T : Addr) (t1 t2 t3 tp' : Tok) (h' : Heap) (tk' : Nat), (@LT.lt Nat _ x T ∧ @LT.lt Nat _ d T ∧ AllLt T rest) → Fr h₀ L h' m →
    News h₀ L h' ((T, tokObj kind t1 (v t2) at_ t3) :: (x, instObj 199 d) :: (d, curD w D tD k1 k2 k3 p' tp' e te) :: rest) → Q (.ref T) { s with heap := h', toks := tk' }
local macro_rules | `(tactic| walk_at "call ref") => `(tactic| k_extra "z27")
local macro_rules | `(tactic| walk_at "call ref") => `(tactic| k_extra "z28")
theorem word_first {c : Int} {l : List Int} (h : ∀ x ∈ c :: l, 97 ≤ x ∧ x ≤ 122) : (KBw.bInts (byteArr (c :: l)))[0]? = some c := by
  rw [bInts_byteArr fun x hx => by have := h x hx; omega]
  rfl
theorem run_token_tells (x d : Addr) (D : Array UInt8) (tD k1 k2 k3 tp te : Tok) (p e : Int) (rest : List (Addr × Obj)) (hxd : @Ne Nat x d) (hr : ∀ q ∈ rest, q.1 ≠ d) (hz : D.size ≤ 4096) (he : e = D.size) (hp : 0 ≤ p) (at_ : Int) (ta : Tok) (c : Int) (l : List Int) (hl : At D p (c :: l)) (hlet : ∀ x ∈ c :: l, 97 ≤ x ∧ x ≤ 122) (hend : p + (c :: l).length = e ∨ (p + (c :: l).length < e ∧ (KBw.bInts D)[(p + (c :: l).length).toNat]? = some 32)) :
    TellsN 26 100 371 [.ref x, .int at_ ta] (fun w => (x, instObj 199 d) :: (d, curD w D tD k1 k2 k3 p tp e te) :: rest) (BackT x d D tD k1 k2 k3 (p + (c :: l).length) e te rest (Str.ofString "word") (fun t => .bytes (byteArr (c :: l)) t) at_) := by
  have hf := word_first hlet
  have hsz : (byteArr (c :: l)).size ≤ 4096 := by rw [byteArr_size]; omega
  obtain ⟨hc1, hc2⟩ := hlet c (.head _)
  unfold TellsN BackT
  intros
  rename_i hret
  have hMk := kstMark
  refine wpAny_call ?_
  k_dflt k_enter
  k_steps
  exact hret _ _ _ _ _ _ _ (by assumption) (by assumption) (by assumption)
end
section
open PySem PySem.W PyProof.Rows
set_option Elab.async false
set_option maxRecDepth 100000
open PySem.Calls PySem.Spec PyProof.Rows.LCg
theorem allNe_of {d e : Addr} {l : List (Addr × Obj)} (h : AllLt d l) (hde : @LE.le Nat _ d e) : ∀ p ∈ l, p.1 ≠ e := fun p hp =>
  Nat.ne_of_lt (Nat.lt_of_lt_of_le (kst_ltOf h p hp) hde)
theorem rot1 {h₀ : Heap} {L : Addr} {h : Heap} {a b c : Addr × Obj} {r : List (Addr × Obj)} (N : News h₀ L h (a :: b :: c :: r)) : News h₀ L h (b :: c :: a :: r) := fun p hp => N p (by
  simp only [List.mem_cons] at hp ⊢; rcases hp with h | h | h | h <;> simp [h])
theorem rot2 {h₀ : Heap} {L : Addr} {h : Heap} {a b c d : Addr × Obj} {r : List (Addr × Obj)} (N : News h₀ L h (a :: b :: c :: d :: r)) : News h₀ L h (c :: d :: a :: b :: r) := fun p hp => N p (by
  simp only [List.mem_cons] at hp ⊢; rcases hp with h | h | h | h | h <;> simp [h])
theorem rot3 {h₀ : Heap} {L : Addr} {h : Heap} {a b c d e : Addr × Obj} {r : List (Addr × Obj)} (N : News h₀ L h (a :: b :: c :: d :: e :: r)) : News h₀ L h (d :: e :: a :: b :: c :: r) := fun p hp => N p (by
  simp only [List.mem_cons] at hp ⊢; rcases hp with h | h | h | h | h | h <;> simp [h])
theorem rot4 {h₀ : Heap} {L : Addr} {h : Heap} {a b c d e f : Addr × Obj} {r : List (Addr × Obj)} (N : News h₀ L h (a :: b :: c :: d :: e :: f :: r)) : News h₀ L h (e :: f :: a :: b :: c :: d :: r) := fun p hp => N p (by
  simp only [List.mem_cons] at hp ⊢; rcases hp with h | h | h | h | h | h | h <;> simp [h])
section
variable {prog : Program} {w : World} {A : Around} {E : Value → Shared → Prop} {s : Shared} {h₀ : Heap} {L : Addr} {m : PySem.Str → Option Value} {env : Env}
theorem list_len {l : Addr} {news : List (Addr × Obj)} {vs : List Value} {c : Nat} {Q : Value → Shared → Prop} (N : News h₀ L s.heap news) (hm : (l, W.listOf vs.toArray c) ∈ news) (hz : vs.length ≤ 4096)
    (h : ∀ t' k, Q (.int (vs.length : Nat) t') { s with toks := k }) : wpAny (model prog w) A (call (.builtin "len") [.ref l]) Q E s := by
  have hl : s.heap.IsList l vs.toArray := ⟨_, (N _ hm).1, rfl, c, rfl⟩
  refine len_list hl (by rw [List.size_toArray]; omega) ?_
  rw [List.size_toArray]
  exact h _ _
theorem list_val_at {value slice : PySem.Expr} {l : Addr} {news : List (Addr × Obj)} {vs : List Value} {c : Nat} {i : Int} {u : Tok} {v : Value} {Q : Value → Shared → Prop} (N : News h₀ L s.heap news) (hm : (l, W.listOf vs.toArray c) ∈ news)
    (h0 : 0 ≤ i) (hi : i < 4096) (hx : vs[i.toNat]? = some v) (h : Q v s)
    (hs : subscripted slice false (.ref l) (.int i u) = operate [.ref l, .int i u] (getItem (.ref l) (.int i u)) := by with_unfolding_all rfl) : wpAny (model prog w) A (subscriptTail value slice (.ref l) (.int i u)) Q E s := by
  have hl : s.heap.IsList l vs.toArray := ⟨_, (N _ hm).1, rfl, c, rfl⟩
  exact tail_any hl.typeIs slot_list_getitem.lookup (wpAny_getItem_list hl h0 (by omega) (by simpa using hx) h) hs
theorem list_int_at {value slice : PySem.Expr} {l : Addr} {news : List (Addr × Obj)} {vs : List Value} {ns : List Int} {c : Nat} {i k : Int} {u : Tok} {Q : Value → Shared → Prop} (N : News h₀ L s.heap news) (hm : (l, W.listOf vs.toArray c) ∈ news)
    (hv : IntsAre vs ns) (h0 : 0 ≤ i) (hi : i < 4096) (hx : ns[i.toNat]? = some k) (h : ∀ t, Q (.int k t) s)
    (hs : subscripted slice false (.ref l) (.int i u) = operate [.ref l, .int i u] (getItem (.ref l) (.int i u)) := by with_unfolding_all rfl) : wpAny (model prog w) A (subscriptTail value slice (.ref l) (.int i u)) Q E s := by
  obtain ⟨t, ht⟩ := hv.get i.toNat k hx
  exact list_val_at N hm h0 hi ht (h t) hs
/-- a source of a comprehension: what pyIter makes of it -/
def SrcG (prog : Program) (w : World) (A : Around) (h₀ : Heap) (L : Addr) (m : PySem.Str → Option Value) (env : Env) (elt : PySem.Expr) (x : PySem.Str) (scope : Scope) (cl : List (PySem.Str × Addr)) (Fin : Shared → List Value → List (Addr × Obj) → Prop) (xv : Value) (s₁ : Shared) : Prop :=
  ∃ (o₀ : Obj) (n : Nat) (P : Nat → Value → Prop) (St : Nat → Heap → Prop) (news : List (Addr × Obj)),
    (∀ (Q' : Value → Shared → Prop) (E' : Value → Shared → Prop), Q' (.ref s₁.heap.objs.size) { s₁ with heap := s₁.heap.push o₀ } → wpAny (model prog w) A (pyIter xv) Q' E' s₁) ∧
    Walks prog w A s₁.heap.objs.size [s₁.heap.objs.size] [s₁.heap.objs.size] n P St ∧ (∀ i h, St i h → ∃ o, h.get? s₁.heap.objs.size = some o) ∧
    (∀ i h h' o, St i h → h.get? s₁.heap.objs.size = some o → h'.get? s₁.heap.objs.size = some o → St i h') ∧ St 0 (s₁.heap.push o₀) ∧ n ≤ sizeLine ∧ Fr h₀ L s₁.heap m ∧ News h₀ L s₁.heap news ∧
    ∀ s₂ : Shared, (∃ h, s₂ = { s₁ with heap := h }) → CompRest prog w A h₀ L m env elt x scope cl s₂ (fun _ => True) P (Fin s₂) n 0 [] news
theorem ListComp_G {elt iter : PySem.Expr} {x : PySem.Str} {px : Pos} {scope : Scope} {cl : List (PySem.Str × Addr)} {pos : Pos} {Q : Value → Shared → Prop} (_F₀ : Fr h₀ L s.heap m)
    (hclos : closureFor scope env = pure cl) (hcell : ∀ y ∈ scope.names, y.2 ≠ .cell) (hkind : scope.kind = .function)
    (hnames : ∀ y ∈ scope.names, y.2 = .local → scope.names.lookup y.1 = some .local) (hx : scope.names.lookup x = some .local)
    (h : wpAny (model prog w) A (eval iter env) (SrcG prog w A h₀ L m env elt x scope cl (fun s₂ => FinE h₀ L m s₂ Q)) E s)
    (hs : ∀ x, foldedSetIterable iter env x = pure x := by intro _; rfl) :
    wpAny (model prog w) A (eval (.ListComp elt [⟨.Name x px, iter, [], 0⟩] scope pos) env) Q E s := by
  rw [eval_ListComp]
  refine wpAny_comprehension_free (use := none) rfl hs hclos hkind hnames (wpAny_mono h (fun xv s₁ h₁ => ?_) fun _ _ e => e)
  obtain ⟨o₀, n, P, St, news, hit, W, hIo, hSt, h0, hsz, F, N, R⟩ := h₁
  refine hit _ _ ?_
  refine block_U W hsz hIo (fun i h h' o nw st e e' _ _ _ => hSt i h h' o st e e') hcell hkind hx h0 (fun b hb => ?_)
    (F.keeps fun _ _ e => Heap.get?_push_of_some _ e) (N.grown fun _ _ e => Heap.get?_push_of_some _ e) (Nat.ne_of_lt F.ns.lt) (next_is_new F) (fun p hp => Nat.ne_of_lt (Heap.lt_size (N p hp).1)) trivial (R _ ⟨_, rfl⟩) ?_
  · rw [List.mem_singleton.mp hb]
    show s₁.heap.objs.size < (s₁.heap.push _).objs.size
    rw [Heap.size_push]; exact Nat.lt_succ_self _
  · intro D C h tk m' ys news' F' N' o1 hn hC₀ hD₀ hCL hDL hCD offC fin
    refine ⟨m', hn, fun h'' hs'' => fin D h'' tk (F'.change hs'' hCL hC₀) (fun p hp => ?_) o1⟩
    refine ⟨hs''.extBut _ _ ?_ (N' p hp).1, (N' p hp).2⟩
    rcases List.mem_cons.mp hp with rfl | hp
    · exact Ne.symm hCD
    · exact offC p hp
theorem small_two {b : Int} (h0 : 0 ≤ b) (h1 : b ≤ 4096) : Builtin.Range.small 0 b 2 = true := by
  have hr : Builtin.Range.rangeSize 0 b 2 = if (0 : Int) < b then (b - 0 - 1) / 2 + 1 else 0 := rfl
  unfold Builtin.Range.small
  rw [hr]
  simp only [Builtin.Range.rangeFitsLong, Bool.and_eq_true, Bool.or_eq_true, decide_eq_true_eq, beq_iff_eq, show (2 : Int) > 0 by decide, if_true]
  split <;> omega
theorem size_two {b : Int} {k : Nat} (h : b = 2 * k) : Builtin.Range.rangeSize 0 b 2 = ((k : Nat) : Int) := by
  have hr : Builtin.Range.rangeSize 0 b 2 = if (0 : Int) < b then (b - 0 - 1) / 2 + 1 else 0 := rfl
  rw [hr]
  split <;> omega
/-- a range by steps -/
theorem SrcG.range {elt : PySem.Expr} {x : PySem.Str} {scope : Scope} {cl : List (PySem.Str × Addr)} {Fin : Shared → List Value → List (Addr × Obj) → Prop} {r : Addr} {a b c : Int} {t u v : Tok} {n : Nat} {news : List (Addr × Obj)} {s₁ : Shared}
    (hh : A.handled = none) (F : Fr h₀ L s₁.heap m) (N : News h₀ L s₁.heap news) (hr : IsRange s₁.heap r a b c t u v) (hsm : Builtin.Range.small a b c = true) (hn : Builtin.Range.rangeSize a b c = ((n : Nat) : Int)) (hsz : n ≤ sizeLine)
    (h : ∀ g, CompRest prog w A h₀ L m env elt x scope cl { s₁ with heap := g } (fun _ => True) (fun i v => ∃ t, v = .int (a + (i : Int) * c) t) (Fin { s₁ with heap := g }) n 0 [] news) :
    SrcG prog w A h₀ L m env elt x scope cl Fin (.ref r) s₁ := by
  refine ⟨_, n, _, _, news, fun Q' E' hq => wpAny_pyIter_range hr hsm hq, Walks.range hh s₁.heap.objs.size a c n, fun i h st => ⟨_, st⟩, fun i h h' o st e e' => ?_, ?_, hsz, F, N, fun _ ⟨g, e⟩ => e ▸ h g⟩
  · have st' : h.get? s₁.heap.objs.size = some _ := st
    show h'.get? _ = some _
    rw [e', ← e]; exact st'
  · show IsRangeIter _ _ _ _ _
    rw [hn]
    simpa using Heap.get?_push_size _ rfl
theorem rest_inv {elt : PySem.Expr} {x : PySem.Str} {scope : Scope} {cl : List (PySem.Str × Addr)} {S : List (Addr × Obj) → Prop} {P : Nat → Value → Prop} {Fin : List Value → List (Addr × Obj) → Prop} {n : Nat} {news₀ : List (Addr × Obj)} (J : Nat → List Value → List (Addr × Obj) → Prop)
    (h0 : J 0 [] news₀)
    (turn : ∀ i ys news v I oI C oC D m₂ h tk (E' : Value → Shared → Prop), i < n → P i v → J i ys news → NsObj oC m₂ → m₂ x = some v → Fr h₀ L h m → News h₀ L h ((I, oI) :: (C, oC) :: (D, lst ys) :: news) → Off3 I C D news → ((@Ne Nat I C) ∧ (@Ne Nat I D) ∧ (@Ne Nat C D)) →
      wpAny (model prog w) A (eval elt (compEnvC scope cl C env)) (CompEnd h₀ L m { s with heap := h, toks := tk } I oI C oC D (lst ys) S (fun y news' => J (i + 1) (ys ++ [y]) news')) E' { s with heap := h, toks := tk })
    (fin : ∀ ys news, J n ys news → Fin ys news) : CompRest prog w A h₀ L m env elt x scope cl s S P Fin n 0 [] news₀ := by
  have key : ∀ (j i : Nat) (ys : List Value) (news : List (Addr × Obj)), i + j = n → J i ys news → CompRest prog w A h₀ L m env elt x scope cl s S P Fin j i ys news := by
    intro j
    induction j with
    | zero =>
      intro i ys news hi hJ
      have e : i = n := by omega
      subst e
      exact CompRest.zero (fin ys news hJ)
    | succ j ih =>
      intro i ys news hi hJ
      refine CompRest.succ ?_
      intro v I oI C oC D m₂ h tk E' hv hC hx F N off ne
      refine wpAny_mono (turn i ys news v I oI C oC D m₂ h tk E' (by omega) hv hJ hC hx F N off ne) (fun y s₂ hq => ?_) fun _ _ e => e
      obtain ⟨h', tk', nw, e, F', N', off', hS, hJ'⟩ := hq
      exact ⟨h', tk', nw, e, F', N', off', hS, ih (i + 1) _ _ (by omega) hJ'⟩
  exact key n 0 [] news₀ (by omega) h0
end
end
section
open PySem PySem.W PyProof.Rows
set_option Elab.async false
set_option maxRecDepth 100000
set_option maxHeartbeats 400000
open PySem.Calls PySem.Spec
theorem reset_T10 {prog : Program} {w : World} {A : Around} {env : Env} {Q : Flow → Shared → Prop} {E : Value → Shared → Prop} {s : Shared} (h : Q .next s) : wpAny (model prog w) A (execs [] env) Q E s := by
  w_top off
  k_with_none
  k_with "z6" => ((refine' code_def ?k1 ?k2 ?k3 ?k4 ?k5 ?kA ?kF ?kK ?k6 ?k7 ?k8 ?k9 ?kB ?_ ?c2 ?c3 ?c4 ?c5; (case kA => exact rfl); (case kF => exact rfl); (case kK => first | exact rfl | assumption); (case k1 => k_asm); (case k2 => k_asm); (case k3 => k_asm); (case k4 => k_asm); (case k5 => k_asm); (case k6 => k_is); (case k7 => k_is); (case k8 => ktr_room); (case k9 => first | exact BindsTo.of_eq rfl | exact binds_K (by k_in) rfl (by k_is) rfl rfl rfl | fail "k_enter: no rule for these arguments"); (case c5 => decide); (case kB => exact locs rfl); (case c2 => exact rfl); (case c3 => exact rfl); (case c4 => exact rfl); k_whole; intro g' L' h' FG' F' N' B' X' T'; (try dsimp only); (try k_lift B'); (try k_fold)))
  k_with "z9" => (first | (refine eqN (by omega) ?_) | (refine eqY (by omega) ?_))
  k_with "z10" => (first | (refine neN (by omega) ?_) | (refine neY (by omega) ?_))
  k_with "z11" => (first | (refine ltY (by omega) ?_) | (refine ltN (by omega) ?_))
  k_with "z12" => (first | (refine gtY (by omega) ?_) | (refine gtN (by omega) ?_))
  k_with "z13" => (first | (refine leY (by omega) ?_) | (refine leN (by omega) ?_))
  k_with "z14" => (first | (refine geY (by omega) ?_) | (refine geN (by omega) ?_))
  k_with "z15" => ((k_dflt (first | (refine' notInN (tupK ?kX ?kL) ?kI ?kE ?_; (case kX => k_in); (case kL => k_is); (case kI => (repeat constructor)); (case kE => rfl)) | (refine' notInY (tupK ?kX ?kL) ?kI ?kE ?_; (case kX => k_in); (case kL => k_is); (case kI => (repeat constructor)); (case kE => (repeat (first | exact any_no_nil | (refine any_no_cons (by omega) ?_))))))))
  k_with "z16" => ((k_dflt (first | (refine' inY (tupK ?kX ?kL) ?kI ?kE ?_; (case kX => k_in); (case kL => k_is); (case kI => (repeat constructor)); (case kE => rfl)) | (refine' inN (tupK ?kX ?kL) ?kI ?kE ?_; (case kX => k_in); (case kL => k_is); (case kI => (repeat constructor)); (case kE => (repeat (first | exact any_no_nil | (refine any_no_cons (by omega) ?_))))))))
  k_with "z17" => ((k_dflt (refine whl_start 3 ?_)))
  k_with "z18" => (((with_reducible show wpAny _ _ (subscriptTail _ _ (Value.bytes _ _) (Value.int _ _)) _ _ _); refine bytes_at (by first | assumption | (rw [Int.add_zero]; assumption)) (by omega) (by assumption) ?_; intro _ _))
  k_with "z29" => ((refine' code_defC ?k1 ?k2 ?k3 ?k4 ?k5 ?kA ?kF ?kK ?k6 ?k7 ?k8 ?k9 ?kB ?kD ?_ ?c2 ?c3 ?c4; (case kA => exact rfl); (case kF => exact rfl); (case kK => first | exact rfl | assumption); (case k1 => k_asm); (case k2 => k_asm); (case k3 => k_asm); (case k4 => k_asm); (case k5 => k_asm); (case k6 => k_is); (case k7 => k_is); (case k8 => ktr_room); (case k9 => first | exact BindsTo.of_eq rfl | exact binds_K (by k_in) rfl (by k_is) rfl rfl rfl | fail "k_enter: no rule for these arguments"); (case kB => exact rfl); (case kD => decide +kernel); (case c2 => exact rfl); (case c3 => exact rfl); (case c4 => exact rfl); k_whole; intro g' L' h' tk' cells' FG' F' N' Y' B' X' T' l1; (try k_lt l1); (try (obtain ⟨l1a, l1b, l1c⟩ := l1)); k_cells Y'; (try simp only [List.cons_append, List.nil_append] at N'); (try dsimp only); (try k_lift B'); (try k_fold)))
  k_with "z30" => ((rename AllLt _ _ => h1; first | exact allNe_of h1 (by omega) | (clear h1; rename AllLt _ _ => h2; first | exact allNe_of h2 (by omega) | (clear h2; rename AllLt _ _ => h3; exact allNe_of h3 (by omega)))))
  k_with "z24" => (first | (refine ite_neg Bool.false_ne_true ?_) | (refine ite_pos rfl ?_))
  k_with "z31" => ((dsimp only [WhileStep2]))
  k_with "z19" => (((with_reducible show wpAny _ _ (subscriptTail _ (Expr.Slice (some _) (some _) none _) (Value.bytes _ _) (Value.ref _)) _ _ _); (with_reducible rename Fr _ _ _ _ => F'); (with_reducible rename News _ _ _ _ => N'); (refine bytes_cut_gen (s := ⟨_, _, _, _, _⟩) F' N' (by assumption) (by omega) (by omega) (by omega) ?_); intro _ _ _ _ _))
  k_with "z32" => (((with_reducible show wpAny _ _ (call (Value.ref 118) _) _ _ _); k_dflt (refine' TellsW.use (is_done_tells _ _ _ _ _ _ _ _ _ _ _ _ ?c1 ?c2 ?c3 ?c4 ?c5 ?c6) ?B9 ?F9 ?X9 ?N9 ?T9 ?K9 ?d9 ?u9 ?_; (case B9 => k_asm); (case F9 => k_asm); (case X9 => k_asm); (case N9 => k_asm); (case T9 => k_asm); (case K9 => first | exact rfl | assumption); (case d9 => ktr_room); (case u9 => ktr_units); (case c1 => first | assumption | omega); (case c2 => k_all); (case c3 => first | assumption | omega); (case c4 => first | assumption | omega); (case c5 => first | assumption | omega); (case c6 => first | assumption | omega)); (dsimp only [BackC, curD]); intro t9 tp9 h9 tk9 F9 N9; (try dsimp only); (try k_fold)))
  k_with "z33" => (((with_reducible show wpAny _ _ (call (Value.ref 133) _) _ _ _); k_dflt (refine' TellsW.use (take_tells _ _ _ _ _ _ _ _ _ _ _ _ _ ?c1 ?c2 ?c3 ?c4 ?c5 ?c6 ?c7) ?B9 ?F9 ?X9 ?N9 ?T9 ?K9 ?d9 ?u9 ?_; (case B9 => k_asm); (case F9 => k_asm); (case X9 => k_asm); (case N9 => k_asm); (case T9 => k_asm); (case K9 => first | exact rfl | assumption); (case d9 => ktr_room); (case u9 => ktr_units); (case c1 => first | assumption | omega); (case c2 => k_all); (case c3 => first | assumption | omega); (case c4 => first | assumption | omega); (case c5 => first | assumption | omega); (case c6 => first | assumption | omega); (case c7 => first | assumption | omega)); (dsimp only [BackC, curD]); intro t9 tp9 h9 tk9 F9 N9; (try dsimp only); (try k_fold)))
  k_with "z34" => (((with_reducible show wpAny _ _ (call (Value.ref 323) _) _ _ _); k_dflt (refine' Tells.use (hex_worth_tells _ _ _ ?c1 ?c2 ?c3) ?B9 ?F9 ?X9 ?N9 ?T9 ?K9 ?d9 ?u9 ?_; (case B9 => k_asm); (case F9 => k_asm); (case X9 => k_asm); (case N9 => k_asm); (case T9 => k_asm); (case K9 => first | exact rfl | assumption); (case d9 => ktr_room); (case u9 => ktr_units); (case c1 => omega); (case c2 => omega); (case c3 => omega)); (dsimp only [BackV]); intro t9 h9 tk9 F9 N9; (try dsimp only); (try k_fold)))
  k_with "z35" => ((refine mod2_even (by omega) ?_))
  k_with "z36" => ((k_dflt (refine ListComp_G (by k_asm) (by with_unfolding_all rfl) (by decide) (by rfl) (by decide) (by rfl) ?_)))
  k_with "z37" => (((with_reducible show wpAny _ _ (call (Value.builtin "len") [Value.ref _]) _ _ _); refine list_len (by k_asm) (by k_mem) (by omega) ?_; intro _ _))
  k_with "z38" => ((k_here; (with_reducible show wpAny _ _ (call (Value.type "bytes") [Value.ref _]) _ _ _); k_dflt (refine' KBa.make_K ?kbaF ?kbaN ?kbah ?kbal ?kbai ?kbar ?kban ?_; (case kbaF => k_asm); (case kbaN => k_asm); (case kbah => rfl); (case kbal => exact News.isList (by k_asm) (by k_mem)); (case kbai => assumption); (case kbar => assumption); (case kban => (rw [List.length_map, List.length_range]; omega))); intro _ _ _ F' N' kbaIn))
  walk1
  exact h
local macro_rules | `(tactic| k_enter) => `(tactic| k_extra "z29")
local macro_rules | `(tactic| k_all) => `(tactic| k_extra "z30")
local macro_rules | `(tactic| walk_at "ite") => `(tactic| k_extra "z24")
local macro_rules | `(tactic| walk_at "WhileStep2 ret") => `(tactic| k_extra "z31")
local macro_rules | `(tactic| walk_at "subscriptTail") => `(tactic| k_extra "z19")
local macro_rules | `(tactic| walk_at "call ref") => `(tactic| k_extra "z32")
local macro_rules | `(tactic| walk_at "call ref") => `(tactic| k_extra "z33")
local macro_rules | `(tactic| walk_at "call ref") => `(tactic| k_extra "z34")
theorem pick5 {h₀ : Heap} {L : Addr} {h : Heap} {a b c e f : Addr × Obj} {r : List (Addr × Obj)} (N : News h₀ L h (a :: b :: c :: e :: f :: r)) : News h₀ L h (b :: c :: r) := fun p hp => N p (by
  simp only [List.mem_cons] at hp ⊢; rcases hp with h | h | h <;> simp [h])
theorem fr_two {h₀ : Heap} {L : Addr} {h : Heap} {a b : PySem.Str} {m₁ m₀ : PySem.Str → Option Value} (F : Fr h₀ L h m₁) (e : ∀ z, z ≠ a → z ≠ b → m₁ z = m₀ z) : Fr h₀ L h (fun y => if y = a then m₁ y else if y = b then m₁ y else m₀ y) :=
  fr_same F fun z => by
    by_cases h : z = a
    · simp [h]
    · by_cases h' : z = b
      · simp [h']
      · simp [h, h', e z h h']
def HsJ (w : World) (x d : Addr) (D : Array UInt8) (tD k1 k2 k3 : Tok) (p e : Int) (te : Tok) (rest : List (Addr × Obj)) (hh hc : Addr) (oc : Obj) (l : List Int) (m₀ : PySem.Str → Option Value) (n : Nat) (m : PySem.Str → Option Value) (nx : List (Addr × Obj)) : Prop :=
  (∀ z, z ≠ Str.ofString "code" → z ≠ Str.ofString "worth" → m z = m₀ z) ∧ ∃ (i : Nat) (tp : Tok) (vs : List Value) (c : Nat), i ≤ l.length ∧ n = l.length + 1 - i ∧
    nx = (x, instObj 199 d) :: (d, curD w D tD k1 k2 k3 (p + i) tp e te) :: (hh, W.listOf vs.toArray c) :: (hc, oc) :: rest ∧ IntsAre vs ((l.take i).map hexW)
theorem at_snoc {D : Array UInt8} {p : Int} {l : List Int} {c : Int} (h : At D p (l ++ [c])) (i : Nat) (hi : i < l.length) : (KBw.bInts D)[(p + (i : Int)).toNat]? = some l[i] := by
  have := h i (by rw [List.length_append]; omega)
  rwa [List.getElem_append_left hi] at this
theorem at_last {D : Array UInt8} {p : Int} {l : List Int} {c : Int} (h : At D p (l ++ [c])) : (KBw.bInts D)[(p + (l.length : Int)).toNat]? = some c := by
  have := h l.length (by rw [List.length_append]; simp)
  simpa using this
theorem hexW_bound {c : Int} (ha : 48 ≤ c) (hb : c ≤ 70) (hg : c ≤ 57 ∨ 65 ≤ c) : 0 ≤ hexW c ∧ hexW c < 16 := by
  unfold hexW; split <;> omega
def hexPair (l : List Int) (i : Nat) : Int := 16 * (l.map hexW).getD (2 * i) 0 + (l.map hexW).getD (2 * i + 1) 0
theorem hexPair_is (l : List Int) (i : Nat) : 16 * (List.map hexW l).getD (0 + (i : Int) * 2).toNat 0 + (List.map hexW l).getD (0 + (i : Int) * 2 + 1).toNat 0 = hexPair l i := by
  unfold hexPair
  rw [show (0 + (i : Int) * 2).toNat = 2 * i by omega, show (0 + (i : Int) * 2 + 1).toNat = 2 * i + 1 by omega]
theorem getD_hex {l : List Int} (h : ∀ c ∈ l, 48 ≤ c ∧ c ≤ 70 ∧ (c ≤ 57 ∨ 65 ≤ c)) (j : Nat) : 0 ≤ (l.map hexW).getD j 0 ∧ (l.map hexW).getD j 0 < 16 := by
  rw [List.getD_eq_getElem?_getD, List.getElem?_map]
  cases hj : l[j]? with
  | none => decide
  | some c =>
    obtain ⟨h1, h2, h3⟩ := h c (List.mem_of_getElem? hj)
    have := hexW_bound h1 h2 h3
    exact this
theorem hexPair_in {l : List Int} (h : ∀ c ∈ l, 48 ≤ c ∧ c ≤ 70 ∧ (c ≤ 57 ∨ 65 ≤ c)) (k : Nat) : KBa.In ((List.range k).map (hexPair l)) := by
  intro x hx
  obtain ⟨i, _, rfl⟩ := List.mem_map.mp hx
  have a := getD_hex h (2 * i)
  have b := getD_hex h (2 * i + 1)
  unfold hexPair
  omega
theorem mod2_even {prog : Program} {w : World} {A : Around} {E : Value → Shared → Prop} {s : Shared} {a : Int} {t u : Tok} {Q : Value → Shared → Prop} (e : a % 2 = 0) (h : Q (.int 0 s.toks) { s with toks := s.toks + 1 }) : wpAny (model prog w) A (binaryOp .Mod (.int a t) (.int 2 u)) Q E s :=
  mod_int' (by decide) (by
    have : a.fmod 2 = 0 := by rw [Int.fmod_eq_emod_of_nonneg _ (by decide)]; omega
    rw [this]; exact h)
local macro_rules | `(tactic| walk_at "binaryOp Mod int int") => `(tactic| k_extra "z35")
local macro_rules | `(tactic| walk_at "eval ListComp") => `(tactic| k_extra "z36")
local macro_rules | `(tactic| walk_at "call builtin:len") => `(tactic| k_extra "z37")
local macro_rules | `(tactic| walk_at "call type:bytes") => `(tactic| k_extra "z38")
theorem hex_string_tells (x d : Addr) (D : Array UInt8) (tD k1 k2 k3 tp te : Tok) (p e : Int) (rest : List (Addr × Obj)) (hxd : @Ne Nat x d) (hr : ∀ q ∈ rest, q.1 ≠ d) (hz : D.size ≤ 4096) (he : e = D.size) (hp : 0 ≤ p) (l : List Int) (hl : At D p (l ++ [62])) (hpe : p + l.length < e) (hll : l.length ≤ 64) (k : Nat) (hk : l.length = 2 * k) (hhex : ∀ c ∈ l, 48 ≤ c ∧ c ≤ 70 ∧ (c ≤ 57 ∨ 65 ≤ c)) :
    TellsN 26 100 364 [.ref x] (fun w => (x, instObj 199 d) :: (d, curD w D tD k1 k2 k3 p tp e te) :: rest) (BackC x d D tD k1 k2 k3 (p + l.length + 1) e te rest fun t => .bytes (byteArr ((List.range k).map (hexPair l))) t) := by
  unfold TellsN BackC curD
  intros
  rename_i hret
  have hMk := kstMark
  refine wpAny_call ?_
  k_dflt k_enter
  k_with "exec While UnaryOp cons nil" => (
    (rename Fr _ _ _ _ => lF); (rename News _ _ _ _ => lN); (rename (_ ∧ _ ∧ _ ∧ AllLt _ _) => l9); obtain ⟨l9a, l9b, l9c, l9d⟩ := l9;
    refine While_inv2 (HsJ _ x d D tD k1 k2 k3 p e te rest _ _ _ l _) (n₀ := l.length + 1) lF (rot2 lN) ⟨fun _ _ _ => rfl, 0, tp, [], 0, Nat.zero_le _, rfl, by rw [show p + ((0 : Nat) : Int) = p by omega], .nil⟩ ?_;
    (rintro n m₁ nx h tk F₁ N₁ ⟨hm, i, tp', vs, c9, hi, rfl, rfl, hvs⟩; have F₂ := fr_two F₁ hm; clear F₁ lF lN; have hvl := hvs.length; rw [List.length_map, List.length_take] at hvl;
      rcases Nat.lt_or_ge i l.length with hlt | hge);
    (have hc := at_snoc hl i hlt; have hc1 := hhex _ (List.getElem_mem hlt); generalize hlg : l[i] = c at hc hc1; obtain ⟨ha, hb, hg⟩ := hc1; have hw := hexW_bound ha hb hg; obtain ⟨hw0, hw1⟩ := hw; have hie : p + (i : Int) < e := by omega); rotate_left;
    (have hi2 : i = l.length := by omega); subst hi2; (have hc := at_last hl))
  k_steps
  · refine SrcG.range (n := k) (by rfl) (by k_asm) (by k_asm) (by assumption) (small_two (by omega) (by omega)) (size_two (by omega)) (by rw [sizeLine_eq]; omega) ?_
    intro g
    rename IntsAre _ _ => hvs
    rw [List.take_length] at hvs
    refine rest_inv (fun i ys nx => IntsAre ys ((List.range i).map (hexPair l)) ∧ nx = _) ⟨.nil, rfl⟩ ?_ ?_
    · rintro i ys nx v I oI C oC D9 m₂ h tk E' hik ⟨t, rfl⟩ ⟨hys, rfl⟩ hC hx F N off ne
      have off0 := off
      simp only [LCg.Off3, and_true] at off
      k_steps
      rename Fr _ _ _ _ => F₃
      rename News _ _ _ _ => N₃
      refine LCg.CompEnd.intro F₃ N₃ _ (fun q hq => hq) off0 trivial ⟨?_, rfl⟩
      rw [List.range_succ, List.map_append, hexPair_is]
      exact IntsAre.append hys (.cons _ _ .nil)
    · rintro ys nx ⟨hys, rfl⟩ D9 h tk F N off
      have hin := hexPair_in hhex k
      k_steps
      rename Fr _ _ _ _ => F₃
      rename News _ _ _ _ => N₃
      exact hret _ _ _ _ F₃ (pick5 N₃)
  · rename Fr _ _ _ _ => F₃
    rename News _ _ _ _ => N₃
    simp only [List.push_toArray] at N₃
    refine ⟨_, _, _, _, l.length + 1 - (i + 1), rfl, F₃, N₃, by omega, fun z h1 h2 => by simp [h1, h2], i + 1, _, vs ++ [_], c9 + 1, by omega, rfl, by rw [show p + ((i + 1 : Nat) : Int) = p + (i : Int) + 1 by omega], ?_⟩
    rw [List.take_add_one, List.getElem?_eq_getElem hlt, hlg]
    simp only [List.map_append, Option.toList_some, List.map_cons, List.map_nil]
    exact IntsAre.append hvs (.cons _ _ .nil)
end
section
open PySem PySem.W PyProof.Rows
set_option Elab.async false
set_option maxRecDepth 100000
set_option maxHeartbeats 400000
open PySem.Calls PySem.Spec
theorem reset_T11 {prog : Program} {w : World} {A : Around} {env : Env} {Q : Flow → Shared → Prop} {E : Value → Shared → Prop} {s : Shared} (h : Q .next s) : wpAny (model prog w) A (execs [] env) Q E s := by
  w_top off
  k_with_none
  k_with "z6" => ((refine' code_def ?k1 ?k2 ?k3 ?k4 ?k5 ?kA ?kF ?kK ?k6 ?k7 ?k8 ?k9 ?kB ?_ ?c2 ?c3 ?c4 ?c5; (case kA => exact rfl); (case kF => exact rfl); (case kK => first | exact rfl | assumption); (case k1 => k_asm); (case k2 => k_asm); (case k3 => k_asm); (case k4 => k_asm); (case k5 => k_asm); (case k6 => k_is); (case k7 => k_is); (case k8 => ktr_room); (case k9 => first | exact BindsTo.of_eq rfl | exact binds_K (by k_in) rfl (by k_is) rfl rfl rfl | fail "k_enter: no rule for these arguments"); (case c5 => decide); (case kB => exact locs rfl); (case c2 => exact rfl); (case c3 => exact rfl); (case c4 => exact rfl); k_whole; intro g' L' h' FG' F' N' B' X' T'; (try dsimp only); (try k_lift B'); (try k_fold)))
  k_with "z9" => (first | (refine eqN (by omega) ?_) | (refine eqY (by omega) ?_))
  k_with "z10" => (first | (refine neN (by omega) ?_) | (refine neY (by omega) ?_))
  k_with "z11" => (first | (refine ltY (by omega) ?_) | (refine ltN (by omega) ?_))
  k_with "z12" => (first | (refine gtY (by omega) ?_) | (refine gtN (by omega) ?_))
  k_with "z13" => (first | (refine leY (by omega) ?_) | (refine leN (by omega) ?_))
  k_with "z14" => (first | (refine geY (by omega) ?_) | (refine geN (by omega) ?_))
  k_with "z15" => ((k_dflt (first | (refine' notInN (tupK ?kX ?kL) ?kI ?kE ?_; (case kX => k_in); (case kL => k_is); (case kI => (repeat constructor)); (case kE => rfl)) | (refine' notInY (tupK ?kX ?kL) ?kI ?kE ?_; (case kX => k_in); (case kL => k_is); (case kI => (repeat constructor)); (case kE => (repeat (first | exact any_no_nil | (refine any_no_cons (by omega) ?_))))))))
  k_with "z16" => ((k_dflt (first | (refine' inY (tupK ?kX ?kL) ?kI ?kE ?_; (case kX => k_in); (case kL => k_is); (case kI => (repeat constructor)); (case kE => rfl)) | (refine' inN (tupK ?kX ?kL) ?kI ?kE ?_; (case kX => k_in); (case kL => k_is); (case kI => (repeat constructor)); (case kE => (repeat (first | exact any_no_nil | (refine any_no_cons (by omega) ?_))))))))
  k_with "z17" => ((k_dflt (refine whl_start 3 ?_)))
  k_with "z18" => (((with_reducible show wpAny _ _ (subscriptTail _ _ (Value.bytes _ _) (Value.int _ _)) _ _ _); refine bytes_at (by first | assumption | (rw [Int.add_zero]; assumption)) (by omega) (by assumption) ?_; intro _ _))
  k_with "z30" => ((rename AllLt _ _ => h1; first | exact allNe_of h1 (by omega) | (clear h1; rename AllLt _ _ => h2; first | exact allNe_of h2 (by omega) | (clear h2; rename AllLt _ _ => h3; exact allNe_of h3 (by omega)))))
  k_with "z24" => (first | (refine ite_neg Bool.false_ne_true ?_) | (refine ite_pos rfl ?_))
  k_with "z31" => ((dsimp only [WhileStep2]))
  k_with "z19" => (((with_reducible show wpAny _ _ (subscriptTail _ (Expr.Slice (some _) (some _) none _) (Value.bytes _ _) (Value.ref _)) _ _ _); (with_reducible rename Fr _ _ _ _ => F'); (with_reducible rename News _ _ _ _ => N'); (refine bytes_cut_gen (s := ⟨_, _, _, _, _⟩) F' N' (by assumption) (by omega) (by omega) (by omega) ?_); intro _ _ _ _ _))
  k_with "z33" => (((with_reducible show wpAny _ _ (call (Value.ref 133) _) _ _ _); k_dflt (refine' TellsW.use (take_tells _ _ _ _ _ _ _ _ _ _ _ _ _ ?c1 ?c2 ?c3 ?c4 ?c5 ?c6 ?c7) ?B9 ?F9 ?X9 ?N9 ?T9 ?K9 ?d9 ?u9 ?_; (case B9 => k_asm); (case F9 => k_asm); (case X9 => k_asm); (case N9 => k_asm); (case T9 => k_asm); (case K9 => first | exact rfl | assumption); (case d9 => ktr_room); (case u9 => ktr_units); (case c1 => first | assumption | omega); (case c2 => k_all); (case c3 => first | assumption | omega); (case c4 => first | assumption | omega); (case c5 => first | assumption | omega); (case c6 => first | assumption | omega); (case c7 => first | assumption | omega)); (dsimp only [BackC, curD]); intro t9 tp9 h9 tk9 F9 N9; (try dsimp only); (try k_fold)))
  k_with "z39" => (((with_reducible show wpAny _ _ (call (Value.ref 147) _) _ _ _); k_dflt (refine' TellsW.use (skip_tells1 _ _ _ _ _ _ _ _ _ _ _ _ _ ?c1 ?c2 ?c3 ?c4 ?c5 ?c6 _ ?c7 ?c8 ?c9 ?c10 ?c11) ?B9 ?F9 ?X9 ?N9 ?T9 ?K9 ?d9 ?u9 ?_; (case B9 => k_asm); (case F9 => k_asm); (case X9 => k_asm); (case N9 => k_asm); (case T9 => k_asm); (case K9 => first | exact rfl | assumption); (case d9 => ktr_room); (case u9 => ktr_units); (case c1 => first | assumption | omega); (case c2 => k_all); (case c3 => first | assumption | omega); (case c4 => first | assumption | omega); (case c5 => first | assumption | omega); (case c6 => first | assumption | omega); (case c7 => first | assumption | omega); (case c8 => first | assumption | omega); (case c9 => first | assumption | omega); (case c10 => first | assumption | omega); (case c11 => first | assumption | omega)); (dsimp only [BackC, curD]); intro t9 tp9 h9 tk9 F9 N9; (try dsimp only); (try k_fold)))
  k_with "z40" => (((with_reducible show wpAny _ _ (call (Value.ref 147) _) _ _ _); k_dflt (refine' TellsW.use (skip_tells2 _ _ _ _ _ _ _ _ _ _ _ _ _ ?c1 ?c2 ?c3 ?c4 ?c5 ?c6 _ ?c7 ?c8 ?c9 ?c10 ?c11) ?B9 ?F9 ?X9 ?N9 ?T9 ?K9 ?d9 ?u9 ?_; (case B9 => k_asm); (case F9 => k_asm); (case X9 => k_asm); (case N9 => k_asm); (case T9 => k_asm); (case K9 => first | exact rfl | assumption); (case d9 => ktr_room); (case u9 => ktr_units); (case c1 => first | assumption | omega); (case c2 => k_all); (case c3 => first | assumption | omega); (case c4 => first | assumption | omega); (case c5 => first | assumption | omega); (case c6 => first | assumption | omega); (case c7 => first | assumption | omega); (case c8 => first | assumption | omega); (case c9 => first | assumption | omega); (case c10 => first | assumption | omega); (case c11 => first | assumption | omega)); (dsimp only [BackC, curD]); intro t9 tp9 h9 tk9 F9 N9; (try dsimp only); (try k_fold)))
  k_with "z41" => (((with_reducible show wpAny _ _ (call (Value.ref 364) _) _ _ _); k_dflt (refine' TellsN.use (hex_string_tells _ _ _ _ _ _ _ _ _ _ _ _ ?c1 ?c2 ?c3 ?c4 ?c5 _ ?c6 ?c7 ?c8 _ ?c9 ?c10) ?B9 ?F9 ?X9 ?N9 ?T9 ?K9 ?d9 ?u9 ?_; (case B9 => k_asm); (case F9 => k_asm); (case X9 => k_asm); (case N9 => k_asm); (case T9 => k_asm); (case K9 => first | exact rfl | assumption); (case d9 => ktr_room); (case u9 => ktr_units); (case c1 => first | assumption | omega); (case c2 => k_all); (case c3 => first | assumption | omega); (case c4 => first | assumption | omega); (case c5 => first | assumption | omega); (case c6 => first | assumption | omega); (case c7 => first | assumption | omega); (case c8 => first | assumption | omega); (case c9 => first | assumption | omega); (case c10 => first | assumption | omega)); (dsimp only [BackC, curD]); intro t9 tp9 h9 tk9 F9 N9; (try dsimp only); (try k_fold)))
  k_with "z42" => (((with_reducible show wpAny _ _ (call (Value.ref 154) _) _ _ _); k_dflt (refine' TellsW.use (skip_white_tells_0 _ _ _ _ _ _ _ _ _ _ _ _ _ ?c1 ?c2 ?c3 ?c4 ?c5 ?c6 ?c7 ?c8) ?B9 ?F9 ?X9 ?N9 ?T9 ?K9 ?d9 ?u9 ?_; (case B9 => k_asm); (case F9 => k_asm); (case X9 => k_asm); (case N9 => k_asm); (case T9 => k_asm); (case K9 => first | exact rfl | assumption); (case d9 => ktr_room); (case u9 => ktr_units); (case c1 => first | assumption | omega); (case c2 => k_all); (case c3 => first | assumption | omega); (case c4 => first | assumption | omega); (case c5 => first | assumption | omega); (case c6 => first | assumption | omega); (case c7 => first | assumption | omega); (case c8 => first | assumption | omega)); (dsimp only [BackC, curD]); intro t9 tp9 h9 tk9 F9 N9; (try dsimp only); (try k_fold)))
  k_with "z43" => (((with_reducible show wpAny _ _ (call (Value.ref 154) _) _ _ _); k_dflt (refine' TellsW.use (skip_white_tells_1 _ _ _ _ _ _ _ _ _ _ _ _ _ ?c1 ?c2 ?c3 ?c4 ?c5 ?c6 ?c7 ?c8 ?c9) ?B9 ?F9 ?X9 ?N9 ?T9 ?K9 ?d9 ?u9 ?_; (case B9 => k_asm); (case F9 => k_asm); (case X9 => k_asm); (case N9 => k_asm); (case T9 => k_asm); (case K9 => first | exact rfl | assumption); (case d9 => ktr_room); (case u9 => ktr_units); (case c1 => first | assumption | omega); (case c2 => k_all); (case c3 => first | assumption | omega); (case c4 => first | assumption | omega); (case c5 => first | assumption | omega); (case c6 => first | assumption | omega); (case c7 => first | assumption | omega); (case c8 => first | assumption | omega); (case c9 => first | assumption | omega)); (dsimp only [BackC, curD]); intro t9 tp9 h9 tk9 F9 N9; (try dsimp only); (try k_fold)))
  k_with "z44" => (((with_reducible show wpAny _ _ (call (Value.ref 154) _) _ _ _); k_dflt (refine' TellsW.use (skip_white_tells_e _ _ _ _ _ _ _ _ _ _ _ _ ?c1 ?c2 ?c3 ?c4 ?c5 ?c6) ?B9 ?F9 ?X9 ?N9 ?T9 ?K9 ?d9 ?u9 ?_; (case B9 => k_asm); (case F9 => k_asm); (case X9 => k_asm); (case N9 => k_asm); (case T9 => k_asm); (case K9 => first | exact rfl | assumption); (case d9 => ktr_room); (case u9 => ktr_units); (case c1 => first | assumption | omega); (case c2 => k_all); (case c3 => first | assumption | omega); (case c4 => first | assumption | omega); (case c5 => first | assumption | omega); (case c6 => first | assumption | omega)); (dsimp only [BackC, curD]); intro t9 tp9 h9 tk9 F9 N9; (try dsimp only); (try k_fold)))
  k_with "z45" => (((with_reducible show wpAny _ _ (call (Value.ref 126) _) _ _ _); k_dflt (refine' TellsW.use (peek_tells _ _ _ _ _ _ _ _ _ _ _ _ _ ?c1 ?c2 ?c3 ?c4 ?c5 ?c6 ?c7) ?B9 ?F9 ?X9 ?N9 ?T9 ?K9 ?d9 ?u9 ?_; (case B9 => k_asm); (case F9 => k_asm); (case X9 => k_asm); (case N9 => k_asm); (case T9 => k_asm); (case K9 => first | exact rfl | assumption); (case d9 => ktr_room); (case u9 => ktr_units); (case c1 => first | assumption | omega); (case c2 => k_all); (case c3 => first | assumption | omega); (case c4 => first | assumption | omega); (case c5 => first | assumption | omega); (case c6 => first | assumption | omega); (case c7 => first | assumption | omega)); (dsimp only [BackC, curD]); intro t9 tp9 h9 tk9 F9 N9; (try dsimp only); (try k_fold)))
  k_with "z46" => (((with_reducible show wpAny _ _ (call (Value.ref 126) _) _ _ _); k_dflt (refine' TellsW.use (peek_tells_e _ _ _ _ _ _ _ _ _ _ _ _ ?c1 ?c2 ?c3 ?c4 ?c5 ?c6) ?B9 ?F9 ?X9 ?N9 ?T9 ?K9 ?d9 ?u9 ?_; (case B9 => k_asm); (case F9 => k_asm); (case X9 => k_asm); (case N9 => k_asm); (case T9 => k_asm); (case K9 => first | exact rfl | assumption); (case d9 => ktr_room); (case u9 => ktr_units); (case c1 => first | assumption | omega); (case c2 => k_all); (case c3 => first | assumption | omega); (case c4 => first | assumption | omega); (case c5 => first | assumption | omega); (case c6 => first | assumption | omega)); (dsimp only [BackC, curD]); intro t9 tp9 h9 tk9 F9 N9; (try dsimp only); (try k_fold)))
  k_with "z47" => (((with_reducible show wpAny _ _ (call (Value.ref 378) _) _ _ _); k_dflt (refine' TellsN.use (delimited_token_tells _ _ _ _ _ _ _ _ _ _ _ _ ?c1 ?c2 ?c3 ?c4 ?c5 _ _ _ _ ?c6 ?c7 ?c8 _ ?c9 ?c10 ?c11) ?B9 ?F9 ?X9 ?N9 ?T9 ?K9 ?d9 ?u9 ?_; (case B9 => k_asm); (case F9 => k_asm); (case X9 => k_asm); (case N9 => k_asm); (case T9 => k_asm); (case K9 => first | exact rfl | assumption); (case d9 => ktr_room); (case u9 => ktr_units); (case c1 => first | assumption | omega); (case c2 => k_all); (case c3 => first | assumption | omega); (case c4 => first | assumption | omega); (case c5 => first | assumption | omega); (case c6 => first | assumption | omega); (case c7 => first | assumption | omega); (case c8 => first | assumption | omega); (case c9 => first | assumption | omega); (case c10 => first | assumption | omega); (case c11 => first | assumption | omega)); (dsimp only [BackT, curD, tokObj]); intro T9 t9 u9 v9 tp9 h9 tk9 L9 F9 N9; (try dsimp only); (try k_fold)))
  k_with "z48" => (((with_reducible show wpAny _ _ (call (Value.ref 371) _) _ _ _); k_dflt (refine' TellsN.use (run_token_tells _ _ _ _ _ _ _ _ _ _ _ _ ?c1 ?c2 ?c3 ?c4 ?c5 _ _ _ _ ?c6 ?c7 ?c8) ?B9 ?F9 ?X9 ?N9 ?T9 ?K9 ?d9 ?u9 ?_; (case B9 => k_asm); (case F9 => k_asm); (case X9 => k_asm); (case N9 => k_asm); (case T9 => k_asm); (case K9 => first | exact rfl | assumption); (case d9 => ktr_room); (case u9 => ktr_units); (case c1 => first | assumption | omega); (case c2 => k_all); (case c3 => first | assumption | omega); (case c4 => first | assumption | omega); (case c5 => first | assumption | omega); (case c6 => first | assumption | omega); (case c7 => first | assumption | omega); (case c8 => first | assumption | omega)); (dsimp only [BackT, curD, tokObj]); intro T9 t9 u9 v9 tp9 h9 tk9 L9 F9 N9; (try dsimp only); (try k_fold)))
  walk1
  exact h
local macro_rules | `(tactic| k_all) => `(tactic| k_extra "z30")
local macro_rules | `(tactic| walk_at "ite") => `(tactic| k_extra "z24")
local macro_rules | `(tactic| walk_at "WhileStep2 ret") => `(tactic| k_extra "z31")
local macro_rules | `(tactic| walk_at "subscriptTail") => `(tactic| k_extra "z19")
local macro_rules | `(tactic| walk_at "call ref") => `(tactic| k_extra "z33")
local macro_rules | `(tactic| walk_at "call ref") => `(tactic| k_extra "z39")
local macro_rules | `(tactic| walk_at "call ref") => `(tactic| k_extra "z40")
local macro_rules | `(tactic| walk_at "call ref") => `(tactic| k_extra "z41")
theorem at_tail {D : Array UInt8} {p : Int} {c : Int} {l : List Int} (h : At D p (c :: l)) (hp : 0 ≤ p) : At D (p + 1) l := fun i hi => by
  have := h (i + 1) (by rw [List.length_cons]; omega)
  rw [show (p + ((i + 1 : Nat) : Int)) = p + 1 + (i : Int) by omega] at this
  simpa using this
theorem at_head {D : Array UInt8} {p : Int} {c : Int} {l : List Int} (h : At D p (c :: l)) : (KBw.bInts D)[p.toNat]? = some c := by
  have := h 0 (by simp)
  simpa using this
theorem hex_head {l : List Int} {k : Nat} (hk : l.length = 2 * k) (hk0 : 0 < k) (hhex : ∀ c ∈ l, 48 ≤ c ∧ c ≤ 70 ∧ (c ≤ 57 ∨ 65 ≤ c)) : ∃ c r, l = c :: r ∧ 48 ≤ c ∧ c < 256 ∧ c ≠ 60 := by
  cases l with
  | nil => simp at hk; omega
  | cons c r =>
    obtain ⟨a, b, g⟩ := hhex c (.head _)
    exact ⟨c, r, rfl, a, by omega, by omega⟩
theorem delimited_token_tells (x d : Addr) (D : Array UInt8) (tD k1 k2 k3 tp te : Tok) (p e : Int) (rest : List (Addr × Obj)) (hxd : @Ne Nat x d) (hr : ∀ q ∈ rest, q.1 ≠ d) (hz : D.size ≤ 4096) (he : e = D.size) (hp : 0 ≤ p) (at_ : Int) (ta tc : Tok) (l : List Int) (hl : At D p (60 :: (l ++ [62]))) (hpe : p + 1 + l.length < e) (hll : l.length ≤ 64) (k : Nat) (hk : l.length = 2 * k) (hk0 : 0 < k) (hhex : ∀ c ∈ l, 48 ≤ c ∧ c ≤ 70 ∧ (c ≤ 57 ∨ 65 ≤ c)) :
    TellsN 30 120 378 [.ref x, .int 60 tc, .int at_ ta] (fun w => (x, instObj 199 d) :: (d, curD w D tD k1 k2 k3 p tp e te) :: rest) (BackT x d D tD k1 k2 k3 (p + 1 + l.length + 1) e te rest (Str.ofString "hex") (fun t => .bytes (byteArr ((List.range k).map (hexPair l))) t) at_) := by
  have h60 := at_head hl
  have hl1 := at_tail hl hp
  obtain ⟨c1, r1, hlc, hc1, hc2, hc3⟩ := hex_head hk hk0 hhex
  have hcc : (KBw.bInts D)[(p + 1).toNat]? = some c1 := at_head (l := r1 ++ [62]) (by rw [hlc] at hl1; exact hl1)
  have hp1 : p + 1 < e := by omega
  unfold TellsN BackT
  intros
  rename_i hret
  have hMk := kstMark
  refine wpAny_call ?_
  k_dflt k_enter
  k_steps
  exact hret _ _ _ _ _ _ _ (by assumption) (by assumption) (by assumption)
local macro_rules | `(tactic| walk_at "call ref") => `(tactic| k_extra "z42")
local macro_rules | `(tactic| walk_at "call ref") => `(tactic| k_extra "z43")
local macro_rules | `(tactic| walk_at "call ref") => `(tactic| k_extra "z44")
local macro_rules | `(tactic| walk_at "call ref") => `(tactic| k_extra "z45")
local macro_rules | `(tactic| walk_at "call ref") => `(tactic| k_extra "z46")
local macro_rules | `(tactic| walk_at "call ref") => `(tactic| k_extra "z47")
local macro_rules | `(tactic| walk_at "call ref") => `(tactic| k_extra "z48")
theorem next_hex (x d : Addr) (D : Array UInt8) (tD k1 k2 k3 tp te : Tok) (p e : Int) (rest : List (Addr × Obj)) (hxd : @Ne Nat x d) (hr : ∀ q ∈ rest, q.1 ≠ d) (hz : D.size ≤ 4096) (he : e = D.size) (hp : 0 ≤ p) (l : List Int) (hl : At D p (60 :: (l ++ [62]))) (hpe : p + 1 + l.length < e) (hll : l.length ≤ 64) (k : Nat) (hk : l.length = 2 * k) (hk0 : 0 < k) (hhex : ∀ c ∈ l, 48 ≤ c ∧ c ≤ 70 ∧ (c ≤ 57 ∨ 65 ≤ c)) :
    TellsN 34 140 385 [.ref x] (fun w => (x, instObj 199 d) :: (d, curD w D tD k1 k2 k3 p tp e te) :: rest) (BackT x d D tD k1 k2 k3 (p + 1 + l.length + 1) e te rest (Str.ofString "hex") (fun t => .bytes (byteArr ((List.range k).map (hexPair l))) t) p) := by
  have h60 := at_head hl
  have hp1 : p < e := by omega
  unfold TellsN BackT
  intros
  rename_i hret
  have hMk := kstMark
  refine wpAny_call ?_
  k_dflt k_enter
  k_steps
  exact hret _ _ _ _ _ _ _ (by assumption) (by assumption) (by assumption)
theorem next_hex_sp (x d : Addr) (D : Array UInt8) (tD k1 k2 k3 tp te : Tok) (p e : Int) (rest : List (Addr × Obj)) (hxd : @Ne Nat x d) (hr : ∀ q ∈ rest, q.1 ≠ d) (hz : D.size ≤ 4096) (he : e = D.size) (hp : 0 ≤ p) (h32 : (KBw.bInts D)[p.toNat]? = some 32) (l : List Int) (hl : At D (p + 1) (60 :: (l ++ [62]))) (hpe : p + 1 + 1 + l.length < e) (hll : l.length ≤ 64) (k : Nat) (hk : l.length = 2 * k) (hk0 : 0 < k) (hhex : ∀ c ∈ l, 48 ≤ c ∧ c ≤ 70 ∧ (c ≤ 57 ∨ 65 ≤ c)) :
    TellsN 34 140 385 [.ref x] (fun w => (x, instObj 199 d) :: (d, curD w D tD k1 k2 k3 p tp e te) :: rest) (BackT x d D tD k1 k2 k3 (p + 1 + 1 + l.length + 1) e te rest (Str.ofString "hex") (fun t => .bytes (byteArr ((List.range k).map (hexPair l))) t) (p + 1)) := by
  have h60 := at_head hl
  have hp1 : p + 1 < e := by omega
  unfold TellsN BackT
  intros
  rename_i hret
  have hMk := kstMark
  refine wpAny_call ?_
  k_dflt k_enter
  k_steps
  exact hret _ _ _ _ _ _ _ (by assumption) (by assumption) (by assumption)
theorem next_word (x d : Addr) (D : Array UInt8) (tD k1 k2 k3 tp te : Tok) (p e : Int) (rest : List (Addr × Obj)) (hxd : @Ne Nat x d) (hr : ∀ q ∈ rest, q.1 ≠ d) (hz : D.size ≤ 4096) (he : e = D.size) (hp : 0 ≤ p) (c : Int) (l : List Int) (hl : At D p (c :: l)) (hlet : ∀ x ∈ c :: l, 97 ≤ x ∧ x ≤ 122) (hend : p + (c :: l).length = e ∨ (p + (c :: l).length < e ∧ (KBw.bInts D)[(p + (c :: l).length).toNat]? = some 32)) :
    TellsN 34 140 385 [.ref x] (fun w => (x, instObj 199 d) :: (d, curD w D tD k1 k2 k3 p tp e te) :: rest) (BackT x d D tD k1 k2 k3 (p + (c :: l).length) e te rest (Str.ofString "word") (fun t => .bytes (byteArr (c :: l)) t) p) := by
  have hcc := at_head hl
  obtain ⟨ha, hb⟩ := hlet c (.head _)
  have hlen : (c :: l).length = l.length + 1 := rfl
  have hp1 : p < e := by omega
  have hc48 : 48 ≤ c := by omega
  unfold TellsN BackT
  intros
  rename_i hret
  have hMk := kstMark
  refine wpAny_call ?_
  k_dflt k_enter
  k_steps
  exact hret _ _ _ _ _ _ _ (by assumption) (by assumption) (by assumption)
theorem next_word_sp (x d : Addr) (D : Array UInt8) (tD k1 k2 k3 tp te : Tok) (p e : Int) (rest : List (Addr × Obj)) (hxd : @Ne Nat x d) (hr : ∀ q ∈ rest, q.1 ≠ d) (hz : D.size ≤ 4096) (he : e = D.size) (hp : 0 ≤ p) (h32 : (KBw.bInts D)[p.toNat]? = some 32) (c : Int) (l : List Int) (hl : At D (p + 1) (c :: l)) (hlet : ∀ x ∈ c :: l, 97 ≤ x ∧ x ≤ 122) (hend : p + 1 + (c :: l).length = e ∨ (p + 1 + (c :: l).length < e ∧ (KBw.bInts D)[(p + 1 + (c :: l).length).toNat]? = some 32)) :
    TellsN 34 140 385 [.ref x] (fun w => (x, instObj 199 d) :: (d, curD w D tD k1 k2 k3 p tp e te) :: rest) (BackT x d D tD k1 k2 k3 (p + 1 + (c :: l).length) e te rest (Str.ofString "word") (fun t => .bytes (byteArr (c :: l)) t) (p + 1)) := by
  have hcc := at_head hl
  obtain ⟨ha, hb⟩ := hlet c (.head _)
  have hlen : (c :: l).length = l.length + 1 := rfl
  have hp1 : p + 1 < e := by omega
  have hc48 : 48 ≤ c := by omega
  unfold TellsN BackT
  intros
  rename_i hret
  have hMk := kstMark
  refine wpAny_call ?_
  k_dflt k_enter
  k_steps
  exact hret _ _ _ _ _ _ _ (by assumption) (by assumption) (by assumption)
theorem next_end (x d : Addr) (D : Array UInt8) (tD k1 k2 k3 tp te : Tok) (p e : Int) (rest : List (Addr × Obj)) (hxd : @Ne Nat x d) (hr : ∀ q ∈ rest, q.1 ≠ d) (hz : D.size ≤ 4096) (he : e = D.size) (hp : 0 ≤ p) (hpe : p = e) :
    TellsN 34 140 385 [.ref x] (fun w => (x, instObj 199 d) :: (d, curD w D tD k1 k2 k3 p tp e te) :: rest) (BackT x d D tD k1 k2 k3 p e te rest (Str.ofString "end") (fun t => .bytes #[] t) p) := by
  unfold TellsN BackT
  intros
  rename_i hret
  have hMk := kstMark
  refine wpAny_call ?_
  k_dflt k_enter
  k_steps
  exact hret _ _ _ _ _ _ _ (by assumption) (by assumption) (by assumption)
end
section
open PySem PySem.W PyProof.Rows
set_option Elab.async false
set_option maxRecDepth 100000
set_option maxHeartbeats 400000
open PySem.Calls PySem.Spec
def endw : List Int := [101, 110, 100, 99, 111, 100, 101, 115, 112, 97, 99, 101, 114, 97, 110, 103, 101]
/-- what stands behind the first token of a part -/
def flatEnd : List (List Int × List Int) → List Int
  | [] => 32 :: endw
  | q :: r => 32 :: 60 :: (q.1 ++ 62 :: 60 :: (q.2 ++ 62 :: flatEnd r))
abbrev pairsOf (k : Nat) (l : List Int) : List Int := (List.range k).map (hexPair l)
abbrev rowObj (n a b : Int) (t1 t2 t3 : Tok) : Obj := { cls := .type "tuple", data := .seq [Value.int n t1, Value.int a t2, Value.int b t3].toArray }
def SpRows (k : Nat) (vs : List Value) (tups : List (Addr × Obj)) (done : List (List Int × List Int)) : Prop :=
  vs.length = done.length ∧ ∀ (i : Nat) (q : List Int × List Int), done[i]? = some q → ∃ (a : Addr) (t1 t2 t3 : Tok), vs[i]? = some (Value.ref a) ∧ (a, rowObj k (codeI (pairsOf k q.1)) (codeI (pairsOf k q.2)) t1 t2 t3) ∈ tups
def HexOk (k : Nat) (q : List Int × List Int) : Prop := q.1.length = 2 * k ∧ q.2.length = 2 * k ∧ (∀ c ∈ q.1, 48 ≤ c ∧ c ≤ 70 ∧ (c ≤ 57 ∨ 65 ≤ c)) ∧ (∀ c ∈ q.2, 48 ≤ c ∧ c ≤ 70 ∧ (c ≤ 57 ∨ 65 ≤ c)) ∧ ∀ i, i < k → hexPair q.1 i ≤ hexPair q.2 i
/-- the token that is read where todo is still to come, and where the cursor stands then -/
def Flat (D : Array UInt8) (e : Int) (k : Nat) (todo : List (List Int × List Int)) (kind : Str) (v : List Int) (p : Int) : Prop :=
  (todo = [] ∧ kind = Str.ofString "word" ∧ v = endw ∧ p = e) ∨
  (∃ lo hi r, todo = (lo, hi) :: r ∧ kind = Str.ofString "hex" ∧ v = pairsOf k lo ∧ 0 ≤ p ∧ At D p (60 :: (hi ++ 62 :: flatEnd r)) ∧ p + ((60 :: (hi ++ 62 :: flatEnd r) : List Int).length : Int) = e)
def RsJ (w : World) (x d : Addr) (D : Array UInt8) (tD k1 k2 k3 : Tok) (e : Int) (te : Tok) (sp cl ch : Addr) (rest : List (Addr × Obj)) (k : Nat) (cs : List (List Int × List Int)) (m₀ : PySem.Str → Option Value) (n : Nat) (m : PySem.Str → Option Value) (nx : List (Addr × Obj)) : Prop :=
  ∃ (done todo : List (List Int × List Int)) (T : Addr) (t1 t2 t3 tp : Tok) (at_ p : Int) (o1 o2 : Obj) (v1 v2 : Option Value) (vs : List Value) (c : Nat) (tups : List (Addr × Obj)) (kind : Str) (v : List Int),
    (∀ z, m z = if z = Str.ofString "token" then some (.ref T) else m₀ z) ∧
    cs = done ++ todo ∧ n = todo.length ∧ o1.data = .cell v1 ∧ o2.data = .cell v2 ∧ SpRows k vs tups done ∧
    (@LT.lt Nat _ x T ∧ @LT.lt Nat _ d T ∧ @LT.lt Nat _ cl T ∧ @LT.lt Nat _ ch T ∧ @LT.lt Nat _ sp T) ∧ (∀ q ∈ tups, q.1 ≠ d) ∧ (∀ q ∈ tups, q.1 ≠ cl) ∧ (∀ q ∈ tups, q.1 ≠ ch) ∧ (∀ q ∈ tups, q.1 ≠ sp) ∧
    nx = (T, tokObj kind t1 (.bytes (byteArr v) t2) at_ t3) :: (x, instObj 199 d) :: (d, curD w D tD k1 k2 k3 p tp e te) :: (cl, o1) :: (ch, o2) :: (sp, W.listOf vs.toArray c) :: (tups ++ rest) ∧
    Flat D e k todo kind v p
def BackF (x d : Addr) (D : Array UInt8) (tD k1 k2 k3 : Tok) (e : Int) (te : Tok) (rest : List (Addr × Obj)) (k : Nat) (todo : List (List Int × List Int)) (w : World) (h₀ : Heap) (L : Addr) (m : PySem.Str → Option Value) (s : Shared) (Q : Value → Shared → Prop) : Prop :=
  ∀ (T : Addr) (t1 t2 t3 tp' : Tok) (kind : Str) (v : List Int) (at_ p' : Int) (h' : Heap) (tk' : Nat), Flat D e k todo kind v p' → (@LT.lt Nat _ x T ∧ @LT.lt Nat _ d T ∧ AllLt T rest) → Fr h₀ L h' m →
    News h₀ L h' ((T, tokObj kind t1 (.bytes (byteArr v) t2) at_ t3) :: (x, instObj 199 d) :: (d, curD w D tD k1 k2 k3 p' tp' e te) :: rest) → Q (.ref T) { s with heap := h', toks := tk' }
def BackS (x d : Addr) (D : Array UInt8) (tD k1 k2 k3 : Tok) (e : Int) (te : Tok) (sp : Addr) (rest : List (Addr × Obj)) (k : Nat) (cs : List (List Int × List Int)) (w : World) (h₀ : Heap) (L : Addr) (m : PySem.Str → Option Value) (s : Shared) (Q : Value → Shared → Prop) : Prop :=
  ∀ (vs : List Value) (c : Nat) (tups : List (Addr × Obj)) (tp' : Tok) (h' : Heap) (tk' : Nat), SpRows k vs tups cs → (∀ q ∈ tups, q.1 ≠ d) → Fr h₀ L h' m →
    News h₀ L h' ((x, instObj 199 d) :: (d, curD w D tD k1 k2 k3 e tp' e te) :: (sp, W.listOf vs.toArray c) :: (tups ++ rest)) → Q .none { s with heap := h', toks := tk' }
theorem At.sub {D : Array UInt8} {p : Int} {a b : List Int} (h : At D p (a ++ b)) : At D p a := fun i hi => by
  have := h i (by rw [List.length_append]; omega)
  rwa [List.getElem_append_left hi] at this
theorem At.behind {D : Array UInt8} {p : Int} {a b : List Int} (h : At D p (a ++ b)) : At D (p + a.length) b := fun i hi => by
  have := h (a.length + i) (by rw [List.length_append]; omega)
  rw [show (p + ((a.length + i : Nat) : Int)) = p + (a.length : Int) + (i : Int) by omega, List.getElem_append_right (by omega)] at this
  simpa using this
theorem next_flat (x d : Addr) (D : Array UInt8) (tD k1 k2 k3 tp te : Tok) (p e : Int) (rest : List (Addr × Obj)) (hxd : @Ne Nat x d) (hr : ∀ q ∈ rest, q.1 ≠ d) (hz : D.size ≤ 4096) (he : e = D.size) (hp : 0 ≤ p) (k : Nat) (hk0 : 0 < k) (hk4 : k ≤ 4) (todo : List (List Int × List Int)) (hok : ∀ q ∈ todo, HexOk k q) (hl : At D p (flatEnd todo)) (hpe : p + ((flatEnd todo).length : Int) = e) :
    TellsN 34 140 385 [.ref x] (fun w => (x, instObj 199 d) :: (d, curD w D tD k1 k2 k3 p tp e te) :: rest) (BackF x d D tD k1 k2 k3 e te rest k todo) := by
  cases todo with
  | nil =>
    have h1 : At D (p + 1) endw := at_tail hl hp
    have h2 := at_head hl
    have hle : (flatEnd []).length = 18 := rfl
    have hlw : (endw).length = 17 := rfl
    rw [hle] at hpe
    have tw := next_word_sp x d D tD k1 k2 k3 tp te p e rest hxd hr hz he hp h2 101 [110, 100, 99, 111, 100, 101, 115, 112, 97, 99, 101, 114, 97, 110, 103, 101] h1 (by decide) (.inl (by show p + 1 + ((17 : Nat) : Int) = e; omega))
    unfold TellsN BackF
    intros
    rename_i hret
    refine tw _ _ _ _ _ _ _ _ _ _ _ _ _ _ _ _ _ _ _ _ _ (by assumption) (by assumption) (by assumption) (by assumption) (by assumption) (by assumption) (by assumption) (by assumption) ?_
    intro T t1 t2 t3 tp' h' tk' hT F N
    exact hret T t1 t2 t3 tp' _ endw _ _ h' tk' (.inl ⟨rfl, rfl, rfl, by show p + 1 + ((17 : Nat) : Int) = e; omega⟩) hT F N
  | cons q r =>
    obtain ⟨lo, hi⟩ := q
    obtain ⟨ha, hb, hc, hd, he'⟩ := hok _ (.head _)
    dsimp only at ha hb hc hd he'
    have h1 : At D (p + 1) (60 :: (lo ++ 62 :: 60 :: (hi ++ 62 :: flatEnd r))) := at_tail hl hp
    have h2 := at_head hl
    have h3 : At D (p + 1) (60 :: (lo ++ [62])) := by
      have e1 : (60 :: (lo ++ 62 :: 60 :: (hi ++ 62 :: flatEnd r)) : List Int) = (60 :: (lo ++ [62])) ++ (60 :: (hi ++ 62 :: flatEnd r)) := by simp
      rw [e1] at h1
      exact h1.sub
    have h4 : At D (p + 1 + 1 + lo.length + 1) (60 :: (hi ++ 62 :: flatEnd r)) := by
      have e1 : (60 :: (lo ++ 62 :: 60 :: (hi ++ 62 :: flatEnd r)) : List Int) = (60 :: (lo ++ [62])) ++ (60 :: (hi ++ 62 :: flatEnd r)) := by simp
      rw [e1] at h1
      have := h1.behind
      rw [show (p + 1 + (((60 :: (lo ++ [62]) : List Int).length : Nat) : Int)) = p + 1 + 1 + lo.length + 1 by simp only [List.length_cons, List.length_append, List.length_nil]; omega] at this
      exact this
    have hlen : (flatEnd ((lo, hi) :: r)).length = 2 + lo.length + 1 + ((60 :: (hi ++ 62 :: flatEnd r) : List Int).length) := by
      show (32 :: 60 :: (lo ++ 62 :: 60 :: (hi ++ 62 :: flatEnd r)) : List Int).length = _
      simp only [List.length_cons, List.length_append]
      omega
    have hpos : 0 < (60 :: (hi ++ 62 :: flatEnd r) : List Int).length := by simp
    have tw := next_hex_sp x d D tD k1 k2 k3 tp te p e rest hxd hr hz he hp h2 lo h3 (by omega) (by omega) k ha hk0 hc
    unfold TellsN BackF
    intros
    rename_i hret
    refine tw _ _ _ _ _ _ _ _ _ _ _ _ _ _ _ _ _ _ _ _ _ (by assumption) (by assumption) (by assumption) (by assumption) (by assumption) (by assumption) (by assumption) (by assumption) ?_
    intro T t1 t2 t3 tp' h' tk' hT F N
    exact hret T t1 t2 t3 tp' _ (pairsOf k lo) _ _ h' tk' (.inr ⟨lo, hi, r, rfl, rfl, rfl, by omega, h4, by omega⟩) hT F N
end
section
open PySem PySem.W PyProof.Rows
set_option Elab.async false
set_option maxRecDepth 100000
set_option maxHeartbeats 4000000
open PySem.Calls PySem.Spec
theorem reset_T13 {prog : Program} {w : World} {A : Around} {env : Env} {Q : Flow → Shared → Prop} {E : Value → Shared → Prop} {s : Shared} (h : Q .next s) : wpAny (model prog w) A (execs [] env) Q E s := by
  w_top off
  k_with_none
  k_with "z6" => ((refine' code_def ?k1 ?k2 ?k3 ?k4 ?k5 ?kA ?kF ?kK ?k6 ?k7 ?k8 ?k9 ?kB ?_ ?c2 ?c3 ?c4 ?c5; (case kA => exact rfl); (case kF => exact rfl); (case kK => first | exact rfl | assumption); (case k1 => k_asm); (case k2 => k_asm); (case k3 => k_asm); (case k4 => k_asm); (case k5 => k_asm); (case k6 => k_is); (case k7 => k_is); (case k8 => ktr_room); (case k9 => first | exact BindsTo.of_eq rfl | exact binds_K (by k_in) rfl (by k_is) rfl rfl rfl | fail "k_enter: no rule for these arguments"); (case c5 => decide); (case kB => exact locs rfl); (case c2 => exact rfl); (case c3 => exact rfl); (case c4 => exact rfl); k_whole; intro g' L' h' FG' F' N' B' X' T'; (try dsimp only); (try k_lift B'); (try k_fold)))
  k_with "z9" => (first | (refine eqN (by omega) ?_) | (refine eqY (by omega) ?_))
  k_with "z10" => (first | (refine neN (by omega) ?_) | (refine neY (by omega) ?_))
  k_with "z11" => (first | (refine ltY (by omega) ?_) | (refine ltN (by omega) ?_))
  k_with "z12" => (first | (refine gtY (by omega) ?_) | (refine gtN (by omega) ?_))
  k_with "z13" => (first | (refine leY (by omega) ?_) | (refine leN (by omega) ?_))
  k_with "z14" => (first | (refine geY (by omega) ?_) | (refine geN (by omega) ?_))
  k_with "z15" => ((k_dflt (first | (refine' notInN (tupK ?kX ?kL) ?kI ?kE ?_; (case kX => k_in); (case kL => k_is); (case kI => (repeat constructor)); (case kE => rfl)) | (refine' notInY (tupK ?kX ?kL) ?kI ?kE ?_; (case kX => k_in); (case kL => k_is); (case kI => (repeat constructor)); (case kE => (repeat (first | exact any_no_nil | (refine any_no_cons (by omega) ?_))))))))
  k_with "z16" => ((k_dflt (first | (refine' inY (tupK ?kX ?kL) ?kI ?kE ?_; (case kX => k_in); (case kL => k_is); (case kI => (repeat constructor)); (case kE => rfl)) | (refine' inN (tupK ?kX ?kL) ?kI ?kE ?_; (case kX => k_in); (case kL => k_is); (case kI => (repeat constructor)); (case kE => (repeat (first | exact any_no_nil | (refine any_no_cons (by omega) ?_))))))))
  k_with "z17" => ((k_dflt (refine whl_start 3 ?_)))
  k_with "z18" => (((with_reducible show wpAny _ _ (subscriptTail _ _ (Value.bytes _ _) (Value.int _ _)) _ _ _); refine bytes_at (by first | assumption | (rw [Int.add_zero]; assumption)) (by omega) (by assumption) ?_; intro _ _))
  k_with "z29" => ((refine' code_defC ?k1 ?k2 ?k3 ?k4 ?k5 ?kA ?kF ?kK ?k6 ?k7 ?k8 ?k9 ?kB ?kD ?_ ?c2 ?c3 ?c4; (case kA => exact rfl); (case kF => exact rfl); (case kK => first | exact rfl | assumption); (case k1 => k_asm); (case k2 => k_asm); (case k3 => k_asm); (case k4 => k_asm); (case k5 => k_asm); (case k6 => k_is); (case k7 => k_is); (case k8 => ktr_room); (case k9 => first | exact BindsTo.of_eq rfl | exact binds_K (by k_in) rfl (by k_is) rfl rfl rfl | fail "k_enter: no rule for these arguments"); (case kB => exact rfl); (case kD => decide +kernel); (case c2 => exact rfl); (case c3 => exact rfl); (case c4 => exact rfl); k_whole; intro g' L' h' tk' cells' FG' F' N' Y' B' X' T' l1; (try k_lt l1); (try (obtain ⟨l1a, l1b, l1c⟩ := l1)); k_cells Y'; (try simp only [List.cons_append, List.nil_append] at N'); (try dsimp only); (try k_lift B'); (try k_fold)))
  k_with "z30" => ((rename AllLt _ _ => h1; first | exact allNe_of h1 (by omega) | (clear h1; rename AllLt _ _ => h2; first | exact allNe_of h2 (by omega) | (clear h2; rename AllLt _ _ => h3; exact allNe_of h3 (by omega)))))
  k_with "z24" => (first | (refine ite_neg Bool.false_ne_true ?_) | (refine ite_pos rfl ?_))
  k_with "z31" => ((dsimp only [WhileStep2]))
  k_with "z19" => (((with_reducible show wpAny _ _ (subscriptTail _ (Expr.Slice (some _) (some _) none _) (Value.bytes _ _) (Value.ref _)) _ _ _); (with_reducible rename Fr _ _ _ _ => F'); (with_reducible rename News _ _ _ _ => N'); (refine bytes_cut_gen (s := ⟨_, _, _, _, _⟩) F' N' (by assumption) (by omega) (by omega) (by omega) ?_); intro _ _ _ _ _))
  k_with "z49" => (((with_reducible show wpAny _ _ (call (Value.ref 385) _) _ _ _); k_dflt (refine' TellsN.use (next_flat _ _ _ _ _ _ _ _ _ _ _ _ ?c1 ?c2 ?c3 ?c4 ?c5 _ ?c6 ?c7 _ ?c8 ?c9 ?c10) ?B9 ?F9 ?X9 ?N9 ?T9 ?K9 ?d9 ?u9 ?_; (case B9 => k_asm); (case F9 => k_asm); (case X9 => k_asm); (case N9 => first | k_asm | exact rot1 (by k_asm) | exact rot2 (by k_asm) | exact rot3 (by k_asm) | exact rot4 (by k_asm)); (case T9 => k_asm); (case K9 => first | exact rfl | assumption); (case d9 => ktr_room); (case u9 => ktr_units); (case c1 => first | assumption | omega); (case c2 => k_all); (case c3 => first | assumption | omega); (case c4 => first | assumption | omega); (case c5 => first | assumption | omega); (case c6 => first | assumption | omega); (case c7 => first | assumption | omega); (case c8 => first | assumption | omega); (case c9 => first | assumption | omega); (case c10 => first | assumption | omega)); (dsimp only [BackF, curD, tokObj]); intro T9 t9 u9 v9 tp9 kd9 vl9 at9 p9 h9 tk9 FL9 L9 F9 N9; (try simp only [AllLt, and_true] at L9); (try dsimp only); (try k_fold)))
  k_with "z50" => (((with_reducible show wpAny _ _ (call (Value.ref 385) _) _ _ _); k_dflt (refine' TellsN.use (next_hex _ _ _ _ _ _ _ _ _ _ _ _ ?c1 ?c2 ?c3 ?c4 ?c5 _ ?c6 ?c7 ?c8 _ ?c9 ?c10 ?c11) ?B9 ?F9 ?X9 ?N9 ?T9 ?K9 ?d9 ?u9 ?_; (case B9 => k_asm); (case F9 => k_asm); (case X9 => k_asm); (case N9 => first | k_asm | exact rot1 (by k_asm) | exact rot2 (by k_asm) | exact rot3 (by k_asm) | exact rot4 (by k_asm)); (case T9 => k_asm); (case K9 => first | exact rfl | assumption); (case d9 => ktr_room); (case u9 => ktr_units); (case c1 => first | assumption | omega); (case c2 => k_all); (case c3 => first | assumption | omega); (case c4 => first | assumption | omega); (case c5 => first | assumption | omega); (case c6 => first | assumption | omega); (case c7 => first | assumption | omega); (case c8 => first | assumption | omega); (case c9 => first | assumption | omega); (case c10 => first | assumption | omega); (case c11 => first | assumption | omega)); (dsimp only [BackT, curD, tokObj]); intro T9 t9 u9 v9 tp9 h9 tk9 L9 F9 N9; (try simp only [AllLt, and_true] at L9); (try dsimp only); (try k_fold)))
  k_with "z51" => (((with_reducible show wpAny _ _ (call (Value.ref 432) _) _ _ _); k_dflt (refine' Tells.use (code_of_tells _ _ _ ?c1) ?B9 ?F9 ?X9 ?N9 ?T9 ?K9 ?d9 ?u9 ?_; (case B9 => k_asm); (case F9 => k_asm); (case X9 => k_asm); (case N9 => k_asm); (case T9 => k_asm); (case K9 => first | exact rfl | assumption); (case d9 => ktr_room); (case u9 => ktr_units); (case c1 => (rw [byteArr_size, List.length_map, List.length_range]; omega))); (dsimp only [BackV]); intro t9 h9 tk9 F9 N9; (try dsimp only); (try k_fold)))
  k_with "z52" => (((with_reducible show wpAny _ _ (call (Value.builtin "len") [Value.bytes _ _]) _ _ _); refine bytes_len (byteArr_pairs _ _) (by omega) ?_; intro _ _))
  k_with "z53" => ((k_dflt (refine LCt.ListComp_T (F₀ := by k_asm) (by with_unfolding_all rfl) (by decide) (by rfl) (by decide) (by rfl) ?_)))
  walk1
  exact h
section
open PyProof.Rows.LCg PyProof.Rows.LCt
variable {prog : Program} {w : World} {A : Around} {E : Value → Shared → Prop} {s : Shared} {h₀ : Heap} {L : Addr} {m : PySem.Str → Option Value} {env : Env}
theorem restT_none {ct elt : PySem.Expr} {x : PySem.Str} {scope : Scope} {cl : List (PySem.Str × Addr)} {S : List (Addr × Obj) → Prop} {P : Nat → Value → Prop} {Fin : List Value → List (Addr × Obj) → Prop} {n : Nat} {news₀ : List (Addr × Obj)}
    (turn : ∀ i v I oI C oC D m₂ h tk (E' : Value → Shared → Prop), i < n → P i v → NsObj oC m₂ → m₂ x = some v → Fr h₀ L h m → News h₀ L h ((I, oI) :: (C, oC) :: (D, lst []) :: news₀) → Off3 I C D news₀ → ((@Ne Nat I C) ∧ (@Ne Nat I D) ∧ (@Ne Nat C D)) →
      wpAny (model prog w) A (isTrue ct (compEnvC scope cl C env) (eval ct (compEnvC scope cl C env))) (fun ok s' => if ok = true then
        wpAny (model prog w) A (eval elt (compEnvC scope cl C env)) (CompEnd h₀ L m { s with heap := h, toks := tk } I oI C oC D (lst []) S (fun _ _ => False)) E' s'
        else CompEnd h₀ L m { s with heap := h, toks := tk } I oI C oC D (lst []) S (fun _ news' => news' = news₀) Value.none s') E' { s with heap := h, toks := tk })
    (fin : Fin [] news₀) : CompRestT prog w A h₀ L m env ct elt x scope cl s S P Fin n 0 [] news₀ := by
  have key : ∀ (j i : Nat), i + j = n → CompRestT prog w A h₀ L m env ct elt x scope cl s S P Fin j i [] news₀ := by
    intro j
    induction j with
    | zero => exact fun i _ => CompRestT.zero fin
    | succ j ih =>
      intro i hi
      refine CompRestT.succ ?_
      intro v I oI C oC D m₂ h tk E' hv hC hx F N off ne
      refine wpAny_mono (turn i v I oI C oC D m₂ h tk E' (by omega) hv hC hx F N off ne) (fun ok s' hq => ?_) fun _ _ e => e
      cases ok with
      | true =>
        rw [if_pos rfl] at hq ⊢
        exact wpAny_mono hq (fun y s₂ ⟨_, _, _, _, _, _, _, _, h⟩ => h.elim) fun _ _ e => e
      | false =>
        rw [if_neg Bool.false_ne_true] at hq ⊢
        obtain ⟨h', tk', nw, e, F', N', off', hS, rfl⟩ := hq
        exact ⟨h', tk', _, e, F', N', off', hS, ih (i + 1) (by omega)⟩
  exact key n 0 (by omega)
end
theorem byteArr_pairs (k : Nat) (l : List Int) : (byteArr (pairsOf k l)).size = k := by rw [byteArr_size, List.length_map, List.length_range]
local macro_rules | `(tactic| k_enter) => `(tactic| k_extra "z29")
local macro_rules | `(tactic| k_all) => `(tactic| k_extra "z30")
local macro_rules | `(tactic| walk_at "ite") => `(tactic| k_extra "z24")
local macro_rules | `(tactic| walk_at "WhileStep2 ret") => `(tactic| k_extra "z31")
local macro_rules | `(tactic| walk_at "subscriptTail") => `(tactic| k_extra "z19")
local macro_rules | `(tactic| walk_at "call ref") => `(tactic| k_extra "z49")
local macro_rules | `(tactic| walk_at "call ref") => `(tactic| k_extra "z50")
local macro_rules | `(tactic| walk_at "call ref") => `(tactic| k_extra "z51")
local macro_rules | `(tactic| walk_at "call builtin:len") => `(tactic| k_extra "z52")
theorem flat_step {D : Array UInt8} {p e : Int} {hi : List Int} {r : List (List Int × List Int)} (hp : 0 ≤ p) (h : At D p (60 :: (hi ++ 62 :: flatEnd r))) (he : p + ((60 :: (hi ++ 62 :: flatEnd r) : List Int).length : Int) = e) :
    At D p (60 :: (hi ++ [62])) ∧ At D (p + 1 + hi.length + 1) (flatEnd r) ∧ p + 1 + hi.length < e ∧ p + 1 + hi.length + 1 + ((flatEnd r).length : Int) = e := by
  have e1 : (60 :: (hi ++ 62 :: flatEnd r) : List Int) = (60 :: (hi ++ [62])) ++ flatEnd r := by simp
  rw [e1] at h he
  have h2 := h.behind
  have hle : (60 :: (hi ++ [62]) : List Int).length = hi.length + 2 := by simp
  rw [List.length_append, hle] at he
  rw [hle, show (p + ((hi.length + 2 : Nat) : Int)) = p + 1 + hi.length + 1 by omega] at h2
  exact ⟨h.sub, h2, by omega, by omega⟩
theorem pair_at (k : Nat) (l : List Int) (i : Nat) (hi : i < k) (h : ∀ c ∈ l, 48 ≤ c ∧ c ≤ 70 ∧ (c ≤ 57 ∨ 65 ≤ c)) : (KBw.bInts (byteArr (pairsOf k l)))[((0 : Int) + (i : Int)).toNat]? = some (hexPair l i) := by
  rw [bInts_byteArr (hexPair_in h k), show ((0 : Int) + (i : Int)).toNat = i by omega, List.getElem?_map, List.getElem?_range hi]
  rfl
local macro_rules | `(tactic| walk_at "eval ListComp Name cons") => `(tactic| k_extra "z53")
theorem reo {h₀ : Heap} {L : Addr} {h : Heap} {a b c t e f g i j s : Addr × Obj} {r : List (Addr × Obj)} (N : News h₀ L h (a :: b :: c :: t :: e :: f :: g :: i :: j :: s :: r)) : News h₀ L h (a :: b :: c :: i :: j :: s :: t :: r) := fun p hp => N p (by
  simp only [List.mem_cons] at hp ⊢; rcases hp with h | h | h | h | h | h | h | h <;> simp [h])
theorem pick6 {h₀ : Heap} {L : Addr} {h : Heap} {a b c e f g : Addr × Obj} {r : List (Addr × Obj)} (N : News h₀ L h (a :: b :: c :: e :: f :: g :: r)) : News h₀ L h (b :: c :: g :: r) := fun p hp => N p (by
  simp only [List.mem_cons] at hp ⊢; rcases hp with h | h | h | h <;> simp [h])
theorem sp_step {k : Nat} {vs : List Value} {tups : List (Addr × Obj)} {done : List (List Int × List Int)} {lo hi : List Int} {a : Addr} {t1 t2 t3 : Tok} (h : SpRows k vs tups done) :
    SpRows k (vs ++ [Value.ref a]) ((a, rowObj k (codeI (pairsOf k lo)) (codeI (pairsOf k hi)) t1 t2 t3) :: tups) (done ++ [(lo, hi)]) := by
  refine ⟨by simp [h.1], fun i q hq => ?_⟩
  by_cases hi' : i < done.length
  · rw [List.getElem?_append_left hi'] at hq
    obtain ⟨b, u1, u2, u3, e1, e2⟩ := h.2 i q hq
    exact ⟨b, u1, u2, u3, by rw [List.getElem?_append_left (by rw [h.1]; exact hi')]; exact e1, .tail _ e2⟩
  · rw [List.getElem?_append_right (by omega)] at hq
    have hlt := (List.getElem?_eq_some_iff.mp hq).1
    simp only [List.length_cons, List.length_nil] at hlt
    have h0 : i - done.length = 0 := by omega
    rw [h0] at hq
    cases hq
    refine ⟨a, t1, t2, t3, ?_, .head _⟩
    rw [List.getElem?_append_right (by rw [h.1]; omega), h.1, h0]
    rfl
theorem read_spaces_tells (x d : Addr) (D : Array UInt8) (tD k1 k2 k3 tp te : Tok) (p e : Int) (rest : List (Addr × Obj)) (hxd : @Ne Nat x d) (hr : ∀ q ∈ rest, q.1 ≠ d) (hz : D.size ≤ 4096) (he : e = D.size) (hp : 0 ≤ p) (sp : Addr) (hsx : @Ne Nat sp x) (hsd : @Ne Nat sp d) (hrs : ∀ q ∈ rest, q.1 ≠ sp) (k : Nat) (hk0 : 0 < k) (hk4 : k ≤ 4) (cs : List (List Int × List Int)) (hcs64 : cs.length ≤ 64) (hok : ∀ q ∈ cs, HexOk k q)
    (hl : At D p (flatEnd cs)) (hpe : p + ((flatEnd cs).length : Int) = e) :
    TellsN 44 180 470 [.ref x, .ref sp] (fun w => (x, instObj 199 d) :: (d, curD w D tD k1 k2 k3 p tp e te) :: (sp, W.listOf #[] 0) :: rest) (BackS x d D tD k1 k2 k3 e te sp rest k cs) := by
  unfold TellsN BackS
  intros
  rename_i hret
  have hMk := kstMark
  refine wpAny_call ?_
  k_dflt k_enter
  k_with "exec While UnaryOp cons nil" => (
    (rename Fr _ _ _ _ => lF); (rename News _ _ _ _ => lN); (rename Flat _ _ _ _ _ _ _ => lFl);
    (rename (_ ∧ _ ∧ _ ∧ _ ∧ _ ∧ AllLt _ _) => l9); obtain ⟨l9a, l9b, l9c, l9d, l9e, l9f⟩ := l9; (rename (_ ∧ AllLt _ _) => l8); obtain ⟨l8a, l8b⟩ := l8;
    refine While_inv2 (RsJ _ x d D tD k1 k2 k3 e te sp _ _ rest k cs _) (n₀ := cs.length) lF lN
      ⟨[], cs, _, _, _, _, _, _, _, _, _, _, _, [], 0, [], _, _, fun z => rfl, rfl, rfl, by assumption, by assumption, ⟨rfl, fun i q h => by simp at h⟩, ⟨l9a, l9b, l9c, l9d, l9e⟩, fun _ h => by simp at h, fun _ h => by simp at h, fun _ h => by simp at h, fun _ h => by simp at h, rfl, lFl⟩ ?_;
    (rintro n m₁ nx h tk F₁ N₁ ⟨done, todo, T, t1, t2, t3, tp', at_, p', o1, o2, v1, v2, vs, c9, tups, kind, v, hm, hcs, rfl, ho1, ho2, hrows, ⟨m1, m2, m3, m4, m5⟩, htd, htc, hth, hts, rfl, hfl⟩;
     have F₂ := fr_same F₁ hm; clear F₁ lF lN hm lFl; have hvl := hrows.1; have hcl := congrArg List.length hcs; rw [List.length_append] at hcl;
     rcases hfl with ⟨rfl, rfl, rfl, rfl⟩ | ⟨lo, hi, r, rfl, rfl, rfl, hp0, hat, hpe2⟩);
    rotate_left;
    (rw [List.length_cons] at hcl; have hfs := flat_step hp0 hat hpe2; obtain ⟨hA, hB, hlt1, hlt2⟩ := hfs; have hokq := hok (lo, hi) (by (rw [hcs]; simp)); have hokr : ∀ q ∈ r, HexOk k q := (fun q hq => hok q (by (rw [hcs]; simp [hq])));
     obtain ⟨q1, q2, q3, q4, q5⟩ := hokq; dsimp only at q1 q2 q3 q4 q5; have hll : hi.length ≤ 64 := (by omega); have hp9 : 0 ≤ p' + 1 + (hi.length : Int) + 1 := (by omega)))
  k_with "CompSrcT" => (
    refine LCt.CompSrcT.range (by rfl) (by k_asm) (by k_asm) (by assumption) (small_one (by omega) (by omega) (by omega) (by omega)) (rangeSize_nat _ _) (by (rw [sizeLine_eq]; omega)) ?_;
    intro g;
    refine restT_none ?_ ?_;
    (rintro i v I oI C oC D9 m₂ h tk E' hik ⟨t, rfl⟩ hC hx F N off ne;
     have hA9 := pair_at k lo i (by omega) q3; have hB9 := pair_at k hi i (by omega) q4; have hq5 := q5 i (by omega);
     have hz1 : (byteArr (pairsOf k lo)).size ≤ 4096 := (by (rw [byteArr_pairs]; omega)); have hz2 : (byteArr (pairsOf k hi)).size ≤ 4096 := (by (rw [byteArr_pairs]; omega));
     have off0 := off; simp only [LCg.Off3, and_true] at off); rotate_left;
    (intro D9 h tk F N off; simp only [LCg.Off1, and_true] at off);
    all_goals (try k_fold))
  k_steps
  · rename Fr _ _ _ _ => F₃
    rename News _ _ _ _ => N₃
    rename Flat _ _ _ _ _ _ _ => FL₃
    have hb1 : KBw.bInts (byteArr (pairsOf k lo)) = pairsOf k lo := bInts_byteArr (hexPair_in q3 k)
    have hb2 : KBw.bInts (byteArr (pairsOf k hi)) = pairsOf k hi := bInts_byteArr (hexPair_in q4 k)
    simp only [hb1, hb2, List.push_toArray] at N₃
    refine ⟨_, _, _, _, r.length, rfl, F₃, reo N₃, by simp, done ++ [(lo, hi)], r, _, _, _, _, _, _, _, _, _, _, _, _, c9 + 1, _ :: tups, _, _, fun z => ?_, by simp [hcs], rfl, by assumption, by assumption, sp_step hrows, ⟨?_, ?_, ?_, ?_, ?_⟩, List.forall_mem_cons.mpr ⟨?_, htd⟩, List.forall_mem_cons.mpr ⟨?_, htc⟩, List.forall_mem_cons.mpr ⟨?_, hth⟩, List.forall_mem_cons.mpr ⟨?_, hts⟩, rfl, FL₃⟩
    · by_cases h : z = Str.ofString "token" <;> simp [h]
    all_goals (first | omega | (refine PySem.W.neN ?_; dsimp only; omega))
  · rename Fr _ _ _ _ => F₃
    rename News _ _ _ _ => N₃
    exact LCg.CompEnd.intro F₃ N₃ _ (fun q hq => hq) off0 trivial rfl
  · rename Fr _ _ _ _ => F₃
    rename News _ _ _ _ => N₃
    rw [List.append_nil] at hcs
    subst hcs
    exact hret vs _ tups _ _ _ hrows htd F₃ (pick6 N₃)
end
section
open PySem PySem.W PyProof.Rows
set_option Elab.async false
set_option maxRecDepth 100000
set_option maxHeartbeats 2000000
open PySem.Calls PySem.Spec
theorem reset_T14 {prog : Program} {w : World} {A : Around} {env : Env} {Q : Flow → Shared → Prop} {E : Value → Shared → Prop} {s : Shared} (h : Q .next s) : wpAny (model prog w) A (execs [] env) Q E s := by
  w_top off
  k_with_none
  k_with "z6" => ((refine' code_def ?k1 ?k2 ?k3 ?k4 ?k5 ?kA ?kF ?kK ?k6 ?k7 ?k8 ?k9 ?kB ?_ ?c2 ?c3 ?c4 ?c5; (case kA => exact rfl); (case kF => exact rfl); (case kK => first | exact rfl | assumption); (case k1 => k_asm); (case k2 => k_asm); (case k3 => k_asm); (case k4 => k_asm); (case k5 => k_asm); (case k6 => k_is); (case k7 => k_is); (case k8 => ktr_room); (case k9 => first | exact BindsTo.of_eq rfl | exact binds_K (by k_in) rfl (by k_is) rfl rfl rfl | fail "k_enter: no rule for these arguments"); (case c5 => decide); (case kB => exact locs rfl); (case c2 => exact rfl); (case c3 => exact rfl); (case c4 => exact rfl); k_whole; intro g' L' h' FG' F' N' B' X' T'; (try dsimp only); (try k_lift B'); (try k_fold)))
  k_with "z9" => (first | (refine eqN (by omega) ?_) | (refine eqY (by omega) ?_))
  k_with "z10" => (first | (refine neN (by omega) ?_) | (refine neY (by omega) ?_))
  k_with "z11" => (first | (refine ltY (by omega) ?_) | (refine ltN (by omega) ?_))
  k_with "z12" => (first | (refine gtY (by omega) ?_) | (refine gtN (by omega) ?_))
  k_with "z13" => (first | (refine leY (by omega) ?_) | (refine leN (by omega) ?_))
  k_with "z14" => (first | (refine geY (by omega) ?_) | (refine geN (by omega) ?_))
  k_with "z15" => ((k_dflt (first | (refine' notInN (tupK ?kX ?kL) ?kI ?kE ?_; (case kX => k_in); (case kL => k_is); (case kI => (repeat constructor)); (case kE => rfl)) | (refine' notInY (tupK ?kX ?kL) ?kI ?kE ?_; (case kX => k_in); (case kL => k_is); (case kI => (repeat constructor)); (case kE => (repeat (first | exact any_no_nil | (refine any_no_cons (by omega) ?_))))))))
  k_with "z16" => ((k_dflt (first | (refine' inY (tupK ?kX ?kL) ?kI ?kE ?_; (case kX => k_in); (case kL => k_is); (case kI => (repeat constructor)); (case kE => rfl)) | (refine' inN (tupK ?kX ?kL) ?kI ?kE ?_; (case kX => k_in); (case kL => k_is); (case kI => (repeat constructor)); (case kE => (repeat (first | exact any_no_nil | (refine any_no_cons (by omega) ?_))))))))
  k_with "z17" => ((k_dflt (refine whl_start 3 ?_)))
  k_with "z18" => (((with_reducible show wpAny _ _ (subscriptTail _ _ (Value.bytes _ _) (Value.int _ _)) _ _ _); refine bytes_at (by first | assumption | (rw [Int.add_zero]; assumption)) (by omega) (by assumption) ?_; intro _ _))
  k_with "z30" => ((rename AllLt _ _ => h1; first | exact allNe_of h1 (by omega) | (clear h1; rename AllLt _ _ => h2; first | exact allNe_of h2 (by omega) | (clear h2; rename AllLt _ _ => h3; exact allNe_of h3 (by omega)))))
  k_with "z24" => (first | (refine ite_neg Bool.false_ne_true ?_) | (refine ite_pos rfl ?_))
  k_with "z31" => ((dsimp only [WhileStep2]))
  k_with "z19" => (((with_reducible show wpAny _ _ (subscriptTail _ (Expr.Slice (some _) (some _) none _) (Value.bytes _ _) (Value.ref _)) _ _ _); (with_reducible rename Fr _ _ _ _ => F'); (with_reducible rename News _ _ _ _ => N'); (refine bytes_cut_gen (s := ⟨_, _, _, _, _⟩) F' N' (by assumption) (by omega) (by omega) (by omega) ?_); intro _ _ _ _ _))
  k_with "z54" => (((with_reducible show wpAny _ _ (call (Value.ref 385) _) _ _ _); k_dflt (refine' TellsN.use (next_word _ _ _ _ _ _ _ _ _ _ _ _ ?c1 ?c2 ?c3 ?c4 ?c5 _ _ ?c6 ?c7 ?c8) ?B9 ?F9 ?X9 ?N9 ?T9 ?K9 ?d9 ?u9 ?_; (case B9 => k_asm); (case F9 => k_asm); (case X9 => k_asm); (case N9 => first | k_asm | exact rot1 (by k_asm) | exact rot2 (by k_asm) | exact rot3 (by k_asm) | exact rot4 (by k_asm)); (case T9 => k_asm); (case K9 => first | exact rfl | assumption); (case d9 => ktr_room); (case u9 => ktr_units); (case c1 => first | assumption | omega | fail "side c1"); (case c2 => k_all); (case c3 => first | assumption | omega | fail "side c3"); (case c4 => first | assumption | omega | fail "side c4"); (case c5 => first | assumption | omega | fail "side c5"); (case c6 => first | assumption | omega | fail "side c6"); (case c7 => first | assumption | omega | fail "side c7"); (case c8 => first | assumption | omega | fail "side c8")); (dsimp only [BackT, curD, tokObj]); intro T9 t9 u9 v9 tp9 h9 tk9 L9 F9 N9; (try simp only [AllLt, and_true] at L9); (try dsimp only); (try k_fold)))
  k_with "z55" => (((with_reducible show wpAny _ _ (call (Value.ref 385) _) _ _ _); k_dflt (refine' TellsN.use (next_end _ _ _ _ _ _ _ _ _ _ _ _ ?c1 ?c2 ?c3 ?c4 ?c5 ?c6) ?B9 ?F9 ?X9 ?N9 ?T9 ?K9 ?d9 ?u9 ?_; (case B9 => k_asm); (case F9 => k_asm); (case X9 => k_asm); (case N9 => first | k_asm | exact rot1 (by k_asm) | exact rot2 (by k_asm) | exact rot3 (by k_asm) | exact rot4 (by k_asm)); (case T9 => k_asm); (case K9 => first | exact rfl | assumption); (case d9 => ktr_room); (case u9 => ktr_units); (case c1 => first | assumption | omega | fail "side c1"); (case c2 => k_all); (case c3 => first | assumption | omega | fail "side c3"); (case c4 => first | assumption | omega | fail "side c4"); (case c5 => first | assumption | omega | fail "side c5"); (case c6 => first | assumption | omega | fail "side c6")); (dsimp only [BackT, curD, tokObj]); intro T9 t9 u9 v9 tp9 h9 tk9 L9 F9 N9; (try simp only [AllLt, and_true] at L9); (try dsimp only); (try k_fold)))
  k_with "z56" => (((with_reducible show wpAny _ _ (call (Value.ref 470) _) _ _ _); k_dflt (refine' TellsN.use (read_spaces_tells _ _ _ _ _ _ _ _ _ _ _ _ ?c1 ?c2 ?c3 ?c4 ?c5 _ ?c6 ?c7 ?c8 _ ?c9 ?c10 _ ?c11 ?c12 ?c13 ?c14) ?B9 ?F9 ?X9 ?N9 ?T9 ?K9 ?d9 ?u9 ?_; (case B9 => k_asm); (case F9 => k_asm); (case X9 => k_asm); (case N9 => first | exact rotS (by k_asm)); (case T9 => k_asm); (case K9 => first | exact rfl | assumption); (case d9 => ktr_room); (case u9 => ktr_units); (case c1 => first | assumption | omega | fail "side c1"); (case c2 => k_all); (case c3 => first | assumption | omega | fail "side c3"); (case c4 => first | assumption | omega | fail "side c4"); (case c5 => first | assumption | omega | fail "side c5"); (case c6 => (refine PySem.W.neN ?_; omega)); (case c7 => (refine PySem.W.neN ?_; omega)); (case c8 => k_all); (case c9 => first | assumption | omega | fail "side c9"); (case c10 => first | assumption | omega | fail "side c10"); (case c11 => first | assumption | omega | fail "side c11"); (case c12 => first | assumption | omega | fail "side c12"); (case c13 => first | assumption | omega | fail "side c13"); (case c14 => first | assumption | omega | fail "side c14")); (dsimp only [BackS, curD]); intro vs9 c9 tups9 tp9 h9 tk9 R9 A9 F9 N9; (try dsimp only); (try k_fold)))
  k_with "z57" => (first | (refine eqbY (by decide +kernel) ?_) | (refine eqbN (by decide +kernel) ?_))
  walk1
  exact h
theorem rotS {h₀ : Heap} {L : Addr} {h : Heap} {a b c e f : Addr × Obj} {r : List (Addr × Obj)} (N : News h₀ L h (a :: b :: c :: e :: f :: r)) : News h₀ L h (b :: c :: f :: a :: e :: r) := fun p hp => N p (by
  simp only [List.mem_cons] at hp ⊢; rcases hp with h | h | h | h | h | h <;> simp [h])
def begint : List Int := [101, 103, 105, 110, 99, 111, 100, 101, 115, 112, 97, 99, 101, 114, 97, 110, 103, 101]
def beginw : List Int := 98 :: begint
local macro_rules | `(tactic| k_all) => `(tactic| k_extra "z30")
local macro_rules | `(tactic| walk_at "ite") => `(tactic| k_extra "z24")
local macro_rules | `(tactic| walk_at "WhileStep2 ret") => `(tactic| k_extra "z31")
local macro_rules | `(tactic| walk_at "subscriptTail") => `(tactic| k_extra "z19")
local macro_rules | `(tactic| walk_at "call ref") => `(tactic| k_extra "z54")
local macro_rules | `(tactic| walk_at "call ref") => `(tactic| k_extra "z55")
local macro_rules | `(tactic| walk_at "call ref") => `(tactic| k_extra "z56")
local macro_rules | `(tactic| walk_at "compareOp Eq bytes bytes") => `(tactic| k_extra "z57")
theorem pickM {h₀ : Heap} {L : Addr} {h : Heap} {a b c e f g i j : Addr × Obj} {r tu : List (Addr × Obj)} (N : News h₀ L h (a :: b :: c :: e :: f :: g :: (tu ++ i :: j :: r))) : News h₀ L h (a :: b :: g :: (tu ++ r)) := fun p hp => N p (by
  simp only [List.mem_cons, List.mem_append] at hp ⊢; rcases hp with h | h | h | h | h <;> simp [h])
def BackM (k : Nat) (cs : List (List Int × List Int)) (news : List (Addr × Obj)) (w : World) (h₀ : Heap) (L : Addr) (m : PySem.Str → Option Value) (s : Shared) (Q : Value → Shared → Prop) : Prop :=
  ∀ (cm dcm sp dch : Addr) (vs : List Value) (c : Nat) (tups : List (Addr × Obj)) (t1 t2 : Tok) (h' : Heap) (tk' : Nat), SpRows k vs tups cs → Fr h₀ L h' m →
    News h₀ L h' ((cm, instObj 409 dcm) :: (dcm, dictOf [{ hash := PyData.keyHash w.params (Str.ofString "spaces"), key := Value.str (Str.ofString "spaces") t1, val := Value.ref sp },
      { hash := PyData.keyHash w.params (Str.ofString "chars"), key := Value.str (Str.ofString "chars") t2, val := Value.ref dch }] 2) :: (sp, W.listOf vs.toArray c) :: (tups ++ news)) → Q (.ref cm) { s with heap := h', toks := tk' }
theorem flatEnd_cons (cs : List (List Int × List Int)) : ∃ r, flatEnd cs = 32 :: r := by
  cases cs with
  | nil => exact ⟨_, rfl⟩
  | cons q r => exact ⟨_, rfl⟩
theorem read_cmap_tells (news : List (Addr × Obj)) (D : Array UInt8) (t : Tok) (hz : D.size ≤ 4096) (k : Nat) (hk0 : 0 < k) (hk4 : k ≤ 4) (cs : List (List Int × List Int)) (hcs64 : cs.length ≤ 64) (hok : ∀ q ∈ cs, HexOk k q)
    (hl : At D 0 (beginw ++ flatEnd cs)) (hsz : D.size = (beginw ++ flatEnd cs).length) :
    TellsN 60 240 503 [.bytes D t] (fun _ => news) (BackM k cs news) := by
  have h1 : At D 0 (98 :: begint) := hl.sub
  have h2 : At D (0 + (((98 :: begint : List Int).length : Nat) : Int)) (flatEnd cs) := hl.behind
  obtain ⟨r, hr⟩ := flatEnd_cons cs
  have h3 : (KBw.bInts D)[((0 : Int) + (((98 :: begint : List Int).length : Nat) : Int)).toNat]? = some 32 := by rw [hr] at h2; exact at_head h2
  have hlw : (98 :: begint : List Int).length = 19 := rfl
  have hlet : ∀ x ∈ (98 :: begint : List Int), 97 ≤ x ∧ x ≤ 122 := by decide
  have hlen := hsz
  rw [List.length_append, show beginw.length = 19 from rfl] at hlen
  have hfe : (flatEnd cs).length ≠ 0 := by rw [hr]; simp
  have hend : (0 : Int) + (((98 :: begint : List Int).length : Nat) : Int) = (D.size : Int) ∨ ((0 : Int) + (((98 :: begint : List Int).length : Nat) : Int) < (D.size : Int) ∧ (KBw.bInts D)[((0 : Int) + (((98 :: begint : List Int).length : Nat) : Int)).toNat]? = some 32) := .inr ⟨by rw [hlw]; omega, h3⟩
  have hpe : (0 : Int) + (((98 :: begint : List Int).length : Nat) : Int) + ((flatEnd cs).length : Int) = (D.size : Int) := by rw [hlw]; omega
  unfold TellsN BackM
  intros
  rename_i hret
  have hMk := kstMark
  refine wpAny_call ?_
  k_dflt k_enter
  k_steps
  rename SpRows _ _ _ _ => hR
  rename Fr _ _ _ _ => F₃
  rename News _ _ _ _ => N₃
  exact hret _ _ _ _ _ _ _ _ _ _ _ hR F₃ (pickM N₃)
end
end Mine
end
section
open PySem PySem.W PyProof.Rows
set_option Elab.async false
set_option maxRecDepth 100000
namespace Mine
open PySem.Calls PySem.Spec
noncomputable def lawStmt : Stmt := Challenge.pw_og0188_01.main.body.getLast?.getD (Stmt.Pass ⟨0, 0, 0, 0⟩)
noncomputable def lawBody : List Stmt := match lawStmt with
  | .FunctionDef _ _ b _ _ _ _ _ _ _ => b
  | _ => []
noncomputable def lawScope : Scope := match lawStmt with
  | .FunctionDef _ _ _ _ _ _ s _ _ _ => s
  | _ => default
theorem lawBody_length : lawBody.length = 17 := by rfl
theorem lawScope_kind : lawScope.kind = .function := by rfl
noncomputable abbrev lawEnv (L fa : Addr) (cdv : Value) : Env := envOfC (Str.ofString "law") lawScope L fa cdv
end Mine
end
section
open PySem PySem.W PyProof.Rows
set_option Elab.async false
namespace Mine
open PySem.Calls PySem.Spec
local macro_rules | `(tactic| k_enter) => `(tactic| k_extra "z6")
local macro_rules | `(tactic| k_units) => `(tactic| ktr_units)
local macro_rules | `(tactic| k_room) => `(tactic| ktr_room)
local macro_rules | `(tactic| k_all) => `(tactic| assumption)
local macro_rules | `(tactic| k_all) => `(tactic| k_extra "z30")
local macro_rules | `(tactic| walk_at "compareOp Eq int int") => `(tactic| k_extra "z9")
local macro_rules | `(tactic| walk_at "compareOp NotEq int int") => `(tactic| k_extra "z10")
local macro_rules | `(tactic| walk_at "compareOp Lt int int") => `(tactic| k_extra "z11")
local macro_rules | `(tactic| walk_at "compareOp Gt int int") => `(tactic| k_extra "z12")
local macro_rules | `(tactic| walk_at "compareOp LtE int int") => `(tactic| k_extra "z13")
local macro_rules | `(tactic| walk_at "compareOp GtE int int") => `(tactic| k_extra "z14")
local macro_rules | `(tactic| walk_at "compareOp NotIn int ref") => `(tactic| k_extra "z15")
local macro_rules | `(tactic| walk_at "compareOp In int ref") => `(tactic| k_extra "z16")
local macro_rules | `(tactic| walk_at "exec While Compare cons nil") => `(tactic| k_extra "z17")
local macro_rules | `(tactic| walk_at "ite") => `(tactic| k_extra "z24")
local macro_rules | `(tactic| walk_at "WhileStep2 ret") => `(tactic| k_extra "z31")
local macro_rules | `(tactic| passes_own) => `(tactic| assumption)
local macro_rules | `(tactic| walk_at "PassesOwn") => `(tactic| assumption)
section
open PySem PySem.W PyProof.Rows
set_option Elab.async false
set_option maxRecDepth 100000
set_option maxHeartbeats 2000000
open PySem.Calls PySem.Spec
theorem reset_S5 {prog : Program} {w : World} {A : Around} {env : Env} {Q : Flow → Shared → Prop} {E : Value → Shared → Prop} {s : Shared} (h : Q .next s) : wpAny (model prog w) A (execs [] env) Q E s := by
  w_top off
  k_with_none
  k_with "z6" => ((refine' code_def ?k1 ?k2 ?k3 ?k4 ?k5 ?kA ?kF ?kK ?k6 ?k7 ?k8 ?k9 ?kB ?_ ?c2 ?c3 ?c4 ?c5; (case kA => exact rfl); (case kF => exact rfl); (case kK => first | exact rfl | assumption); (case k1 => k_asm); (case k2 => k_asm); (case k3 => k_asm); (case k4 => k_asm); (case k5 => k_asm); (case k6 => k_is); (case k7 => k_is); (case k8 => ktr_room); (case k9 => first | exact BindsTo.of_eq rfl | exact binds_K (by k_in) rfl (by k_is) rfl rfl rfl | fail "k_enter: no rule for these arguments"); (case c5 => decide); (case kB => exact locs rfl); (case c2 => exact rfl); (case c3 => exact rfl); (case c4 => exact rfl); k_whole; intro g' L' h' FG' F' N' B' X' T'; (try dsimp only); (try k_lift B'); (try k_fold)))
  k_with "z30" => ((rename AllLt _ _ => h1; first | exact allNe_of h1 (by omega) | (clear h1; rename AllLt _ _ => h2; first | exact allNe_of h2 (by omega) | (clear h2; rename AllLt _ _ => h3; exact allNe_of h3 (by omega)))))
  k_with "z9" => (first | (refine eqN (by omega) ?_) | (refine eqY (by omega) ?_))
  k_with "z10" => (first | (refine neN (by omega) ?_) | (refine neY (by omega) ?_))
  k_with "z11" => (first | (refine ltY (by omega) ?_) | (refine ltN (by omega) ?_))
  k_with "z12" => (first | (refine gtY (by omega) ?_) | (refine gtN (by omega) ?_))
  k_with "z13" => (first | (refine leY (by omega) ?_) | (refine leN (by omega) ?_))
  k_with "z14" => (first | (refine geY (by omega) ?_) | (refine geN (by omega) ?_))
  k_with "z15" => ((k_dflt (first | (refine' notInN (tupK ?kX ?kL) ?kI ?kE ?_; (case kX => k_in); (case kL => k_is); (case kI => (repeat constructor)); (case kE => rfl)) | (refine' notInY (tupK ?kX ?kL) ?kI ?kE ?_; (case kX => k_in); (case kL => k_is); (case kI => (repeat constructor)); (case kE => (repeat (first | exact any_no_nil | (refine any_no_cons (by omega) ?_))))))))
  k_with "z16" => ((k_dflt (first | (refine' inY (tupK ?kX ?kL) ?kI ?kE ?_; (case kX => k_in); (case kL => k_is); (case kI => (repeat constructor)); (case kE => rfl)) | (refine' inN (tupK ?kX ?kL) ?kI ?kE ?_; (case kX => k_in); (case kL => k_is); (case kI => (repeat constructor)); (case kE => (repeat (first | exact any_no_nil | (refine any_no_cons (by omega) ?_))))))))
  k_with "z17" => ((k_dflt (refine whl_start 3 ?_)))
  k_with "z24" => (first | (refine ite_neg Bool.false_ne_true ?_) | (refine ite_pos rfl ?_))
  k_with "z31" => ((dsimp only [WhileStep2]))
  k_with "z25" => ((k_here; (rename Fr _ _ _ _ => lF'); (with_unfolding_all refine' For_invVF lF' ?k1 ?k2 ?_; (case k1 => exact rfl); (case k2 => exact rfl); k_whole)))
  k_with "z58" => (((with_reducible show wpAny _ _ (call _ [_]) _ _ _); (rename Fr _ _ _ _ => F'); (rename News _ _ _ _ => N'); (with_unfolding_all refine range1_rows F' N' ?_; intro _ _ _ _ _ _ _ _ _)))
  k_with "z59" => (((with_reducible show wpAny _ _ (call (Value.ref 517) _) _ _ _); k_dflt (refine' Tells.use (draw_tells _ _ _ _ _ _ _ _ _ _ _ _ _ ?c1 ?c2 ?c3 ?c4 ?c5 ?c6 ?c7 ?c8 ?c9) ?B9 ?F9 ?X9 ?N9 ?T9 ?K9 ?d9 ?u9 ?_; (case B9 => k_asm); (case F9 => k_asm); (case X9 => k_asm); (case N9 => first | k_asm | exact rot1 (by k_asm) | exact rot2 (by k_asm) | exact rot3 (by k_asm) | exact rot4 (by k_asm)); (case T9 => k_asm); (case K9 => first | exact rfl | assumption); (case d9 => ktr_room); (case u9 => ktr_units); (case c3 => first | assumption | fail "side c3"); (case c1 => first | assumption | (refine PySem.W.neN ?_; omega) | fail "side c1"); (case c2 => k_all); (case c4 => first | assumption | omega | (simp only [List.length_map, List.length_take]; omega) | (trace_state; fail "side c4")); (case c5 => first | omega | fail "side c5"); (case c6 => first | omega | fail "side c6"); (case c7 => first | omega | fail "side c7"); (case c8 => first | omega | fail "side c8"); (case c9 => first | omega | fail "side c9")); (dsimp only [BackDraw, penObj]); intro d9 pl9 fu9 t9 u9 v9 h9 tk9 d0 d1 q0 q1 f0 F9 N9; (try dsimp only); (try k_fold)))
  walk1
  exact h
local macro_rules | `(tactic| walk_at "exec For Name Call cons nil") => `(tactic| k_extra "z25")
local macro_rules | `(tactic| walk_at "call type:range") => `(tactic| k_extra "z58")
local macro_rules | `(tactic| walk_at "call ref") => `(tactic| k_extra "z59")
theorem fmod_in {tp : Int} (h1 : 256 ≤ tp) (a : Int) : 0 ≤ Int.fmod a tp ∧ Int.fmod a tp < tp := ⟨Int.fmod_nonneg_of_pos a (by omega), Int.fmod_lt_of_pos a (by omega)⟩
theorem fdiv_in {tp : Int} (h1 : 256 ≤ tp) : 0 ≤ Int.fdiv tp 2 ∧ Int.fdiv tp 2 < tp := by
  rw [Int.fdiv_eq_ediv_of_nonneg _ (by decide)]; omega
def C5 (L pa ca co : Addr) (vsC : List Value) (nC : Nat) (o1 o2 o3 o4 : Obj) (tp : Int) (pl₀ : Int) (m₀ : PySem.Str → Option Value) (i : Nat) (m : PySem.Str → Option Value) (nx : List (Addr × Obj)) : Prop :=
  (∀ z, z ≠ Str.ofString "lap" → m z = m₀ z) ∧ ∃ (cs : List Int) (vs : List Value) (c : Nat) (pl fu : Int) (u v : Tok), IntsAre vs cs ∧ cs.length = i ∧ (∀ x ∈ cs, 0 ≤ x ∧ x < tp) ∧ 0 ≤ pl ∧ pl ≤ pl₀ + 2 * (i : Int) ∧ 0 ≤ fu ∧
    nx = [(co, W.listOf vs.toArray c), (pa, penObj ca pl u fu v 0), (ca, W.listOf vsC.toArray nC), (L + 1 + 1 + 1 + 1, o4), (L + 1 + 1 + 1, o3), (L + 1 + 1, o2), (L + 1, o1)]
theorem list_pick {prog : Program} {w : World} {A : Around} {E : Value → Shared → Prop} {s : Shared} {h₀ : Heap} {L : Addr} {value slice : PySem.Expr} {l : Addr} {news : List (Addr × Obj)} {vs : List Value} {ns : List Int} {c : Nat} {i tp : Int} {u : Tok} {Q : Value → Shared → Prop} (N : News h₀ L s.heap news) (hm : (l, W.listOf vs.toArray c) ∈ news)
    (hv : IntsAre vs ns) (hall : ∀ x ∈ ns, 0 ≤ x ∧ x < tp) (h0 : 0 ≤ i) (hi : i < ns.length) (hz : ns.length ≤ 64) (h : ∀ x t, 0 ≤ x → x < tp → Q (.int x t) s)
    (hs : subscripted slice false (.ref l) (.int i u) = operate [.ref l, .int i u] (getItem (.ref l) (.int i u)) := by with_unfolding_all rfl) : wpAny (model prog w) A (subscriptTail value slice (.ref l) (.int i u)) Q E s := by
  have hlt : i.toNat < ns.length := by omega
  have hx : ns[i.toNat]? = some ns[i.toNat] := List.getElem?_eq_getElem hlt
  have hb := hall _ (List.getElem_mem hlt)
  exact list_int_at N hm hv h0 (by omega) hx (fun t => h _ t hb.1 hb.2) hs
theorem six_in {tp d : Int} (h1 : 256 ≤ tp) (hd0 : 0 ≤ d) (hd1 : d < tp) : ∀ x ∈ [0, tp - 1, 255, Int.fmod 256 tp, Int.fdiv tp 2, d], 0 ≤ x ∧ x < tp := by
  have a := fmod_in h1 256
  have b := fdiv_in h1
  intro x hx
  simp only [List.mem_cons, List.not_mem_nil, or_false] at hx
  rcases hx with rfl | rfl | rfl | rfl | rfl | rfl <;> first | assumption | omega
theorem perm5 {h₀ : Heap} {L : Addr} {h : Heap} {a b c d : Addr × Obj} {r : List (Addr × Obj)} (N : News h₀ L h (b :: c :: d :: a :: r)) : News h₀ L h (a :: b :: c :: r) := fun p hp => N p (by
  simp only [List.mem_cons] at hp ⊢; rcases hp with h | h | h | h <;> simp [h])
local macro_rules | `(tactic| walk_at "InvEndN") => `(tactic| k_dflt (k_extra "myend"))
theorem six_getD {tp d : Int} {j : Nat} (h1 : 256 ≤ tp) (hd0 : 0 ≤ d) (hd1 : d < tp) : 0 ≤ [0, tp - 1, 255, Int.fmod 256 tp, Int.fdiv tp 2, d].getD j 0 ∧ [0, tp - 1, 255, Int.fmod 256 tp, Int.fdiv tp 2, d].getD j 0 < tp := by
  rw [List.getD_eq_getElem?_getD]
  cases hj : [0, tp - 1, 255, Int.fmod 256 tp, Int.fdiv tp 2, d][j]? with
  | none => exact ⟨by decide, by show (0 : Int) < tp; omega⟩
  | some y => exact six_in h1 hd0 hd1 y (List.mem_of_getElem? hj)
theorem perm3 {h₀ : Heap} {L : Addr} {h : Heap} {a b c : Addr × Obj} {r : List (Addr × Obj)} (N : News h₀ L h (b :: c :: a :: r)) : News h₀ L h (a :: b :: c :: r) := fun p hp => N p (by
  simp only [List.mem_cons] at hp ⊢; rcases hp with h | h | h | h <;> simp [h])
theorem c5_end {h₀ : Heap} {L pa ca co : Addr} {h : Heap} {m' m₀ : PySem.Str → Option Value} {vs vsC : List Value} {cs : List Int} {x tp pl pl₀ fu : Int} {t u v : Tok} {c nC i : Nat} {o1 o2 o3 o4 : Obj} {own : List (Addr × Obj)} {s₁ : Shared} {tk : Nat}
    (F : Fr h₀ L h m') (N : News h₀ L h ((co, W.listOf (vs ++ [Value.int x t]).toArray c) :: (pa, penObj ca pl u fu v 0) :: (ca, W.listOf vsC.toArray nC) :: (L + 1 + 1 + 1 + 1, o4) :: (L + 1 + 1 + 1, o3) :: (L + 1 + 1, o2) :: (L + 1, o1) :: own)) (hm : ∀ z, z ≠ Str.ofString "lap" → m' z = m₀ z)
    (hI : IntsAre vs cs) (hlen : cs.length = i) (hin : ∀ x ∈ cs, 0 ≤ x ∧ x < tp) (h0 : 0 ≤ x) (h1 : x < tp) (h2 : 0 ≤ pl) (h3 : pl ≤ pl₀ + 2 * ((i + 1 : Nat) : Int)) (h4 : 0 ≤ fu) :
    InvEndN h₀ L (C5 L pa ca co vsC nC o1 o2 o3 o4 tp pl₀ m₀ (i + 1)) own [co, pa, ca, L + 1 + 1 + 1 + 1, L + 1 + 1 + 1, L + 1 + 1, L + 1] s₁ { s₁ with heap := h, toks := tk } := by
  refine InvEndN.intro (nx := [(co, W.listOf (vs ++ [Value.int x t]).toArray c), (pa, penObj ca pl u fu v 0), (ca, W.listOf vsC.toArray nC), (L + 1 + 1 + 1 + 1, o4), (L + 1 + 1 + 1, o3), (L + 1 + 1, o2), (L + 1, o1)]) F N ⟨hm, cs ++ [x], _, _, _, _, _, _, IntsAre.append hI (.cons _ _ .nil), by simp [hlen], fun y hy => ?_, h2, h3, h4, rfl⟩ rfl (fun p hp => ?_) fun p hp => ?_
  · rcases List.mem_append.mp hy with h | h
    · exact hin y h
    · rw [List.mem_singleton.mp h]; exact ⟨h0, h1⟩
  · simp only [List.mem_cons, List.not_mem_nil, or_false] at hp ⊢
    rcases hp with h | h | h | h | h | h | h <;> simp [h]
  · simp [hp]
theorem seg5 (w : World) (mg mb : PySem.Str → Option Value) (mean : ExcName → Option Value) (h₀ : Heap) (L fa : Addr) (cdv : Value) (s : Shared) (Q : Flow → Shared → Prop) (E : Value → Shared → Prop) (m : PySem.Str → Option Value)
    (B : Below callerA h₀ [] h₀) (X : (h0.heap_1_39 w.params).In h₀) (T : Top h0.view_1_40 Ls mean mg mb h₀) (hE : PassesOwn (model Challenge.rw_og0188_01.row.prog w) (callerA.deeper (lawEnv L fa cdv)) (lawEnv L fa cdv) E)
    (pa ca : Addr) (o1 o2 o3 o4 : Obj) (v4 : Option Value) (vsC : List Value) (nC : Nat) (nsC : List Int) (pl fu : Int) (u v : Tok) (n tp : Int) (tn tt : Tok)
    (g1 : @LT.lt Nat _ (L + 1 + 1 + 1 + 1) pa) (g0 : @Ne Nat (L + 1 + 1 + 1 + 1) ca) (g2 : @LT.lt Nat _ ca pa) (d1 : o1.data = .cell (some (.ref pa))) (d2 : o2.data = .cell (some (.int n tn))) (d3 : o3.data = .cell (some (.int tp tt))) (d4 : o4.data = .cell v4)
    (hIC : IntsAre vsC nsC) (hlC : nsC.length ≤ 40) (hpl : 0 ≤ pl) (hfu : 0 ≤ fu) (hn1 : 1 ≤ n) (hn4 : n ≤ 4) (ht1 : 256 ≤ tp) (ht2 : tp ≤ 4294967296) (hpl2 : pl ≤ 2) (co : Addr) (g3 : @LT.lt Nat _ pa co)
    (F : Fr h₀ L s.heap (fun y => if y = Str.ofString "codes" then some (.ref co) else m y)) (N : News h₀ L s.heap [(co, W.listOf #[] 0), (pa, penObj ca pl u fu v 0), (ca, W.listOf vsC.toArray nC), (L + 1 + 1 + 1 + 1, o4), (L + 1 + 1 + 1, o3), (L + 1 + 1, o2), (L + 1, o1)])
    (next : ∀ (cs : List Int) (vs : List Value) (c : Nat) (pl' fu' : Int) (u' v' : Tok) (m' : PySem.Str → Option Value) (h' : Heap) (tk' : Nat), IntsAre vs cs → cs.length ≤ 8 → (∀ x ∈ cs, 0 ≤ x ∧ x < tp) → 0 ≤ pl' → pl' ≤ 20 → 0 ≤ fu' →
      Fr h₀ L h' (fun y => if y = Str.ofString "codes" then some (.ref co) else m' y) → News h₀ L h' [(co, W.listOf vs.toArray c), (pa, penObj ca pl' u' fu' v' 0), (ca, W.listOf vsC.toArray nC), (L + 1 + 1 + 1 + 1, o4), (L + 1 + 1 + 1, o3), (L + 1 + 1, o2), (L + 1, o1)] → wpAny (model Challenge.rw_og0188_01.row.prog w) (callerA.deeper (lawEnv L fa cdv)) (execs (lawBody.drop 5) (lawEnv L fa cdv)) Q E { s with heap := h', toks := tk' }) :
    wpAny (model Challenge.rw_og0188_01.row.prog w) (callerA.deeper (lawEnv L fa cdv)) (execs (lawBody.drop 4) (lawEnv L fa cdv)) Q E s := by
  have hMk := kstMark
  show wpAny _ _ (execs (_ :: _) _) _ _ _
  have hm256 := fmod_in ht1 256
  have hd2 := fdiv_in ht1
  k_with "pyIter ref" => k_dflt (
    (rename Fr _ _ _ _ => lF); (rename News _ _ _ _ => lN); (rename IsRange _ _ _ _ _ _ _ _ => lR);
    refine rangeJ (C5 L pa ca co vsC nC o1 o2 o3 o4 tp 3 _) (by rfl) lR (small_one (by omega) (by omega) (by omega) (by omega)) (rangeSize_nat _ _) lF (perm3 lN) ⟨fun _ _ => rfl, [], [], 0, _, _, _, _, .nil, rfl, fun _ h => by simp at h, by omega, by omega, by assumption, rfl⟩ ?_ ?_;
    (rintro i t m₁ nx h tk own hi hoff ⟨hm, cs, vs, c, pl1, fu1, u1, v1, hI, hlen, hin, h1, h2, h3, rfl⟩ F₁ N₁; have F₂ := fr_off F₁ hm; clear F₁ lF lN; simp only [List.cons_append, List.nil_append, List.map_cons, List.map_nil] at N₁ hoff; have hvl := hI.length); rotate_left;
    (rintro m₁ nx h tk ⟨hm, cs, vs, c, pl1, fu1, u1, v1, hI, hlen, hin, h1, h2, h3, rfl⟩ F₁ N₁; exact next cs vs c pl1 fu1 u1 v1 m₁ h tk hI (by omega) hin h1 (by omega) h3 (fr_same F₁ fun z => by (by_cases hz : z = Str.ofString "codes"; (subst hz; rw [hm _ (by decide)]; rfl); simp [hz])) N₁);
    all_goals (try k_fold))
  k_with "myend" => (
    (rename Fr _ _ _ _ => F₃); (rename News _ _ _ _ => N₃); simp only [List.push_toArray] at N₃;
    exact c5_end F₃ (perm5 N₃) (fun z hz => by simp [hz]) hI hlen hin (six_getD ht1 (by assumption) (by assumption)).1 (six_getD ht1 (by assumption) (by assumption)).2 (by omega) (by omega) (by assumption))
  k_steps
end
section
open PySem PySem.W PyProof.Rows
set_option Elab.async false
set_option maxRecDepth 100000
set_option maxHeartbeats 400000
open PySem.Calls PySem.Spec
theorem reset_S6 {prog : Program} {w : World} {A : Around} {env : Env} {Q : Flow → Shared → Prop} {E : Value → Shared → Prop} {s : Shared} (h : Q .next s) : wpAny (model prog w) A (execs [] env) Q E s := by
  w_top off
  k_with_none
  k_with "z6" => ((refine' code_def ?k1 ?k2 ?k3 ?k4 ?k5 ?kA ?kF ?kK ?k6 ?k7 ?k8 ?k9 ?kB ?_ ?c2 ?c3 ?c4 ?c5; (case kA => exact rfl); (case kF => exact rfl); (case kK => first | exact rfl | assumption); (case k1 => k_asm); (case k2 => k_asm); (case k3 => k_asm); (case k4 => k_asm); (case k5 => k_asm); (case k6 => k_is); (case k7 => k_is); (case k8 => ktr_room); (case k9 => first | exact BindsTo.of_eq rfl | exact binds_K (by k_in) rfl (by k_is) rfl rfl rfl | fail "k_enter: no rule for these arguments"); (case c5 => decide); (case kB => exact locs rfl); (case c2 => exact rfl); (case c3 => exact rfl); (case c4 => exact rfl); k_whole; intro g' L' h' FG' F' N' B' X' T'; (try dsimp only); (try k_lift B'); (try k_fold)))
  k_with "z30" => ((rename AllLt _ _ => h1; first | exact allNe_of h1 (by omega) | (clear h1; rename AllLt _ _ => h2; first | exact allNe_of h2 (by omega) | (clear h2; rename AllLt _ _ => h3; exact allNe_of h3 (by omega)))))
  k_with "z9" => (first | (refine eqN (by omega) ?_) | (refine eqY (by omega) ?_))
  k_with "z10" => (first | (refine neN (by omega) ?_) | (refine neY (by omega) ?_))
  k_with "z11" => (first | (refine ltY (by omega) ?_) | (refine ltN (by omega) ?_))
  k_with "z12" => (first | (refine gtY (by omega) ?_) | (refine gtN (by omega) ?_))
  k_with "z13" => (first | (refine leY (by omega) ?_) | (refine leN (by omega) ?_))
  k_with "z14" => (first | (refine geY (by omega) ?_) | (refine geN (by omega) ?_))
  k_with "z15" => ((k_dflt (first | (refine' notInN (tupK ?kX ?kL) ?kI ?kE ?_; (case kX => k_in); (case kL => k_is); (case kI => (repeat constructor)); (case kE => rfl)) | (refine' notInY (tupK ?kX ?kL) ?kI ?kE ?_; (case kX => k_in); (case kL => k_is); (case kI => (repeat constructor)); (case kE => (repeat (first | exact any_no_nil | (refine any_no_cons (by omega) ?_))))))))
  k_with "z16" => ((k_dflt (first | (refine' inY (tupK ?kX ?kL) ?kI ?kE ?_; (case kX => k_in); (case kL => k_is); (case kI => (repeat constructor)); (case kE => rfl)) | (refine' inN (tupK ?kX ?kL) ?kI ?kE ?_; (case kX => k_in); (case kL => k_is); (case kI => (repeat constructor)); (case kE => (repeat (first | exact any_no_nil | (refine any_no_cons (by omega) ?_))))))))
  k_with "z17" => ((k_dflt (refine whl_start 3 ?_)))
  k_with "z24" => (first | (refine ite_neg Bool.false_ne_true ?_) | (refine ite_pos rfl ?_))
  k_with "z31" => ((dsimp only [WhileStep2]))
  k_with "z60" => (((with_reducible show wpAny _ _ (call (Value.ref 437) _) _ _ _); k_dflt (refine' Tells.use (code_octets_tells _ _ _ _ _ ?c1 ?c2) ?B9 ?F9 ?X9 ?N9 ?T9 ?K9 ?d9 ?u9 ?_; (case B9 => k_asm); (case F9 => k_asm); (case X9 => k_asm); (case N9 => k_asm); (case T9 => k_asm); (case K9 => first | exact rfl | assumption); (case d9 => ktr_room); (case u9 => ktr_units); (case c1 => omega); (case c2 => omega)); (dsimp only [BackV]); intro t9 h9 tk9 F9 N9; (try dsimp only); (try k_fold)))
  walk1
  exact h
local macro_rules | `(tactic| walk_at "CompEnd") => `(tactic| k_dflt (k_extra "myce"))
local macro_rules | `(tactic| walk_at "call ref") => `(tactic| k_extra "z60")
def BytsAre : List Value → List (Array UInt8) → Prop
  | vs, [] => vs = []
  | vs, b :: bs => ∃ t r, vs = Value.bytes b t :: r ∧ BytsAre r bs
theorem BytsAre.nil : BytsAre [] [] := rfl
theorem BytsAre.cons (b : Array UInt8) (t : Tok) {vs : List Value} {bs : List (Array UInt8)} (h : BytsAre vs bs) : BytsAre (.bytes b t :: vs) (b :: bs) := ⟨t, vs, rfl, h⟩
theorem BytsAre.append : ∀ {bs : List (Array UInt8)} {vs ws : List Value} {cs : List (Array UInt8)}, BytsAre vs bs → BytsAre ws cs → BytsAre (vs ++ ws) (bs ++ cs)
  | [], vs, _, _, h, h' => by
    have e : vs = [] := h
    subst e
    exact h'
  | b :: bs, vs, _, _, h, h' => by
    obtain ⟨t, r, e, h⟩ := h
    subst e
    exact BytsAre.cons b t (BytsAre.append h h')
theorem BytsAre.length : ∀ {bs : List (Array UInt8)} {vs : List Value}, BytsAre vs bs → vs.length = bs.length
  | [], vs, h => by
    have e : vs = [] := h
    subst e
    rfl
  | b :: bs, vs, h => by
    obtain ⟨t, r, e, h⟩ := h
    subst e
    rw [List.length_cons, List.length_cons, BytsAre.length h]
theorem BytsAre.get : ∀ {bs : List (Array UInt8)} {vs : List Value}, BytsAre vs bs → ∀ (i : Nat) (b : Array UInt8), bs[i]? = some b → ∃ t, vs[i]? = some (.bytes b t)
  | [], _, _ => fun i b h => by simp at h
  | b :: bs, vs, h => by
    obtain ⟨t, r, e, h⟩ := h
    subst e
    intro i c hc
    cases i with
    | zero => simp at hc; subst hc; exact ⟨t, rfl⟩
    | succ i => simpa using BytsAre.get h i c (by simpa using hc)
abbrev octB (n : Int) (c : Int) : Array UInt8 := byteArr (beI n.toNat c)
local macro_rules | `(tactic| walk_at "exec Assign cons ListComp") => `(tactic| k_dflt (k_extra "myassign"))
local macro_rules | `(tactic| walk_at "CompSrc") => `(tactic| k_dflt (k_extra "mysrc"))
theorem octB_item {ys : List Value} {cs : List Int} {n k9 : Int} {i : Nat} {t : Tok} (hys : BytsAre ys ((cs.take i).map (octB n))) (hk9 : cs[i]? = some k9) : BytsAre (ys ++ [.bytes (octB n k9) t]) ((cs.take (i + 1)).map (octB n)) := by
  rw [List.take_add_one, hk9]
  simp only [List.map_append, Option.toList_some, List.map_cons, List.map_nil]
  exact BytsAre.append hys (.cons _ _ .nil)
theorem seg6 (w : World) (mg mb : PySem.Str → Option Value) (mean : ExcName → Option Value) (h₀ : Heap) (L fa : Addr) (cdv : Value) (s : Shared) (Q : Flow → Shared → Prop) (E : Value → Shared → Prop) (m : PySem.Str → Option Value)
    (B : Below callerA h₀ [] h₀) (X : (h0.heap_1_39 w.params).In h₀) (T : Top h0.view_1_40 Ls mean mg mb h₀) (hE : PassesOwn (model Challenge.rw_og0188_01.row.prog w) (callerA.deeper (lawEnv L fa cdv)) (lawEnv L fa cdv) E)
    (pa ca : Addr) (o1 o2 o3 o4 : Obj) (v4 : Option Value) (vsC : List Value) (nC : Nat) (nsC : List Int) (pl fu : Int) (u v : Tok) (n tp : Int) (tn tt : Tok)
    (g1 : @LT.lt Nat _ (L + 1 + 1 + 1 + 1) pa) (g0 : @Ne Nat (L + 1 + 1 + 1 + 1) ca) (g2 : @LT.lt Nat _ ca pa) (d1 : o1.data = .cell (some (.ref pa))) (d2 : o2.data = .cell (some (.int n tn))) (d3 : o3.data = .cell (some (.int tp tt))) (d4 : o4.data = .cell v4)
    (hIC : IntsAre vsC nsC) (hlC : nsC.length ≤ 40) (hpl : 0 ≤ pl) (hfu : 0 ≤ fu) (hn1 : 1 ≤ n) (hn4 : n ≤ 4) (ht1 : 256 ≤ tp) (ht2 : tp ≤ 4294967296) (co : Addr) (g3 : @LT.lt Nat _ pa co) (cs : List Int) (vs : List Value) (c : Nat) (hcs : IntsAre vs cs) (hc8 : cs.length ≤ 8) (hcin : ∀ x ∈ cs, 0 ≤ x ∧ x < tp)
    (F : Fr h₀ L s.heap (fun y => if y = Str.ofString "codes" then some (.ref co) else m y)) (N : News h₀ L s.heap [(co, W.listOf vs.toArray c), (pa, penObj ca pl u fu v 0), (ca, W.listOf vsC.toArray nC), (L + 1 + 1 + 1 + 1, o4), (L + 1 + 1 + 1, o3), (L + 1 + 1, o2), (L + 1, o1)])
    (next : ∀ (oc : Addr) (ws : List Value) (c2 : Nat) (h' : Heap) (tk' : Nat), BytsAre ws (cs.map (octB n)) → @Ne Nat pa oc → @Ne Nat (L + 1 + 1 + 1 + 1) oc → 
      Fr h₀ L h' (fun y => if y = Str.ofString "octets" then some (.ref oc) else if y = Str.ofString "codes" then some (.ref co) else m y) → News h₀ L h' [(oc, W.listOf ws.toArray c2), (co, W.listOf vs.toArray c), (pa, penObj ca pl u fu v 0), (ca, W.listOf vsC.toArray nC), (L + 1 + 1 + 1 + 1, o4), (L + 1 + 1 + 1, o3), (L + 1 + 1, o2), (L + 1, o1)] → wpAny (model Challenge.rw_og0188_01.row.prog w) (callerA.deeper (lawEnv L fa cdv)) (execs (lawBody.drop 6) (lawEnv L fa cdv)) Q E { s with heap := h', toks := tk' }) :
    wpAny (model Challenge.rw_og0188_01.row.prog w) (callerA.deeper (lawEnv L fa cdv)) (execs (lawBody.drop 5) (lawEnv L fa cdv)) Q E s := by
  have hMk := kstMark
  show wpAny _ _ (execs (_ :: _) _) _ _ _
  have hvl := hcs.length
  k_with "myassign" => (
    refine LCg.Assign_ListComp_U (F₀ := by k_asm) (by rfl) (by with_unfolding_all rfl) (by with_unfolding_all rfl) (by decide) (by rfl) (by decide) (by rfl) (by rfl) (by rfl) ?_)
  k_with "myce" => (
    (rename Fr _ _ _ _ => F₃); (rename News _ _ _ _ => N₃);
    refine LCg.CompEnd.intro F₃ N₃ _ (fun _ hp => hp) off0 (.inr ⟨_, .head _, rfl, _, rfl⟩) ?_)
  k_with "mysrc" => (
    refine LCg.CompSrc.ledger (by rfl) (by k_asm) (by k_asm) (by k_mem) (by (rw [sizeLine_eq, List.size_toArray]; omega)) ?_;
    intro g;
    refine rest_inv (fun i ys nx => BytsAre ys ((cs.take i).map (octB n)) ∧ nx = _) ⟨.nil, rfl⟩ ?_ ?_;
    (rintro i ys nx v9 I oI C oC D m₂ h tk E' hi hv ⟨hys, rfl⟩ hC hx F₁ N₁ off ne;
     (have hv2 : vs[i]? = some v9 := (by simpa using hv)); obtain ⟨k9, t9, rfl, hk9⟩ := IntsAre.at hcs i v9 hv2;
     have off0 := off; simp only [LCg.Off3, and_true] at off); rotate_left;
    (rintro ys nx ⟨hys, rfl⟩ D9 h9 tk9 F9 N9 off9; (rw [List.size_toArray, hvl, List.take_length] at hys); exact next D9 ys _ h9 tk9 hys off9.2.1 off9.2.2.2.1 F9 N9);
    all_goals (try k_fold))
  k_steps
  · exact octB_item hys hk9
end
section
open PySem PySem.W PyProof.Rows
set_option Elab.async false
set_option maxRecDepth 100000
set_option maxHeartbeats 400000
theorem beI_len (n : Nat) (c : Int) : (beI n c).length = n := by simp [beI]
theorem beI_in {n : Nat} {c : Int} : ∀ x ∈ beI n c, 0 ≤ x ∧ x < 256 := by
  intro x hx
  obtain ⟨k, _, rfl⟩ := List.mem_map.mp hx
  omega
theorem beI_snoc (n : Nat) (c : Int) : beI (n + 1) c = beI n (c / 256) ++ [c % 256] := by
  unfold beI
  rw [List.range_succ, List.map_append]
  congr 1
  · refine List.map_congr_left fun k hk => ?_
    have hk := List.mem_range.mp hk
    rw [show n + 1 - 1 - k = (n - 1 - k) + 1 by omega, Int.pow_succ, Int.mul_comm, ← Int.ediv_ediv_of_nonneg (by decide : (0 : Int) ≤ 256)]
  · simp
theorem beI_cons (n : Nat) (c : Int) : beI (n + 1) c = c / 256 ^ n % 256 :: beI n c := by
  unfold beI
  rw [List.range_succ_eq_map, List.map_cons, List.map_map]
  congr 1
  refine List.map_congr_left fun k hk => ?_
  show c / 256 ^ (n + 1 - 1 - (k + 1)) % 256 = _
  rw [show n + 1 - 1 - (k + 1) = n - 1 - k by omega]
theorem beI_zero_cons {n : Nat} {c : Int} (h0 : 0 ≤ c) (h1 : c < 256 ^ n) : beI (n + 1) c = 0 :: beI n c := by
  rw [beI_cons, Int.ediv_eq_zero_of_lt h0 h1]; rfl
theorem codeI_beI : ∀ (n : Nat) (c : Int), 0 ≤ c → c < 256 ^ n → codeI (beI n c) = c
  | 0, c, h0, h1 => by
    have : c = 0 := by rw [Int.pow_zero] at h1; omega
    subst this; rfl
  | n + 1, c, h0, h1 => by
    rw [beI_snoc, codeI_snoc, codeI_beI n (c / 256) (by omega) (by rw [Int.pow_succ] at h1; omega)]
    omega
theorem codeI_zero (l : List Int) : codeI (0 :: l) = codeI l := rfl
theorem codeI_from (l : List Int) : ∀ a : Int, l.foldl (fun c o => 256 * c + o) a = a * 256 ^ l.length + codeI l := by
  unfold codeI
  induction l with
  | nil => intro a; simp
  | cons x l ih =>
    intro a
    show l.foldl _ (256 * a + x) = a * 256 ^ (l.length + 1) + l.foldl _ (256 * 0 + x)
    rw [ih (256 * a + x), ih (256 * 0 + x), Int.pow_succ]
    have e1 : (256 * a + x) * 256 ^ l.length = a * (256 ^ l.length * 256) + x * 256 ^ l.length := by
      rw [Int.add_mul, Int.mul_comm 256 a, Int.mul_assoc, Int.mul_comm 256]
    have e2 : (256 * 0 + x) * 256 ^ l.length = x * 256 ^ l.length := by simp
    omega
theorem codeI_append (l r : List Int) : codeI (l ++ r) = codeI l * 256 ^ r.length + codeI r := by
  show (l ++ r).foldl _ 0 = _
  rw [List.foldl_append, codeI_from]
  rfl
theorem codeI_cons (x : Int) (l : List Int) : codeI (x :: l) = x * 256 ^ l.length + codeI l := by
  have := codeI_append [x] l
  simpa [codeI] using this
def sumI (l : List Int) : Int := ((List.range l.length).map fun i => l.getD i 0 * 256 ^ (l.length - 1 - i)).sum
theorem sumI_is : ∀ l : List Int, sumI l = codeI l
  | [] => rfl
  | x :: l => by
    rw [codeI_cons, ← sumI_is l]
    unfold sumI
    rw [List.length_cons, List.range_succ_eq_map, List.map_cons, List.map_map, List.sum_cons]
    congr 1
    congr 1
    refine List.map_congr_left fun k hk => ?_
    show (x :: l).getD (k + 1) 0 * 256 ^ (l.length + 1 - 1 - (k + 1)) = _
    rw [show l.length + 1 - 1 - (k + 1) = l.length - 1 - k by omega]
    simp
theorem codeI_nonneg {l : List Int} (h : ∀ x ∈ l, 0 ≤ x ∧ x < 256) : 0 ≤ codeI l ∧ codeI l < 256 ^ l.length := by
  induction l with
  | nil => exact ⟨by decide, by decide⟩
  | cons x l ih =>
    have ih := ih fun y hy => h y (List.mem_cons_of_mem _ hy)
    have hx := h x List.mem_cons_self
    rw [codeI_cons, List.length_cons, Int.pow_succ]
    have hp : (0 : Int) < 256 ^ l.length := Int.pow_pos (by decide)
    have h1 : 0 ≤ x * 256 ^ l.length := Int.mul_nonneg hx.1 (by omega)
    have h2 : x * 256 ^ l.length ≤ 255 * 256 ^ l.length := Int.mul_le_mul_of_nonneg_right (by omega) (by omega)
    omega
theorem beI_codeI_rev : ∀ l : List Int, (∀ x ∈ l, 0 ≤ x ∧ x < 256) → beI l.length (codeI l.reverse) = l.reverse
  | [], _ => rfl
  | x :: l, h => by
    have hx := h x List.mem_cons_self
    have ih := beI_codeI_rev l fun y hy => h y (List.mem_cons_of_mem x hy)
    rw [List.reverse_cons, codeI_snoc, List.length_cons, beI_snoc, show (256 * codeI l.reverse + x) / 256 = codeI l.reverse by omega, ih, show (256 * codeI l.reverse + x) % 256 = x by omega]
theorem beI_codeI (l : List Int) (h : ∀ x ∈ l, 0 ≤ x ∧ x < 256) : beI l.length (codeI l) = l := by
  have := beI_codeI_rev l.reverse fun x hx => h x (by simpa using hx)
  simpa using this
theorem bInts_append (a b : Array UInt8) : KBw.bInts (a ++ b) = KBw.bInts a ++ KBw.bInts b := by
  unfold KBw.bInts
  simp
end
section
open PySem PySem.W PyProof.Rows
set_option Elab.async false
set_option maxRecDepth 100000
set_option maxHeartbeats 400000
open PySem.Calls PySem.Spec PyProof.Rows.LCg
section
variable {prog : Program} {w : World} {A : Around} {E : Value → Shared → Prop} {s : Shared} {h₀ : Heap} {L : Addr} {m : PySem.Str → Option Value} {news : List (Addr × Obj)}
/-- the sum of a list of the ledger -/
theorem sum_listN {l : Addr} {vs : List Value} {ns : List Int} {c : Nat} {Q : Value → Shared → Prop} (F : Fr h₀ L s.heap m) (N : News h₀ L s.heap news) (hh : A.handled = none) (hm : (l, W.listOf vs.toArray c) ∈ news) (hv : IntsAre vs ns)
    (hfit : ∀ i, i ≤ ns.length → InLong ((ns.take i).sum)) (hfit2 : ∀ x ∈ ns, InLong x)
    (h : ∀ h' t' k, Fr h₀ L h' m → News h₀ L h' news → Q (.int ns.sum t') { s with heap := h', toks := k }) : wpAny (model prog w) A (call (.builtin "sum") [.ref l]) Q E s := by
  have hl : s.heap.IsList l vs.toArray := ⟨_, (N _ hm).1, rfl, c, rfl⟩
  have hlt : l < s.heap.objs.size := Heap.lt_size (N _ hm).1
  have hne : l ≠ s.heap.objs.size := Nat.ne_of_lt hlt
  have hlen := hv.length
  have pre : ∀ i : Nat, i ≤ ns.length → preSum (fun j => ns.getD j 0) i = (ns.take i).sum := KBmo.pre_take ns
  refine call_sum_walk (wpAny_pyIter_list hl ?_)
  refine ⟨s.heap.objs.size, _, _, vs.toArray.size, _, _, fun j => ns.getD j 0, rfl, Walks.list (A := A.in1) hh s.heap.objs.size l hne vs.toArray, ⟨⟨_, Heap.get?_push_size _ rfl, rfl, rfl⟩, hl.at fun o e => Heap.get?_push_of_some _ e⟩, ?_, ?_, ?_, ?_⟩
  · intro a ha
    rcases List.mem_cons.mp ha with e | ha
    · rw [e]; exact Heap.lt_size (Heap.get?_push_size _ rfl)
    · rw [List.mem_singleton.mp ha]; rw [Heap.size_push]; exact Nat.lt_succ_of_lt hlt
  · intro i v hi
    have hi' : vs[i]? = some v := by simpa using hi
    obtain ⟨k, t, rfl, hk⟩ := IntsAre.at hv i v hi'
    exact ⟨t, by show Value.int k t = Value.int (ns.getD i 0) t; rw [List.getD_eq_getElem?_getD, hk]; rfl⟩
  · intro j hj
    have hj' : j < ns.length := by rw [List.size_toArray] at hj; omega
    refine ⟨?_, by rw [pre _ hj']; exact hfit _ hj'⟩
    show InLong (ns.getD j 0)
    rw [List.getD_eq_getElem?_getD, List.getElem?_eq_getElem hj']
    exact hfit2 _ (List.getElem_mem hj')
  · intro h' tk t' hk'
    have e : preSum (fun j => ns.getD j 0) vs.toArray.size = ns.sum := by
      rw [List.size_toArray, hlen, pre _ (Nat.le_refl _), List.take_length]
    rw [e]
    have keep : ∀ a o, s.heap.get? a = some o → h'.get? a = some o := fun a o ha => hk' a o (fun hm => absurd (Heap.lt_size ha) (by rw [List.mem_singleton.mp hm]; exact Nat.lt_irrefl _)) (Heap.get?_push_of_some _ ha)
    exact h h' t' tk (F.keptAll keep) (N.grown keep)
end
section
variable {prog : Program} {w : World} {A : Around} {E : Value → Shared → Prop} {s : Shared} {env : Env} {h₀ : Heap} {target : PySem.Expr} {body : List Stmt} {Q : Flow → Shared → Prop}
theorem AllObj_mono : ∀ {ws : List (Addr × String)} {k k' : List (Addr × Obj) → Prop}, (∀ its, k its → k' its) → AllObj ws k → AllObj ws k'
  | [], _, _, f, h => f _ h
  | _ :: _, _, _, f, h => fun o ho => AllObj_mono (fun _ => f _) (h o ho)
/-- turns over zip(xs, ys), with an invariant of mine -/
theorem zip_inv {ws : List (Addr × String)} {keep : List (Addr × Obj)} (J : Nat → (PySem.Str → Option Value) → List (Addr × Obj) → Prop) {xs ys : List Value} (hxy : xs.length = ys.length) {m : PySem.Str → Option Value} {news : List (Addr × Obj)} (h0 : J 0 m news)
    (turn : ∀ i x y T h tk m₁ nx, xs[i]? = some x → ys[i]? = some y → J i m₁ nx → IsTup h T #[x, y] → Fr h₀ env.locals h m₁ → AllObj ws (fun its => News h₀ env.locals h (its ++ nx) →
      wpAny (model prog w) A (assign target env (.ref T)) (fun _ s₂ => wpAny (model prog w) A (execs body env) (UnrPostW h₀ env.locals { s with heap := h, toks := tk } its (fun m' n' => SubL keep n' ∧ J (i + 1) m' n') Q) E s₂) E { s with heap := h, toks := tk }))
    (done : ∀ m₁ nx h tk, J xs.length m₁ nx → Fr h₀ env.locals h m₁ → News h₀ env.locals h nx → Q .next { s with heap := h, toks := tk }) :
    ItemsRest prog w A E h₀ env target body Q s ws keep (zipItems xs ys) m news := by
  have key : ∀ (j i : Nat) (m : PySem.Str → Option Value) (news : List (Addr × Obj)), i + j = xs.length → J i m news → ItemsRest prog w A E h₀ env target body Q s ws keep (zipItems (xs.drop i) (ys.drop i)) m news := by
    intro j
    induction j with
    | zero =>
      intro i m news hi hJ
      have e : i = xs.length := by omega
      subst e
      rw [List.drop_length, show zipItems [] (ys.drop xs.length) = [] from rfl]
      exact ItemsRest.zero fun h tk F N => done _ _ h tk hJ F N
    | succ j ih =>
      intro i m news hi hJ
      have hx : i < xs.length := by omega
      have hy : i < ys.length := by omega
      rw [List.drop_eq_getElem_cons hx, List.drop_eq_getElem_cons hy]
      show ItemsRest prog w A E h₀ env target body Q s ws keep (.pair (fun _ => xs[i]) ys[i] :: zipItems (xs.drop (i + 1)) (ys.drop (i + 1))) m news
      refine ItemsRest.pair fun T _ h tk hT F => AllObj_mono (fun its k N => ?_) (turn i _ _ T h tk m news (List.getElem?_eq_getElem hx) (List.getElem?_eq_getElem hy) hJ hT F)
      refine wpAny_mono (k N) (fun _ s₂ h₂ => wpAny_mono h₂ (fun f s₃ p => ?_) fun _ _ e => e) fun _ _ e => e
      have conv : ∀ s₃, UnrEndW h₀ env.locals { s with heap := h, toks := tk } its (fun m' n' => SubL keep n' ∧ J (i + 1) m' n') s₃ → UnrEndW h₀ env.locals { s with heap := h, toks := tk } its (fun m' n' => SubL keep n' ∧ ItemsRest prog w A E h₀ env target body Q s ws keep (zipItems (xs.drop (i + 1)) (ys.drop (i + 1))) m' n') s₃ := by
        rintro s₃ ⟨h', tk', m', n', e, F', N', off, hs, hJ'⟩
        exact ⟨h', tk', m', n', e, F', N', off, hs, ih (i + 1) m' n' (by omega) hJ'⟩
      cases f with
      | ret v => exact p
      | brk => exact p
      | next => exact conv _ p
      | cont => exact conv _ p
  exact key xs.length 0 m news (by omega) h0
end
end
section
open PySem PySem.W PyProof.Rows
set_option Elab.async false
set_option maxRecDepth 100000
set_option maxHeartbeats 400000
open PySem.Calls PySem.Spec
theorem oct_bInts (n k : Int) : KBw.bInts (octB n k) = beI n.toNat k := bInts_byteArr beI_in
theorem oct_code {n k : Int} (h0 : 0 ≤ k) (h1 : k < 256 ^ n.toNat) : codeI (KBw.bInts (octB n k)) = k := by rw [oct_bInts, codeI_beI _ _ h0 h1]
theorem oct_size (n k : Int) (hn : 0 ≤ n) : ((octB n k).size : Int) = n := by
  rw [← KBw.ints_length, oct_bInts, beI_len]; omega
theorem sum_le {l : List Int} {M : Int} (h : ∀ x ∈ l, 0 ≤ x ∧ x ≤ M) : 0 ≤ l.sum ∧ l.sum ≤ l.length * M := by
  induction l with
  | nil => simp
  | cons x l ih =>
    have := ih fun y hy => h y (List.mem_cons_of_mem _ hy)
    have hx := h x List.mem_cons_self
    rw [List.sum_cons, List.length_cons, Int.natCast_add, Int.add_mul]
    omega
def octTerm (n k : Int) (j : Nat) : Int := (beI n.toNat k).getD j 0 * 256 ^ (n.toNat - 1 - j)
theorem octTerm_in {n k : Int} {j : Nat} (hn : n ≤ 4) : 0 ≤ octTerm n k j ∧ octTerm n k j ≤ 255 * 16777216 := by
  have h1 : 0 ≤ (beI n.toNat k).getD j 0 ∧ (beI n.toNat k).getD j 0 < 256 := by
    rw [List.getD_eq_getElem?_getD]
    cases hj : (beI n.toNat k)[j]? with
    | none => decide
    | some x => exact beI_in x (List.mem_of_getElem? hj)
  have h2 : n.toNat - 1 - j = 0 ∨ n.toNat - 1 - j = 1 ∨ n.toNat - 1 - j = 2 ∨ n.toNat - 1 - j = 3 := by omega
  unfold octTerm
  rcases h2 with e | e | e | e <;> rw [e] <;> omega
theorem oct_fit {n k : Int} (hn : n ≤ 4) : (∀ i, i ≤ ((List.range n.toNat).map (octTerm n k)).length → InLong (((List.range n.toNat).map (octTerm n k)).take i).sum) ∧ ∀ x ∈ (List.range n.toNat).map (octTerm n k), InLong x := by
  have hall : ∀ x ∈ (List.range n.toNat).map (octTerm n k), 0 ≤ x ∧ x ≤ 255 * 16777216 := by
    intro x hx
    obtain ⟨j, _, rfl⟩ := List.mem_map.mp hx
    exact octTerm_in hn
  refine ⟨fun i hi => ?_, fun x hx => ?_⟩
  · have := sum_le (l := ((List.range n.toNat).map (octTerm n k)).take i) fun x hx => hall x (List.mem_of_mem_take hx)
    have hl : (((List.range n.toNat).map (octTerm n k)).take i).length ≤ 4 := by rw [List.length_take, List.length_map, List.length_range]; omega
    unfold InLong
    omega
  · have := hall x hx
    unfold InLong
    omega
theorem oct_sum {n k : Int} (h0 : 0 ≤ k) (h1 : k < 256 ^ n.toNat) : ((List.range n.toNat).map (octTerm n k)).sum = k := by
  have := sumI_is (beI n.toNat k)
  rw [codeI_beI _ _ h0 h1] at this
  unfold sumI at this
  rw [beI_len] at this
  exact this
theorem oct_zero {n k : Int} (h0 : 0 ≤ k) (h1 : k < 256 ^ n.toNat) : codeI (KBw.bInts (#[0] ++ octB n k)) = k := by
  rw [bInts_append, oct_bInts]
  exact codeI_beI _ _ h0 h1
theorem oct_seven {n k : Int} (h0 : 0 ≤ k) (h1 : k < 256 ^ n.toNat) : codeI (KBw.bInts (octB n k ++ #[7])) = 256 * k + 7 := by
  rw [bInts_append, oct_bInts, show KBw.bInts #[7] = [7] from rfl, codeI_snoc, codeI_beI _ _ h0 h1]
theorem oct_more {n k : Int} (hn : 0 ≤ n) (h0 : 0 ≤ k) (h1 : k < 256 ^ n.toNat) : byteArr (beI (n + 1).toNat k) = #[0] ++ octB n k := by
  apply bInts_inj
  rw [bInts_append, oct_bInts, bInts_byteArr beI_in, show (n + 1).toNat = n.toNat + 1 by omega, beI_zero_cons h0 h1]
  rfl
theorem byts_at {ws : List Value} {cs : List Int} {n k tp : Int} {i : Nat} {y : Value} (hws : BytsAre ws (cs.map (octB n))) (hk : cs[i]? = some k) (hy : ws[i]? = some y) (hn : 0 ≤ n) (htp : tp = 256 ^ n.toNat) (hin : ∀ x ∈ cs, 0 ≤ x ∧ x < tp) :
    ∃ b t, y = .bytes b t ∧ KBw.bInts b = beI n.toNat k ∧ codeI (KBw.bInts b) = k ∧ (b.size : Int) = n ∧ codeI (KBw.bInts (#[0] ++ b)) = k ∧ codeI (KBw.bInts (b ++ #[7])) = 256 * k + 7 ∧ byteArr (beI (n + 1).toNat k) = #[0] ++ b ∧ ((List.range n.toNat).map (octTerm n k)).sum = k ∧ 0 ≤ k ∧ k < tp := by
  obtain ⟨t, h⟩ := hws.get i (octB n k) (by rw [List.getElem?_map, hk]; rfl)
  rw [hy] at h
  have hb := hin k (List.mem_of_getElem? hk)
  obtain ⟨h0, h1⟩ := hb
  have h1' := h1
  rw [htp] at h1'
  exact ⟨_, t, Option.some.inj h, oct_bInts n k, oct_code h0 h1', oct_size n k hn, oct_zero h0 h1', oct_seven h0 h1', oct_more hn h0 h1', oct_sum h0 h1', h0, h1⟩
theorem tl1 {n k : Int} (hn : n ≤ 4) : (beI n.toNat k).length ≤ 1099511627776 := by rw [beI_len]; omega
theorem tl2 (j : Nat) : (0 : Int) ≤ 0 + (j : Int) := by omega
theorem tl3 {n k : Int} {j : Nat} (hj : j < n.toNat) : 0 + (j : Int) < ((beI n.toNat k).length : Int) := by rw [beI_len]; omega
theorem tl4 {n : Int} {j : Nat} (hj : j < n.toNat) : (0 : Int) ≤ n - 1 - (0 + (j : Int)) := by omega
theorem tl5 {n : Int} {j : Nat} (hn : n ≤ 4) : n - 1 - (0 + (j : Int)) ≤ 1000 := by omega
theorem tl6 {n k : Int} {j : Nat} : (beI n.toNat k).getD (0 + (j : Int)).toNat 0 * 256 ^ (n - 1 - (0 + (j : Int))).toNat = octTerm n k j := by
  unfold octTerm
  rw [show (0 + (j : Int)).toNat = j by omega, show (n - 1 - (0 + (j : Int))).toNat = n.toNat - 1 - j by omega]
end
section
open PySem PySem.W PyProof.Rows
set_option Elab.async false
set_option maxRecDepth 100000
set_option maxHeartbeats 400000
open PySem.Calls PySem.Spec PySem.Builtin
theorem slot_bytes_lt : Slot "bytes" (cmpInfo .Lt).2.1 "bytes.__lt__" :=
  .of (owner := "bytes") (n := "__lt__") (by rw [typeLookup_type, builtinLookup_eq_fast]; kernel_rfl) (by decide +kernel) (by decide +kernel) (by decide +kernel)
    (by first | exact .inl (by decide +kernel) | exact .inr (by decide +kernel)) (by rw [isSubtype_type]; kernel_rfl)
theorem entry_bytes_lt : entryFor table "bytes.__lt__" = some Builtin.«bytes.__lt__» := entryFor_of_tree (by kernel_rfl)
theorem args_bytes_lt (a b : Value) : argsOk "bytes.__lt__" ⟨[a, b], []⟩ := by unfold argsOk; kernel_rfl
def toI (l : List UInt8) : List Int := l.map fun c => (c.toNat : Int)
theorem toI_in (l : List UInt8) : ∀ x ∈ toI l, 0 ≤ x ∧ x < 256 := by
  intro x hx
  obtain ⟨c, _, rfl⟩ := List.mem_map.mp hx
  have := c.toNat_lt
  omega
theorem order_code : ∀ (a b : List UInt8), a.length = b.length → (Bytes.order a b == .lt) = decide (codeI (toI a) < codeI (toI b))
  | [], [], _ => by simp [Bytes.order, toI, codeI]
  | [], _ :: _, h => by simp at h
  | _ :: _, [], h => by simp at h
  | x :: a, y :: b, h => by
    have h' : a.length = b.length := by simpa using h
    have ha := codeI_nonneg (toI_in a)
    have hb := codeI_nonneg (toI_in b)
    have ea : (toI a).length = a.length := List.length_map ..
    have eb : (toI b).length = a.length := by rw [h']; exact List.length_map ..
    rw [ea] at ha
    rw [eb] at hb
    have ih := order_code a b h'
    show (Bytes.order (x :: a) (y :: b) == .lt) = decide (codeI ((x.toNat : Int) :: toI a) < codeI ((y.toNat : Int) :: toI b))
    rw [codeI_cons, codeI_cons, ea, eb]
    simp only [Bytes.order]
    have hp : (0 : Int) < 256 ^ a.length := Int.pow_pos (by decide)
    generalize (256 : Int) ^ a.length = P at *
    generalize codeI (toI a) = u at *
    generalize codeI (toI b) = v at *
    by_cases h1 : x < y
    · have h1' : (x.toNat : Int) + 1 ≤ y.toNat := by have := UInt8.lt_iff_toNat_lt.mp h1; omega
      have := Int.mul_le_mul_of_nonneg_right h1' (Int.le_of_lt hp)
      rw [Int.add_mul] at this
      simp only [h1, if_true]
      symm
      rw [show ((Ordering.lt == Ordering.lt) = true) from rfl, decide_eq_true_eq]
      omega
    · by_cases h2 : y < x
      · have h2' : (y.toNat : Int) + 1 ≤ x.toNat := by have := UInt8.lt_iff_toNat_lt.mp h2; omega
        have := Int.mul_le_mul_of_nonneg_right h2' (Int.le_of_lt hp)
        rw [Int.add_mul] at this
        simp only [h1, if_false, gt_iff_lt, h2, if_true]
        symm
        rw [show ((Ordering.gt == Ordering.lt) = false) from rfl, decide_eq_false_iff_not]
        omega
      · have e : x = y := UInt8.le_antisymm (UInt8.not_lt.mp h2) (UInt8.not_lt.mp h1)
        subst e
        simp only [h1, if_false]
        rw [ih]
        congr 1
        apply propext
        constructor <;> intro <;> omega
section
variable {prog : Program} {w : World} {A : Around} {E : Value → Shared → Prop} {s : Shared}
theorem call_bytes_lt {a b : Array UInt8} {t u : Tok} {Q : Value → Shared → Prop} (h : Q (.bool (Bytes.order a.toList b.toList == .lt)) s) :
    wpAny (model prog w) A (call (.builtin "bytes.__lt__") [.bytes a t, .bytes b u]) Q E s := by
  refine wpAny_call_entry slot_bytes_lt (typeIs_bytes s a t) entry_bytes_lt ?_ (args_bytes_lt _ _)
  show wpAny _ _ (isInstance (.bytes b u) (.type "bytes") >>= fun r => _) _ _ s
  refine wpAny_bind (wpAny_isInstance (typeIs_bytes s b u) F.sub_bytes_bytes ?_)
  exact wpAny_pure ⟨_, rfl, h⟩
theorem oneLt_bytes {a b : Array UInt8} {t u : Tok} {Q : Bool → Shared → Prop} (h : Q (Bytes.order a.toList b.toList == .lt) s) : wpAny (model prog w) A (oneLt' true (.bytes a t) (.bytes b u)) Q E s := by
  rw [oneLt'_eq]
  simp only [if_true]
  refine wpAny_bind (wpAny_cRoomFor_byValue rfl ?_)
  refine wpAny_bind (wpAny_callSpecialIfBound?_slot (typeIs_bytes s a t) slot_bytes_lt (call_bytes_lt ?_))
  exact wpAny_truthy_bool h
end
abbrev bytesKind (n : Nat) : KeyKind where
  α := Int
  blt a b := decide (a < b)
  irrefl a := by simp
  trans a b c h1 h2 := by simp only [decide_eq_true_eq] at *; omega
  negTrans a b c h := by simp only [decide_eq_true_eq] at *; omega
  total a b h1 h2 := by simp only [decide_eq_false_iff_not] at *; omega
  keyOf v := match v with
    | .bytes x _ => if x.size = n then some (codeI (KBw.bInts x)) else none
    | _ => none
  dflt := 0
theorem bytesKind_oneLt (n : Nat) : (bytesKind n).OneLt := by
  intro prog w A E s x y a b Q ha hb h
  cases x <;> simp only [bytesKind, reduceCtorEq] at ha
  cases y <;> simp only [bytesKind, reduceCtorEq] at hb
  rename_i x _ y _
  by_cases hx : x.size = n
  · by_cases hy : y.size = n
    · rw [if_pos hx] at ha
      rw [if_pos hy] at hb
      cases ha; cases hb
      refine oneLt_bytes ?_
      rw [order_code _ _ (by rw [Array.length_toList, Array.length_toList]; omega)]
      exact h
    · rw [if_neg hy] at hb; cases hb
  · rw [if_neg hx] at ha; cases ha
/-- the code of a value -/
def codeV : Value → Int
  | .bytes x _ => codeI (KBw.bInts x)
  | _ => 0
theorem BytsAre.all {n tp : Int} : ∀ {vs : List Value} {cs : List Int}, BytsAre vs (cs.map (octB n)) → ∀ v, v ∈ vs → ∃ k t, k ∈ cs ∧ v = .bytes (octB n k) t
  | vs, [], h, v, hv => by
    have e : vs = [] := h
    subst e
    simp at hv
  | _, c :: cs, h, v, hv => by
    obtain ⟨t, r, e, h⟩ := h
    subst e
    rcases List.mem_cons.mp hv with rfl | hv
    · exact ⟨c, t, List.mem_cons_self .., rfl⟩
    · obtain ⟨k, t', hk, e⟩ := BytsAre.all (tp := tp) h v hv
      exact ⟨k, t', List.mem_cons_of_mem _ hk, e⟩
theorem BytsAre.codes {n : Int} : ∀ {vs : List Value} {cs : List Int}, (∀ x ∈ cs, 0 ≤ x ∧ x < 256 ^ n.toNat) → BytsAre vs (cs.map (octB n)) → vs.map codeV = cs
  | vs, [], _, h => by
    have e : vs = [] := h
    subst e
    rfl
  | _, c :: cs, hin, h => by
    obtain ⟨t, r, e, h⟩ := h
    subst e
    rw [List.map_cons, BytsAre.codes (fun x hx => hin x (List.mem_cons_of_mem _ hx)) h]
    have := hin c (List.mem_cons_self ..)
    show codeI (KBw.bInts (octB n c)) :: cs = _
    rw [oct_code this.1 this.2]
theorem bytsAre_map {n : Int} : ∀ (vs : List Value), (∀ v, v ∈ vs → ∃ k t, (0 ≤ k ∧ k < 256 ^ n.toNat) ∧ v = .bytes (octB n k) t) → BytsAre vs ((vs.map codeV).map (octB n))
  | [], _ => .nil
  | v :: vs, h => by
    obtain ⟨k, t, hk, rfl⟩ := h v (List.mem_cons_self ..)
    rw [List.map_cons, List.map_cons]
    have e : codeV (.bytes (octB n k) t) = k := oct_code hk.1 hk.2
    rw [e]
    exact .cons _ t (bytsAre_map vs fun u hu => h u (List.mem_cons_of_mem _ hu))
theorem firstOfTuple'_bytes (x : Array UInt8) (t : Tok) : firstOfTuple' (.bytes x t) = pure none := rfl
theorem mapM_first_byts : ∀ {bs : List (Array UInt8)} {vs : List Value}, BytsAre vs bs → vs.mapM firstOfTuple' = pure (vs.map fun _ => none)
  | [], vs, h => by
    have e : vs = [] := h
    subst e
    simp
  | _ :: _, _, h => by
    obtain ⟨t, r, e, h⟩ := h
    subst e
    rw [List.mapM_cons, firstOfTuple'_bytes, mapM_first_byts h]; simp
theorem mapM_typeOf_byts : ∀ {bs : List (Array UInt8)} {vs : List Value}, BytsAre vs bs → vs.mapM typeOf = pure (vs.map fun _ => Value.type "bytes")
  | [], vs, h => by
    have e : vs = [] := h
    subst e
    simp
  | _ :: _, _, h => by
    obtain ⟨t, r, e, h⟩ := h
    subst e
    rw [List.mapM_cons, mapM_typeOf_byts h]
    show (pure (Value.type "bytes") >>= fun b => pure _ >>= fun bs => pure (b :: bs)) = _
    simp
theorem keyKind_byts {v₁ v₂ : Value} {vs : List Value} {bs : List (Array UInt8)} (hS : BytsAre (v₁ :: v₂ :: vs) bs) : keyKind' (v₁ :: v₂ :: vs).toArray = pure oneType' := by
  rw [keyKind'_eq, List.mapM_toArray, mapM_first_byts hS]
  simp only [map_pure, pure_bind]
  rw [if_neg (by simp), if_neg (by simp)]
  rw [oneTypeOnly'_eq, List.mapM_toArray, mapM_typeOf_byts hS]
  simp only [map_pure, pure_bind]
  have hall : ((List.map (fun _ => Value.type "bytes") (v₁ :: v₂ :: vs)).toArray.all fun x => x == Value.type "bytes") = true := by
    simp only [List.all_toArray, List.all_map, List.all_eq_true]
    intro _ _
    rfl
  have h0 : (List.map (fun _ => Value.type "bytes") (v₁ :: v₂ :: vs)).toArray[0]? = some (Value.type "bytes") := by simp
  rw [h0]
  simp only [hall, if_true, pure_bind, Option.isSome_some]
section
variable {n : Int} {vs : List Value} {cs : List Int}
theorem octB_sizeN (hn : 0 ≤ n) (k : Int) : (octB n k).size = n.toNat := by
  have := oct_size n k hn
  omega
theorem byts_keys (hn : 0 ≤ n) (hS : BytsAre vs (cs.map (octB n))) : PyProof.Rows.KeysOf (bytesKind n.toNat) (PyProof.Rows.pairsOf vs) := by
  intro p hp
  rw [PyProof.Rows.pairsOf_toList] at hp
  obtain ⟨k, t, _, e⟩ := hS.all (tp := 0) _ (mem_zip_self hp).2
  refine ⟨codeI (KBw.bInts (octB n k)), ?_⟩
  rw [e]
  exact if_pos (octB_sizeN hn k)
theorem KK_byts {xs : Array Keyed} {i : Nat} (hi : i < xs.size) {k : Int} {t : Tok} (hn : 0 ≤ n) (hk : 0 ≤ k ∧ k < 256 ^ n.toNat) (hx : xs[i].1 = .bytes (octB n k) t) : KK (bytesKind n.toNat) xs i = k := by
  unfold KK
  rw [getElem?_pos xs i hi]
  show ((bytesKind n.toNat).keyOf xs[i].1).getD 0 = k
  rw [hx]
  show (if (octB n k).size = n.toNat then some (codeI (KBw.bInts (octB n k))) else none).getD 0 = k
  rw [if_pos (octB_sizeN hn k), oct_code hk.1 hk.2]
  rfl
theorem sorted_out_byts (hn : 0 ≤ n) (hin : ∀ x ∈ cs, 0 ≤ x ∧ x < 256 ^ n.toNat) (hS : BytsAre vs (cs.map (octB n))) {xs : Array Keyed} (hp : xs.Perm (PyProof.Rows.pairsOf vs)) (hs : SortedToK (bytesKind n.toNat) xs (PyProof.Rows.pairsOf vs).size) :
    ∃ cs' : List Int, BytsAre (xs.map (·.2)).toList (cs'.map (octB n)) ∧ cs'.Perm cs ∧ cs'.Pairwise (· ≤ ·) := by
  have hl : xs.toList.Perm (vs.zip vs) := by rw [← PyProof.Rows.pairsOf_toList]; exact Array.perm_iff_toList_perm.mp hp
  have hmem : ∀ p, p ∈ xs.toList → p.1 = p.2 ∧ p.1 ∈ vs := fun p hp' => mem_zip_self (hl.mem_iff.mp hp')
  have hval : ∀ v ∈ vs, ∃ k t, (0 ≤ k ∧ k < 256 ^ n.toNat) ∧ v = .bytes (octB n k) t := by
    intro v hv
    obtain ⟨k, t, hk, e⟩ := hS.all (tp := 0) v hv
    exact ⟨k, t, hin k hk, e⟩
  refine ⟨xs.toList.map (fun p => codeV p.1), ?_, ?_, ?_⟩
  · have e : (xs.map (·.2)).toList = xs.toList.map (·.1) := by
      rw [Array.toList_map]; exact List.map_congr_left fun p hp' => (hmem p hp').1.symm
    rw [e]
    have h1 := bytsAre_map (n := n) (xs.toList.map (·.1)) (by
      intro v hv
      obtain ⟨p, hp', rfl⟩ := List.mem_map.mp hv
      exact hval _ (hmem p hp').2)
    rw [List.map_map (f := fun x : Keyed => x.1)] at h1
    exact h1
  · have h1 := hl.map (fun p => codeV p.1)
    have e2 : (vs.zip vs).map (fun p => codeV p.1) = cs := by
      have : (vs.zip vs).map (fun p => codeV p.1) = ((vs.zip vs).map Prod.fst).map codeV := by rw [List.map_map]; rfl
      rw [this, List.map_fst_zip (Nat.le_refl _), hS.codes hin]
    rwa [e2] at h1
  · rw [List.pairwise_iff_getElem]
    intro i j hi hj hij
    have hi' : i < xs.size := by simpa using hi
    have hj' : j < xs.size := by simpa using hj
    have h1 := hs i j (Nat.le_of_lt hij) (by rw [← hp.size_eq]; exact hj')
    obtain ⟨k, t, hk, ek⟩ := hval _ (hmem xs[i] (by simp)).2
    obtain ⟨q, u, hq, eq⟩ := hval _ (hmem xs[j] (by simp)).2
    rw [KK_byts hi' hn hk ek, KK_byts hj' hn hq eq] at h1
    change decide (q < k) = false at h1
    simp only [List.getElem_map, Array.getElem_toList]
    rw [ek, eq]
    show codeI (KBw.bInts (octB n k)) ≤ codeI (KBw.bInts (octB n q))
    rw [oct_code hk.1 hk.2, oct_code hq.1 hq.2]
    simpa using h1
end
section
variable {prog : Program} {w : World} {A : Around} {E : Value → Shared → Prop} {s : Shared} {h₀ : Heap} {L : Addr} {m : PySem.Str → Option Value} {news : List (Addr × Obj)} {n : Int} {vs : List Value} {cs : List Int}
theorem sorted_byts {l : Addr} {c : Nat} {Q : Value → Shared → Prop} (F : Fr h₀ L s.heap m) (N : News h₀ L s.heap news) (hm : (l, W.listOf vs.toArray c) ∈ news) (hn : 0 ≤ n) (hin : ∀ x ∈ cs, 0 ≤ x ∧ x < 256 ^ n.toNat) (hS : BytsAre vs (cs.map (octB n))) (h64 : cs.length < 64)
    (h : ∀ (D : Addr) (h' : Heap) (vs' : List Value) (cs' : List Int) (e : Nat), Fr h₀ L h' m → News h₀ L h' ((D, W.listOf vs'.toArray e) :: news) → (∀ q ∈ news, q.1 < D) →
      BytsAre vs' (cs'.map (octB n)) → cs'.Perm cs → cs'.Pairwise (· ≤ ·) → cs'.length = cs.length → Q (.ref D) { s with heap := h' }) :
    wpAny (model prog w) A (call (.builtin "sorted") [.ref l]) Q E s := by
  have hl : s.heap.IsList l vs.toArray := ⟨_, (N _ hm).1, rfl, c, rfl⟩
  have hlen := hS.length
  rw [List.length_map] at hlen
  refine sortedK (bytesKind_oneLt n.toNat) hl (byts_keys hn hS) (fun v₁ v₂ rest e => keyKind_byts (by rw [← e]; exact hS)) (by omega) fun st' hp hs => ?_
  obtain ⟨cs', h1, h2, h3⟩ := sorted_out_byts hn hin hS hp hs
  obtain ⟨e, he⟩ := sortedAll_at s.heap vs ((arrOf st').map (·.2))
  exact h _ _ ((arrOf st').map (·.2)).toList cs' e (F.kept fun _ _ => sortedAll_old) (N.kept_cons F (fun _ _ => sortedAll_old) (Nat.le_succ _) he) (fun q hq => Nat.lt_succ_of_lt (Heap.lt_size (N q hq).1)) h1 h2 h3 h2.length_eq
end
theorem byts_item {n : Int} {vs : List Value} {cs : List Int} {i : Nat} {v : Value} (hS : BytsAre vs (cs.map (octB n))) (hv : vs[i]? = some v) : ∃ k, cs[i]? = some k ∧ ∃ t, v = .bytes (octB n k) t := by
  have hl := hS.length
  rw [List.length_map] at hl
  have hi : i < cs.length := by
    rw [← hl]; exact (List.getElem?_eq_some_iff.mp hv).1
  refine ⟨cs[i], List.getElem?_eq_getElem hi, ?_⟩
  obtain ⟨t, ht⟩ := hS.get i (octB n cs[i]) (by rw [List.getElem?_map, List.getElem?_eq_getElem hi]; rfl)
  rw [hv] at ht
  exact ⟨t, Option.some.inj ht⟩
/-- two sorted lists of the same ints are one -/
theorem sorted_unique : ∀ {a b : List Int}, a.Perm b → a.Pairwise (· ≤ ·) → b.Pairwise (· ≤ ·) → a = b
  | [], b, h, _, _ => (List.nil_perm.mp h).symm
  | x :: a, [], h, _, _ => by have := h.length_eq; simp at this
  | x :: a, y :: b, h, ha, hb => by
    have hx : x ∈ y :: b := h.mem_iff.mp List.mem_cons_self
    have hy : y ∈ x :: a := h.mem_iff.mpr List.mem_cons_self
    have h1 : y ≤ x := by
      rcases List.mem_cons.mp hx with e | e
      · omega
      · exact List.rel_of_pairwise_cons hb e
    have h2 : x ≤ y := by
      rcases List.mem_cons.mp hy with e | e
      · omega
      · exact List.rel_of_pairwise_cons ha e
    have e : x = y := by omega
    subst e
    rw [sorted_unique (List.Perm.cons_inv h) (List.pairwise_cons.mp ha).2 (List.pairwise_cons.mp hb).2]
end
section
open PySem PySem.W PyProof.Rows
set_option Elab.async false
set_option maxRecDepth 100000
set_option maxHeartbeats 400000
open PySem.Calls PySem.Spec
theorem news_drop {h₀ : Heap} {L : Addr} {h : Heap} {a : Addr × Obj} {r : List (Addr × Obj)} (N : News h₀ L h (a :: r)) : News h₀ L h r := fun p hp => N p (List.mem_cons_of_mem _ hp)
section
variable {prog : Program} {w : World} {A : Around} {E : Value → Shared → Prop} {s : Shared}
theorem pow256 {e : Int} {t u : Tok} {Q : Value → Shared → Prop} (h0 : 0 ≤ e) (h1 : e ≤ 1000) (h : Q (.int (256 ^ e.toNat) s.toks) { s with toks := s.toks + 1 }) : wpAny (model prog w) A (binaryOp .Pow (.int 256 t) (.int e u)) Q E s :=
  pow_int_small h0 (by omega) (by decide) h
theorem ne_bytesN {a b : Array UInt8} {t u : Tok} {Q : Value → Shared → Prop} (e : a = b) (h : Q (.bool false) s) : wpAny (model prog w) A (compareOp .NotEq (.bytes a t) (.bytes b u)) Q E s := by
  subst e
  exact ne_bytes (by simpa using h)
end
theorem oct_small {n : Int} (k : Int) (h1 : 1 ≤ n) (h4 : n ≤ 4) : (octB n k).size ≤ 2 ^ 10 := by
  have := oct_size n k (by omega)
  omega
theorem take_one {cs : List Int} {i : Nat} {k : Int} {ys : List Value} {v : Value} (hy : IntsAre ys (cs.take i)) (hk : cs[i]? = some k) (hv : ∃ t, v = .int k t) : IntsAre (ys ++ [v]) (cs.take (i + 1)) := by
  obtain ⟨t, rfl⟩ := hv
  rw [List.take_add_one, hk]
  exact IntsAre.append hy (.cons _ _ .nil)
theorem sorted_intsN {prog : Program} {w : World} {A : Around} {E : Value → Shared → Prop} {s : Shared} {h₀ : Heap} {L l : Addr} {m : PySem.Str → Option Value} {news : List (Addr × Obj)} {vs : List Value} {ns : List Int} {c : Nat} {Q : Value → Shared → Prop} (F : Fr h₀ L s.heap m) (N : News h₀ L s.heap news) (hm : (l, W.listOf vs.toArray c) ∈ news) (hi : IntsAre vs ns) (h64 : ns.length < 64)
    (h : ∀ D vs' ns' c h', Fr h₀ L h' m → News h₀ L h' ((D, W.listOf vs'.toArray c) :: news) → (∀ q ∈ news, q.1 < D) → IntsAre vs' ns' → ns'.Perm ns → ns'.Pairwise (· ≤ ·) → Q (.ref D) { s with heap := h' }) :
    wpAny (model prog w) A (call (.builtin "sorted") [.ref l]) Q E s :=
  kso_sorted F N ⟨_, (N _ hm).1, rfl, c, rfl⟩ hi h64 fun D vs' ns' c h' F' N' l1 i' _ p' o' _ => h D vs' ns' c h' F' N' l1 i' p' o'
theorem ne_intsN {prog : Program} {w : World} {A : Around} {E : Value → Shared → Prop} {s : Shared} {h₀ : Heap} {L a b : Addr} {news : List (Addr × Obj)} {vs us : List Value} {ns ms : List Int} {c d : Nat} {Q : Value → Shared → Prop} (N : News h₀ L s.heap news) (ha : (a, W.listOf vs.toArray c) ∈ news) (hb : (b, W.listOf us.toArray d) ∈ news) (hi : IntsAre vs ns) (hi' : IntsAre us ms) (e : ns = ms) (hu : A.units + 64 < cLine)
    (h : Q (.bool false) s) : wpAny (model prog w) A (compareOp .NotEq (.ref a) (.ref b)) Q E s := by
  subst e
  exact ne_intsK ⟨_, (N _ ha).1, rfl, c, rfl⟩ hi ⟨_, (N _ hb).1, rfl, d, rfl⟩ hi' hu (by simpa using h)
theorem rot5 {h₀ : Heap} {L : Addr} {h : Heap} {a b c d e f g : Addr × Obj} {r : List (Addr × Obj)} (N : News h₀ L h (a :: b :: c :: d :: e :: f :: g :: r)) : News h₀ L h (f :: g :: a :: b :: c :: d :: e :: r) := fun p hp => N p (by
  simp only [List.mem_cons] at hp ⊢; rcases hp with h | h | h | h | h | h | h | h <;> simp [h])
theorem rot5_sub {a b c d e f g : Addr × Obj} {r : List (Addr × Obj)} : ∀ p ∈ a :: b :: c :: d :: e :: f :: g :: r, p ∈ f :: g :: a :: b :: c :: d :: e :: r := fun p hp => by
  simp only [List.mem_cons] at hp ⊢; rcases hp with h | h | h | h | h | h | h | h <;> simp [h]
section
variable {prog : Program} {w : World} {A : Around} {E : Value → Shared → Prop} {s : Shared} {h₀ : Heap} {L : Addr} {m : PySem.Str → Option Value} {news : List (Addr × Obj)} {vs : List Value} {ns : List Int} {c : Nat}
theorem bytes_intsN {l : Addr} {Q : Value → Shared → Prop} (F : Fr h₀ L s.heap m) (N : News h₀ L s.heap news) (hh : A.handled = none) (hm : (l, W.listOf vs.toArray c) ∈ news) (hi : IntsAre vs ns) (hr : ∀ x ∈ ns, 0 ≤ x ∧ x < 256) (hn : ns.length ≤ 4096)
    (h : ∀ h' t' k, Fr h₀ L h' m → News h₀ L h' news → Q (.bytes (byteArr ns) t') { s with heap := h', toks := k }) : wpAny (model prog w) A (call (.type "bytes") [.ref l]) Q E s :=
  KBa.make_K F N hh ⟨_, (N _ hm).1, rfl, c, rfl⟩ hi hr (by omega) fun h' t' k F' N' _ => h h' t' k F' N'
theorem upto_intsN {value slice : PySem.Expr} {l : Addr} {y : Int} {ty : Tok} {Q : Value → Shared → Prop} (F : Fr h₀ L s.heap m) (N : News h₀ L s.heap news) (hm : (l, W.listOf vs.toArray c) ∈ news) (hi : IntsAre vs ns) (hy : 0 ≤ y) (hn : ns.length ≤ 4096)
    (h : ∀ D ws h', Fr h₀ L h' m → News h₀ L h' ((D, W.listOf (List.toArray ws) 0) :: news) → (∀ p ∈ news, p.1 < D) → IntsAre ws (ns.take y.toNat) → Q (.ref D) { s with heap := h' })
    (hs : subscripted slice false (.ref l) (.ref s.heap.objs.size) = operate [.ref s.heap.objs.size, .ref l] (getItem (.ref l) (.ref s.heap.objs.size))) (ht : ∀ r, letTemporaryGo value (.ref l) r = pure ()) :
    wpAny (model prog w) A (subscriptTail value slice (.ref l) (.ref s.heap.objs.size)) Q E { s with heap := s.heap.push { cls := .type "slice", data := .fields #[.none, .int y ty, .none] } } :=
  kmk_slice_ints F N ⟨_, (N _ hm).1, rfl, c, rfl⟩ .none (.int _ _) hi (kmk_upto hi hy) rfl (fun D ws h' F' N' l1 hI _ _ => h D ws h' F' N' l1 hI) hs ht (by rw [List.size_toArray, hi.length, sizeLine_eq]; omega)
theorem from_intsN {value slice : PySem.Expr} {l : Addr} {y : Int} {ty : Tok} {Q : Value → Shared → Prop} (F : Fr h₀ L s.heap m) (N : News h₀ L s.heap news) (hm : (l, W.listOf vs.toArray c) ∈ news) (hi : IntsAre vs ns) (hy : 0 ≤ y) (hn : ns.length ≤ 4096)
    (h : ∀ D ws h', Fr h₀ L h' m → News h₀ L h' ((D, W.listOf (List.toArray ws) 0) :: news) → (∀ p ∈ news, p.1 < D) → IntsAre ws (ns.drop y.toNat) → Q (.ref D) { s with heap := h' })
    (hs : subscripted slice false (.ref l) (.ref s.heap.objs.size) = operate [.ref s.heap.objs.size, .ref l] (getItem (.ref l) (.ref s.heap.objs.size))) (ht : ∀ r, letTemporaryGo value (.ref l) r = pure ()) :
    wpAny (model prog w) A (subscriptTail value slice (.ref l) (.ref s.heap.objs.size)) Q E { s with heap := s.heap.push { cls := .type "slice", data := .fields #[.int y ty, .none, .none] } } :=
  kmk_slice_ints F N ⟨_, (N _ hm).1, rfl, c, rfl⟩ (.int _ _) .none hi (kmk_from hi hy) rfl (fun D ws h' F' N' l1 hI _ _ => h D ws h' F' N' l1 hI) hs ht (by rw [List.size_toArray, hi.length, sizeLine_eq]; omega)
end
theorem in_take {ns : List Int} (h : ∀ x ∈ ns, 0 ≤ x ∧ x < 256) (k : Nat) : ∀ x ∈ ns.take k, 0 ≤ x ∧ x < 256 := fun x hx => h x (List.mem_of_mem_take hx)
theorem in_drop {ns : List Int} (h : ∀ x ∈ ns, 0 ≤ x ∧ x < 256) (k : Nat) : ∀ x ∈ ns.drop k, 0 ≤ x ∧ x < 256 := fun x hx => h x (List.mem_of_mem_drop hx)
theorem byteArr_small {ns : List Int} (h : ns.length ≤ 6) : (byteArr ns).size ≤ 2 ^ 10 := by rw [byteArr_size]; omega
theorem byteArr_small_take {ns : List Int} (h : ns.length ≤ 6) (k : Nat) : (byteArr (ns.take k)).size ≤ 2 ^ 10 := by rw [byteArr_size, List.length_take]; omega
theorem byteArr_small_drop {ns : List Int} (h : ns.length ≤ 6) (k : Nat) : (byteArr (ns.drop k)).size ≤ 2 ^ 10 := by rw [byteArr_size, List.length_drop]; omega
/-- a code of two parts -/
theorem code_parts {ns : List Int} (h : ∀ x ∈ ns, 0 ≤ x ∧ x < 256) {k : Int} (h0 : 0 ≤ k) (h1 : k ≤ ns.length) :
    codeI (KBw.bInts (byteArr (ns.take k.toNat))) * 256 ^ ((ns.length : Int) - k).toNat + codeI (KBw.bInts (byteArr (ns.drop k.toNat))) = codeI (KBw.bInts (byteArr ns)) := by
  rw [bInts_byteArr h, bInts_byteArr (in_take h _), bInts_byteArr (in_drop h _)]
  have := codeI_append (ns.take k.toNat) (ns.drop k.toNat)
  rw [List.take_append_drop, List.length_drop] at this
  rw [this, show ((ns.length : Int) - k).toNat = ns.length - k.toNat by omega]
theorem code_back {ns : List Int} (h : ∀ x ∈ ns, 0 ≤ x ∧ x < 256) : byteArr (beI ((ns.length : Nat) : Int).toNat (codeI (KBw.bInts (byteArr ns)))) = byteArr ns := by
  rw [bInts_byteArr h, Int.toNat_natCast, beI_codeI ns h]
theorem fr_put3 {h₀ : Heap} {L : Addr} {h : Heap} {a b c : PySem.Str} {u v w : Option Value} {m : PySem.Str → Option Value} (F : Fr h₀ L h m) (e1 : m a = u) (e2 : m b = v) (e3 : m c = w) : Fr h₀ L h (fun y => if y = a then u else if y = b then v else if y = c then w else m y) :=
  fr_same F fun z => by
    by_cases h1 : z = a
    · rw [if_pos h1, h1, e1]
    · by_cases h2 : z = b
      · rw [if_neg h1, if_pos h2, h2, e2]
      · by_cases h3 : z = c
        · rw [if_neg h1, if_neg h2, if_pos h3, h3, e3]
        · rw [if_neg h1, if_neg h2, if_neg h3]
theorem list_lenI {prog : Program} {w : World} {A : Around} {E : Value → Shared → Prop} {s : Shared} {h₀ : Heap} {L l : Addr} {news : List (Addr × Obj)} {vs : List Value} {ns : List Int} {c : Nat} {Q : Value → Shared → Prop} (N : News h₀ L s.heap news) (hm : (l, W.listOf vs.toArray c) ∈ news) (hv : IntsAre vs ns) (hz : ns.length ≤ 4096)
    (h : ∀ t' k, Q (.int (ns.length : Nat) t') { s with toks := k }) : wpAny (model prog w) A (call (.builtin "len") [.ref l]) Q E s :=
  list_len N hm (by rw [hv.length]; exact hz) fun t' k => by rw [hv.length]; exact h t' k
theorem le6 {ns : List Int} (h : ns.length ≤ 6) : ns.length ≤ 4096 := by omega
theorem le6_take {ns : List Int} (h : ns.length ≤ 6) (k : Nat) : (ns.take k).length ≤ 4096 := by rw [List.length_take]; omega
theorem le6_drop {ns : List Int} (h : ns.length ≤ 6) (k : Nat) : (ns.drop k).length ≤ 4096 := by rw [List.length_drop]; omega
theorem back3 {h₀ : Heap} {L : Addr} {h : Heap} {a b c d e : Addr × Obj} {r : List (Addr × Obj)} (N : News h₀ L h (a :: b :: c :: d :: e :: r)) : News h₀ L h (c :: d :: e :: a :: b :: r) := fun p hp => N p (by
  simp only [List.mem_cons] at hp ⊢; rcases hp with h | h | h | h | h | h <;> simp [h])
theorem code_lt {ns : List Int} (h : ∀ x ∈ ns, 0 ≤ x ∧ x < 256) (h6 : ns.length ≤ 6) : 0 ≤ codeI ns ∧ codeI ns < 281474976710656 := by
  have a := codeI_nonneg h
  refine ⟨a.1, Int.lt_of_lt_of_le a.2 ?_⟩
  have : ns.length = 0 ∨ ns.length = 1 ∨ ns.length = 2 ∨ ns.length = 3 ∨ ns.length = 4 ∨ ns.length = 5 ∨ ns.length = 6 := by omega
  rcases this with e | e | e | e | e | e | e <;> rw [e] <;> decide
theorem code_mul {ns : List Int} (h : ∀ x ∈ ns, 0 ≤ x ∧ x < 256) (h6 : ns.length ≤ 6) (k : Nat) (b : Int) : IntMulOk (codeI (KBw.bInts (byteArr (ns.take k)))) b := by
  rw [bInts_byteArr (in_take h k)]
  have := code_lt (in_take h k) (by rw [List.length_take]; omega)
  exact .of_left (intBits_le_64 (by omega) (by omega))
end
section
open PySem PySem.W PyProof.Rows
set_option Elab.async false
set_option maxRecDepth 100000
set_option maxHeartbeats 400000
open PySem.Calls PySem.Spec
/-- the codes of a text's signs -/
def strI (x : PySem.Str) : List Int := x.cps.toList.map Int.ofNat
theorem strI_append (a b : PySem.Str) : strI (a ++ b) = strI a ++ strI b := by
  show (a.cps ++ b.cps).toList.map Int.ofNat = _
  rw [Array.toList_append, List.map_append]
  rfl
def sgn (d : Int) : Int := if d < 10 then 48 + d else 55 + d
theorem sgn_ok {d : Int} (h0 : 0 ≤ d) (h1 : d < 16) : 48 ≤ sgn d ∧ sgn d ≤ 70 ∧ (sgn d ≤ 57 ∨ 65 ≤ sgn d) := by
  unfold sgn
  split <;> omega
theorem hexW_sgn {d : Int} (h0 : 0 ≤ d) (h1 : d < 16) : hexW (sgn d) = d := by
  by_cases h : d < 10
  · rw [sgn, if_pos h, hexW, if_pos (by omega)]; omega
  · rw [sgn, if_neg h, hexW, if_neg (by omega)]; omega
def hexI : List Int → List Int
  | [] => []
  | k :: l => sgn (k / 16) :: sgn (k % 16) :: hexI l
theorem hexI_len : ∀ l : List Int, (hexI l).length = 2 * l.length
  | [] => rfl
  | _ :: l => by rw [hexI, List.length_cons, List.length_cons, List.length_cons, hexI_len l]; omega
theorem hexI_ok : ∀ {l : List Int}, (∀ x ∈ l, 0 ≤ x ∧ x < 256) → ∀ c ∈ hexI l, 48 ≤ c ∧ c ≤ 70 ∧ (c ≤ 57 ∨ 65 ≤ c)
  | [], _ => fun _ h => by cases h
  | k :: l, h => by
    have hk := h k (.head _)
    intro c hc
    rw [hexI] at hc
    rcases List.mem_cons.mp hc with rfl | hc
    · exact sgn_ok (by omega) (by omega)
    rcases List.mem_cons.mp hc with rfl | hc
    · exact sgn_ok (by omega) (by omega)
    · exact hexI_ok (fun x hx => h x (.tail _ hx)) c hc
theorem hexPair_hexI : ∀ {l : List Int}, (∀ x ∈ l, 0 ≤ x ∧ x < 256) → ∀ i, hexPair (hexI l) i = l.getD i 0
  | [], _ => fun i => by unfold hexPair; simp [hexI]
  | k :: l, h => by
    have hk := h k (.head _)
    intro i
    cases i with
    | zero =>
      unfold hexPair hexI
      simp only [List.map_cons, Nat.mul_zero, List.getD_cons_zero, Nat.zero_add, List.getD_cons_succ]
      rw [hexW_sgn (by omega) (by omega), hexW_sgn (by omega) (by omega)]
      omega
    | succ i =>
      have := hexPair_hexI (fun x hx => h x (.tail _ hx)) i
      unfold hexPair at this ⊢
      unfold hexI
      simp only [List.map_cons, show 2 * (i + 1) = 2 * i + 1 + 1 by omega, List.getD_cons_succ]
      exact this
theorem pairs_hexI {l : List Int} (h : ∀ x ∈ l, 0 ≤ x ∧ x < 256) {k : Nat} (hk : l.length = k) : pairsOf k (hexI l) = l := by
  subst hk
  apply List.ext_getElem
  · rw [List.length_map, List.length_range]
  · intro i h1 h2
    rw [List.getElem_map, List.getElem_range, hexPair_hexI h]
    simp [List.getD_eq_getElem?_getD, h2]
theorem strI_item {d : Int} (h0 : 0 ≤ d) (h1 : d < 16) : strI (Txt.item HEX d) = [sgn d] := by
  have : d = 0 ∨ d = 1 ∨ d = 2 ∨ d = 3 ∨ d = 4 ∨ d = 5 ∨ d = 6 ∨ d = 7 ∨ d = 8 ∨ d = 9 ∨ d = 10 ∨ d = 11 ∨ d = 12 ∨ d = 13 ∨ d = 14 ∨ d = 15 := by omega
  rcases this with e | e | e | e | e | e | e | e | e | e | e | e | e | e | e | e <;> subst e <;> decide +kernel
theorem strI_hex2 {k : Int} (h : 0 ≤ k ∧ k < 256) : strI (hex2 k) = [sgn (k / 16), sgn (k % 16)] := by
  unfold hex2
  rw [strI_append, bitAnd_m4, show (2 : Int) ^ Int.toNat 4 = 16 by decide, Int.fdiv_eq_ediv_of_nonneg _ (by decide), strI_item (by omega) (by omega), strI_item (by omega) (by omega)]
  rfl
theorem strI_join (sep : PySem.Str) : ∀ (r : List PySem.Str) (x : PySem.Str), strI (PySem.Str.join sep (x :: r)) = strI x ++ r.flatMap fun y => strI sep ++ strI y
  | [], x => by rw [List.flatMap_nil, List.append_nil]; rfl
  | y :: r, x => by
    show strI (x ++ sep ++ PySem.Str.join sep (y :: r)) = _
    rw [strI_append, strI_append, strI_join sep r y, List.flatMap_cons]
    simp only [List.append_assoc]
theorem strI_empty : strI (Str.ofString "") = [] := by decide +kernel
theorem strI_hexes : ∀ {l : List Int}, (∀ x ∈ l, 0 ≤ x ∧ x < 256) → (l.map hex2).flatMap (fun y => strI y) = hexI l
  | [], _ => rfl
  | k :: l, h => by
    rw [List.map_cons, List.flatMap_cons, strI_hex2 (h k (.head _)), strI_hexes fun x hx => h x (.tail _ hx)]
    rfl
theorem strI_hexText {l : List Int} (h : ∀ x ∈ l, 0 ≤ x ∧ x < 256) : strI (hexText l) = 60 :: (hexI l ++ [62]) := by
  unfold hexText
  rw [strI_append, strI_append, show strI (Str.ofString "<") = [60] by decide +kernel, show strI (Str.ofString ">") = [62] by decide +kernel]
  unfold Txt.join
  rw [StrLaws.glued_eq_join]
  cases l with
  | nil => rfl
  | cons k l =>
    rw [List.map_cons, strI_join, strI_empty]
    simp only [List.nil_append]
    rw [strI_hex2 (h k (.head _)), strI_hexes fun x hx => h x (.tail _ hx)]
    rfl
/-- a space's text: from a code to the greatest one -/
def spaceText (n top : Int) (k : Int) : PySem.Str := hexText (KBw.bInts (octB n k)) ++ hexText (KBw.bInts (octB n top))
def spaceI (n top : Int) (k : Int) : List Int × List Int := (hexI (beI n.toNat k), hexI (beI n.toNat top))
theorem strI_space (n top k : Int) : strI (spaceText n top k) = 60 :: ((spaceI n top k).1 ++ 62 :: 60 :: ((spaceI n top k).2 ++ [62])) := by
  unfold spaceText spaceI
  rw [strI_append, oct_bInts, oct_bInts, strI_hexText beI_in, strI_hexText beI_in]
  simp
theorem strI_begin : strI (Str.ofString "begincodespacerange") = beginw := by decide +kernel
theorem strI_end : strI (Str.ofString "endcodespacerange") = endw := by decide +kernel
theorem strI_sp : strI (Str.ofString " ") = [32] := by decide +kernel
theorem flat_spaces (n top : Int) : ∀ cs : List Int, (cs.map (spaceText n top) ++ [Str.ofString "endcodespacerange"]).flatMap (fun y => strI (Str.ofString " ") ++ strI y) = flatEnd (cs.map (spaceI n top))
  | [] => by
    rw [List.map_nil, List.nil_append, List.flatMap_cons, List.flatMap_nil, strI_sp, strI_end]
    simp [flatEnd]
  | k :: cs => by
    rw [List.map_cons, List.cons_append, List.flatMap_cons, flat_spaces n top cs, strI_sp, strI_space, List.map_cons, flatEnd]
    simp
theorem hexText_len (l : List Int) : (hexText l).length ≤ 2 * l.length + 2 := by
  have h := hexJoin_len l
  have e1 : (Str.ofString "<").length = 1 := by decide +kernel
  have e2 : (Str.ofString ">").length = 1 := by decide +kernel
  unfold hexText
  rw [Str.length_append, Str.length_append, e1, e2]
  omega
theorem spaceText_small {n k top : Int} (hn : n ≤ 4) : (hexText (KBw.bInts (octB n k))).length + (hexText (KBw.bInts (octB n top))).length ≤ 20 := by
  have a := hexText_len (KBw.bInts (octB n k))
  have b := hexText_len (KBw.bInts (octB n top))
  rw [oct_bInts, beI_len] at a b
  rw [oct_bInts, oct_bInts]
  omega
theorem spaceText_len (n top k : Int) (hn : n ≤ 4) : (spaceText n top k).length ≤ 20 := by
  unfold spaceText
  rw [Str.length_append]
  exact spaceText_small hn
/-- the text of the law -/
def lawLines (n top : Int) (cs : List Int) : List PySem.Str := Str.ofString "begincodespacerange" :: (cs.map (spaceText n top) ++ [Str.ofString "endcodespacerange"])
def lawText (n top : Int) (cs : List Int) : PySem.Str := Txt.join (Str.ofString " ") (lawLines n top cs)
theorem strI_law (n top : Int) (cs : List Int) : strI (lawText n top cs) = beginw ++ flatEnd (cs.map (spaceI n top)) := by
  unfold lawText lawLines Txt.join
  rw [StrLaws.glued_eq_join, strI_join, strI_begin, flat_spaces]
theorem space_ok {n top k : Int} (h0 : 0 ≤ top) (ht : top = 256 ^ n.toNat - 1) : HexOk n.toNat (spaceI n top k) := by
  refine ⟨by rw [spaceI, hexI_len, beI_len], by rw [spaceI, hexI_len, beI_len], hexI_ok beI_in, hexI_ok beI_in, fun i hi => ?_⟩
  rw [spaceI]
  dsimp only
  rw [hexPair_hexI beI_in, hexPair_hexI beI_in]
  have h1 : beI n.toNat top = List.replicate n.toNat 255 := by
    have e : codeI (List.replicate n.toNat 255) = top := by
      subst ht
      generalize n.toNat = m
      clear h0 hi i k n
      induction m with
      | zero => rfl
      | succ m ih => rw [List.replicate_succ, codeI_cons, ih, List.length_replicate, Int.pow_succ]; omega
    have := beI_codeI (List.replicate n.toNat 255) fun x hx => by rw [List.eq_of_mem_replicate hx]; decide
    rw [e, List.length_replicate] at this
    exact this
  rw [h1, List.getD_eq_getElem?_getD (l := List.replicate _ _), List.getElem?_replicate, if_pos hi]
  have hl : (beI n.toNat k).getD i 0 < 256 := by
    rw [List.getD_eq_getElem?_getD]
    cases hj : (beI n.toNat k)[i]? with
    | none => decide
    | some x => exact (beI_in x (List.mem_of_getElem? hj)).2
  show _ ≤ (255 : Int)
  omega
theorem hexI_max {l : List Int} (h : ∀ x ∈ l, 0 ≤ x ∧ x < 256) : ∀ c ∈ hexI l, 0 ≤ c ∧ c < 256 := fun c hc => by
  have := hexI_ok h c hc
  omega
theorem flatEnd_in (n top : Int) : ∀ cs : List Int, ∀ c ∈ flatEnd (cs.map (spaceI n top)), 0 ≤ c ∧ c < 256
  | [], c, hc => by
    have : ∀ c ∈ flatEnd [], 0 ≤ c ∧ c < 256 := by decide
    exact this c hc
  | k :: cs, c, hc => by
    rw [List.map_cons, flatEnd] at hc
    rcases List.mem_cons.mp hc with rfl | hc
    · decide
    rcases List.mem_cons.mp hc with rfl | hc
    · decide
    rcases List.mem_append.mp hc with hc | hc
    · exact hexI_max beI_in c hc
    rcases List.mem_cons.mp hc with rfl | hc
    · decide
    rcases List.mem_cons.mp hc with rfl | hc
    · decide
    rcases List.mem_append.mp hc with hc | hc
    · exact hexI_max beI_in c hc
    rcases List.mem_cons.mp hc with rfl | hc
    · decide
    · exact flatEnd_in n top cs c hc
theorem law_in (n top : Int) (cs : List Int) : ∀ c ∈ strI (lawText n top cs), 0 ≤ c ∧ c < 256 := fun c hc => by
  rw [strI_law] at hc
  rcases List.mem_append.mp hc with hc | hc
  · have : ∀ c ∈ beginw, 0 ≤ c ∧ c < 256 := by decide
    exact this c hc
  · exact flatEnd_in n top cs c hc
theorem flatEnd_len (n top : Int) : ∀ cs : List Int, (flatEnd (cs.map (spaceI n top))).length = 18 + cs.length * (5 + 4 * n.toNat)
  | [] => by rw [List.map_nil, List.length_nil, Nat.zero_mul]; rfl
  | k :: cs => by
    have ih := flatEnd_len n top cs
    rw [List.map_cons, flatEnd, List.length_cons (as := cs), Nat.succ_mul]
    simp only [List.length_cons, List.length_append]
    rw [ih, spaceI, hexI_len, hexI_len, beI_len, beI_len]
    omega
theorem law_len {n top : Int} {cs : List Int} (h8 : cs.length ≤ 8) (hn : n ≤ 4) : (strI (lawText n top cs)).length ≤ 4096 := by
  rw [strI_law, List.length_append, flatEnd_len]
  have : cs.length * (5 + 4 * n.toNat) ≤ 8 * 21 := Nat.mul_le_mul h8 (by omega)
  have hb : beginw.length = 19 := rfl
  omega
theorem lines_sum {n top : Int} {cs : List Int} (h8 : cs.length ≤ 8) (hn : n ≤ 4) : ((lawLines n top cs).map (·.length)).sum + (lawLines n top cs).length ≤ 1048576 := by
  have hs : ∀ (l : List Int), ((l.map (spaceText n top)).map (·.length)).sum ≤ l.length * 20 := by
    intro l
    induction l with
    | nil => exact Nat.le_refl _
    | cons k l ih =>
      rw [List.map_cons, List.map_cons, List.sum_cons, List.length_cons, Nat.succ_mul]
      have := spaceText_len n top k hn
      omega
  have := hs cs
  unfold lawLines
  rw [List.map_cons, List.map_append, List.sum_cons, List.sum_append, List.length_cons, List.length_append, List.length_map]
  have e1 : (Str.ofString "begincodespacerange").length = 19 := by decide +kernel
  have e2 : (([Str.ofString "endcodespacerange"] : List PySem.Str).map (·.length)).sum = 17 := by decide +kernel
  rw [e1, e2]
  simp only [List.length_cons, List.length_nil]
  omega
end
section
open PySem PySem.W PyProof.Rows
set_option Elab.async false
set_option maxRecDepth 100000
set_option maxHeartbeats 2000000
open PySem.Calls PySem.Spec
theorem reset_S7 {prog : Program} {w : World} {A : Around} {env : Env} {Q : Flow → Shared → Prop} {E : Value → Shared → Prop} {s : Shared} (h : Q .next s) : wpAny (model prog w) A (execs [] env) Q E s := by
  w_top off
  k_with_none
  k_with "z6" => ((refine' code_def ?k1 ?k2 ?k3 ?k4 ?k5 ?kA ?kF ?kK ?k6 ?k7 ?k8 ?k9 ?kB ?_ ?c2 ?c3 ?c4 ?c5; (case kA => exact rfl); (case kF => exact rfl); (case kK => first | exact rfl | assumption); (case k1 => k_asm); (case k2 => k_asm); (case k3 => k_asm); (case k4 => k_asm); (case k5 => k_asm); (case k6 => k_is); (case k7 => k_is); (case k8 => ktr_room); (case k9 => first | exact BindsTo.of_eq rfl | exact binds_K (by k_in) rfl (by k_is) rfl rfl rfl | fail "k_enter: no rule for these arguments"); (case c5 => decide); (case kB => exact locs rfl); (case c2 => exact rfl); (case c3 => exact rfl); (case c4 => exact rfl); k_whole; intro g' L' h' FG' F' N' B' X' T'; (try dsimp only); (try k_lift B'); (try k_fold)))
  k_with "z30" => ((rename AllLt _ _ => h1; first | exact allNe_of h1 (by omega) | (clear h1; rename AllLt _ _ => h2; first | exact allNe_of h2 (by omega) | (clear h2; rename AllLt _ _ => h3; exact allNe_of h3 (by omega)))))
  k_with "z9" => (first | (refine eqN (by omega) ?_) | (refine eqY (by omega) ?_))
  k_with "z10" => (first | (refine neN (by omega) ?_) | (refine neY (by omega) ?_))
  k_with "z11" => (first | (refine ltY (by omega) ?_) | (refine ltN (by omega) ?_))
  k_with "z12" => (first | (refine gtY (by omega) ?_) | (refine gtN (by omega) ?_))
  k_with "z13" => (first | (refine leY (by omega) ?_) | (refine leN (by omega) ?_))
  k_with "z14" => (first | (refine geY (by omega) ?_) | (refine geN (by omega) ?_))
  k_with "z15" => ((k_dflt (first | (refine' notInN (tupK ?kX ?kL) ?kI ?kE ?_; (case kX => k_in); (case kL => k_is); (case kI => (repeat constructor)); (case kE => rfl)) | (refine' notInY (tupK ?kX ?kL) ?kI ?kE ?_; (case kX => k_in); (case kL => k_is); (case kI => (repeat constructor)); (case kE => (repeat (first | exact any_no_nil | (refine any_no_cons (by omega) ?_))))))))
  k_with "z16" => ((k_dflt (first | (refine' inY (tupK ?kX ?kL) ?kI ?kE ?_; (case kX => k_in); (case kL => k_is); (case kI => (repeat constructor)); (case kE => rfl)) | (refine' inN (tupK ?kX ?kL) ?kI ?kE ?_; (case kX => k_in); (case kL => k_is); (case kI => (repeat constructor)); (case kE => (repeat (first | exact any_no_nil | (refine any_no_cons (by omega) ?_))))))))
  k_with "z17" => ((k_dflt (refine whl_start 3 ?_)))
  k_with "z24" => (first | (refine ite_neg Bool.false_ne_true ?_) | (refine ite_pos rfl ?_))
  k_with "z31" => ((dsimp only [WhileStep2]))
  k_with "z25" => ((k_here; (rename Fr _ _ _ _ => lF'); (with_unfolding_all refine' For_invVF lF' ?k1 ?k2 ?_; (case k1 => exact rfl); (case k2 => exact rfl); k_whole)))
  k_with "z58" => (((with_reducible show wpAny _ _ (call _ [_]) _ _ _); (rename Fr _ _ _ _ => F'); (rename News _ _ _ _ => N'); (with_unfolding_all refine range1_rows F' N' ?_; intro _ _ _ _ _ _ _ _ _)))
  k_with "z60" => (((with_reducible show wpAny _ _ (call (Value.ref 437) _) _ _ _); k_dflt (refine' Tells.use (code_octets_tells _ _ _ _ _ ?c1 ?c2) ?B9 ?F9 ?X9 ?N9 ?T9 ?K9 ?d9 ?u9 ?_; (case B9 => k_asm); (case F9 => k_asm); (case X9 => k_asm); (case N9 => k_asm); (case T9 => k_asm); (case K9 => first | exact rfl | assumption); (case d9 => ktr_room); (case u9 => ktr_units); (case c1 => omega); (case c2 => omega)); (dsimp only [BackV]); intro t9 h9 tk9 F9 N9; (try dsimp only); (try k_fold)))
  k_with "z61" => (((with_reducible show wpAny _ _ (call (Value.ref 432) _) _ _ _); k_dflt (refine' Tells.use (code_of_tells _ _ _ ?c1) ?B9 ?F9 ?X9 ?N9 ?T9 ?K9 ?d9 ?u9 ?_; (case B9 => k_asm); (case F9 => k_asm); (case X9 => k_asm); (case N9 => k_asm); (case T9 => k_asm); (case K9 => first | exact rfl | assumption); (case d9 => ktr_room); (case u9 => ktr_units); (case c1 => first | omega | (simp only [Array.size_append, List.size_toArray, List.length_cons, List.length_nil]; omega))); (dsimp only [BackV]); intro t9 h9 tk9 F9 N9; (try dsimp only); (try k_fold)))
  k_with "z62" => ((refine pow256 (tl4 (by assumption)) (tl5 (by assumption)) ?_))
  walk1
  exact h
local macro_rules | `(tactic| walk_at "exec For Name Call cons nil") => `(tactic| k_extra "z25")
local macro_rules | `(tactic| walk_at "call type:range") => `(tactic| k_extra "z58")
local macro_rules | `(tactic| walk_at "call ref") => `(tactic| k_extra "z60")
local macro_rules | `(tactic| walk_at "call ref") => `(tactic| k_extra "z61")
local macro_rules | `(tactic| walk_at "exec For Tuple Call cons nil") => `(tactic| k_dflt (k_extra "myfor"))
local macro_rules | `(tactic| walk_at "call type:zip") => `(tactic| k_dflt (k_extra "myzip"))
local macro_rules | `(tactic| walk_at "CompSrc") => `(tactic| k_dflt (k_extra "mysrc"))
local macro_rules | `(tactic| walk_at "CompEnd") => `(tactic| k_dflt (k_extra "myce"))
local macro_rules | `(tactic| walk_at "call builtin:sum") => `(tactic| k_dflt (k_extra "mysum"))
local macro_rules | `(tactic| walk_at "subscriptTail Name Name bytes int") => `(tactic| k_dflt (k_extra "mytail"))
local macro_rules | `(tactic| walk_at "compareOp NotEq bytes bytes") => `(tactic| k_dflt (k_extra "mybytes"))
def C7 (L pa ca co oc : Addr) (vsC : List Value) (nC : Nat) (vs ws : List Value) (c c2 : Nat) (pl fu : Int) (u v : Tok) (o1 o2 o3 : Obj) (m₀ : PySem.Str → Option Value) (_i : Nat) (m : PySem.Str → Option Value) (nx : List (Addr × Obj)) : Prop :=
  (∀ z, z ≠ Str.ofString "code" → m z = m₀ z) ∧ ∃ (o4 : Obj) (v4 : Option Value), o4.data = .cell v4 ∧ nx = [(oc, W.listOf ws.toArray c2), (co, W.listOf vs.toArray c), (pa, penObj ca pl u fu v 0), (ca, W.listOf vsC.toArray nC), (L + 1 + 1 + 1 + 1, o4), (L + 1 + 1 + 1, o3), (L + 1 + 1, o2), (L + 1, o1)]
theorem seven_item {n k : Int} {j : Nat} {ys : List Value} {t : Tok} (hys : IntsAre ys ((List.range j).map (octTerm n k))) : IntsAre (ys ++ [Value.int ((beI n.toNat k).getD (0 + (j : Int)).toNat 0 * 256 ^ (n - 1 - (0 + (j : Int))).toNat) t]) ((List.range (j + 1)).map (octTerm n k)) := by
  rw [tl6, List.range_succ, List.map_append]
  exact IntsAre.append hys (.cons _ _ .nil)
local macro_rules | `(tactic| walk_at "binaryOp Pow int int") => `(tactic| k_extra "z62")
theorem seg7 (w : World) (mg mb : PySem.Str → Option Value) (mean : ExcName → Option Value) (h₀ : Heap) (L fa : Addr) (cdv : Value) (s : Shared) (Q : Flow → Shared → Prop) (E : Value → Shared → Prop) (m : PySem.Str → Option Value)
    (B : Below callerA h₀ [] h₀) (X : (h0.heap_1_39 w.params).In h₀) (T : Top h0.view_1_40 Ls mean mg mb h₀) (hE : PassesOwn (model Challenge.rw_og0188_01.row.prog w) (callerA.deeper (lawEnv L fa cdv)) (lawEnv L fa cdv) E)
    (pa ca : Addr) (o1 o2 o3 o4 : Obj) (v4 : Option Value) (vsC : List Value) (nC : Nat) (nsC : List Int) (pl fu : Int) (u v : Tok) (n tp : Int) (tn tt : Tok)
    (g1 : @LT.lt Nat _ (L + 1 + 1 + 1 + 1) pa) (g0 : @Ne Nat (L + 1 + 1 + 1 + 1) ca) (g2 : @LT.lt Nat _ ca pa) (d1 : o1.data = .cell (some (.ref pa))) (d2 : o2.data = .cell (some (.int n tn))) (d3 : o3.data = .cell (some (.int tp tt))) (d4 : o4.data = .cell v4)
    (hIC : IntsAre vsC nsC) (hlC : nsC.length ≤ 40) (hpl : 0 ≤ pl) (hfu : 0 ≤ fu) (hn1 : 1 ≤ n) (hn4 : n ≤ 4) (ht1 : 256 ≤ tp) (ht2 : tp ≤ 4294967296) (htp : tp = 256 ^ n.toNat) (co oc : Addr) (g3 : @LT.lt Nat _ pa co) (g4 : @Ne Nat pa oc) (g5 : @Ne Nat (L + 1 + 1 + 1 + 1) oc) (cs : List Int) (vs ws : List Value) (c c2 : Nat) (hcs : IntsAre vs cs) (hws : BytsAre ws (cs.map (octB n))) (hc8 : cs.length ≤ 8) (hcin : ∀ x ∈ cs, 0 ≤ x ∧ x < tp)
    (F : Fr h₀ L s.heap (fun y => if y = Str.ofString "octets" then some (.ref oc) else if y = Str.ofString "codes" then some (.ref co) else m y)) (N : News h₀ L s.heap [(oc, W.listOf ws.toArray c2), (co, W.listOf vs.toArray c), (pa, penObj ca pl u fu v 0), (ca, W.listOf vsC.toArray nC), (L + 1 + 1 + 1 + 1, o4), (L + 1 + 1 + 1, o3), (L + 1 + 1, o2), (L + 1, o1)])
    (next : ∀ (m' : PySem.Str → Option Value) (h' : Heap) (tk' : Nat) (o4 : Obj) (v4 : Option Value), o4.data = .cell v4 → 
      Fr h₀ L h' (fun y => if y = Str.ofString "octets" then some (.ref oc) else if y = Str.ofString "codes" then some (.ref co) else m' y) → News h₀ L h' [(oc, W.listOf ws.toArray c2), (co, W.listOf vs.toArray c), (pa, penObj ca pl u fu v 0), (ca, W.listOf vsC.toArray nC), (L + 1 + 1 + 1 + 1, o4), (L + 1 + 1 + 1, o3), (L + 1 + 1, o2), (L + 1, o1)] → wpAny (model Challenge.rw_og0188_01.row.prog w) (callerA.deeper (lawEnv L fa cdv)) (execs (lawBody.drop 7) (lawEnv L fa cdv)) Q E { s with heap := h', toks := tk' }) :
    wpAny (model Challenge.rw_og0188_01.row.prog w) (callerA.deeper (lawEnv L fa cdv)) (execs (lawBody.drop 6) (lawEnv L fa cdv)) Q E s := by
  have hMk := kstMark
  show wpAny _ _ (execs (_ :: _) _) _ _ _
  have hvl := hcs.length
  have hwl := hws.length
  rw [List.length_map] at hwl
  k_with "myfor" => (
    (rename Fr _ _ _ _ => lF); (with_unfolding_all refine' For_turns lF ?_); k_whole)
  k_with "myzip" => (
    (rename Fr _ _ _ _ => lF); (rename News _ _ _ _ => lN);
    (with_unfolding_all refine ktu_zip (lo1 := W.listOf vs.toArray c) (lo2 := W.listOf ws.toArray c2) (xs := vs) (ys := ws) (by rfl) lF lN (by k_mem) (by rfl) (by rfl) (by k_mem) (by rfl) (by rfl) ?_); intro i' l1; (try k_lt l1);
    refine zip_inv (C7 L pa ca co oc vsC nC vs ws c c2 pl fu u v o1 o2 o3 _) (by omega) ⟨fun _ _ => rfl, o4, v4, d4, rfl⟩ ?_ ?_;
    (rintro i x y T h9 tk9 m₁ nx hx hy ⟨hm, o4, v4, d4, rfl⟩ hT F₁; have F₂ := fr_out F₁ hm; clear F₁ lF lN; ktu_objs;
     obtain ⟨k9, t9, rfl, hk9⟩ := IntsAre.at hcs i x hx; obtain ⟨b9, y9, rfl, hbI, hcd, hsz, hcz, hcv, hbm, hsm, hk0, hk1⟩ := byts_at hws hk9 hy (by omega) htp hcin; clear htp); rotate_left;
    (rintro m₁ nx h9 tk9 ⟨hm, o4, v4, d4, rfl⟩ F₁ N₁; exact next m₁ h9 tk9 o4 v4 d4 (fr_same F₁ fun z => by (by_cases hz : z = Str.ofString "octets"; (subst hz; rw [hm _ (by decide)]; rfl); by_cases hy : z = Str.ofString "codes"; (subst hy; rw [hm _ (by decide)]; rfl); simp [hz, hy])) N₁);
    all_goals (try k_fold))
  k_with "mysrc" => (
    refine LCg.CompSrc.range (n := n.toNat) (by rfl) (by k_asm) (by k_asm) (by assumption) (small_one (by omega) (by omega) (by omega) (by omega)) (by rw [rangeSize_nat]; omega) (by rw [sizeLine_eq]; omega) ?_;
    intro g;
    refine rest_inv (fun i ys nx => IntsAre ys ((List.range i).map (octTerm n k9)) ∧ nx = _) ⟨.nil, rfl⟩ ?_ ?_;
    (rintro j ys nx v9 I oI C oC D m₂ h tk E' hi ⟨t7, rfl⟩ ⟨hys, rfl⟩ hC hx F₁ N₁ off ne;
     have off0 := off; simp only [LCg.Off3, and_true] at off); rotate_left;
    (rintro ys nx ⟨hys, rfl⟩ D8 h8 tk8 F8 N8 off8; simp only [LCg.Off1, and_true] at off8);
    all_goals (try k_fold))
  k_with "myce" => (
    (rename Fr _ _ _ _ => F₃); (rename News _ _ _ _ => N₃);
    exact LCg.CompEnd.intro F₃ N₃ _ (fun _ hp => hp) off0 trivial ⟨seven_item hys, rfl⟩)
  k_with "mytail" => (
    refine KBw.item_K hbI (tl1 hn4) (tl2 _) (tl3 (by assumption)) ?_; intro _ _ kbaLo kbaHi)
  k_with "mysum" => (
    refine sum_listN (by k_asm) (by k_asm) rfl (by k_mem) (by assumption) (oct_fit hn4).1 (oct_fit hn4).2 ?_;
    rw [hsm]; intro h7 t7 k7 F7 N7; have N6 := news_drop N7; clear N7)
  k_with "mybytes" => (refine ne_bytesN hbm ?_)
  k_steps
  · exact ⟨fun z hz => by simp [hz], _, _, by assumption, rfl⟩
end
section
open PySem PySem.W PyProof.Rows
set_option Elab.async false
set_option maxRecDepth 100000
set_option maxHeartbeats 2000000
open PySem.Calls PySem.Spec
theorem reset_S8 {prog : Program} {w : World} {A : Around} {env : Env} {Q : Flow → Shared → Prop} {E : Value → Shared → Prop} {s : Shared} (h : Q .next s) : wpAny (model prog w) A (execs [] env) Q E s := by
  w_top off
  k_with_none
  k_with "z6" => ((refine' code_def ?k1 ?k2 ?k3 ?k4 ?k5 ?kA ?kF ?kK ?k6 ?k7 ?k8 ?k9 ?kB ?_ ?c2 ?c3 ?c4 ?c5; (case kA => exact rfl); (case kF => exact rfl); (case kK => first | exact rfl | assumption); (case k1 => k_asm); (case k2 => k_asm); (case k3 => k_asm); (case k4 => k_asm); (case k5 => k_asm); (case k6 => k_is); (case k7 => k_is); (case k8 => ktr_room); (case k9 => first | exact BindsTo.of_eq rfl | exact binds_K (by k_in) rfl (by k_is) rfl rfl rfl | fail "k_enter: no rule for these arguments"); (case c5 => decide); (case kB => exact locs rfl); (case c2 => exact rfl); (case c3 => exact rfl); (case c4 => exact rfl); k_whole; intro g' L' h' FG' F' N' B' X' T'; (try dsimp only); (try k_lift B'); (try k_fold)))
  k_with "z30" => ((rename AllLt _ _ => h1; first | exact allNe_of h1 (by omega) | (clear h1; rename AllLt _ _ => h2; first | exact allNe_of h2 (by omega) | (clear h2; rename AllLt _ _ => h3; exact allNe_of h3 (by omega)))))
  k_with "z9" => (first | (refine eqN (by omega) ?_) | (refine eqY (by omega) ?_))
  k_with "z10" => (first | (refine neN (by omega) ?_) | (refine neY (by omega) ?_))
  k_with "z11" => (first | (refine ltY (by omega) ?_) | (refine ltN (by omega) ?_))
  k_with "z12" => (first | (refine gtY (by omega) ?_) | (refine gtN (by omega) ?_))
  k_with "z13" => (first | (refine leY (by omega) ?_) | (refine leN (by omega) ?_))
  k_with "z14" => (first | (refine geY (by omega) ?_) | (refine geN (by omega) ?_))
  k_with "z15" => ((k_dflt (first | (refine' notInN (tupK ?kX ?kL) ?kI ?kE ?_; (case kX => k_in); (case kL => k_is); (case kI => (repeat constructor)); (case kE => rfl)) | (refine' notInY (tupK ?kX ?kL) ?kI ?kE ?_; (case kX => k_in); (case kL => k_is); (case kI => (repeat constructor)); (case kE => (repeat (first | exact any_no_nil | (refine any_no_cons (by omega) ?_))))))))
  k_with "z16" => ((k_dflt (first | (refine' inY (tupK ?kX ?kL) ?kI ?kE ?_; (case kX => k_in); (case kL => k_is); (case kI => (repeat constructor)); (case kE => rfl)) | (refine' inN (tupK ?kX ?kL) ?kI ?kE ?_; (case kX => k_in); (case kL => k_is); (case kI => (repeat constructor)); (case kE => (repeat (first | exact any_no_nil | (refine any_no_cons (by omega) ?_))))))))
  k_with "z17" => ((k_dflt (refine whl_start 3 ?_)))
  k_with "z24" => (first | (refine ite_neg Bool.false_ne_true ?_) | (refine ite_pos rfl ?_))
  k_with "z31" => ((dsimp only [WhileStep2]))
  k_with "z63" => (((with_reducible show wpAny _ _ (call (Value.ref 432) _) _ _ _); k_dflt (refine' Tells.use (code_of_tells _ _ _ ?c1) ?B9 ?F9 ?X9 ?N9 ?T9 ?K9 ?d9 ?u9 ?_; (case B9 => k_asm); (case F9 => k_asm); (case X9 => k_asm); (case N9 => k_asm); (case T9 => k_asm); (case K9 => first | exact rfl | assumption); (case d9 => ktr_room); (case u9 => ktr_units); (case c1 => first | exact oct_small _ (by assumption) (by assumption) | omega | (simp only [Array.size_append, List.size_toArray, List.length_cons, List.length_nil]; omega))); (dsimp only [BackV]); intro t9 h9 tk9 F9 N9; (try dsimp only); (try k_fold)))
  walk1
  exact h
theorem code_item {n k : Int} {cs cs7 : List Int} {i : Nat} (hin : ∀ x ∈ cs, 0 ≤ x ∧ x < 256 ^ n.toNat) (hp : cs7.Perm cs) (hk : cs7[i]? = some k) : codeI (KBw.bInts (octB n k)) = k := by
  have h := hin k (hp.mem_iff.mp (List.mem_of_getElem? hk))
  exact oct_code h.1 h.2
local macro_rules | `(tactic| walk_at "call ref") => `(tactic| k_extra "z63")
local macro_rules | `(tactic| walk_at "call builtin:sorted") => `(tactic| k_dflt (k_extra "mysorted"))
local macro_rules | `(tactic| walk_at "CompSrc") => `(tactic| k_dflt (k_extra "mysrc"))
local macro_rules | `(tactic| walk_at "CompEnd") => `(tactic| k_dflt (k_extra "myce"))
local macro_rules | `(tactic| walk_at "eval ListComp") => `(tactic| k_dflt (k_extra "mylc"))
local macro_rules | `(tactic| walk_at "compareOp NotEq ref ref") => `(tactic| k_dflt (k_extra "myne"))
local macro_rules | `(tactic| walk_at "execs cons Assign cons") => `(tactic| k_dflt (k_extra "mynext"))
theorem seg8 (w : World) (mg mb : PySem.Str → Option Value) (mean : ExcName → Option Value) (h₀ : Heap) (L fa : Addr) (cdv : Value) (s : Shared) (Q : Flow → Shared → Prop) (E : Value → Shared → Prop) (m : PySem.Str → Option Value)
    (B : Below callerA h₀ [] h₀) (X : (h0.heap_1_39 w.params).In h₀) (T : Top h0.view_1_40 Ls mean mg mb h₀) (hE : PassesOwn (model Challenge.rw_og0188_01.row.prog w) (callerA.deeper (lawEnv L fa cdv)) (lawEnv L fa cdv) E)
    (pa ca : Addr) (o1 o2 o3 o4 : Obj) (v4 : Option Value) (vsC : List Value) (nC : Nat) (nsC : List Int) (pl fu : Int) (u v : Tok) (n tp : Int) (tn tt : Tok)
    (g1 : @LT.lt Nat _ (L + 1 + 1 + 1 + 1) pa) (g0 : @Ne Nat (L + 1 + 1 + 1 + 1) ca) (g2 : @LT.lt Nat _ ca pa) (d1 : o1.data = .cell (some (.ref pa))) (d2 : o2.data = .cell (some (.int n tn))) (d3 : o3.data = .cell (some (.int tp tt))) (d4 : o4.data = .cell v4)
    (hIC : IntsAre vsC nsC) (hlC : nsC.length ≤ 40) (hpl : 0 ≤ pl) (hfu : 0 ≤ fu) (hn1 : 1 ≤ n) (hn4 : n ≤ 4) (ht1 : 256 ≤ tp) (ht2 : tp ≤ 4294967296) (htp : tp = 256 ^ n.toNat) (co oc : Addr) (g3 : @LT.lt Nat _ pa co) (g4 : @Ne Nat pa oc) (g5 : @Ne Nat (L + 1 + 1 + 1 + 1) oc) (cs : List Int) (vs ws : List Value) (c c2 : Nat) (hcs : IntsAre vs cs) (hws : BytsAre ws (cs.map (octB n))) (hc8 : cs.length ≤ 8) (hcin : ∀ x ∈ cs, 0 ≤ x ∧ x < tp)
    (F : Fr h₀ L s.heap (fun y => if y = Str.ofString "octets" then some (.ref oc) else if y = Str.ofString "codes" then some (.ref co) else m y)) (N : News h₀ L s.heap [(oc, W.listOf ws.toArray c2), (co, W.listOf vs.toArray c), (pa, penObj ca pl u fu v 0), (ca, W.listOf vsC.toArray nC), (L + 1 + 1 + 1 + 1, o4), (L + 1 + 1 + 1, o3), (L + 1 + 1, o2), (L + 1, o1)])
    (next : ∀ (h' : Heap) (tk' : Nat),
      Fr h₀ L h' (fun y => if y = Str.ofString "octets" then some (.ref oc) else if y = Str.ofString "codes" then some (.ref co) else m y) → News h₀ L h' [(oc, W.listOf ws.toArray c2), (co, W.listOf vs.toArray c), (pa, penObj ca pl u fu v 0), (ca, W.listOf vsC.toArray nC), (L + 1 + 1 + 1 + 1, o4), (L + 1 + 1 + 1, o3), (L + 1 + 1, o2), (L + 1, o1)] → wpAny (model Challenge.rw_og0188_01.row.prog w) (callerA.deeper (lawEnv L fa cdv)) (execs (lawBody.drop 8) (lawEnv L fa cdv)) Q E { s with heap := h', toks := tk' }) :
    wpAny (model Challenge.rw_og0188_01.row.prog w) (callerA.deeper (lawEnv L fa cdv)) (execs (lawBody.drop 7) (lawEnv L fa cdv)) Q E s := by
  have hMk := kstMark
  show wpAny _ _ (execs (_ :: _) _) _ _ _
  have hcin' : ∀ x ∈ cs, 0 ≤ x ∧ x < 256 ^ n.toNat := fun x hx => htp ▸ hcin x hx
  have hn0 : 0 ≤ n := by omega
  clear htp
  k_with "mysorted" => (first
    | ((with_reducible show wpAny _ _ (call _ [Value.ref co]) _ _ _); refine sorted_intsN (by k_asm) (by k_asm) (by k_mem) hcs (by omega) ?_;
       intro D6 vs6 ns6 c6 h6 F6 N6 l6 hi6 hp6 ho6; (try k_lt l6))
    | ((with_reducible show wpAny _ _ (call _ [Value.ref oc]) _ _ _); refine sorted_byts (by k_asm) (by k_asm) (by k_mem) hn0 hcin' hws (by omega) ?_;
       intro D7 h7 vs7 cs7 c7 F7 N7 l7 hi7 hp7 ho7 hl7; (try k_lt l7)))
  k_with "mylc" => (
    refine LCg.ListComp_U (F₀ := by k_asm) (by with_unfolding_all rfl) (by decide) (by rfl) (by decide) (by rfl) ?_)
  k_with "mysrc" => (
    refine LCg.CompSrc.ledger (by rfl) (by k_asm) (by k_asm) (by k_mem) (by (rw [sizeLine_eq, List.size_toArray, hi7.length, List.length_map]; omega)) ?_;
    intro g;
    refine rest_inv (fun i ys nx => IntsAre ys (cs7.take i) ∧ nx = _) ⟨.nil, rfl⟩ ?_ ?_;
    (rintro i ys nx v9 I oI C oC D m₂ h tk E' hi hv ⟨hys, rfl⟩ hC hx F₁ N₁ off ne;
     (have hv2 : vs7[i]? = some v9 := (by simpa using hv)); obtain ⟨k9, hk9, t9, rfl⟩ := byts_item hi7 hv2;
     have off0 := off; simp only [LCg.Off3, and_true] at off); rotate_left;
    (rintro ys nx ⟨hys, rfl⟩ D9 h9 tk9 F9 N9 off9; (rw [List.size_toArray, hi7.length, List.length_map, List.take_length] at hys));
    all_goals (try k_fold))
  k_with "myce" => (
    (rename Fr _ _ _ _ => F₃); (rename News _ _ _ _ => N₃);
    exact LCg.CompEnd.intro F₃ N₃ _ (fun _ hp => hp) off0 (.inr ⟨_, .head _, rfl, _, rfl⟩) ⟨take_one hys hk9 ⟨_, congrArg (fun z => Value.int z _) (code_item hcin' hp7 hk9)⟩, rfl⟩)
  k_with "myne" => (
    refine ne_intsN (by k_asm) (by k_mem) (by k_mem) hi6 hys (sorted_unique (hp6.trans hp7.symm) ho6 ho7) (by first | units_room | ktr_units) ?_)
  k_with "mynext" => (
    (rename Fr _ _ _ _ => F9); (rename News _ _ _ _ => N9); exact next _ _ F9 (news_drop (news_drop (news_drop N9))))
  k_steps
end
section
open PySem PySem.W PyProof.Rows
set_option Elab.async false
set_option maxRecDepth 100000
set_option maxHeartbeats 2000000
open PySem.Calls PySem.Spec
theorem reset_S9 {prog : Program} {w : World} {A : Around} {env : Env} {Q : Flow → Shared → Prop} {E : Value → Shared → Prop} {s : Shared} (h : Q .next s) : wpAny (model prog w) A (execs [] env) Q E s := by
  w_top off
  k_with_none
  k_with "z6" => ((refine' code_def ?k1 ?k2 ?k3 ?k4 ?k5 ?kA ?kF ?kK ?k6 ?k7 ?k8 ?k9 ?kB ?_ ?c2 ?c3 ?c4 ?c5; (case kA => exact rfl); (case kF => exact rfl); (case kK => first | exact rfl | assumption); (case k1 => k_asm); (case k2 => k_asm); (case k3 => k_asm); (case k4 => k_asm); (case k5 => k_asm); (case k6 => k_is); (case k7 => k_is); (case k8 => ktr_room); (case k9 => first | exact BindsTo.of_eq rfl | exact binds_K (by k_in) rfl (by k_is) rfl rfl rfl | fail "k_enter: no rule for these arguments"); (case c5 => decide); (case kB => exact locs rfl); (case c2 => exact rfl); (case c3 => exact rfl); (case c4 => exact rfl); k_whole; intro g' L' h' FG' F' N' B' X' T'; (try dsimp only); (try k_lift B'); (try k_fold)))
  k_with "z30" => ((rename AllLt _ _ => h1; first | exact allNe_of h1 (by omega) | (clear h1; rename AllLt _ _ => h2; first | exact allNe_of h2 (by omega) | (clear h2; rename AllLt _ _ => h3; exact allNe_of h3 (by omega)))))
  k_with "z9" => (first | (refine eqN (by omega) ?_) | (refine eqY (by omega) ?_))
  k_with "z10" => (first | (refine neN (by omega) ?_) | (refine neY (by omega) ?_))
  k_with "z11" => (first | (refine ltY (by omega) ?_) | (refine ltN (by omega) ?_))
  k_with "z12" => (first | (refine gtY (by omega) ?_) | (refine gtN (by omega) ?_))
  k_with "z13" => (first | (refine leY (by omega) ?_) | (refine leN (by omega) ?_))
  k_with "z14" => (first | (refine geY (by omega) ?_) | (refine geN (by omega) ?_))
  k_with "z15" => ((k_dflt (first | (refine' notInN (tupK ?kX ?kL) ?kI ?kE ?_; (case kX => k_in); (case kL => k_is); (case kI => (repeat constructor)); (case kE => rfl)) | (refine' notInY (tupK ?kX ?kL) ?kI ?kE ?_; (case kX => k_in); (case kL => k_is); (case kI => (repeat constructor)); (case kE => (repeat (first | exact any_no_nil | (refine any_no_cons (by omega) ?_))))))))
  k_with "z16" => ((k_dflt (first | (refine' inY (tupK ?kX ?kL) ?kI ?kE ?_; (case kX => k_in); (case kL => k_is); (case kI => (repeat constructor)); (case kE => rfl)) | (refine' inN (tupK ?kX ?kL) ?kI ?kE ?_; (case kX => k_in); (case kL => k_is); (case kI => (repeat constructor)); (case kE => (repeat (first | exact any_no_nil | (refine any_no_cons (by omega) ?_))))))))
  k_with "z17" => ((k_dflt (refine whl_start 3 ?_)))
  k_with "z24" => (first | (refine ite_neg Bool.false_ne_true ?_) | (refine ite_pos rfl ?_))
  k_with "z31" => ((dsimp only [WhileStep2]))
  k_with "z58" => (((with_reducible show wpAny _ _ (call _ [_]) _ _ _); (rename Fr _ _ _ _ => F'); (rename News _ _ _ _ => N'); (with_unfolding_all refine range1_rows F' N' ?_; intro _ _ _ _ _ _ _ _ _)))
  k_with "z64" => (((with_reducible show wpAny _ _ (call (Value.ref 517) _) _ _ _); k_dflt (refine' Tells.use (draw_tells _ _ _ _ _ _ _ _ _ _ _ _ _ ?c1 ?c2 ?c3 ?c4 ?c5 ?c6 ?c7 ?c8 ?c9) ?B9 ?F9 ?X9 ?N9 ?T9 ?K9 ?d9 ?u9 ?_; (case B9 => k_asm); (case F9 => k_asm); (case X9 => k_asm); (case N9 => first | exact rot5 (by k_asm) | exact rot2 (by k_asm)); (case T9 => k_asm); (case K9 => first | exact rfl | assumption); (case d9 => ktr_room); (case u9 => ktr_units); (case c3 => first | assumption | fail "side c3"); (case c1 => first | assumption | k_extra "myc1" | (refine PySem.W.neN ?_; omega) | fail "side c1"); (case c2 => first | k_extra "myc2" | k_all); (case c4 => first | assumption | omega | (simp only [List.length_map, List.length_take]; omega) | (trace_state; fail "side c4")); (case c5 => first | k_extra "myomega" | omega | fail "side c5"); (case c6 => first | k_extra "myomega" | omega | fail "side c6"); (case c7 => first | k_extra "myomega" | omega | fail "side c7"); (case c8 => first | k_extra "myomega" | omega | fail "side c8"); (case c9 => first | k_extra "myomega" | omega | fail "side c9")); (dsimp only [BackDraw, penObj]); intro d9 pl9 fu9 t9 u9 v9 h9 tk9 d0 d1 q0 q1 f0 F9 N9; (try dsimp only); (try k_fold)))
  walk1
  exact h
local macro_rules | `(tactic| walk_at "call type:range") => `(tactic| k_extra "z58")
def C9 (L pa ca co oc : Addr) (vsC : List Value) (nC : Nat) (vs ws : List Value) (c c2 : Nat) (o1 o2 o3 o4 : Obj) (pl₀ : Int) (i : Nat) (ys : List Value) (nx : List (Addr × Obj)) : Prop :=
  ∃ (ns : List Int) (pl fu : Int) (u v : Tok), IntsAre ys ns ∧ ns.length = i ∧ (∀ x ∈ ns, 0 ≤ x ∧ x < 256) ∧ 0 ≤ pl ∧ pl ≤ pl₀ + (i : Int) ∧ 0 ≤ fu ∧ nx = [(oc, W.listOf ws.toArray c2), (co, W.listOf vs.toArray c), (pa, penObj ca pl u fu v 0), (ca, W.listOf vsC.toArray nC), (L + 1 + 1 + 1 + 1, o4), (L + 1 + 1 + 1, o3), (L + 1 + 1, o2), (L + 1, o1)]
theorem ne9 {p a1 a2 a3 a4 a5 a6 a7 a8 a9 : Addr} {b1 b2 b3 b4 b5 b6 b7 b8 b9 : Obj} (h1 : @Ne Nat a1 p) (h2 : @Ne Nat a2 p) (h3 : @Ne Nat a3 p) (h4 : @Ne Nat a4 p) (h5 : @Ne Nat a5 p) (h6 : @Ne Nat a6 p) (h7 : @Ne Nat a7 p) (h8 : @Ne Nat a8 p) (h9 : @Ne Nat a9 p) : ∀ q ∈ [((a1, b1) : Addr × Obj), ((a2, b2) : Addr × Obj), ((a3, b3) : Addr × Obj), ((a4, b4) : Addr × Obj), ((a5, b5) : Addr × Obj), ((a6, b6) : Addr × Obj), ((a7, b7) : Addr × Obj), ((a8, b8) : Addr × Obj), ((a9, b9) : Addr × Obj)], q.1 ≠ p := by
  intro q hq
  simp only [List.mem_cons, List.not_mem_nil, or_false] at hq
  rcases hq with rfl | rfl | rfl | rfl | rfl | rfl | rfl | rfl | rfl
  · exact h1
  · exact h2
  · exact h3
  · exact h4
  · exact h5
  · exact h6
  · exact h7
  · exact h8
  · exact h9
theorem lt_cells {L p : Addr} (h : @LT.lt Nat _ (L + 1 + 1 + 1 + 1) p) : @Ne Nat (L + 1 + 1 + 1 + 1) p ∧ @Ne Nat (L + 1 + 1 + 1) p ∧ @Ne Nat (L + 1 + 1) p ∧ @Ne Nat (L + 1) p := by
  refine ⟨Nat.ne_of_lt h, Nat.ne_of_lt (Nat.lt_of_succ_lt h), Nat.ne_of_lt (Nat.lt_of_succ_lt (Nat.lt_of_succ_lt h)), Nat.ne_of_lt (Nat.lt_of_succ_lt (Nat.lt_of_succ_lt (Nat.lt_of_succ_lt h)))⟩
theorem c9_step {L pa ca co oc : Addr} {vsC vs ws : List Value} {nC c c2 : Nat} {o1 o2 o3 o4 : Obj} {pl₀ : Int} {i : Nat} {ys : List Value} {ns : List Int} {pl fu d : Int} {t u v : Tok} (hI : IntsAre ys ns) (hl : ns.length = i) (hin : ∀ x ∈ ns, 0 ≤ x ∧ x < 256) (h0 : 0 ≤ d) (h1 : d < 256)
    (p0 : 0 ≤ pl) (p1 : pl ≤ pl₀ + ((i + 1 : Nat) : Int)) (f0 : 0 ≤ fu) : C9 L pa ca co oc vsC nC vs ws c c2 o1 o2 o3 o4 pl₀ (i + 1) (ys ++ [Value.int d t]) [(oc, W.listOf ws.toArray c2), (co, W.listOf vs.toArray c), (pa, penObj ca pl u fu v 0), (ca, W.listOf vsC.toArray nC), (L + 1 + 1 + 1 + 1, o4), (L + 1 + 1 + 1, o3), (L + 1 + 1, o2), (L + 1, o1)] := by
  refine ⟨ns ++ [d], _, _, _, _, IntsAre.append hI (.cons _ _ .nil), by simp [hl], fun y hy => ?_, p0, p1, f0, rfl⟩
  rcases List.mem_append.mp hy with h | h
  · exact hin y h
  · rw [List.mem_singleton.mp h]; exact ⟨h0, h1⟩
local macro_rules | `(tactic| walk_at "call ref") => `(tactic| k_extra "z64")
local macro_rules | `(tactic| walk_at "exec Assign cons ListComp") => `(tactic| k_dflt (k_extra "myassign"))
local macro_rules | `(tactic| walk_at "CompSrc") => `(tactic| k_dflt (k_extra "mysrc"))
local macro_rules | `(tactic| walk_at "CompEnd") => `(tactic| k_dflt (k_extra "myce"))
theorem seg9 (w : World) (mg mb : PySem.Str → Option Value) (mean : ExcName → Option Value) (h₀ : Heap) (L fa : Addr) (cdv : Value) (s : Shared) (Q : Flow → Shared → Prop) (E : Value → Shared → Prop) (m : PySem.Str → Option Value)
    (B : Below callerA h₀ [] h₀) (X : (h0.heap_1_39 w.params).In h₀) (T : Top h0.view_1_40 Ls mean mg mb h₀) (hE : PassesOwn (model Challenge.rw_og0188_01.row.prog w) (callerA.deeper (lawEnv L fa cdv)) (lawEnv L fa cdv) E)
    (pa ca : Addr) (o1 o2 o3 o4 : Obj) (v4 : Option Value) (vsC : List Value) (nC : Nat) (nsC : List Int) (pl fu : Int) (u v : Tok) (n tp : Int) (tn tt : Tok)
    (g1 : @LT.lt Nat _ (L + 1 + 1 + 1 + 1) pa) (g0 : @Ne Nat (L + 1 + 1 + 1 + 1) ca) (g2 : @LT.lt Nat _ ca pa) (d1 : o1.data = .cell (some (.ref pa))) (d2 : o2.data = .cell (some (.int n tn))) (d3 : o3.data = .cell (some (.int tp tt))) (d4 : o4.data = .cell v4)
    (hIC : IntsAre vsC nsC) (hlC : nsC.length ≤ 40) (hpl : 0 ≤ pl) (hfu : 0 ≤ fu) (hn1 : 1 ≤ n) (hn4 : n ≤ 4) (ht1 : 256 ≤ tp) (ht2 : tp ≤ 4294967296) (hpl2 : pl ≤ 20) (co oc : Addr) (g3 : @LT.lt Nat _ pa co) (g4 : @Ne Nat pa oc) (g5 : @Ne Nat (L + 1 + 1 + 1 + 1) oc) (vs ws : List Value) (c c2 : Nat)
    (F : Fr h₀ L s.heap (fun y => if y = Str.ofString "octets" then some (.ref oc) else if y = Str.ofString "codes" then some (.ref co) else m y)) (N : News h₀ L s.heap [(oc, W.listOf ws.toArray c2), (co, W.listOf vs.toArray c), (pa, penObj ca pl u fu v 0), (ca, W.listOf vsC.toArray nC), (L + 1 + 1 + 1 + 1, o4), (L + 1 + 1 + 1, o3), (L + 1 + 1, o2), (L + 1, o1)])
    (next : ∀ (ro : Addr) (rvs : List Value) (rns : List Int) (c3 : Nat) (pl' fu' : Int) (u' v' : Tok) (h' : Heap) (tk' : Nat), IntsAre rvs rns → rns.length ≤ 6 → (∀ x ∈ rns, 0 ≤ x ∧ x < 256) → 0 ≤ pl' → pl' ≤ 40 → 0 ≤ fu' → @Ne Nat pa ro → @Ne Nat (L + 1 + 1 + 1 + 1) ro →
      Fr h₀ L h' (fun y => if y = Str.ofString "row" then some (.ref ro) else if y = Str.ofString "octets" then some (.ref oc) else if y = Str.ofString "codes" then some (.ref co) else m y) → News h₀ L h' [(ro, W.listOf rvs.toArray c3), (oc, W.listOf ws.toArray c2), (co, W.listOf vs.toArray c), (pa, penObj ca pl' u' fu' v' 0), (ca, W.listOf vsC.toArray nC), (L + 1 + 1 + 1 + 1, o4), (L + 1 + 1 + 1, o3), (L + 1 + 1, o2), (L + 1, o1)] → wpAny (model Challenge.rw_og0188_01.row.prog w) (callerA.deeper (lawEnv L fa cdv)) (execs (lawBody.drop 9) (lawEnv L fa cdv)) Q E { s with heap := h', toks := tk' }) :
    wpAny (model Challenge.rw_og0188_01.row.prog w) (callerA.deeper (lawEnv L fa cdv)) (execs (lawBody.drop 8) (lawEnv L fa cdv)) Q E s := by
  have hMk := kstMark
  show wpAny _ _ (execs (_ :: _) _) _ _ _
  k_with "myassign" => (
    refine LCg.Assign_ListComp_U (F₀ := by k_asm) (by rfl) (by with_unfolding_all rfl) (by with_unfolding_all rfl) (by decide) (by rfl) (by decide) (by rfl) (by rfl) (by rfl) ?_)
  k_with "mysrc" => (
    (rename IsRange _ _ _ _ _ _ _ _ => lR); (rename News _ _ _ _ => lN);
    refine LCg.CompSrc.range (by rfl) (by k_asm) (rot2 lN) lR (small_one (by omega) (by omega) (by omega) (by omega)) (rangeSize_nat _ _) (by rw [sizeLine_eq]; omega) ?_;
    intro g;
    refine rest_inv (C9 L pa ca co oc vsC nC vs ws c c2 o1 o2 o3 o4 22) ⟨[], _, _, _, _, .nil, rfl, fun _ h => by simp at h, by omega, by omega, by assumption, rfl⟩ ?_ ?_;
    (rintro i ys nx v9 I oI C oC D m₂ h tk E' hi ⟨t7, rfl⟩ ⟨ns9, pl7, fu7, u7, v7, hI9, hl9, hin9, p0, p1, f0, rfl⟩ hC hx F₁ N₁ off ne;
     have off0 := off; simp only [LCg.Off3, and_true] at off); rotate_left;
    (rintro ys nx ⟨ns9, pl7, fu7, u7, v7, hI9, hl9, hin9, p0, p1, f0, rfl⟩ D8 h8 tk8 F8 N8 off8; simp only [LCg.Off1, and_true] at off8; exact next D8 ys ns9 _ pl7 fu7 u7 v7 h8 tk8 hI9 (by omega) hin9 p0 (by omega) f0 off8.2.2.1 off8.2.2.2.2.1 F8 N8);
    all_goals (try k_fold))
  have hcl := lt_cells g1
  have hpca : @Ne Nat pa ca := Ne.symm (Nat.ne_of_lt g2)
  k_with "myc1" => (exact hpca)
  k_with "myomega" => (clear off ne; omega)
  k_with "myc2" => (exact ne9 (Ne.symm off.2.2.1.1) (Ne.symm off.2.2.1.2.1) (Ne.symm off.2.2.1.2.2) (Ne.symm g4) (Ne.symm (Nat.ne_of_lt g3)) hcl.1 hcl.2.1 hcl.2.2.1 hcl.2.2.2)
  k_with "myce" => (
    (rename Fr _ _ _ _ => F₃); (rename News _ _ _ _ => N₃);
    exact LCg.CompEnd.intro F₃ N₃ _ rot5_sub off0 trivial (c9_step hI9 hl9 hin9 (by assumption) (by assumption) (by omega) (by omega) (by assumption)))
  k_steps
end
section
open PySem PySem.W PyProof.Rows
set_option Elab.async false
set_option maxRecDepth 100000
set_option maxHeartbeats 2000000
open PySem.Calls PySem.Spec
theorem reset_S10 {prog : Program} {w : World} {A : Around} {env : Env} {Q : Flow → Shared → Prop} {E : Value → Shared → Prop} {s : Shared} (h : Q .next s) : wpAny (model prog w) A (execs [] env) Q E s := by
  w_top off
  k_with_none
  k_with "z6" => ((refine' code_def ?k1 ?k2 ?k3 ?k4 ?k5 ?kA ?kF ?kK ?k6 ?k7 ?k8 ?k9 ?kB ?_ ?c2 ?c3 ?c4 ?c5; (case kA => exact rfl); (case kF => exact rfl); (case kK => first | exact rfl | assumption); (case k1 => k_asm); (case k2 => k_asm); (case k3 => k_asm); (case k4 => k_asm); (case k5 => k_asm); (case k6 => k_is); (case k7 => k_is); (case k8 => ktr_room); (case k9 => first | exact BindsTo.of_eq rfl | exact binds_K (by k_in) rfl (by k_is) rfl rfl rfl | fail "k_enter: no rule for these arguments"); (case c5 => decide); (case kB => exact locs rfl); (case c2 => exact rfl); (case c3 => exact rfl); (case c4 => exact rfl); k_whole; intro g' L' h' FG' F' N' B' X' T'; (try dsimp only); (try k_lift B'); (try k_fold)))
  k_with "z30" => ((rename AllLt _ _ => h1; first | exact allNe_of h1 (by omega) | (clear h1; rename AllLt _ _ => h2; first | exact allNe_of h2 (by omega) | (clear h2; rename AllLt _ _ => h3; exact allNe_of h3 (by omega)))))
  k_with "z9" => (first | (refine eqN (by omega) ?_) | (refine eqY (by omega) ?_))
  k_with "z10" => (first | (refine neN (by omega) ?_) | (refine neY (by omega) ?_))
  k_with "z11" => (first | (refine ltY (by omega) ?_) | (refine ltN (by omega) ?_))
  k_with "z12" => (first | (refine gtY (by omega) ?_) | (refine gtN (by omega) ?_))
  k_with "z13" => (first | (refine leY (by omega) ?_) | (refine leN (by omega) ?_))
  k_with "z14" => (first | (refine geY (by omega) ?_) | (refine geN (by omega) ?_))
  k_with "z15" => ((k_dflt (first | (refine' notInN (tupK ?kX ?kL) ?kI ?kE ?_; (case kX => k_in); (case kL => k_is); (case kI => (repeat constructor)); (case kE => rfl)) | (refine' notInY (tupK ?kX ?kL) ?kI ?kE ?_; (case kX => k_in); (case kL => k_is); (case kI => (repeat constructor)); (case kE => (repeat (first | exact any_no_nil | (refine any_no_cons (by omega) ?_))))))))
  k_with "z16" => ((k_dflt (first | (refine' inY (tupK ?kX ?kL) ?kI ?kE ?_; (case kX => k_in); (case kL => k_is); (case kI => (repeat constructor)); (case kE => rfl)) | (refine' inN (tupK ?kX ?kL) ?kI ?kE ?_; (case kX => k_in); (case kL => k_is); (case kI => (repeat constructor)); (case kE => (repeat (first | exact any_no_nil | (refine any_no_cons (by omega) ?_))))))))
  k_with "z17" => ((k_dflt (refine whl_start 3 ?_)))
  k_with "z24" => (first | (refine ite_neg Bool.false_ne_true ?_) | (refine ite_pos rfl ?_))
  k_with "z31" => ((dsimp only [WhileStep2]))
  k_with "z59" => (((with_reducible show wpAny _ _ (call (Value.ref 517) _) _ _ _); k_dflt (refine' Tells.use (draw_tells _ _ _ _ _ _ _ _ _ _ _ _ _ ?c1 ?c2 ?c3 ?c4 ?c5 ?c6 ?c7 ?c8 ?c9) ?B9 ?F9 ?X9 ?N9 ?T9 ?K9 ?d9 ?u9 ?_; (case B9 => k_asm); (case F9 => k_asm); (case X9 => k_asm); (case N9 => first | k_asm | exact rot1 (by k_asm) | exact rot2 (by k_asm) | exact rot3 (by k_asm) | exact rot4 (by k_asm)); (case T9 => k_asm); (case K9 => first | exact rfl | assumption); (case d9 => ktr_room); (case u9 => ktr_units); (case c3 => first | assumption | fail "side c3"); (case c1 => first | assumption | (refine PySem.W.neN ?_; omega) | fail "side c1"); (case c2 => k_all); (case c4 => first | assumption | omega | (simp only [List.length_map, List.length_take]; omega) | (trace_state; fail "side c4")); (case c5 => first | omega | fail "side c5"); (case c6 => first | omega | fail "side c6"); (case c7 => first | omega | fail "side c7"); (case c8 => first | omega | fail "side c8"); (case c9 => first | omega | fail "side c9")); (dsimp only [BackDraw, penObj]); intro d9 pl9 fu9 t9 u9 v9 h9 tk9 d0 d1 q0 q1 f0 F9 N9; (try dsimp only); (try k_fold)))
  k_with "z65" => (((with_reducible show wpAny _ _ (call (Value.ref 432) _) _ _ _); k_dflt (refine' Tells.use (code_of_tells _ _ _ ?c1) ?B9 ?F9 ?X9 ?N9 ?T9 ?K9 ?d9 ?u9 ?_; (case B9 => k_asm); (case F9 => k_asm); (case X9 => k_asm); (case N9 => k_asm); (case T9 => k_asm); (case K9 => first | exact rfl | assumption); (case d9 => ktr_room); (case u9 => ktr_units); (case c1 => first | exact byteArr_small (by assumption) | exact byteArr_small_take (by assumption) _ | exact byteArr_small_drop (by assumption) _ | exact Nat.zero_le _)); (dsimp only [BackV]); intro t9 h9 tk9 F9 N9; (try dsimp only); (try k_fold)))
  k_with "z66" => ((k_here; k_dflt (refine bytes_intsN (by k_asm) (by k_asm) rfl (by k_mem) (by assumption) (by first | assumption | exact in_take (by assumption) _ | exact in_drop (by assumption) _) (by first | exact le6 (by assumption) | exact le6_take (by assumption) _ | exact le6_drop (by assumption) _) ?_); intro _ _ _ F' N'))
  k_with "z67" => ((k_here; k_dflt (refine list_lenI (by k_asm) (by k_mem) (by assumption) (le6 (by assumption)) ?_); intro _ _))
  walk1
  exact h
local macro_rules | `(tactic| walk_at "call ref") => `(tactic| k_extra "z59")
local macro_rules | `(tactic| walk_at "call ref") => `(tactic| k_extra "z65")
local macro_rules | `(tactic| walk_at "call type:bytes") => `(tactic| k_extra "z66")
local macro_rules | `(tactic| walk_at "call builtin:len") => `(tactic| k_extra "z67")
local macro_rules | `(tactic| walk_at "execs cons If cons") => `(tactic| k_dflt (k_extra "mynext"))
theorem seg10 (w : World) (mg mb : PySem.Str → Option Value) (mean : ExcName → Option Value) (h₀ : Heap) (L fa : Addr) (cdv : Value) (s : Shared) (Q : Flow → Shared → Prop) (E : Value → Shared → Prop) (m : PySem.Str → Option Value)
    (B : Below callerA h₀ [] h₀) (X : (h0.heap_1_39 w.params).In h₀) (T : Top h0.view_1_40 Ls mean mg mb h₀) (hE : PassesOwn (model Challenge.rw_og0188_01.row.prog w) (callerA.deeper (lawEnv L fa cdv)) (lawEnv L fa cdv) E)
    (pa ca : Addr) (o1 o2 o3 o4 : Obj) (v4 : Option Value) (vsC : List Value) (nC : Nat) (nsC : List Int) (pl fu : Int) (u v : Tok) (n tp : Int) (tn tt : Tok)
    (g1 : @LT.lt Nat _ (L + 1 + 1 + 1 + 1) pa) (g0 : @Ne Nat (L + 1 + 1 + 1 + 1) ca) (g2 : @LT.lt Nat _ ca pa) (d1 : o1.data = .cell (some (.ref pa))) (d2 : o2.data = .cell (some (.int n tn))) (d3 : o3.data = .cell (some (.int tp tt))) (d4 : o4.data = .cell v4)
    (hIC : IntsAre vsC nsC) (hlC : nsC.length ≤ 40) (hpl : 0 ≤ pl) (hfu : 0 ≤ fu) (hn1 : 1 ≤ n) (hn4 : n ≤ 4) (ht1 : 256 ≤ tp) (ht2 : tp ≤ 4294967296) (hpl2 : pl ≤ 50) (htp : tp = 256 ^ n.toNat) (co oc ro : Addr) (g3 : @LT.lt Nat _ pa co) (g4 : @Ne Nat pa oc) (g5 : @Ne Nat (L + 1 + 1 + 1 + 1) oc) (g6 : @Ne Nat pa ro) (g7 : @Ne Nat (L + 1 + 1 + 1 + 1) ro) (cs rns : List Int) (vs ws rvs : List Value) (c c2 c3 : Nat)
    (hcs : IntsAre vs cs) (hws : BytsAre ws (cs.map (octB n))) (hc8 : cs.length ≤ 8) (hcin : ∀ x ∈ cs, 0 ≤ x ∧ x < tp) (hri : IntsAre rvs rns) (hr6 : rns.length ≤ 6) (hrin : ∀ x ∈ rns, 0 ≤ x ∧ x < 256)
    (F : Fr h₀ L s.heap (fun y => if y = Str.ofString "row" then some (.ref ro) else if y = Str.ofString "octets" then some (.ref oc) else if y = Str.ofString "codes" then some (.ref co) else m y)) (N : News h₀ L s.heap [(ro, W.listOf rvs.toArray c3), (oc, W.listOf ws.toArray c2), (co, W.listOf vs.toArray c), (pa, penObj ca pl u fu v 0), (ca, W.listOf vsC.toArray nC), (L + 1 + 1 + 1 + 1, o4), (L + 1 + 1 + 1, o3), (L + 1 + 1, o2), (L + 1, o1)])
    (next : ∀ (cut : Int) (tc tw : Tok) (pl' fu' : Int) (u' v' : Tok) (h' : Heap) (tk' : Nat), 0 ≤ cut → cut ≤ rns.length → 0 ≤ pl' → 0 ≤ fu' → Fr h₀ L h' (fun y => if y = Str.ofString "whole_code" then some (.int (codeI (KBw.bInts (byteArr rns))) tw) else if y = Str.ofString "cut" then some (.int cut tc) else (fun y => if y = Str.ofString "row" then some (.ref ro) else if y = Str.ofString "octets" then some (.ref oc) else if y = Str.ofString "codes" then some (.ref co) else m y) y) → News h₀ L h' [(ro, W.listOf rvs.toArray c3), (oc, W.listOf ws.toArray c2), (co, W.listOf vs.toArray c), (pa, penObj ca pl' u' fu' v' 0), (ca, W.listOf vsC.toArray nC), (L + 1 + 1 + 1 + 1, o4), (L + 1 + 1 + 1, o3), (L + 1 + 1, o2), (L + 1, o1)] → wpAny (model Challenge.rw_og0188_01.row.prog w) (callerA.deeper (lawEnv L fa cdv)) (execs (lawBody.drop 11) (lawEnv L fa cdv)) Q E { s with heap := h', toks := tk' }) :
    wpAny (model Challenge.rw_og0188_01.row.prog w) (callerA.deeper (lawEnv L fa cdv)) (execs (lawBody.drop 9) (lawEnv L fa cdv)) Q E s := by
  have hMk := kstMark
  show wpAny _ _ (execs (_ :: _) _) _ _ _
  clear htp hcin hws hcs
  k_with "mynext" => (
    (rename Fr _ _ _ _ => F9); (rename News _ _ _ _ => N9);
    exact next _ _ _ _ _ _ _ _ _ (by assumption) (Int.lt_add_one_iff.mp (by assumption)) (by with_reducible omega) (by assumption) F9 (back3 N9))
  k_steps
end
section
open PySem PySem.W PyProof.Rows
set_option Elab.async false
set_option maxRecDepth 100000
set_option maxHeartbeats 2000000
open PySem.Calls PySem.Spec
theorem reset_S11 {prog : Program} {w : World} {A : Around} {env : Env} {Q : Flow → Shared → Prop} {E : Value → Shared → Prop} {s : Shared} (h : Q .next s) : wpAny (model prog w) A (execs [] env) Q E s := by
  w_top off
  k_with_none
  k_with "z6" => ((refine' code_def ?k1 ?k2 ?k3 ?k4 ?k5 ?kA ?kF ?kK ?k6 ?k7 ?k8 ?k9 ?kB ?_ ?c2 ?c3 ?c4 ?c5; (case kA => exact rfl); (case kF => exact rfl); (case kK => first | exact rfl | assumption); (case k1 => k_asm); (case k2 => k_asm); (case k3 => k_asm); (case k4 => k_asm); (case k5 => k_asm); (case k6 => k_is); (case k7 => k_is); (case k8 => ktr_room); (case k9 => first | exact BindsTo.of_eq rfl | exact binds_K (by k_in) rfl (by k_is) rfl rfl rfl | fail "k_enter: no rule for these arguments"); (case c5 => decide); (case kB => exact locs rfl); (case c2 => exact rfl); (case c3 => exact rfl); (case c4 => exact rfl); k_whole; intro g' L' h' FG' F' N' B' X' T'; (try dsimp only); (try k_lift B'); (try k_fold)))
  k_with "z30" => ((rename AllLt _ _ => h1; first | exact allNe_of h1 (by omega) | (clear h1; rename AllLt _ _ => h2; first | exact allNe_of h2 (by omega) | (clear h2; rename AllLt _ _ => h3; exact allNe_of h3 (by omega)))))
  k_with "z9" => (first | (refine eqN (by omega) ?_) | (refine eqY (by omega) ?_))
  k_with "z10" => (first | (refine neN (by omega) ?_) | (refine neY (by omega) ?_))
  k_with "z11" => (first | (refine ltY (by omega) ?_) | (refine ltN (by omega) ?_))
  k_with "z12" => (first | (refine gtY (by omega) ?_) | (refine gtN (by omega) ?_))
  k_with "z13" => (first | (refine leY (by omega) ?_) | (refine leN (by omega) ?_))
  k_with "z14" => (first | (refine geY (by omega) ?_) | (refine geN (by omega) ?_))
  k_with "z15" => ((k_dflt (first | (refine' notInN (tupK ?kX ?kL) ?kI ?kE ?_; (case kX => k_in); (case kL => k_is); (case kI => (repeat constructor)); (case kE => rfl)) | (refine' notInY (tupK ?kX ?kL) ?kI ?kE ?_; (case kX => k_in); (case kL => k_is); (case kI => (repeat constructor)); (case kE => (repeat (first | exact any_no_nil | (refine any_no_cons (by omega) ?_))))))))
  k_with "z16" => ((k_dflt (first | (refine' inY (tupK ?kX ?kL) ?kI ?kE ?_; (case kX => k_in); (case kL => k_is); (case kI => (repeat constructor)); (case kE => rfl)) | (refine' inN (tupK ?kX ?kL) ?kI ?kE ?_; (case kX => k_in); (case kL => k_is); (case kI => (repeat constructor)); (case kE => (repeat (first | exact any_no_nil | (refine any_no_cons (by omega) ?_))))))))
  k_with "z17" => ((k_dflt (refine whl_start 3 ?_)))
  k_with "z24" => (first | (refine ite_neg Bool.false_ne_true ?_) | (refine ite_pos rfl ?_))
  k_with "z31" => ((dsimp only [WhileStep2]))
  k_with "z60" => (((with_reducible show wpAny _ _ (call (Value.ref 437) _) _ _ _); k_dflt (refine' Tells.use (code_octets_tells _ _ _ _ _ ?c1 ?c2) ?B9 ?F9 ?X9 ?N9 ?T9 ?K9 ?d9 ?u9 ?_; (case B9 => k_asm); (case F9 => k_asm); (case X9 => k_asm); (case N9 => k_asm); (case T9 => k_asm); (case K9 => first | exact rfl | assumption); (case d9 => ktr_room); (case u9 => ktr_units); (case c1 => omega); (case c2 => omega)); (dsimp only [BackV]); intro t9 h9 tk9 F9 N9; (try dsimp only); (try k_fold)))
  k_with "z65" => (((with_reducible show wpAny _ _ (call (Value.ref 432) _) _ _ _); k_dflt (refine' Tells.use (code_of_tells _ _ _ ?c1) ?B9 ?F9 ?X9 ?N9 ?T9 ?K9 ?d9 ?u9 ?_; (case B9 => k_asm); (case F9 => k_asm); (case X9 => k_asm); (case N9 => k_asm); (case T9 => k_asm); (case K9 => first | exact rfl | assumption); (case d9 => ktr_room); (case u9 => ktr_units); (case c1 => first | exact byteArr_small (by assumption) | exact byteArr_small_take (by assumption) _ | exact byteArr_small_drop (by assumption) _ | exact Nat.zero_le _)); (dsimp only [BackV]); intro t9 h9 tk9 F9 N9; (try dsimp only); (try k_fold)))
  k_with "z66" => ((k_here; k_dflt (refine bytes_intsN (by k_asm) (by k_asm) rfl (by k_mem) (by assumption) (by first | assumption | exact in_take (by assumption) _ | exact in_drop (by assumption) _) (by first | exact le6 (by assumption) | exact le6_take (by assumption) _ | exact le6_drop (by assumption) _) ?_); intro _ _ _ F' N'))
  k_with "z67" => ((k_here; k_dflt (refine list_lenI (by k_asm) (by k_mem) (by assumption) (le6 (by assumption)) ?_); intro _ _))
  k_with "z68" => ((refine pow256 (by omega) (by omega) ?_))
  k_with "z69" => ((refine mul_int ?_ (code_mul (by assumption) (by assumption) _ _)))
  walk1
  exact h
local macro_rules | `(tactic| walk_at "call ref") => `(tactic| k_extra "z60")
local macro_rules | `(tactic| walk_at "call ref") => `(tactic| k_extra "z65")
local macro_rules | `(tactic| walk_at "call type:bytes") => `(tactic| k_extra "z66")
local macro_rules | `(tactic| walk_at "call builtin:len") => `(tactic| k_extra "z67")
local macro_rules | `(tactic| walk_at "execs cons Assign cons") => `(tactic| k_dflt (k_extra "mynext"))
local macro_rules | `(tactic| walk_at "subscriptTail Name Slice ref ref") => `(tactic| k_dflt (k_extra "myslice"))
local macro_rules | `(tactic| walk_at "binaryOp Pow int int") => `(tactic| k_extra "z68")
local macro_rules | `(tactic| walk_at "binaryOp Mult int int") => `(tactic| k_extra "z69")
local macro_rules | `(tactic| walk_at "compareOp NotEq int int") => `(tactic| k_dflt (k_extra "myneq"))
local macro_rules | `(tactic| walk_at "compareOp NotEq bytes bytes") => `(tactic| k_dflt (k_extra "mybytes"))
theorem seg11 (w : World) (mg mb : PySem.Str → Option Value) (mean : ExcName → Option Value) (h₀ : Heap) (L fa : Addr) (cdv : Value) (s : Shared) (Q : Flow → Shared → Prop) (E : Value → Shared → Prop) (m : PySem.Str → Option Value)
    (B : Below callerA h₀ [] h₀) (X : (h0.heap_1_39 w.params).In h₀) (T : Top h0.view_1_40 Ls mean mg mb h₀) (hE : PassesOwn (model Challenge.rw_og0188_01.row.prog w) (callerA.deeper (lawEnv L fa cdv)) (lawEnv L fa cdv) E)
    (pa ca : Addr) (o1 o2 o3 o4 : Obj) (v4 : Option Value) (vsC : List Value) (nC : Nat) (nsC : List Int) (pl fu : Int) (u v : Tok) (n tp : Int) (tn tt : Tok)
    (g1 : @LT.lt Nat _ (L + 1 + 1 + 1 + 1) pa) (g0 : @Ne Nat (L + 1 + 1 + 1 + 1) ca) (g2 : @LT.lt Nat _ ca pa) (d1 : o1.data = .cell (some (.ref pa))) (d2 : o2.data = .cell (some (.int n tn))) (d3 : o3.data = .cell (some (.int tp tt))) (d4 : o4.data = .cell v4)
    (hIC : IntsAre vsC nsC) (hlC : nsC.length ≤ 40) (hpl : 0 ≤ pl) (hfu : 0 ≤ fu) (hn1 : 1 ≤ n) (hn4 : n ≤ 4) (ht1 : 256 ≤ tp) (ht2 : tp ≤ 4294967296) (htp : tp = 256 ^ n.toNat) (co oc ro : Addr) (g3 : @LT.lt Nat _ pa co) (g4 : @Ne Nat pa oc) (g5 : @Ne Nat (L + 1 + 1 + 1 + 1) oc) (g6 : @Ne Nat pa ro) (g7 : @Ne Nat (L + 1 + 1 + 1 + 1) ro) (cs rns : List Int) (vs ws rvs : List Value) (c c2 c3 : Nat)
    (hcs : IntsAre vs cs) (hws : BytsAre ws (cs.map (octB n))) (hc8 : cs.length ≤ 8) (hcin : ∀ x ∈ cs, 0 ≤ x ∧ x < tp) (hri : IntsAre rvs rns) (hr6 : rns.length ≤ 6) (hrin : ∀ x ∈ rns, 0 ≤ x ∧ x < 256)
    (cut : Int) (tc tw : Tok) (hc0 : 0 ≤ cut) (hc1 : cut ≤ rns.length) (F : Fr h₀ L s.heap (fun y => if y = Str.ofString "whole_code" then some (.int (codeI (KBw.bInts (byteArr rns))) tw) else if y = Str.ofString "cut" then some (.int cut tc) else (fun y => if y = Str.ofString "row" then some (.ref ro) else if y = Str.ofString "octets" then some (.ref oc) else if y = Str.ofString "codes" then some (.ref co) else m y) y)) (N : News h₀ L s.heap [(ro, W.listOf rvs.toArray c3), (oc, W.listOf ws.toArray c2), (co, W.listOf vs.toArray c), (pa, penObj ca pl u fu v 0), (ca, W.listOf vsC.toArray nC), (L + 1 + 1 + 1 + 1, o4), (L + 1 + 1 + 1, o3), (L + 1 + 1, o2), (L + 1, o1)])
    (next : ∀ (m' : PySem.Str → Option Value) (h' : Heap) (tk' : Nat), Fr h₀ L h' (fun y => if y = Str.ofString "row" then some (.ref ro) else if y = Str.ofString "octets" then some (.ref oc) else if y = Str.ofString "codes" then some (.ref co) else m' y) → News h₀ L h' [(ro, W.listOf rvs.toArray c3), (oc, W.listOf ws.toArray c2), (co, W.listOf vs.toArray c), (pa, penObj ca pl u fu v 0), (ca, W.listOf vsC.toArray nC), (L + 1 + 1 + 1 + 1, o4), (L + 1 + 1 + 1, o3), (L + 1 + 1, o2), (L + 1, o1)] → wpAny (model Challenge.rw_og0188_01.row.prog w) (callerA.deeper (lawEnv L fa cdv)) (execs (lawBody.drop 12) (lawEnv L fa cdv)) Q E { s with heap := h', toks := tk' }) :
    wpAny (model Challenge.rw_og0188_01.row.prog w) (callerA.deeper (lawEnv L fa cdv)) (execs (lawBody.drop 11) (lawEnv L fa cdv)) Q E s := by
  have hMk := kstMark
  show wpAny _ _ (execs (_ :: _) _) _ _ _
  clear htp hcin hws hcs
  k_with "myslice" => (first
    | (refine upto_intsN (by k_asm) (by k_asm) (by k_mem) hri (by assumption) (le6 hr6) ?_ (by with_unfolding_all rfl) (by intro _; with_unfolding_all rfl); intro D6 ws6 h6 F6 N6 l6 hi6; (try k_lt l6))
    | (refine from_intsN (by k_asm) (by k_asm) (by k_mem) hri (by assumption) (le6 hr6) ?_ (by with_unfolding_all rfl) (by intro _; with_unfolding_all rfl); intro D7 ws7 h7 F7 N7 l7 hi7; (try k_lt l7)))
  k_with "myneq" => (refine neN (code_parts hrin hc0 hc1) ?_)
  k_with "mybytes" => (refine ne_bytesN (code_back hrin) ?_)
  k_with "mynext" => (
    (rename Fr _ _ _ _ => F9); (rename News _ _ _ _ => N9);
    exact next _ _ _ (fr_put3 F9 (by rfl) (by rfl) (by rfl)) (news_drop (news_drop N9)))
  k_steps
end
section
open PySem PySem.W PyProof.Rows
set_option Elab.async false
set_option maxRecDepth 100000
set_option maxHeartbeats 2000000
open PySem.Calls PySem.Spec
theorem reset_S12 {prog : Program} {w : World} {A : Around} {env : Env} {Q : Flow → Shared → Prop} {E : Value → Shared → Prop} {s : Shared} (h : Q .next s) : wpAny (model prog w) A (execs [] env) Q E s := by
  w_top off
  k_with_none
  k_with "z6" => ((refine' code_def ?k1 ?k2 ?k3 ?k4 ?k5 ?kA ?kF ?kK ?k6 ?k7 ?k8 ?k9 ?kB ?_ ?c2 ?c3 ?c4 ?c5; (case kA => exact rfl); (case kF => exact rfl); (case kK => first | exact rfl | assumption); (case k1 => k_asm); (case k2 => k_asm); (case k3 => k_asm); (case k4 => k_asm); (case k5 => k_asm); (case k6 => k_is); (case k7 => k_is); (case k8 => ktr_room); (case k9 => first | exact BindsTo.of_eq rfl | exact binds_K (by k_in) rfl (by k_is) rfl rfl rfl | fail "k_enter: no rule for these arguments"); (case c5 => decide); (case kB => exact locs rfl); (case c2 => exact rfl); (case c3 => exact rfl); (case c4 => exact rfl); k_whole; intro g' L' h' FG' F' N' B' X' T'; (try dsimp only); (try k_lift B'); (try k_fold)))
  k_with "z30" => ((rename AllLt _ _ => h1; first | exact allNe_of h1 (by omega) | (clear h1; rename AllLt _ _ => h2; first | exact allNe_of h2 (by omega) | (clear h2; rename AllLt _ _ => h3; exact allNe_of h3 (by omega)))))
  k_with "z9" => (first | (refine eqN (by omega) ?_) | (refine eqY (by omega) ?_))
  k_with "z10" => (first | (refine neN (by omega) ?_) | (refine neY (by omega) ?_))
  k_with "z11" => (first | (refine ltY (by omega) ?_) | (refine ltN (by omega) ?_))
  k_with "z12" => (first | (refine gtY (by omega) ?_) | (refine gtN (by omega) ?_))
  k_with "z13" => (first | (refine leY (by omega) ?_) | (refine leN (by omega) ?_))
  k_with "z14" => (first | (refine geY (by omega) ?_) | (refine geN (by omega) ?_))
  k_with "z15" => ((k_dflt (first | (refine' notInN (tupK ?kX ?kL) ?kI ?kE ?_; (case kX => k_in); (case kL => k_is); (case kI => (repeat constructor)); (case kE => rfl)) | (refine' notInY (tupK ?kX ?kL) ?kI ?kE ?_; (case kX => k_in); (case kL => k_is); (case kI => (repeat constructor)); (case kE => (repeat (first | exact any_no_nil | (refine any_no_cons (by omega) ?_))))))))
  k_with "z16" => ((k_dflt (first | (refine' inY (tupK ?kX ?kL) ?kI ?kE ?_; (case kX => k_in); (case kL => k_is); (case kI => (repeat constructor)); (case kE => rfl)) | (refine' inN (tupK ?kX ?kL) ?kI ?kE ?_; (case kX => k_in); (case kL => k_is); (case kI => (repeat constructor)); (case kE => (repeat (first | exact any_no_nil | (refine any_no_cons (by omega) ?_))))))))
  k_with "z17" => ((k_dflt (refine whl_start 3 ?_)))
  k_with "z24" => (first | (refine ite_neg Bool.false_ne_true ?_) | (refine ite_pos rfl ?_))
  k_with "z31" => ((dsimp only [WhileStep2]))
  k_with "z70" => (k_dflt (refine LCg.ListComp_U (F₀ := by k_asm) (by with_unfolding_all rfl) (by decide) (by rfl) (by decide) (by rfl) ?_))
  k_with "z71" => ((first | (refine KXi.item (n := 16) (by decide) (div16 (by assumption)).1 (div16 (by assumption)).2 (by decide) ?_; intro _) | (refine KXi.item (n := 16) (by decide) (mod16 _).1 (mod16 _).2 (by decide) ?_; intro _)))
  k_with "z72" => (k_dflt (first | (refine PyProof.Rows.add_str ?_ (hsz := len_two _ _ _)) | (refine PyProof.Rows.add_str ?_ (hsz := len_a (by assumption))) | (refine PyProof.Rows.add_str ?_ (hsz := len_b (by assumption)))))
  walk1
  exact h
local macro_rules | `(tactic| walk_at "eval ListComp") => `(tactic| k_extra "z70")
local macro_rules | `(tactic| walk_at "CompSrc") => `(tactic| k_dflt (k_extra "mysrc"))
local macro_rules | `(tactic| walk_at "CompEnd") => `(tactic| k_dflt (k_extra "myce"))
local macro_rules | `(tactic| walk_at "execs cons If cons") => `(tactic| k_dflt (k_extra "mynext"))
theorem hex2_is (k : Int) : Txt.item (Str.ofString "0123456789ABCDEF") (k.fdiv 16) ++ Txt.item (Str.ofString "0123456789ABCDEF") (k.fmod 16) = hex2 k := by
  unfold hex2
  rw [bitAnd_m4, Int.fmod_eq_emod_of_nonneg k (by decide)]
  rfl
theorem div16 {k : Int} (h : 0 ≤ k ∧ k < 256) : -((16 : Nat) : Int) ≤ k.fdiv 16 ∧ k.fdiv 16 < ((16 : Nat) : Int) := by
  rw [Int.fdiv_eq_ediv_of_nonneg _ (by decide)]
  omega
theorem mod16 (k : Int) : -((16 : Nat) : Int) ≤ k.fmod 16 ∧ k.fmod 16 < ((16 : Nat) : Int) := by
  rw [Int.fmod_eq_emod_of_nonneg _ (by decide)]
  omega
theorem twelve_item {rns : List Int} {i : Nat} {k : Int} {ys : List Value} {t : Tok} (hys : StrsAre ys ((rns.take i).map hex2)) (hk : rns[i]? = some k) : StrsAre (ys ++ [Value.str (Txt.item (Str.ofString "0123456789ABCDEF") (k.fdiv 16) ++ Txt.item (Str.ofString "0123456789ABCDEF") (k.fmod 16)) t]) ((rns.take (i + 1)).map hex2) := by
  rw [hex2_is, List.take_add_one, hk]
  simp only [List.map_append, Option.toList_some, List.map_cons, List.map_nil]
  exact StrsAre.append' hys (.cons _ _ .nil)
theorem joinN {prog : Program} {w : World} {A : Around} {E : Value → Shared → Prop} {s : Shared} {h₀ : Heap} {L D : Addr} {ys : List Value} {ss : List PySem.Str} {x : PySem.Str} {t : Tok} {r : List (Addr × Obj)} {Q : Value → Shared → Prop} (N : News h₀ L s.heap ((D, LCg.lst ys) :: r)) (hi : StrsAre ys ss) (hsep : x.length ≤ 16) (hw : (ss.map (·.length)).sum + ss.length ≤ 1048576)
    (h : ∀ t' k, Q (.str (Txt.join x ss) t') { s with toks := k }) : wpAny (model prog w) A (call (.builtin "str.join") [.str x t, .ref D]) Q E s :=
  join_listW (items := ys.toArray) ⟨_, (N _ (.head _)).1, rfl, _, rfl⟩ hi hsep hw h
local macro_rules | `(tactic| walk_at "call builtin:str.join") => `(tactic| k_dflt (k_extra "myjoin"))
local macro_rules | `(tactic| walk_at "subscriptTail Constant BinOp str int") => `(tactic| k_extra "z71")
theorem len_two (x : PySem.Str) (i j : Int) : (Txt.item x i).length + (Txt.item x j).length ≤ sizeLine := by
  rw [len_item, len_item, sizeLine_eq]; decide
theorem len_a {rns : List Int} (h6 : rns.length ≤ 6) : (Str.ofString "<").length + (Txt.join (Str.ofString "") (rns.map hex2)).length ≤ sizeLine := by
  have := hexJoin_len rns
  rw [show (Str.ofString "<").length = 1 by decide +kernel, sizeLine_eq]; omega
theorem len_b {rns : List Int} (h6 : rns.length ≤ 6) : (Str.ofString "<" ++ Txt.join (Str.ofString "") (rns.map hex2)).length + (Str.ofString ">").length ≤ sizeLine := by
  have := hexJoin_len rns
  rw [Str.length_append, show (Str.ofString "<").length = 1 by decide +kernel, show (Str.ofString ">").length = 1 by decide +kernel, sizeLine_eq]; omega
local macro_rules | `(tactic| walk_at "binaryOp Add str str") => `(tactic| k_extra "z72")
theorem seg12 (w : World) (mg mb : PySem.Str → Option Value) (mean : ExcName → Option Value) (h₀ : Heap) (L fa : Addr) (cdv : Value) (s : Shared) (Q : Flow → Shared → Prop) (E : Value → Shared → Prop) (m : PySem.Str → Option Value)
    (B : Below callerA h₀ [] h₀) (X : (h0.heap_1_39 w.params).In h₀) (T : Top h0.view_1_40 Ls mean mg mb h₀) (hE : PassesOwn (model Challenge.rw_og0188_01.row.prog w) (callerA.deeper (lawEnv L fa cdv)) (lawEnv L fa cdv) E)
    (pa ca : Addr) (o1 o2 o3 o4 : Obj) (v4 : Option Value) (vsC : List Value) (nC : Nat) (nsC : List Int) (pl fu : Int) (u v : Tok) (n tp : Int) (tn tt : Tok)
    (g1 : @LT.lt Nat _ (L + 1 + 1 + 1 + 1) pa) (g0 : @Ne Nat (L + 1 + 1 + 1 + 1) ca) (g2 : @LT.lt Nat _ ca pa) (d1 : o1.data = .cell (some (.ref pa))) (d2 : o2.data = .cell (some (.int n tn))) (d3 : o3.data = .cell (some (.int tp tt))) (d4 : o4.data = .cell v4)
    (hIC : IntsAre vsC nsC) (hlC : nsC.length ≤ 40) (hpl : 0 ≤ pl) (hfu : 0 ≤ fu) (hn1 : 1 ≤ n) (hn4 : n ≤ 4) (ht1 : 256 ≤ tp) (ht2 : tp ≤ 4294967296) (htp : tp = 256 ^ n.toNat) (co oc ro : Addr) (g3 : @LT.lt Nat _ pa co) (g4 : @Ne Nat pa oc) (g5 : @Ne Nat (L + 1 + 1 + 1 + 1) oc) (g6 : @Ne Nat pa ro) (g7 : @Ne Nat (L + 1 + 1 + 1 + 1) ro) (cs rns : List Int) (vs ws rvs : List Value) (c c2 c3 : Nat)
    (hcs : IntsAre vs cs) (hws : BytsAre ws (cs.map (octB n))) (hc8 : cs.length ≤ 8) (hcin : ∀ x ∈ cs, 0 ≤ x ∧ x < tp) (hri : IntsAre rvs rns) (hr6 : rns.length ≤ 6) (hrin : ∀ x ∈ rns, 0 ≤ x ∧ x < 256)
    (F : Fr h₀ L s.heap (fun y => if y = Str.ofString "row" then some (.ref ro) else if y = Str.ofString "octets" then some (.ref oc) else if y = Str.ofString "codes" then some (.ref co) else m y)) (N : News h₀ L s.heap [(ro, W.listOf rvs.toArray c3), (oc, W.listOf ws.toArray c2), (co, W.listOf vs.toArray c), (pa, penObj ca pl u fu v 0), (ca, W.listOf vsC.toArray nC), (L + 1 + 1 + 1 + 1, o4), (L + 1 + 1 + 1, o3), (L + 1 + 1, o2), (L + 1, o1)])
    (next : ∀ (tw : Tok) (h' : Heap) (tk' : Nat), Fr h₀ L h' (fun y => if y = Str.ofString "spelt" then some (.str (hexText rns) tw) else (fun y => if y = Str.ofString "row" then some (.ref ro) else if y = Str.ofString "octets" then some (.ref oc) else if y = Str.ofString "codes" then some (.ref co) else m y) y) → News h₀ L h' [(ro, W.listOf rvs.toArray c3), (oc, W.listOf ws.toArray c2), (co, W.listOf vs.toArray c), (pa, penObj ca pl u fu v 0), (ca, W.listOf vsC.toArray nC), (L + 1 + 1 + 1 + 1, o4), (L + 1 + 1 + 1, o3), (L + 1 + 1, o2), (L + 1, o1)] → wpAny (model Challenge.rw_og0188_01.row.prog w) (callerA.deeper (lawEnv L fa cdv)) (execs (lawBody.drop 13) (lawEnv L fa cdv)) Q E { s with heap := h', toks := tk' }) :
    wpAny (model Challenge.rw_og0188_01.row.prog w) (callerA.deeper (lawEnv L fa cdv)) (execs (lawBody.drop 12) (lawEnv L fa cdv)) Q E s := by
  have hMk := kstMark
  show wpAny _ _ (execs (_ :: _) _) _ _ _
  clear htp hcin hws hcs
  k_with "mysrc" => (
    refine LCg.CompSrc.ledger (by rfl) (by k_asm) (by k_asm) (by k_mem) (by (rw [sizeLine_eq, List.size_toArray, hri.length]; omega)) ?_;
    intro g;
    refine rest_inv (fun i ys nx => StrsAre ys ((rns.take i).map hex2) ∧ nx = _) ⟨.nil, rfl⟩ ?_ ?_;
    (rintro i ys nx v9 I oI C oC D m₂ h tk E' hi hv ⟨hys, rfl⟩ hC hx F₁ N₁ off ne;
     (have hv2 : rvs[i]? = some v9 := (by simpa using hv)); obtain ⟨k9, t9, rfl, hk9⟩ := IntsAre.at hri i v9 hv2; have hb9 := hrin k9 (List.mem_of_getElem? hk9);
     have off0 := off; simp only [LCg.Off3, and_true] at off); rotate_left;
    (rintro ys nx ⟨hys, rfl⟩ D9 h9 tk9 F9 N9 off9; (rw [List.size_toArray, hri.length, List.take_length] at hys); have hw := hex2_sum rns; have hj := hexJoin_len rns);
    all_goals (try k_fold))
  k_with "myjoin" => (refine joinN N9 hys (by decide +kernel) ?_ ?_; (rw [hw, List.length_map]; (with_reducible omega)); intro _ _)
  k_with "myce" => (
    (rename Fr _ _ _ _ => F₃); (rename News _ _ _ _ => N₃);
    exact LCg.CompEnd.intro F₃ N₃ _ (fun _ hp => hp) off0 (.inr ⟨_, .head _, rfl, _, rfl⟩) ⟨twelve_item hys hk9, rfl⟩)
  k_with "mynext" => (
    (rename Fr _ _ _ _ => F9); (rename News _ _ _ _ => N9);
    exact next _ _ _ F9 (news_drop N9))
  k_steps
end
section
open PySem PySem.W PyProof.Rows
set_option Elab.async false
set_option maxRecDepth 100000
set_option maxHeartbeats 2000000
open PySem.Calls PySem.Spec
theorem reset_S13 {prog : Program} {w : World} {A : Around} {env : Env} {Q : Flow → Shared → Prop} {E : Value → Shared → Prop} {s : Shared} (h : Q .next s) : wpAny (model prog w) A (execs [] env) Q E s := by
  w_top off
  k_with_none
  k_with "z6" => ((refine' code_def ?k1 ?k2 ?k3 ?k4 ?k5 ?kA ?kF ?kK ?k6 ?k7 ?k8 ?k9 ?kB ?_ ?c2 ?c3 ?c4 ?c5; (case kA => exact rfl); (case kF => exact rfl); (case kK => first | exact rfl | assumption); (case k1 => k_asm); (case k2 => k_asm); (case k3 => k_asm); (case k4 => k_asm); (case k5 => k_asm); (case k6 => k_is); (case k7 => k_is); (case k8 => ktr_room); (case k9 => first | exact BindsTo.of_eq rfl | exact binds_K (by k_in) rfl (by k_is) rfl rfl rfl | fail "k_enter: no rule for these arguments"); (case c5 => decide); (case kB => exact locs rfl); (case c2 => exact rfl); (case c3 => exact rfl); (case c4 => exact rfl); k_whole; intro g' L' h' FG' F' N' B' X' T'; (try dsimp only); (try k_lift B'); (try k_fold)))
  k_with "z30" => ((rename AllLt _ _ => h1; first | exact allNe_of h1 (by omega) | (clear h1; rename AllLt _ _ => h2; first | exact allNe_of h2 (by omega) | (clear h2; rename AllLt _ _ => h3; exact allNe_of h3 (by omega)))))
  k_with "z9" => (first | (refine eqN (by omega) ?_) | (refine eqY (by omega) ?_))
  k_with "z10" => (first | (refine neN (by omega) ?_) | (refine neY (by omega) ?_))
  k_with "z11" => (first | (refine ltY (by omega) ?_) | (refine ltN (by omega) ?_))
  k_with "z12" => (first | (refine gtY (by omega) ?_) | (refine gtN (by omega) ?_))
  k_with "z13" => (first | (refine leY (by omega) ?_) | (refine leN (by omega) ?_))
  k_with "z14" => (first | (refine geY (by omega) ?_) | (refine geN (by omega) ?_))
  k_with "z15" => ((k_dflt (first | (refine' notInN (tupK ?kX ?kL) ?kI ?kE ?_; (case kX => k_in); (case kL => k_is); (case kI => (repeat constructor)); (case kE => rfl)) | (refine' notInY (tupK ?kX ?kL) ?kI ?kE ?_; (case kX => k_in); (case kL => k_is); (case kI => (repeat constructor)); (case kE => (repeat (first | exact any_no_nil | (refine any_no_cons (by omega) ?_))))))))
  k_with "z16" => ((k_dflt (first | (refine' inY (tupK ?kX ?kL) ?kI ?kE ?_; (case kX => k_in); (case kL => k_is); (case kI => (repeat constructor)); (case kE => rfl)) | (refine' inN (tupK ?kX ?kL) ?kI ?kE ?_; (case kX => k_in); (case kL => k_is); (case kI => (repeat constructor)); (case kE => (repeat (first | exact any_no_nil | (refine any_no_cons (by omega) ?_))))))))
  k_with "z17" => ((k_dflt (refine whl_start 3 ?_)))
  k_with "z24" => (first | (refine ite_neg Bool.false_ne_true ?_) | (refine ite_pos rfl ?_))
  k_with "z31" => ((dsimp only [WhileStep2]))
  k_with "z65" => (((with_reducible show wpAny _ _ (call (Value.ref 432) _) _ _ _); k_dflt (refine' Tells.use (code_of_tells _ _ _ ?c1) ?B9 ?F9 ?X9 ?N9 ?T9 ?K9 ?d9 ?u9 ?_; (case B9 => k_asm); (case F9 => k_asm); (case X9 => k_asm); (case N9 => k_asm); (case T9 => k_asm); (case K9 => first | exact rfl | assumption); (case d9 => ktr_room); (case u9 => ktr_units); (case c1 => first | exact byteArr_small (by assumption) | exact byteArr_small_take (by assumption) _ | exact byteArr_small_drop (by assumption) _ | exact Nat.zero_le _)); (dsimp only [BackV]); intro t9 h9 tk9 F9 N9; (try dsimp only); (try k_fold)))
  k_with "z73" => (((with_reducible show wpAny _ _ (call (Value.ref 510) _) _ _ _); k_dflt (refine' Tells.use (hex_text_tells _ _ _ ?c1) ?B9 ?F9 ?X9 ?N9 ?T9 ?K9 ?d9 ?u9 ?_; (case B9 => k_asm); (case F9 => k_asm); (case X9 => k_asm); (case N9 => k_asm); (case T9 => k_asm); (case K9 => first | exact rfl | assumption); (case d9 => ktr_room); (case u9 => ktr_units); (case c1 => first | exact byteArr_small (by assumption) | exact oct_small _ (by assumption) (by assumption))); (dsimp only [BackV]); intro t9 h9 tk9 F9 N9; (try dsimp only); (try k_fold)))
  k_with "z66" => ((k_here; k_dflt (refine bytes_intsN (by k_asm) (by k_asm) rfl (by k_mem) (by assumption) (by first | assumption | exact in_take (by assumption) _ | exact in_drop (by assumption) _) (by first | exact le6 (by assumption) | exact le6_take (by assumption) _ | exact le6_drop (by assumption) _) ?_); intro _ _ _ F' N'))
  walk1
  exact h
local macro_rules | `(tactic| walk_at "call ref") => `(tactic| k_extra "z65")
local macro_rules | `(tactic| walk_at "call ref") => `(tactic| k_extra "z73")
local macro_rules | `(tactic| walk_at "call type:bytes") => `(tactic| k_extra "z66")
local macro_rules | `(tactic| walk_at "execs cons Assign cons") => `(tactic| k_dflt (k_extra "mynext"))
theorem ne_strN {prog : Program} {w : World} {A : Around} {E : Value → Shared → Prop} {s : Shared} {a b : PySem.Str} {t u : Tok} {Q : Value → Shared → Prop} (e : a = b) (h : Q (.bool false) s) : wpAny (model prog w) A (compareOp .NotEq (.str a t) (.str b u)) Q E s := by
  subst e
  exact PyProof.Rows.ne_str (by simpa using h)
local macro_rules | `(tactic| walk_at "compareOp NotEq str str") => `(tactic| k_dflt (k_extra "mystr"))
local macro_rules | `(tactic| walk_at "compareOp NotEq int int") => `(tactic| k_dflt (k_extra "myint"))
theorem seg13 (w : World) (mg mb : PySem.Str → Option Value) (mean : ExcName → Option Value) (h₀ : Heap) (L fa : Addr) (cdv : Value) (s : Shared) (Q : Flow → Shared → Prop) (E : Value → Shared → Prop) (m : PySem.Str → Option Value)
    (B : Below callerA h₀ [] h₀) (X : (h0.heap_1_39 w.params).In h₀) (T : Top h0.view_1_40 Ls mean mg mb h₀) (hE : PassesOwn (model Challenge.rw_og0188_01.row.prog w) (callerA.deeper (lawEnv L fa cdv)) (lawEnv L fa cdv) E)
    (pa ca : Addr) (o1 o2 o3 o4 : Obj) (v4 : Option Value) (vsC : List Value) (nC : Nat) (nsC : List Int) (pl fu : Int) (u v : Tok) (n tp : Int) (tn tt : Tok)
    (g1 : @LT.lt Nat _ (L + 1 + 1 + 1 + 1) pa) (g0 : @Ne Nat (L + 1 + 1 + 1 + 1) ca) (g2 : @LT.lt Nat _ ca pa) (d1 : o1.data = .cell (some (.ref pa))) (d2 : o2.data = .cell (some (.int n tn))) (d3 : o3.data = .cell (some (.int tp tt))) (d4 : o4.data = .cell v4)
    (hIC : IntsAre vsC nsC) (hlC : nsC.length ≤ 40) (hpl : 0 ≤ pl) (hfu : 0 ≤ fu) (hn1 : 1 ≤ n) (hn4 : n ≤ 4) (ht1 : 256 ≤ tp) (ht2 : tp ≤ 4294967296) (htp : tp = 256 ^ n.toNat) (co oc ro : Addr) (g3 : @LT.lt Nat _ pa co) (g4 : @Ne Nat pa oc) (g5 : @Ne Nat (L + 1 + 1 + 1 + 1) oc) (g6 : @Ne Nat pa ro) (g7 : @Ne Nat (L + 1 + 1 + 1 + 1) ro) (cs rns : List Int) (vs ws rvs : List Value) (c c2 c3 : Nat)
    (hcs : IntsAre vs cs) (hws : BytsAre ws (cs.map (octB n))) (hc8 : cs.length ≤ 8) (hcin : ∀ x ∈ cs, 0 ≤ x ∧ x < tp) (hri : IntsAre rvs rns) (hr6 : rns.length ≤ 6) (hrin : ∀ x ∈ rns, 0 ≤ x ∧ x < 256)
    (tw : Tok) (F : Fr h₀ L s.heap (fun y => if y = Str.ofString "spelt" then some (.str (hexText rns) tw) else (fun y => if y = Str.ofString "row" then some (.ref ro) else if y = Str.ofString "octets" then some (.ref oc) else if y = Str.ofString "codes" then some (.ref co) else m y) y)) (N : News h₀ L s.heap [(ro, W.listOf rvs.toArray c3), (oc, W.listOf ws.toArray c2), (co, W.listOf vs.toArray c), (pa, penObj ca pl u fu v 0), (ca, W.listOf vsC.toArray nC), (L + 1 + 1 + 1 + 1, o4), (L + 1 + 1 + 1, o3), (L + 1 + 1, o2), (L + 1, o1)])
    (next : ∀ (m' : PySem.Str → Option Value) (h' : Heap) (tk' : Nat), Fr h₀ L h' (fun y => if y = Str.ofString "row" then some (.ref ro) else if y = Str.ofString "octets" then some (.ref oc) else if y = Str.ofString "codes" then some (.ref co) else m' y) → News h₀ L h' [(ro, W.listOf rvs.toArray c3), (oc, W.listOf ws.toArray c2), (co, W.listOf vs.toArray c), (pa, penObj ca pl u fu v 0), (ca, W.listOf vsC.toArray nC), (L + 1 + 1 + 1 + 1, o4), (L + 1 + 1 + 1, o3), (L + 1 + 1, o2), (L + 1, o1)] → wpAny (model Challenge.rw_og0188_01.row.prog w) (callerA.deeper (lawEnv L fa cdv)) (execs (lawBody.drop 14) (lawEnv L fa cdv)) Q E { s with heap := h', toks := tk' }) :
    wpAny (model Challenge.rw_og0188_01.row.prog w) (callerA.deeper (lawEnv L fa cdv)) (execs (lawBody.drop 13) (lawEnv L fa cdv)) Q E s := by
  have hMk := kstMark
  show wpAny _ _ (execs (_ :: _) _) _ _ _
  clear htp hcin hws hcs
  have hst : hexText (KBw.bInts (byteArr rns)) = hexText rns := by rw [bInts_byteArr hrin]
  k_with "mystr" => (refine ne_strN hst ?_)
  k_with "myint" => (refine neN (by rfl) ?_)
  k_with "mynext" => (
    (rename Fr _ _ _ _ => F9); (rename News _ _ _ _ => N9);
    exact next _ _ _ (fr_put3 F9 (by rfl) (by rfl) (by rfl)) N9)
  k_steps
end
section
open PySem PySem.W PyProof.Rows
set_option Elab.async false
set_option maxRecDepth 100000
set_option maxHeartbeats 2000000
open PySem.Calls PySem.Spec
theorem reset_S14 {prog : Program} {w : World} {A : Around} {env : Env} {Q : Flow → Shared → Prop} {E : Value → Shared → Prop} {s : Shared} (h : Q .next s) : wpAny (model prog w) A (execs [] env) Q E s := by
  w_top off
  k_with_none
  k_with "z6" => ((refine' code_def ?k1 ?k2 ?k3 ?k4 ?k5 ?kA ?kF ?kK ?k6 ?k7 ?k8 ?k9 ?kB ?_ ?c2 ?c3 ?c4 ?c5; (case kA => exact rfl); (case kF => exact rfl); (case kK => first | exact rfl | assumption); (case k1 => k_asm); (case k2 => k_asm); (case k3 => k_asm); (case k4 => k_asm); (case k5 => k_asm); (case k6 => k_is); (case k7 => k_is); (case k8 => ktr_room); (case k9 => first | exact BindsTo.of_eq rfl | exact binds_K (by k_in) rfl (by k_is) rfl rfl rfl | fail "k_enter: no rule for these arguments"); (case c5 => decide); (case kB => exact locs rfl); (case c2 => exact rfl); (case c3 => exact rfl); (case c4 => exact rfl); k_whole; intro g' L' h' FG' F' N' B' X' T'; (try dsimp only); (try k_lift B'); (try k_fold)))
  k_with "z30" => ((rename AllLt _ _ => h1; first | exact allNe_of h1 (by omega) | (clear h1; rename AllLt _ _ => h2; first | exact allNe_of h2 (by omega) | (clear h2; rename AllLt _ _ => h3; exact allNe_of h3 (by omega)))))
  k_with "z9" => (first | (refine eqN (by omega) ?_) | (refine eqY (by omega) ?_))
  k_with "z10" => (first | (refine neN (by omega) ?_) | (refine neY (by omega) ?_))
  k_with "z11" => (first | (refine ltY (by omega) ?_) | (refine ltN (by omega) ?_))
  k_with "z12" => (first | (refine gtY (by omega) ?_) | (refine gtN (by omega) ?_))
  k_with "z13" => (first | (refine leY (by omega) ?_) | (refine leN (by omega) ?_))
  k_with "z14" => (first | (refine geY (by omega) ?_) | (refine geN (by omega) ?_))
  k_with "z15" => ((k_dflt (first | (refine' notInN (tupK ?kX ?kL) ?kI ?kE ?_; (case kX => k_in); (case kL => k_is); (case kI => (repeat constructor)); (case kE => rfl)) | (refine' notInY (tupK ?kX ?kL) ?kI ?kE ?_; (case kX => k_in); (case kL => k_is); (case kI => (repeat constructor)); (case kE => (repeat (first | exact any_no_nil | (refine any_no_cons (by omega) ?_))))))))
  k_with "z16" => ((k_dflt (first | (refine' inY (tupK ?kX ?kL) ?kI ?kE ?_; (case kX => k_in); (case kL => k_is); (case kI => (repeat constructor)); (case kE => rfl)) | (refine' inN (tupK ?kX ?kL) ?kI ?kE ?_; (case kX => k_in); (case kL => k_is); (case kI => (repeat constructor)); (case kE => (repeat (first | exact any_no_nil | (refine any_no_cons (by omega) ?_))))))))
  k_with "z17" => ((k_dflt (refine whl_start 3 ?_)))
  k_with "z24" => (first | (refine ite_neg Bool.false_ne_true ?_) | (refine ite_pos rfl ?_))
  k_with "z31" => ((dsimp only [WhileStep2]))
  k_with "z70" => (k_dflt (refine LCg.ListComp_U (F₀ := by k_asm) (by with_unfolding_all rfl) (by decide) (by rfl) (by decide) (by rfl) ?_))
  k_with "z60" => (((with_reducible show wpAny _ _ (call (Value.ref 437) _) _ _ _); k_dflt (refine' Tells.use (code_octets_tells _ _ _ _ _ ?c1 ?c2) ?B9 ?F9 ?X9 ?N9 ?T9 ?K9 ?d9 ?u9 ?_; (case B9 => k_asm); (case F9 => k_asm); (case X9 => k_asm); (case N9 => k_asm); (case T9 => k_asm); (case K9 => first | exact rfl | assumption); (case d9 => ktr_room); (case u9 => ktr_units); (case c1 => omega); (case c2 => omega)); (dsimp only [BackV]); intro t9 h9 tk9 F9 N9; (try dsimp only); (try k_fold)))
  k_with "z73" => (((with_reducible show wpAny _ _ (call (Value.ref 510) _) _ _ _); k_dflt (refine' Tells.use (hex_text_tells _ _ _ ?c1) ?B9 ?F9 ?X9 ?N9 ?T9 ?K9 ?d9 ?u9 ?_; (case B9 => k_asm); (case F9 => k_asm); (case X9 => k_asm); (case N9 => k_asm); (case T9 => k_asm); (case K9 => first | exact rfl | assumption); (case d9 => ktr_room); (case u9 => ktr_units); (case c1 => first | exact byteArr_small (by assumption) | exact oct_small _ (by assumption) (by assumption))); (dsimp only [BackV]); intro t9 h9 tk9 F9 N9; (try dsimp only); (try k_fold)))
  k_with "z74" => ((refine PyProof.Rows.add_str ?_ (hsz := Nat.le_trans (spaceText_small (by assumption)) (by decide))))
  walk1
  exact h
local macro_rules | `(tactic| walk_at "eval ListComp") => `(tactic| k_extra "z70")
local macro_rules | `(tactic| walk_at "CompSrc") => `(tactic| k_dflt (k_extra "mysrc"))
local macro_rules | `(tactic| walk_at "CompEnd") => `(tactic| k_dflt (k_extra "myce"))
local macro_rules | `(tactic| walk_at "call ref") => `(tactic| k_extra "z60")
local macro_rules | `(tactic| walk_at "call ref") => `(tactic| k_extra "z73")
local macro_rules | `(tactic| walk_at "execs cons Assign cons") => `(tactic| k_dflt (k_extra "mynext"))
theorem bytsS_item {vs : List Value} {cs : List Int} {n : Int} {i : Nat} {v : Value} (h : BytsAre vs (cs.map (octB n))) (hv : vs[i]? = some v) : ∃ k, cs[i]? = some k ∧ ∃ t, v = .bytes (octB n k) t := byts_item h hv
theorem s14_item {cs : List Int} {i : Nat} {k n top : Int} {ys : List Value} {t : Tok} (hys : StrsAre ys ((cs.take i).map (spaceText n top))) (hk : cs[i]? = some k) : StrsAre (ys ++ [Value.str (hexText (KBw.bInts (octB n k)) ++ hexText (KBw.bInts (octB n top))) t]) ((cs.take (i + 1)).map (spaceText n top)) := by
  rw [List.take_add_one, hk]
  simp only [List.map_append, Option.toList_some, List.map_cons, List.map_nil]
  exact StrsAre.append' hys (.cons _ _ .nil)
theorem add_listsN {prog : Program} {w : World} {A : Around} {E : Value → Shared → Prop} {s : Shared} {h₀ : Heap} {L a b : Addr} {m : PySem.Str → Option Value} {news : List (Addr × Obj)} {vs ws : List Value} {xs ys : List PySem.Str} {c d : Nat} {Q : Value → Shared → Prop} (F : Fr h₀ L s.heap m) (N : News h₀ L s.heap news)
    (ha : (a, W.listOf vs.toArray c) ∈ news) (hb : (b, W.listOf ws.toArray d) ∈ news) (hx : StrsAre vs xs) (hy : StrsAre ws ys) (hsz : xs.length + ys.length ≤ 4096)
    (h : ∀ D us h', Fr h₀ L h' m → News h₀ L h' ((D, W.listOf (List.toArray us) 0) :: news) → (∀ p ∈ news, p.1 < D) → StrsAre us (xs ++ ys) → Q (.ref D) { s with heap := h' }) : wpAny (model prog w) A (binaryOp .Add (.ref a) (.ref b)) Q E s :=
  add_lists F N ⟨_, (N _ ha).1, rfl, c, rfl⟩ ⟨_, (N _ hb).1, rfl, d, rfl⟩ (fun h' F' N' => h _ _ h' F' N' (fun p hp => Heap.lt_size (N p hp).1) (hx.append' hy)) (by rw [hx.length, hy.length, sizeLine_eq]; omega)
theorem head4 {h₀ : Heap} {L : Addr} {h : Heap} {a b c d e : Addr × Obj} {r : List (Addr × Obj)} (N : News h₀ L h (a :: b :: c :: d :: e :: r)) : News h₀ L h (a :: r) := fun p hp => N p (by
  simp only [List.mem_cons] at hp ⊢; rcases hp with h | h <;> simp [h])
local macro_rules | `(tactic| walk_at "binaryOp Add ref ref") => `(tactic| k_dflt (k_extra "mycat"))
local macro_rules | `(tactic| walk_at "binaryOp Add str str") => `(tactic| k_extra "z74")
theorem seg14 (w : World) (mg mb : PySem.Str → Option Value) (mean : ExcName → Option Value) (h₀ : Heap) (L fa : Addr) (cdv : Value) (s : Shared) (Q : Flow → Shared → Prop) (E : Value → Shared → Prop) (m : PySem.Str → Option Value)
    (B : Below callerA h₀ [] h₀) (X : (h0.heap_1_39 w.params).In h₀) (T : Top h0.view_1_40 Ls mean mg mb h₀) (hE : PassesOwn (model Challenge.rw_og0188_01.row.prog w) (callerA.deeper (lawEnv L fa cdv)) (lawEnv L fa cdv) E)
    (pa ca : Addr) (o1 o2 o3 o4 : Obj) (v4 : Option Value) (vsC : List Value) (nC : Nat) (nsC : List Int) (pl fu : Int) (u v : Tok) (n tp : Int) (tn tt : Tok)
    (g1 : @LT.lt Nat _ (L + 1 + 1 + 1 + 1) pa) (g0 : @Ne Nat (L + 1 + 1 + 1 + 1) ca) (g2 : @LT.lt Nat _ ca pa) (d1 : o1.data = .cell (some (.ref pa))) (d2 : o2.data = .cell (some (.int n tn))) (d3 : o3.data = .cell (some (.int tp tt))) (d4 : o4.data = .cell v4)
    (hIC : IntsAre vsC nsC) (hlC : nsC.length ≤ 40) (hpl : 0 ≤ pl) (hfu : 0 ≤ fu) (hn1 : 1 ≤ n) (hn4 : n ≤ 4) (ht1 : 256 ≤ tp) (ht2 : tp ≤ 4294967296) (htp : tp = 256 ^ n.toNat) (co oc ro : Addr) (g3 : @LT.lt Nat _ pa co) (g4 : @Ne Nat pa oc) (g5 : @Ne Nat (L + 1 + 1 + 1 + 1) oc) (g6 : @Ne Nat pa ro) (g7 : @Ne Nat (L + 1 + 1 + 1 + 1) ro) (cs rns : List Int) (vs ws rvs : List Value) (c c2 c3 : Nat)
    (hcs : IntsAre vs cs) (hws : BytsAre ws (cs.map (octB n))) (hc8 : cs.length ≤ 8) (hcin : ∀ x ∈ cs, 0 ≤ x ∧ x < tp) (hri : IntsAre rvs rns) (hr6 : rns.length ≤ 6) (hrin : ∀ x ∈ rns, 0 ≤ x ∧ x < 256)
    (F : Fr h₀ L s.heap (fun y => if y = Str.ofString "row" then some (.ref ro) else if y = Str.ofString "octets" then some (.ref oc) else if y = Str.ofString "codes" then some (.ref co) else m y)) (N : News h₀ L s.heap [(ro, W.listOf rvs.toArray c3), (oc, W.listOf ws.toArray c2), (co, W.listOf vs.toArray c), (pa, penObj ca pl u fu v 0), (ca, W.listOf vsC.toArray nC), (L + 1 + 1 + 1 + 1, o4), (L + 1 + 1 + 1, o3), (L + 1 + 1, o2), (L + 1, o1)])
    (next : ∀ (ln : Addr) (lvs : List Value) (h' : Heap) (tk' : Nat), StrsAre lvs (lawLines n (tp - 1) cs) → Fr h₀ L h' (fun y => if y = Str.ofString "lines" then some (.ref ln) else (fun y => if y = Str.ofString "row" then some (.ref ro) else if y = Str.ofString "octets" then some (.ref oc) else if y = Str.ofString "codes" then some (.ref co) else m y) y) → News h₀ L h' [(ln, W.listOf lvs.toArray 0), (ro, W.listOf rvs.toArray c3), (oc, W.listOf ws.toArray c2), (co, W.listOf vs.toArray c), (pa, penObj ca pl u fu v 0), (ca, W.listOf vsC.toArray nC), (L + 1 + 1 + 1 + 1, o4), (L + 1 + 1 + 1, o3), (L + 1 + 1, o2), (L + 1, o1)] → wpAny (model Challenge.rw_og0188_01.row.prog w) (callerA.deeper (lawEnv L fa cdv)) (execs (lawBody.drop 15) (lawEnv L fa cdv)) Q E { s with heap := h', toks := tk' }) :
    wpAny (model Challenge.rw_og0188_01.row.prog w) (callerA.deeper (lawEnv L fa cdv)) (execs (lawBody.drop 14) (lawEnv L fa cdv)) Q E s := by
  have hMk := kstMark
  show wpAny _ _ (execs (_ :: _) _) _ _ _
  have htop : 0 ≤ tp - 1 := by omega
  have hn0 : 0 ≤ n := by omega
  clear htp hcin hcs
  k_with "mysrc" => (
    refine LCg.CompSrc.ledger (by rfl) (by k_asm) (by k_asm) (by k_mem) (by (rw [sizeLine_eq, List.size_toArray, hws.length, List.length_map]; omega)) ?_;
    intro g;
    refine rest_inv (fun i ys nx => StrsAre ys ((cs.take i).map (spaceText n (tp - 1))) ∧ nx = _) ⟨.nil, rfl⟩ ?_ ?_;
    (rintro i ys nx v9 I oI C oC D m₂ h tk E' hi hv ⟨hys, rfl⟩ hC hx F₁ N₁ off ne;
     (have hv2 : ws[i]? = some v9 := (by simpa using hv)); obtain ⟨k9, hk9, t9, rfl⟩ := bytsS_item hws hv2;
     have off0 := off; simp only [LCg.Off3, and_true] at off); rotate_left;
    (rintro ys nx ⟨hys, rfl⟩ D9 h9 tk9 F9 N9 off9; (rw [List.size_toArray, hws.length, List.length_map, List.take_length] at hys));
    all_goals (try k_fold))
  k_with "mycat" => (first
    | (refine add_listsN (by k_asm) (by k_asm) (by k_mem) (by k_mem) (.cons _ _ .nil) hys (by simp only [List.length_cons, List.length_nil, List.length_map]; omega) ?_; intro D6 us6 h6 F6 N6 l6 hx6; (try k_lt l6))
    | (refine add_listsN (by k_asm) (by k_asm) (by k_mem) (by k_mem) hx6 (.cons _ _ .nil) (by simp only [List.length_cons, List.length_nil, List.length_map, List.length_append]; omega) ?_; intro D7 us7 h7 F7 N7 l7 hx7; (try k_lt l7)))
  k_with "myce" => (
    (rename Fr _ _ _ _ => F₃); (rename News _ _ _ _ => N₃);
    exact LCg.CompEnd.intro F₃ N₃ _ (fun _ hp => hp) off0 (.inr ⟨_, .tail _ (.tail _ (.head _)), rfl, _, rfl⟩) ⟨s14_item hys hk9, rfl⟩)
  k_with "mynext" => (
    (rename Fr _ _ _ _ => F9); (rename News _ _ _ _ => N9);
    exact next _ _ _ _ hx7 F9 (head4 N9))
  k_steps
end
section
open PySem PySem.W PyProof.Rows
set_option Elab.async false
set_option maxRecDepth 100000
set_option maxHeartbeats 2000000
open PySem.Calls PySem.Spec
theorem reset_S15 {prog : Program} {w : World} {A : Around} {env : Env} {Q : Flow → Shared → Prop} {E : Value → Shared → Prop} {s : Shared} (h : Q .next s) : wpAny (model prog w) A (execs [] env) Q E s := by
  w_top off
  k_with_none
  k_with "z6" => ((refine' code_def ?k1 ?k2 ?k3 ?k4 ?k5 ?kA ?kF ?kK ?k6 ?k7 ?k8 ?k9 ?kB ?_ ?c2 ?c3 ?c4 ?c5; (case kA => exact rfl); (case kF => exact rfl); (case kK => first | exact rfl | assumption); (case k1 => k_asm); (case k2 => k_asm); (case k3 => k_asm); (case k4 => k_asm); (case k5 => k_asm); (case k6 => k_is); (case k7 => k_is); (case k8 => ktr_room); (case k9 => first | exact BindsTo.of_eq rfl | exact binds_K (by k_in) rfl (by k_is) rfl rfl rfl | fail "k_enter: no rule for these arguments"); (case c5 => decide); (case kB => exact locs rfl); (case c2 => exact rfl); (case c3 => exact rfl); (case c4 => exact rfl); k_whole; intro g' L' h' FG' F' N' B' X' T'; (try dsimp only); (try k_lift B'); (try k_fold)))
  k_with "z30" => ((rename AllLt _ _ => h1; first | exact allNe_of h1 (by omega) | (clear h1; rename AllLt _ _ => h2; first | exact allNe_of h2 (by omega) | (clear h2; rename AllLt _ _ => h3; exact allNe_of h3 (by omega)))))
  k_with "z9" => (first | (refine eqN (by omega) ?_) | (refine eqY (by omega) ?_))
  k_with "z10" => (first | (refine neN (by omega) ?_) | (refine neY (by omega) ?_))
  k_with "z11" => (first | (refine ltY (by omega) ?_) | (refine ltN (by omega) ?_))
  k_with "z12" => (first | (refine gtY (by omega) ?_) | (refine gtN (by omega) ?_))
  k_with "z13" => (first | (refine leY (by omega) ?_) | (refine leN (by omega) ?_))
  k_with "z14" => (first | (refine geY (by omega) ?_) | (refine geN (by omega) ?_))
  k_with "z15" => ((k_dflt (first | (refine' notInN (tupK ?kX ?kL) ?kI ?kE ?_; (case kX => k_in); (case kL => k_is); (case kI => (repeat constructor)); (case kE => rfl)) | (refine' notInY (tupK ?kX ?kL) ?kI ?kE ?_; (case kX => k_in); (case kL => k_is); (case kI => (repeat constructor)); (case kE => (repeat (first | exact any_no_nil | (refine any_no_cons (by omega) ?_))))))))
  k_with "z16" => ((k_dflt (first | (refine' inY (tupK ?kX ?kL) ?kI ?kE ?_; (case kX => k_in); (case kL => k_is); (case kI => (repeat constructor)); (case kE => rfl)) | (refine' inN (tupK ?kX ?kL) ?kI ?kE ?_; (case kX => k_in); (case kL => k_is); (case kI => (repeat constructor)); (case kE => (repeat (first | exact any_no_nil | (refine any_no_cons (by omega) ?_))))))))
  k_with "z17" => ((k_dflt (refine whl_start 3 ?_)))
  k_with "z24" => (first | (refine ite_neg Bool.false_ne_true ?_) | (refine ite_pos rfl ?_))
  k_with "z31" => ((dsimp only [WhileStep2]))
  k_with "z75" => (k_dflt (refine ListComp_G (by k_asm) (by with_unfolding_all rfl) (by decide) (by rfl) (by decide) (by rfl) ?_))
  k_with "z76" => ((refine P.ord_of_char ?_))
  walk1
  exact h
theorem SrcG.str {prog : Program} {w : World} {A : Around} {h₀ : Heap} {L : Addr} {m : PySem.Str → Option Value} {env : Env} {elt : PySem.Expr} {x : PySem.Str} {scope : Scope} {cl : List (PySem.Str × Addr)} {Fin : Shared → List Value → List (Addr × Obj) → Prop} {X : PySem.Str} {t : Tok} {news : List (Addr × Obj)} {s₁ : Shared}
    (hh : A.handled = none) (F : Fr h₀ L s₁.heap m) (N : News h₀ L s₁.heap news) (hsz : X.cps.size ≤ sizeLine)
    (h : ∀ g, LCg.CompRest prog w A h₀ L m env elt x scope cl { s₁ with heap := g } (fun _ => True) (SignAt X) (Fin { s₁ with heap := g }) X.cps.size 0 [] news) :
    SrcG prog w A h₀ L m env elt x scope cl Fin (.str X t) s₁ := by
  cases ha : X.cps.all (· < 128)
  · refine ⟨_, X.cps.size, _, _, news, fun Q' E' hq => wpAny_pyIter_wide ha hq, Walks.strWide hh s₁.heap.objs.size X t, fun i h ⟨o, e, _⟩ => ⟨o, e⟩, fun i h h' o ⟨o', q, r⟩ e e' => ?_, ⟨_, Heap.get?_push_size _ rfl, rfl, rfl⟩, hsz, F, N, fun _ ⟨g, e⟩ => e ▸ h g⟩
    rw [e] at q; cases q; exact ⟨o, e', r⟩
  · refine ⟨_, X.cps.size, _, _, news, fun Q' E' hq => wpAny_pyIter_ascii ha hq, Walks.strAscii hh s₁.heap.objs.size X t, fun i h ⟨o, e, _⟩ => ⟨o, e⟩, fun i h h' o ⟨o', q, r⟩ e e' => ?_, ⟨_, Heap.get?_push_size _ rfl, rfl, rfl⟩, hsz, F, N, fun _ ⟨g, e⟩ => e ▸ h g⟩
    rw [e] at q; cases q; exact ⟨o, e', r⟩
theorem joinT {prog : Program} {w : World} {A : Around} {E : Value → Shared → Prop} {s : Shared} {h₀ : Heap} {L D : Addr} {ys : List Value} {n top : Int} {cs : List Int} {c : Nat} {t : Tok} {r : List (Addr × Obj)} {Q : Value → Shared → Prop} (N : News h₀ L s.heap r) (hm : (D, W.listOf ys.toArray c) ∈ r) (hi : StrsAre ys (lawLines n top cs)) (h8 : cs.length ≤ 8) (hn : n ≤ 4)
    (h : ∀ t' k, Q (.str (lawText n top cs) t') { s with toks := k }) : wpAny (model prog w) A (call (.builtin "str.join") [.str (Str.ofString " ") t, .ref D]) Q E s :=
  join_listW (items := ys.toArray) ⟨_, (N _ hm).1, rfl, c, rfl⟩ hi (by decide +kernel) (lines_sum h8 hn) h
theorem sign_step {X : PySem.Str} {i c : Nat} {ys : List Value} {t : Tok} (hc : X.cps[i]? = some c) (hys : IntsAre ys ((strI X).take i)) : IntsAre (ys ++ [Value.int (c : Int) t]) ((strI X).take (i + 1)) := by
  have : (strI X)[i]? = some (c : Int) := by
    unfold strI
    rw [List.getElem?_map, Array.getElem?_toList, hc]
    rfl
  exact take_one hys this ⟨_, rfl⟩
theorem fr_data {h₀ : Heap} {L : Addr} {h : Heap} {a b : PySem.Str} {u v : Option Value} {m : PySem.Str → Option Value} (F : Fr h₀ L h (fun y => if y = a then u else m y)) (e1 : m b = v) : Fr h₀ L h (fun y => if y = a then u else if y = b then v else m y) :=
  fr_same F fun z => by
    by_cases h1 : z = a
    · rw [if_pos h1, if_pos h1]
    · by_cases h2 : z = b
      · rw [if_neg h1, if_neg h1, if_pos h2, h2, e1]
      · rw [if_neg h1, if_neg h1, if_neg h2]
theorem strI_len (X : PySem.Str) : (strI X).length = X.cps.size := by
  unfold strI
  rw [List.length_map, Array.length_toList]
local macro_rules | `(tactic| walk_at "call builtin:str.join") => `(tactic| k_dflt (k_extra "myjoin"))
local macro_rules | `(tactic| walk_at "eval ListComp") => `(tactic| k_extra "z75")
local macro_rules | `(tactic| walk_at "SrcG") => `(tactic| k_dflt (k_extra "mysrc"))
local macro_rules | `(tactic| walk_at "CompEnd") => `(tactic| k_dflt (k_extra "myce"))
local macro_rules | `(tactic| walk_at "call builtin:ord") => `(tactic| k_extra "z76")
local macro_rules | `(tactic| walk_at "call type:bytes") => `(tactic| k_dflt (k_extra "mybytes"))
local macro_rules | `(tactic| walk_at "execs cons Return nil") => `(tactic| k_dflt (k_extra "mynext"))
theorem seg15 (w : World) (mg mb : PySem.Str → Option Value) (mean : ExcName → Option Value) (h₀ : Heap) (L fa : Addr) (cdv : Value) (s : Shared) (Q : Flow → Shared → Prop) (E : Value → Shared → Prop) (m : PySem.Str → Option Value)
    (B : Below callerA h₀ [] h₀) (X : (h0.heap_1_39 w.params).In h₀) (T : Top h0.view_1_40 Ls mean mg mb h₀) (hE : PassesOwn (model Challenge.rw_og0188_01.row.prog w) (callerA.deeper (lawEnv L fa cdv)) (lawEnv L fa cdv) E)
    (pa ca : Addr) (o1 o2 o3 o4 : Obj) (v4 : Option Value) (vsC : List Value) (nC : Nat) (nsC : List Int) (pl fu : Int) (u v : Tok) (n tp : Int) (tn tt : Tok)
    (g1 : @LT.lt Nat _ (L + 1 + 1 + 1 + 1) pa) (g0 : @Ne Nat (L + 1 + 1 + 1 + 1) ca) (g2 : @LT.lt Nat _ ca pa) (d1 : o1.data = .cell (some (.ref pa))) (d2 : o2.data = .cell (some (.int n tn))) (d3 : o3.data = .cell (some (.int tp tt))) (d4 : o4.data = .cell v4)
    (hIC : IntsAre vsC nsC) (hlC : nsC.length ≤ 40) (hpl : 0 ≤ pl) (hfu : 0 ≤ fu) (hn1 : 1 ≤ n) (hn4 : n ≤ 4) (ht1 : 256 ≤ tp) (ht2 : tp ≤ 4294967296) (htp : tp = 256 ^ n.toNat) (co oc ro : Addr) (g3 : @LT.lt Nat _ pa co) (g4 : @Ne Nat pa oc) (g5 : @Ne Nat (L + 1 + 1 + 1 + 1) oc) (g6 : @Ne Nat pa ro) (g7 : @Ne Nat (L + 1 + 1 + 1 + 1) ro) (cs rns : List Int) (vs ws rvs : List Value) (c c2 c3 : Nat)
    (hcs : IntsAre vs cs) (hws : BytsAre ws (cs.map (octB n))) (hc8 : cs.length ≤ 8) (hcin : ∀ x ∈ cs, 0 ≤ x ∧ x < tp) (hri : IntsAre rvs rns) (hr6 : rns.length ≤ 6) (hrin : ∀ x ∈ rns, 0 ≤ x ∧ x < 256)
    (ln : Addr) (lvs : List Value) (hlv : StrsAre lvs (lawLines n (tp - 1) cs)) (F : Fr h₀ L s.heap (fun y => if y = Str.ofString "lines" then some (.ref ln) else (fun y => if y = Str.ofString "row" then some (.ref ro) else if y = Str.ofString "octets" then some (.ref oc) else if y = Str.ofString "codes" then some (.ref co) else m y) y)) (N : News h₀ L s.heap [(ln, W.listOf lvs.toArray 0), (ro, W.listOf rvs.toArray c3), (oc, W.listOf ws.toArray c2), (co, W.listOf vs.toArray c), (pa, penObj ca pl u fu v 0), (ca, W.listOf vsC.toArray nC), (L + 1 + 1 + 1 + 1, o4), (L + 1 + 1 + 1, o3), (L + 1 + 1, o2), (L + 1, o1)])
    (next : ∀ (tD : Tok) (m' : PySem.Str → Option Value) (h' : Heap) (tk' : Nat), Fr h₀ L h' (fun y => if y = Str.ofString "data" then some (.bytes (byteArr (strI (lawText n (tp - 1) cs))) tD) else if y = Str.ofString "codes" then some (.ref co) else m' y) → News h₀ L h' [(co, W.listOf vs.toArray c), (pa, penObj ca pl u fu v 0), (ca, W.listOf vsC.toArray nC), (L + 1 + 1 + 1 + 1, o4), (L + 1 + 1 + 1, o3), (L + 1 + 1, o2), (L + 1, o1)] → wpAny (model Challenge.rw_og0188_01.row.prog w) (callerA.deeper (lawEnv L fa cdv)) (execs (lawBody.drop 16) (lawEnv L fa cdv)) Q E { s with heap := h', toks := tk' }) :
    wpAny (model Challenge.rw_og0188_01.row.prog w) (callerA.deeper (lawEnv L fa cdv)) (execs (lawBody.drop 15) (lawEnv L fa cdv)) Q E s := by
  have hMk := kstMark
  show wpAny _ _ (execs (_ :: _) _) _ _ _
  have hlw := law_in n (tp - 1) cs
  have hle := law_len (top := tp - 1) hc8 hn4
  clear htp hcin hcs hws
  k_with "myjoin" => (refine joinT (by k_asm) (by k_mem) hlv hc8 hn4 ?_; intro _ _)
  k_with "mybytes" => (refine bytes_intsN (by k_asm) (by k_asm) (by rfl) (by k_mem) hys9 hlw hle ?_; intro _ _ _ F' N')
  k_with "mynext" => (
    (rename Fr _ _ _ _ => F9); (rename News _ _ _ _ => N9);
    exact next _ _ _ _ (fr_data F9 (by rfl)) (news_drop (news_drop (news_drop (news_drop N9)))))
  k_with "mysrc" => (
    refine SrcG.str (by rfl) (by k_asm) (by k_asm) (by (rw [sizeLine_eq, ← strI_len]; (with_reducible omega))) ?_;
    intro g;
    refine rest_inv (fun i ys nx => IntsAre ys ((strI (lawText n (tp - 1) cs)).take i) ∧ nx = _) ⟨.nil, rfl⟩ ?_ ?_;
    (rintro i ys nx v I oI C oC D9 m₂ h tk E' hik ⟨k9, t9, hk9, rfl⟩ ⟨hys, rfl⟩ hC hx F N off ne;
     have off0 := off; simp only [LCg.Off3, and_true] at off); rotate_left;
    (rintro ys nx ⟨hys9, rfl⟩ D9 h tk F N off; rw [← strI_len, List.take_length] at hys9);
    all_goals (try k_fold))
  k_with "myce" => (
    (rename Fr _ _ _ _ => F₃); (rename News _ _ _ _ => N₃);
    exact LCg.CompEnd.intro F₃ N₃ _ (fun _ hp => hp) off0 trivial ⟨sign_step hk9 hys, rfl⟩)
  k_steps
end
section
open PySem PySem.W PyProof.Rows
set_option Elab.async false
set_option maxRecDepth 100000
set_option maxHeartbeats 2000000
open PySem.Calls PySem.Spec
theorem reset_S16 {prog : Program} {w : World} {A : Around} {env : Env} {Q : Flow → Shared → Prop} {E : Value → Shared → Prop} {s : Shared} (h : Q .next s) : wpAny (model prog w) A (execs [] env) Q E s := by
  w_top off
  k_with_none
  k_with "z6" => ((refine' code_def ?k1 ?k2 ?k3 ?k4 ?k5 ?kA ?kF ?kK ?k6 ?k7 ?k8 ?k9 ?kB ?_ ?c2 ?c3 ?c4 ?c5; (case kA => exact rfl); (case kF => exact rfl); (case kK => first | exact rfl | assumption); (case k1 => k_asm); (case k2 => k_asm); (case k3 => k_asm); (case k4 => k_asm); (case k5 => k_asm); (case k6 => k_is); (case k7 => k_is); (case k8 => ktr_room); (case k9 => first | exact BindsTo.of_eq rfl | exact binds_K (by k_in) rfl (by k_is) rfl rfl rfl | fail "k_enter: no rule for these arguments"); (case c5 => decide); (case kB => exact locs rfl); (case c2 => exact rfl); (case c3 => exact rfl); (case c4 => exact rfl); k_whole; intro g' L' h' FG' F' N' B' X' T'; (try dsimp only); (try k_lift B'); (try k_fold)))
  k_with "z30" => ((rename AllLt _ _ => h1; first | exact allNe_of h1 (by omega) | (clear h1; rename AllLt _ _ => h2; first | exact allNe_of h2 (by omega) | (clear h2; rename AllLt _ _ => h3; exact allNe_of h3 (by omega)))))
  k_with "z9" => (first | (refine eqN (by omega) ?_) | (refine eqY (by omega) ?_))
  k_with "z10" => (first | (refine neN (by omega) ?_) | (refine neY (by omega) ?_))
  k_with "z11" => (first | (refine ltY (by omega) ?_) | (refine ltN (by omega) ?_))
  k_with "z12" => (first | (refine gtY (by omega) ?_) | (refine gtN (by omega) ?_))
  k_with "z13" => (first | (refine leY (by omega) ?_) | (refine leN (by omega) ?_))
  k_with "z14" => (first | (refine geY (by omega) ?_) | (refine geN (by omega) ?_))
  k_with "z15" => ((k_dflt (first | (refine' notInN (tupK ?kX ?kL) ?kI ?kE ?_; (case kX => k_in); (case kL => k_is); (case kI => (repeat constructor)); (case kE => rfl)) | (refine' notInY (tupK ?kX ?kL) ?kI ?kE ?_; (case kX => k_in); (case kL => k_is); (case kI => (repeat constructor)); (case kE => (repeat (first | exact any_no_nil | (refine any_no_cons (by omega) ?_))))))))
  k_with "z16" => ((k_dflt (first | (refine' inY (tupK ?kX ?kL) ?kI ?kE ?_; (case kX => k_in); (case kL => k_is); (case kI => (repeat constructor)); (case kE => rfl)) | (refine' inN (tupK ?kX ?kL) ?kI ?kE ?_; (case kX => k_in); (case kL => k_is); (case kI => (repeat constructor)); (case kE => (repeat (first | exact any_no_nil | (refine any_no_cons (by omega) ?_))))))))
  k_with "z17" => ((k_dflt (refine whl_start 3 ?_)))
  k_with "z24" => (first | (refine ite_neg Bool.false_ne_true ?_) | (refine ite_pos rfl ?_))
  k_with "z31" => ((dsimp only [WhileStep2]))
  k_with "z70" => (k_dflt (refine LCg.ListComp_U (F₀ := by k_asm) (by with_unfolding_all rfl) (by decide) (by rfl) (by decide) (by rfl) ?_))
  walk1
  exact h
theorem law_cmap (news : List (Addr × Obj)) {n top : Int} {cs : List Int} (t : Tok) (h8 : cs.length ≤ 8) (hn1 : 1 ≤ n) (hn4 : n ≤ 4) (ht : top = 256 ^ n.toNat - 1) (h0 : 0 ≤ top) : TellsN 60 240 503 [.bytes (byteArr (strI (lawText n top cs))) t] (fun _ => news) (BackM n.toNat (cs.map (spaceI n top)) news) :=
  read_cmap_tells news _ t (by rw [byteArr_size]; exact law_len h8 hn4) n.toNat (by omega) (by omega) _ (by rw [List.length_map]; omega)
    (fun q hq => by obtain ⟨k, _, rfl⟩ := List.mem_map.mp hq; exact space_ok h0 ht)
    (fun i hi => by rw [bInts_byteArr (law_in n top cs), strI_law, Int.zero_add, Int.toNat_natCast, List.getElem?_eq_getElem hi])
    (by rw [byteArr_size, strI_law])
def rowD (n top k : Int) : Dat := .tuple [.int n, .int k, .int top]
theorem datAll_of {news : List (Addr × Obj)} : ∀ {vs : List Value} {ds : List Dat}, vs.length = ds.length → (∀ (i : Nat) (d : Dat), ds[i]? = some d → ∃ v, vs[i]? = some v ∧ DatIn news v d) → DatAll news vs ds
  | [], [], _, _ => .nil
  | v :: vs, d :: ds, hl, h => by
    obtain ⟨v', e, hd⟩ := h 0 d rfl
    have e' : v = v' := by simpa using e
    subst e'
    exact .cons hd (datAll_of (by simpa using hl) fun i d' hi => h (i + 1) d' hi)
  | [], _ :: _, hl, _ => by simp at hl
  | _ :: _, [], hl, _ => by simp at hl
theorem datAll_app {news : List (Addr × Obj)} : ∀ {vs : List Value} {ds : List Dat} {v : Value} {d : Dat}, DatAll news vs ds → DatIn news v d → DatAll news (vs ++ [v]) (ds ++ [d])
  | _, _, _, _, .nil, h => .cons h .nil
  | _, _, _, _, .cons a r, h => .cons a (datAll_app r h)
theorem sp_dat {n top : Int} {cs : List Int} {vs : List Value} {tups : List (Addr × Obj)} (h : SpRows n.toNat vs tups (cs.map (spaceI n top))) (hn : 0 ≤ n) (ht : 0 ≤ top) (ht1 : top < 256 ^ n.toNat) (hin : ∀ x ∈ cs, 0 ≤ x ∧ x < 256 ^ n.toNat) : DatAll tups vs (cs.map (rowD n top)) := by
  obtain ⟨hl, hr⟩ := h
  refine datAll_of (by rw [hl, List.length_map, List.length_map]) fun i d hi => ?_
  rw [List.getElem?_map] at hi
  cases hk : cs[i]? with
  | none => rw [hk] at hi; cases hi
  | some k =>
    rw [hk] at hi
    have hd := Option.some.inj hi
    have hb := hin k (List.mem_of_getElem? hk)
    obtain ⟨a, t1, t2, t3, e1, e2⟩ := hr i (spaceI n top k) (by rw [List.getElem?_map, hk]; rfl)
    refine ⟨_, e1, ?_⟩
    rw [show (spaceI n top k).1 = hexI (beI n.toNat k) from rfl, show (spaceI n top k).2 = hexI (beI n.toNat top) from rfl, pairs_hexI beI_in (beI_len _ _), pairs_hexI beI_in (beI_len _ _), codeI_beI _ _ hb.1 hb.2, codeI_beI _ _ ht ht1, Int.toNat_of_nonneg hn] at e2
    rw [← hd]
    exact .tuple e2 (.cons (.int _ _) (.cons (.int _ _) (.cons (.int _ _) .nil)))
theorem rowD_ok (n top : Int) (cs : List Int) : ∀ d ∈ cs.map (rowD n top), kqdOk 8 d = true := fun d hd => by
  obtain ⟨k, _, rfl⟩ := List.mem_map.mp hd
  rfl
theorem eq_rowsN {prog : Program} {w : World} {A : Around} {E : Value → Shared → Prop} {s : Shared} {h₀ : Heap} {L a b : Addr} {news ta tb : List (Addr × Obj)} {vs us : List Value} {c d : Nat} {n top : Int} {cs : List Int} {Q : Value → Shared → Prop} (N : News h₀ L s.heap news) (ha : (a, W.listOf vs.toArray c) ∈ news) (hb : (b, W.listOf us.toArray d) ∈ news)
    (Da : DatAll ta vs (cs.map (rowD n top))) (sa : ∀ p ∈ ta, p ∈ news) (Db : DatAll tb us (cs.map (rowD n top))) (sb : ∀ p ∈ tb, p ∈ news) (hu : A.units + 64 < cLine) (h : Q (.bool true) s) : wpAny (model prog w) A (compareOp .Eq (.ref a) (.ref b)) Q E s :=
  kqd_eq N ha rfl rfl Da sa hb rfl rfl Db sb (rowD_ok _ _ _) (rowD_ok _ _ _) hu (by simpa using h)
theorem reoM {h₀ : Heap} {L : Addr} {h : Heap} {cm dm sp a b c d e f g : Addr × Obj} {tu : List (Addr × Obj)} (N : News h₀ L h (cm :: dm :: sp :: (tu ++ [a, b, c, d, e, f, g]))) : News h₀ L h (cm :: dm :: sp :: a :: b :: c :: d :: e :: f :: g :: tu) := fun p hp => N p (by
  simp only [List.mem_cons, List.mem_append, List.not_mem_nil, or_false] at hp ⊢; rcases hp with h | h | h | h | h | h | h | h | h | h | h <;> simp [h])
theorem sub_rows {T I C D e1 e2 e3 e4 e5 e6 e7 e8 e9 e10 : Addr × Obj} {tu : List (Addr × Obj)} : ∀ p ∈ I :: C :: D :: e1 :: e2 :: e3 :: e4 :: e5 :: e6 :: e7 :: e8 :: e9 :: e10 :: T :: tu, p ∈ T :: I :: C :: D :: e1 :: e2 :: e3 :: e4 :: e5 :: e6 :: e7 :: e8 :: e9 :: e10 :: tu := fun p hp => by
  simp only [List.mem_cons] at hp ⊢; rcases hp with h | h | h | h | h | h | h | h | h | h | h | h | h | h | h <;> simp [h]
theorem off_rows {I C D T : Addr} {oT : Obj} {e1 e2 e3 e4 e5 e6 e7 e8 e9 e10 : Addr × Obj} {tu : List (Addr × Obj)} (a : @LT.lt Nat _ I T) (b : @LT.lt Nat _ C T) (c : @LT.lt Nat _ D T) (h : LCg.Off3 I C D (e1 :: e2 :: e3 :: e4 :: e5 :: e6 :: e7 :: e8 :: e9 :: e10 :: tu)) : LCg.Off3 I C D (e1 :: e2 :: e3 :: e4 :: e5 :: e6 :: e7 :: e8 :: e9 :: e10 :: (T, oT) :: tu) := by
  simp only [LCg.Off3] at h ⊢
  obtain ⟨h1, h2, h3, h4, h5, h6, h7, h8, h9, h10, h11⟩ := h
  exact ⟨h1, h2, h3, h4, h5, h6, h7, h8, h9, h10, ⟨Ne.symm (Nat.ne_of_lt a), Ne.symm (Nat.ne_of_lt b), Ne.symm (Nat.ne_of_lt c)⟩, h11⟩
def C16 (e1 e2 e3 e4 e5 e6 e7 e8 e9 e10 : Addr × Obj) (tups : List (Addr × Obj)) (cs : List Int) (n top : Int) (i : Nat) (ys : List Value) (nx : List (Addr × Obj)) : Prop :=
  ∃ ts, nx = e1 :: e2 :: e3 :: e4 :: e5 :: e6 :: e7 :: e8 :: e9 :: e10 :: ts ∧ (∀ p ∈ tups, p ∈ ts) ∧ DatAll ts ys ((cs.take i).map (rowD n top))
theorem in11 {x e1 e2 e3 e4 e5 e6 e7 e8 e9 e10 : Addr × Obj} {ts : List (Addr × Obj)} : ∀ p ∈ ts, p ∈ x :: e1 :: e2 :: e3 :: e4 :: e5 :: e6 :: e7 :: e8 :: e9 :: e10 :: ts := fun p hp => by
  simp only [List.mem_cons]; simp [hp]
theorem row_step {e1 e2 e3 e4 e5 e6 e7 e8 e9 e10 : Addr × Obj} {tups ts : List (Addr × Obj)} {cs : List Int} {n top k : Int} {i : Nat} {ys : List Value} {T : Addr} {t1 t2 t3 : Tok} (hs : ∀ p ∈ tups, p ∈ ts) (hd : DatAll ts ys ((cs.take i).map (rowD n top))) (hk : cs[i]? = some k) :
    C16 e1 e2 e3 e4 e5 e6 e7 e8 e9 e10 tups cs n top (i + 1) (ys ++ [Value.ref T]) (e1 :: e2 :: e3 :: e4 :: e5 :: e6 :: e7 :: e8 :: e9 :: e10 :: (T, rowObj n k top t1 t2 t3) :: ts) := by
  refine ⟨_, rfl, fun p hp => .tail _ (hs p hp), ?_⟩
  rw [List.take_add_one, hk, List.map_append]
  exact datAll_app (hd.mono fun p hp => .tail _ hp) (.tuple (.head _) (.cons (.int _ _) (.cons (.int _ _) (.cons (.int _ _) .nil))))
local macro_rules | `(tactic| walk_at "call ref") => `(tactic| k_dflt (k_extra "mycmap"))
local macro_rules | `(tactic| walk_at "eval ListComp") => `(tactic| k_extra "z70")
local macro_rules | `(tactic| walk_at "CompSrc") => `(tactic| k_dflt (k_extra "mysrc"))
local macro_rules | `(tactic| walk_at "CompEnd") => `(tactic| k_dflt (k_extra "myce"))
local macro_rules | `(tactic| walk_at "compareOp Eq ref ref") => `(tactic| k_dflt (k_extra "myeq"))
theorem seg16 (w : World) (mg mb : PySem.Str → Option Value) (mean : ExcName → Option Value) (h₀ : Heap) (L fa : Addr) (cdv : Value) (s : Shared) (Q : Flow → Shared → Prop) (E : Value → Shared → Prop) (m : PySem.Str → Option Value)
    (B : Below callerA h₀ [] h₀) (X : (h0.heap_1_39 w.params).In h₀) (T : Top h0.view_1_40 Ls mean mg mb h₀) (hE : PassesOwn (model Challenge.rw_og0188_01.row.prog w) (callerA.deeper (lawEnv L fa cdv)) (lawEnv L fa cdv) E)
    (pa ca : Addr) (o1 o2 o3 o4 : Obj) (v4 : Option Value) (vsC : List Value) (nC : Nat) (nsC : List Int) (pl fu : Int) (u v : Tok) (n tp : Int) (tn tt : Tok)
    (g1 : @LT.lt Nat _ (L + 1 + 1 + 1 + 1) pa) (g0 : @Ne Nat (L + 1 + 1 + 1 + 1) ca) (g2 : @LT.lt Nat _ ca pa) (d1 : o1.data = .cell (some (.ref pa))) (d2 : o2.data = .cell (some (.int n tn))) (d3 : o3.data = .cell (some (.int tp tt))) (d4 : o4.data = .cell v4)
    (hIC : IntsAre vsC nsC) (hlC : nsC.length ≤ 40) (hpl : 0 ≤ pl) (hfu : 0 ≤ fu) (hn1 : 1 ≤ n) (hn4 : n ≤ 4) (ht1 : 256 ≤ tp) (ht2 : tp ≤ 4294967296) (htp : tp = 256 ^ n.toNat) (co : Addr) (cs : List Int) (vs : List Value) (c : Nat) (hcs : IntsAre vs cs) (hc8 : cs.length ≤ 8) (hcin : ∀ x ∈ cs, 0 ≤ x ∧ x < tp) (tD : Tok)
    (F : Fr h₀ L s.heap (fun y => if y = Str.ofString "data" then some (.bytes (byteArr (strI (lawText n (tp - 1) cs))) tD) else if y = Str.ofString "codes" then some (.ref co) else m y)) (N : News h₀ L s.heap [(co, W.listOf vs.toArray c), (pa, penObj ca pl u fu v 0), (ca, W.listOf vsC.toArray nC), (L + 1 + 1 + 1 + 1, o4), (L + 1 + 1 + 1, o3), (L + 1 + 1, o2), (L + 1, o1)])
    (next : ∀ (m' : PySem.Str → Option Value) (h' : Heap) (tk' : Nat), Fr h₀ L h' m' → Q (.ret (.bool true)) { s with heap := h', toks := tk' }) :
    wpAny (model Challenge.rw_og0188_01.row.prog w) (callerA.deeper (lawEnv L fa cdv)) (execs (lawBody.drop 16) (lawEnv L fa cdv)) Q E s := by
  have hMk := kstMark
  show wpAny _ _ (execs (_ :: _) _) _ _ _
  have htop0 : 0 ≤ tp - 1 := by omega
  have htop1 : tp - 1 < 256 ^ n.toNat := by omega
  have htop2 : tp - 1 = 256 ^ n.toNat - 1 := by omega
  have hcin' : ∀ x ∈ cs, 0 ≤ x ∧ x < 256 ^ n.toNat := fun x hx => htp ▸ hcin x hx
  have hn0 : 0 ≤ n := by omega
  clear htp hcin
  k_with "mycmap" => (
    (with_reducible show wpAny _ _ (call (Value.ref 503) _) _ _ _);
    refine' TellsN.use (law_cmap _ _ hc8 hn1 hn4 htop2 htop0) ?B9 ?F9 ?X9 ?N9 ?T9 ?K9 ?d9 ?u9 ?_; (case B9 => k_asm); (case F9 => k_asm); (case X9 => k_asm); (case N9 => k_asm); (case T9 => k_asm); (case K9 => first | exact rfl | assumption); (case d9 => ktr_room); (case u9 => ktr_units);
    (dsimp only [BackM]); intro cm dcm sp dch vs9 c9 tups t8 t9 h9 tk9 hR F9 N9; (have N9 := reoM N9); (have hDa := sp_dat hR hn0 htop0 htop1 hcin'); clear hR; (try dsimp only); (try k_fold))
  k_with "mysrc" => (
    refine LCg.CompSrc.ledger (by rfl) (by k_asm) (by k_asm) (by k_mem) (by (rw [sizeLine_eq, List.size_toArray, hcs.length]; omega)) ?_;
    intro g;
    refine rest_inv (C16 _ _ _ _ _ _ _ _ _ _ tups cs n (tp - 1)) ⟨tups, rfl, fun _ h => h, .nil⟩ ?_ ?_;
    (rintro i ys nx v9 I oI C oC D m₂ h tk E' hi hv ⟨ts, rfl, hts, hdt⟩ hC hx F₁ N₁ off ne;
     (have hv2 : vs[i]? = some v9 := (by simpa using hv)); obtain ⟨k9, t9, rfl, hk9⟩ := IntsAre.at hcs i v9 hv2;
     have off0 := off; simp only [LCg.Off3, and_true] at off); rotate_left;
    (rintro ys nx ⟨ts, rfl, hts, hdt⟩ D9 h9 tk9 F9 N9 off9; (rw [List.size_toArray, hcs.length, List.take_length] at hdt));
    all_goals (try k_fold))
  k_with "myeq" => (
    (rename Fr _ _ _ _ => F9); (rename News _ _ _ _ => N9);
    exact eq_rowsN N9 (by k_mem) (by k_mem) hDa (fun p hp => in11 p (hts p hp)) hdt in11 (by first | units_room | ktr_units) (next _ _ _ F9))
  k_with "myce" => (
    (rename Fr _ _ _ _ => F₃); (rename News _ _ _ _ => N₃); (rename (_ < _ ∧ _ < _ ∧ _ < _ ∧ _ < _ ∧ _) => l₃);
    exact LCg.CompEnd.intro F₃ N₃ _ sub_rows (off_rows l₃.1 l₃.2.1 l₃.2.2.1 off0) (.inr ⟨_, .tail _ (.tail _ (.tail _ (.head _))), rfl, _, rfl⟩) (row_step hts hdt hk9))
  k_steps
end
end Mine
end
section
open PySem PySem.W PyProof.Rows
set_option Elab.async false
set_option maxRecDepth 100000
set_option maxHeartbeats 400000
namespace Mine
open PySem.Calls PySem.Spec
theorem law_tail (w : World) (mg mb : PySem.Str → Option Value) (mean : ExcName → Option Value) (h₀ : Heap) (L fa : Addr) (cdv : Value) (s : Shared) (Q : Flow → Shared → Prop) (E : Value → Shared → Prop) (m : PySem.Str → Option Value)
    (B : Below callerA h₀ [] h₀) (X : (h0.heap_1_39 w.params).In h₀) (T : Top h0.view_1_40 Ls mean mg mb h₀) (hE : PassesOwn (model Challenge.rw_og0188_01.row.prog w) (callerA.deeper (lawEnv L fa cdv)) (lawEnv L fa cdv) E)
    (pa ca : Addr) (o1 o2 o3 o4 : Obj) (v4 : Option Value) (vsC : List Value) (nC : Nat) (nsC : List Int) (pl fu : Int) (u v : Tok) (n tp : Int) (tn tt : Tok)
    (g1 : @LT.lt Nat _ (L + 1 + 1 + 1 + 1) pa) (g0 : @Ne Nat (L + 1 + 1 + 1 + 1) ca) (g2 : @LT.lt Nat _ ca pa) (d1 : o1.data = .cell (some (.ref pa))) (d2 : o2.data = .cell (some (.int n tn))) (d3 : o3.data = .cell (some (.int tp tt))) (d4 : o4.data = .cell v4)
    (hIC : IntsAre vsC nsC) (hlC : nsC.length ≤ 40) (hpl : 0 ≤ pl) (hfu : 0 ≤ fu) (hn1 : 1 ≤ n) (hn4 : n ≤ 4) (ht1 : 256 ≤ tp) (ht2 : tp ≤ 4294967296) (hpl2 : pl ≤ 2) (htp : tp = 256 ^ n.toNat) (co : Addr) (g3 : @LT.lt Nat _ pa co)
    (F : Fr h₀ L s.heap (fun y => if y = Str.ofString "codes" then some (.ref co) else m y)) (N : News h₀ L s.heap [(co, W.listOf #[] 0), (pa, penObj ca pl u fu v 0), (ca, W.listOf vsC.toArray nC), (L + 1 + 1 + 1 + 1, o4), (L + 1 + 1 + 1, o3), (L + 1 + 1, o2), (L + 1, o1)])
    (next : ∀ (m' : PySem.Str → Option Value) (h' : Heap) (tk' : Nat), Fr h₀ L h' m' → Q (.ret (.bool true)) { s with heap := h', toks := tk' }) : wpAny (model Challenge.rw_og0188_01.row.prog w) (callerA.deeper (lawEnv L fa cdv)) (execs (lawBody.drop 4) (lawEnv L fa cdv)) Q E s := by
  refine seg5 w mg mb mean h₀ L fa cdv s Q E m B X T hE pa ca o1 o2 o3 o4 v4 vsC nC nsC pl fu u v n tp tn tt g1 g0 g2 d1 d2 d3 d4 hIC hlC hpl hfu hn1 hn4 ht1 ht2 hpl2 co g3 F N ?_
  intro cs vs c pl5 fu5 u5 v5 m5 h5 k5 hcs hc8 hcin hpl5 hpl5' hfu5 F5 N5
  refine seg6 w mg mb mean h₀ L fa cdv { s with heap := h5, toks := k5 } Q E m5 B X T hE pa ca o1 o2 o3 o4 v4 vsC nC nsC pl5 fu5 u5 v5 n tp tn tt g1 g0 g2 d1 d2 d3 d4 hIC hlC hpl5 hfu5 hn1 hn4 ht1 ht2 co g3 cs vs c hcs hc8 hcin F5 N5 ?_
  intro oc ws c2 h6 k6 hws g4 g5 F6 N6
  refine seg7 w mg mb mean h₀ L fa cdv { s with heap := h6, toks := k6 } Q E m5 B X T hE pa ca o1 o2 o3 o4 v4 vsC nC nsC pl5 fu5 u5 v5 n tp tn tt g1 g0 g2 d1 d2 d3 d4 hIC hlC hpl5 hfu5 hn1 hn4 ht1 ht2 htp co oc g3 g4 g5 cs vs ws c c2 hcs hws hc8 hcin F6 N6 ?_
  intro m7 h7 k7 o47 v47 d47 F7 N7
  refine seg8 w mg mb mean h₀ L fa cdv { s with heap := h7, toks := k7 } Q E m7 B X T hE pa ca o1 o2 o3 o47 v47 vsC nC nsC pl5 fu5 u5 v5 n tp tn tt g1 g0 g2 d1 d2 d3 d47 hIC hlC hpl5 hfu5 hn1 hn4 ht1 ht2 htp co oc g3 g4 g5 cs vs ws c c2 hcs hws hc8 hcin F7 N7 ?_
  intro h8 k8 F8 N8
  refine seg9 w mg mb mean h₀ L fa cdv { s with heap := h8, toks := k8 } Q E m7 B X T hE pa ca o1 o2 o3 o47 v47 vsC nC nsC pl5 fu5 u5 v5 n tp tn tt g1 g0 g2 d1 d2 d3 d47 hIC hlC hpl5 hfu5 hn1 hn4 ht1 ht2 hpl5' co oc g3 g4 g5 vs ws c c2 F8 N8 ?_
  intro ro rvs rns c3 pl9 fu9 u9 v9 h9 k9 hri hr6 hrin hpl9 hpl9' hfu9 g6 g7 F9 N9
  refine seg10 w mg mb mean h₀ L fa cdv { s with heap := h9, toks := k9 } Q E m7 B X T hE pa ca o1 o2 o3 o47 v47 vsC nC nsC pl9 fu9 u9 v9 n tp tn tt g1 g0 g2 d1 d2 d3 d47 hIC hlC hpl9 hfu9 hn1 hn4 ht1 ht2 (Int.le_trans hpl9' (by decide)) htp co oc ro g3 g4 g5 g6 g7 cs rns vs ws rvs c c2 c3 hcs hws hc8 hcin hri hr6 hrin F9 N9 ?_
  intro cut tc tw pl0 fu0 u0 v0 h10 k10 hc0 hc1 hpl0 hfu0 F10 N10
  refine seg11 w mg mb mean h₀ L fa cdv { s with heap := h10, toks := k10 } Q E m7 B X T hE pa ca o1 o2 o3 o47 v47 vsC nC nsC pl0 fu0 u0 v0 n tp tn tt g1 g0 g2 d1 d2 d3 d47 hIC hlC hpl0 hfu0 hn1 hn4 ht1 ht2 htp co oc ro g3 g4 g5 g6 g7 cs rns vs ws rvs c c2 c3 hcs hws hc8 hcin hri hr6 hrin cut tc tw hc0 hc1 F10 N10 ?_
  intro m11 h11 k11 F11 N11
  refine seg12 w mg mb mean h₀ L fa cdv { s with heap := h11, toks := k11 } Q E m11 B X T hE pa ca o1 o2 o3 o47 v47 vsC nC nsC pl0 fu0 u0 v0 n tp tn tt g1 g0 g2 d1 d2 d3 d47 hIC hlC hpl0 hfu0 hn1 hn4 ht1 ht2 htp co oc ro g3 g4 g5 g6 g7 cs rns vs ws rvs c c2 c3 hcs hws hc8 hcin hri hr6 hrin F11 N11 ?_
  intro tw2 h12 k12 F12 N12
  refine seg13 w mg mb mean h₀ L fa cdv { s with heap := h12, toks := k12 } Q E m11 B X T hE pa ca o1 o2 o3 o47 v47 vsC nC nsC pl0 fu0 u0 v0 n tp tn tt g1 g0 g2 d1 d2 d3 d47 hIC hlC hpl0 hfu0 hn1 hn4 ht1 ht2 htp co oc ro g3 g4 g5 g6 g7 cs rns vs ws rvs c c2 c3 hcs hws hc8 hcin hri hr6 hrin tw2 F12 N12 ?_
  intro m13 h13 k13 F13 N13
  refine seg14 w mg mb mean h₀ L fa cdv { s with heap := h13, toks := k13 } Q E m13 B X T hE pa ca o1 o2 o3 o47 v47 vsC nC nsC pl0 fu0 u0 v0 n tp tn tt g1 g0 g2 d1 d2 d3 d47 hIC hlC hpl0 hfu0 hn1 hn4 ht1 ht2 htp co oc ro g3 g4 g5 g6 g7 cs rns vs ws rvs c c2 c3 hcs hws hc8 hcin hri hr6 hrin F13 N13 ?_
  intro ln lvs h14 k14 hlv F14 N14
  refine seg15 w mg mb mean h₀ L fa cdv { s with heap := h14, toks := k14 } Q E m13 B X T hE pa ca o1 o2 o3 o47 v47 vsC nC nsC pl0 fu0 u0 v0 n tp tn tt g1 g0 g2 d1 d2 d3 d47 hIC hlC hpl0 hfu0 hn1 hn4 ht1 ht2 htp co oc ro g3 g4 g5 g6 g7 cs rns vs ws rvs c c2 c3 hcs hws hc8 hcin hri hr6 hrin ln lvs hlv F14 N14 ?_
  intro tD m15 h15 k15 F15 N15
  refine seg16 w mg mb mean h₀ L fa cdv { s with heap := h15, toks := k15 } Q E m15 B X T hE pa ca o1 o2 o3 o47 v47 vsC nC nsC pl0 fu0 u0 v0 n tp tn tt g1 g0 g2 d1 d2 d3 d47 hIC hlC hpl0 hfu0 hn1 hn4 ht1 ht2 htp co cs vs c hcs hc8 hcin tD F15 N15 ?_
  intro m16 h16 k16 F16
  exact next m16 h16 k16 F16
end Mine
end
section
open PySem PySem.W PyProof.Rows
set_option Elab.async false
set_option maxRecDepth 100000
set_option maxHeartbeats 1000000
namespace Mine
open PySem.Calls PySem.Spec
theorem reset_M {prog : Program} {w : World} {A : Around} {env : Env} {Q : Flow → Shared → Prop} {E : Value → Shared → Prop} {s : Shared} (h : Q .next s) : wpAny (model prog w) A (execs [] env) Q E s := by
  w_top off
  k_with_none
  k_with "z30" => ((rename AllLt _ _ => h1; first | exact allNe_of h1 (by omega) | (clear h1; rename AllLt _ _ => h2; first | exact allNe_of h2 (by omega) | (clear h2; rename AllLt _ _ => h3; exact allNe_of h3 (by omega)))))
  k_with "z59" => (((with_reducible show wpAny _ _ (call (Value.ref 517) _) _ _ _); k_dflt (refine' Tells.use (draw_tells _ _ _ _ _ _ _ _ _ _ _ _ _ ?c1 ?c2 ?c3 ?c4 ?c5 ?c6 ?c7 ?c8 ?c9) ?B9 ?F9 ?X9 ?N9 ?T9 ?K9 ?d9 ?u9 ?_; (case B9 => k_asm); (case F9 => k_asm); (case X9 => k_asm); (case N9 => first | k_asm | exact rot1 (by k_asm) | exact rot2 (by k_asm) | exact rot3 (by k_asm) | exact rot4 (by k_asm)); (case T9 => k_asm); (case K9 => first | exact rfl | assumption); (case d9 => ktr_room); (case u9 => ktr_units); (case c3 => first | assumption | fail "side c3"); (case c1 => first | assumption | (refine PySem.W.neN ?_; omega) | fail "side c1"); (case c2 => k_all); (case c4 => first | assumption | omega | (simp only [List.length_map, List.length_take]; omega) | (trace_state; fail "side c4")); (case c5 => first | omega | fail "side c5"); (case c6 => first | omega | fail "side c6"); (case c7 => first | omega | fail "side c7"); (case c8 => first | omega | fail "side c8"); (case c9 => first | omega | fail "side c9")); (dsimp only [BackDraw, penObj]); intro d9 pl9 fu9 t9 u9 v9 h9 tk9 d0 d1 q0 q1 f0 F9 N9; (try dsimp only); (try k_fold)))
  walk1
  exact h
theorem pow_bounds {d : Int} (h1 : d < 4) (h0 : 0 ≤ d) : (256 : Int) ≤ 256 ^ (1 + d).toNat ∧ (256 : Int) ^ (1 + d).toNat ≤ 4294967296 := by
  have : d = 0 ∨ d = 1 ∨ d = 2 ∨ d = 3 := by omega
  rcases this with e | e | e | e <;> subst e <;> decide
theorem drop3 {h₀ : Heap} {L : Addr} {h : Heap} {a b c d : Addr × Obj} {r : List (Addr × Obj)} (N : News h₀ L h (a :: b :: c :: d :: r)) : News h₀ L h (a :: b :: c :: r) := fun p hp => N p (by
  simp only [List.mem_cons] at hp ⊢; rcases hp with h | h | h | h <;> simp [h])
theorem ids_are {ys : List Value} {ns : List Int} (h : IntsAre ys (List.map (fun k' => k') (List.take 40 ns))) : IntsAre ys (ns.take 40) := by simpa using h
theorem ids_len (ns : List Int) : (ns.take 40).length ≤ 40 := by rw [List.length_take]; omega
local macro_rules | `(tactic| k_all) => `(tactic| k_extra "z30")
local macro_rules | `(tactic| walk_at "call ref") => `(tactic| k_extra "z59")
local macro_rules | `(tactic| walk_at "execs cons For cons") => `(tactic| k_dflt (k_extra "myfor"))
theorem walk_conv {V V' : Program} {K K' : Params → Frag} {ls : List PySem.Str} {as : List Addr} {e' : ∀ P, as = (K' P).map (·.1)} {r : RowW} {n : PySem.Str} {d : DefRec} {kwd : List (PySem.Str × PySem.Expr)} {run : Value → List Value → Sem Value}
    (hV : V' = V) (hK : K' = K) (hd : defOf V n = some (d, kwd)) (walk : ∀ e : ∀ P, as = (K P).map (·.1), ∃ (d : DefRec) (kwd : List (PySem.Str × PySem.Expr)), defOf V n = some (d, kwd) ∧ WalkO V ls (XL V []) (kHook K as e).says r d kwd run) :
    WalkO V' ls (XL V' []) (kHook K' as e').says r d kwd run := by
  subst hV hK
  obtain ⟨d', kwd', h, wk⟩ := walk e'
  have := Option.some.inj (h.symm.trans hd)
  obtain ⟨rfl, rfl⟩ := Prod.mk.inj this
  exact wk
theorem walk_main (as : List Addr) (e : ∀ P, as = (h0.heap_1_39 P).map (·.1)) : ∃ (d : DefRec) (kwd : List (PySem.Str × PySem.Expr)), defOf h0.view_1_40 (Str.ofString "law") = some (d, kwd) ∧
    WalkO h0.view_1_40 [Str.ofString "PaperError", Str.ofString "name_text"] (XL h0.view_1_40 []) (kHook h0.heap_1_39 as e).says Challenge.rw_og0188_01.row.toRowW d kwd (fun f vs => call f vs) := by
  refine ⟨_, _, by rfl, ?_⟩
  k_go0
  (all_goals try k_fold)
  k_with "myfor" => (
    (rename Fr _ _ _ _ => F9); (rename News _ _ _ _ => N9); (rename Below _ _ _ _ => B9); (rename (_ ≠ _ ∧ _ ≠ _ ∧ _ ≠ _ ∧ _ ≠ _ ∧ _ ≠ _) => o9); (rename IntsAre _ (List.map _ _) => i9);
    (rename (_ < (4 : Int)) => l4); (have pb := pow_bounds l4 (by assumption));
    (refine' law_tail _ _ _ _ _ _ _ _ _ _ _ _ B9 ?X9 ?T9 ?hE _ _ _ _ _ _ _ _ _ (List.take 40 _) _ _ _ _ _ _ _ _ ?g1 ?g0 ?g2 ?d1 ?d2 ?d3 ?d4 (ids_are i9) (ids_len _) ?hpl ?hfu ?hn1 ?hn4 pb.1 pb.2 ?hpl2 rfl _ ?g3 F9 (drop3 N9) ?next);
    (case d1 => assumption); (case d2 => assumption); (case d3 => assumption); (case d4 => assumption); (case X9 => assumption); (case T9 => assumption); (case g1 => omega); (case g0 => exact o9.2.1); (case g2 => omega); (case g3 => omega); (case hpl => assumption); (case hfu => assumption); (case hn1 => omega); (case hn4 => omega); (case hpl2 => omega); (case hE => passes_own);
    intro _ _ _ _)
  k_steps
  all_goals w_report
namespace h1
theorem tw5821954816744615828 : True := trivial
theorem tw10157121951308274025 : True := trivial
theorem tw8226844237321469462 : True := trivial
theorem tw6156390517571047415 : True := trivial
theorem tw9895845112015244180 : True := trivial
theorem tw18116397002220697671 : True := trivial
theorem tw15758786129783934017 : True := trivial
theorem tw8565443970378171926 : True := trivial
theorem tw4089465429131706692 : True := trivial
theorem tw17635220608536233649 : True := trivial
theorem tw2845821529887734385 : True := trivial
theorem tw941707540831550907 : True := trivial
theorem tw12904087277014624577 : True := trivial
theorem tw4027460906051516881 : True := trivial
theorem tw10173506418949646322 : True := trivial
theorem tw10209570098851433086 : True := trivial
theorem tw12733833681477018827 : True := trivial
theorem tw521622610139499877 : True := trivial
theorem tw10940810851355791641 : True := trivial
theorem tw7518083111333384561 : True := trivial
theorem tw11438870730426584068 : True := trivial
theorem tw2821089872247657838 : True := trivial
theorem tw17711558423961650377 : True := trivial
theorem tw6296218188129365956 : True := trivial
theorem tw896089286790068451 : True := trivial
theorem tw11041421233062621979 : True := trivial
theorem tw5096208016557396518 : True := trivial
theorem tw12634814850033938474 : True := trivial
theorem tw10971387135605280073 : True := trivial
theorem tw2333449808694146061 : True := trivial
theorem tw2149956249022732414 : True := trivial
theorem tw335067453051985228 : True := trivial
theorem tw16642412401104560175 : True := trivial
theorem tw15107941723248057376 : True := trivial
theorem tw9748002723027699388 : True := trivial
theorem tw14755681939231005210 : True := trivial
theorem tw1515949441002187105 : True := trivial
theorem tw8728335428472220792 : True := trivial
theorem tw5466716589429296507 : True := trivial
theorem tw12460931623702161455 : True := trivial
theorem tw12123487161811719019 : True := trivial
theorem tw6759609374657236148 : True := trivial
theorem tw13390159921759805897 : True := trivial
theorem tw13781809517477984830 : True := trivial
theorem tw16094141586829035082 : True := trivial
theorem tw8294122797024178246 : True := trivial
theorem tw5825223849990222336 : True := trivial
theorem tw14021965277387085455 : True := trivial
theorem tw15401515614682864128 : True := trivial
theorem tw708055823417650309 : True := trivial
theorem tw1191317951910159264 : True := trivial
theorem tw15198946671251996601 : True := trivial
theorem tw13079295805804086590 : True := trivial
theorem tw4788315505175041551 : True := trivial
theorem tw12959917515993390219 : True := trivial
theorem tw2272349093721453462 : True := trivial
theorem tw17019875516885570200 : True := trivial
theorem tw2922393454931352444 : True := trivial
theorem tw11729457960468861755 : True := trivial
theorem tw18178253345949056384 : True := trivial
theorem tw16667067944660108811 : True := trivial
theorem tw4562332034837113757 : True := trivial
theorem tw12228789330972066205 : True := trivial
theorem tw11015018836385529418 : True := trivial
theorem tw6002028326415494241 : True := trivial
theorem tw5414708446533062276 : True := trivial
theorem tw5959728853267302536 : True := trivial
theorem tw7191463227571848956 : True := trivial
theorem tw5209387509540424890 : True := trivial
theorem tw3165339824244042609 : True := trivial
theorem tw11008931581480032140 : True := trivial
theorem tw14973386902287842769 : True := trivial
theorem tw9527504001892962185 : True := trivial
theorem tw3231229158332468450 : True := trivial
theorem tw10979744440864534489 : True := trivial
theorem tw7632110887451012816 : True := trivial
theorem tw8927673501123259519 : True := trivial
theorem tw4483242879788702017 : True := trivial
theorem tw10438190472159533833 : True := trivial
theorem tw17896782965890082633 : True := trivial
theorem tw7555319351763246055 : True := trivial
theorem tw17351787854629278721 : True := trivial
theorem tw15278478031327135177 : True := trivial
theorem tw8316220351768408874 : True := trivial
theorem tw6744579695031682455 : True := trivial
theorem tw3545376180199472044 : True := trivial
theorem tw15894448448871748963 : True := trivial
theorem tw8201501673460471737 : True := trivial
theorem tw1673656010167363317 : True := trivial
theorem tw10596989842885875695 : True := trivial
theorem tw9058771528702536272 : True := trivial
theorem tw10039205632851137221 : True := trivial
theorem tw4355187959220778216 : True := trivial
theorem tw1406278280882785698 : True := trivial
theorem tw7335741839716866599 : True := trivial
theorem tw8383694512183113080 : True := trivial
theorem tw7395773727982502634 : True := trivial
theorem tw9202912631404672483 : True := trivial
theorem tw12872923750869712284 : True := trivial
theorem tw5080561648254797531 : True := trivial
theorem tw588059791164429338 : True := trivial
theorem tw4470544663942396424 : True := trivial
theorem tw2935097162476565881 : True := trivial
theorem tw7857531284082891537 : True := trivial
theorem tw16955250019054071868 : True := trivial
theorem tw2826483465471430676 : True := trivial
theorem tw6461328843033143332 : True := trivial
theorem tw12931897976767318789 : True := trivial
theorem tw11389323553346352486 : True := trivial
theorem tw15440014265374957905 : True := trivial
theorem tw5447671592141902763 : True := trivial
theorem tw13330413269094570460 : True := trivial
theorem tw15657118580245363233 : True := trivial
theorem tw9433473222776516981 : True := trivial
theorem tw10964754861951027179 : True := trivial
theorem tw7896241584937243439 : True := trivial
theorem tw17723825726214652808 : True := trivial
theorem tw754291017480198867 : True := trivial
theorem tw4962565750644297282 : True := trivial
theorem tw8042724066538604188 : True := trivial
theorem tw7187421688788064297 : True := trivial
theorem tw4630339739457236827 : True := trivial
theorem tw3374438214796217464 : True := trivial
theorem tw14249204534760360509 : True := trivial
theorem tw218578100403256628 : True := trivial
theorem tw12491979075315560749 : True := trivial
theorem tw17701330765957185838 : True := trivial
theorem tw13287053453779916805 : True := trivial
theorem tw17992660494650138678 : True := trivial
theorem tw14063345849603729810 : True := trivial
theorem tw17629513360369990622 : True := trivial
theorem tw9636195077336173556 : True := trivial
theorem tw18291621844585424894 : True := trivial
theorem tw5010014990691451428 : True := trivial
theorem tw2874970752796295213 : True := trivial
theorem tw22707809210916396 : True := trivial
theorem tw291744093119130830 : True := trivial
theorem tw6127981552169141982 : True := trivial
theorem tw6318689170399706064 : True := trivial
theorem tw6951843277520022257 : True := trivial
theorem tw6195487221472732826 : True := trivial
theorem tw9569179643640510171 : True := trivial
theorem tw13300921768196501284 : True := trivial
theorem tw10404331817238178982 : True := trivial
theorem tw8232295561203698289 : True := trivial
theorem tw11621396624181970496 : True := trivial
theorem tw17143188731220035820 : True := trivial
theorem tw4465099221839333508 : True := trivial
theorem tw11056044019066926198 : True := trivial
theorem tw10277744811895023667 : True := trivial
theorem tw14977750622929394010 : True := trivial
theorem tw15905822717747467559 : True := trivial
theorem tw3567942352084636899 : True := trivial
theorem tw15285218815503695742 : True := trivial
theorem tw5856518424681396561 : True := trivial
theorem tw14918697108421069413 : True := trivial
theorem tw902471707835712484 : True := trivial
theorem tw17349554007231831021 : True := trivial
theorem tw15275333201592484666 : True := trivial
theorem tw8714313113886975422 : True := trivial
theorem tw14226657964886694043 : True := trivial
theorem tw9162289890454250346 : True := trivial
theorem tw7291105085863252465 : True := trivial
theorem tw6579235734636876287 : True := trivial
theorem tw15691207145185738993 : True := trivial
theorem tw9531239909846260877 : True := trivial
theorem tw1480825200640268419 : True := trivial
theorem tw14280169339999548104 : True := trivial
theorem tw15990351423362933504 : True := trivial
theorem tw6100503956108286406 : True := trivial
theorem tw18216543408590632935 : True := trivial
theorem tw1069120794989646264 : True := trivial
theorem tw1125892529775369429 : True := trivial
theorem tw12796935132050898452 : True := trivial
theorem tw1768888998194903397 : True := trivial
theorem tw1981238562584912586 : True := trivial
theorem tw2207759814639555908 : True := trivial
theorem tw10873571313840343797 : True := trivial
theorem tw1276964425164631282 : True := trivial
theorem tw3072672307068700542 : True := trivial
theorem tw9393795983109009125 : True := trivial
theorem tw9092661974556265954 : True := trivial
theorem tw5158273639016356119 : True := trivial
theorem tw12730375358631967386 : True := trivial
theorem tw6849693742634006453 : True := trivial
theorem tw2604319549651861827 : True := trivial
theorem tw2767610427944040453 : True := trivial
theorem tw2555825100025721649 : True := trivial
theorem tw14838741317733716994 : True := trivial
theorem tw16660434592153973099 : True := trivial
theorem tw1160263186288178592 : True := trivial
theorem tw13676652048284672788 : True := trivial
theorem tw5473209281461453387 : True := trivial
theorem tw12756429459112328363 : True := trivial
theorem tw18001022502979316364 : True := trivial
theorem tw1443773980941062559 : True := trivial
theorem tw10832642796611004257 : True := trivial
theorem tw7075011559094084241 : True := trivial
theorem tw1072426932631423523 : True := trivial
theorem tw12821600948319539661 : True := trivial
theorem tw1031389673076002932 : True := trivial
theorem tw16948391534991493402 : True := trivial
theorem tw8632273216831484213 : True := trivial
theorem tw5068198026304013656 : True := trivial
theorem tw9511712454139544639 : True := trivial
theorem tw11857491392379750936 : True := trivial
theorem tw6493743478466661088 : True := trivial
theorem tw16931495224880116672 : True := trivial
theorem tw12889055906348523034 : True := trivial
theorem tw17647407648550205789 : True := trivial
theorem tw9823285167475226760 : True := trivial
theorem tw2797675028067450588 : True := trivial
theorem tw9372142510918697677 : True := trivial
theorem tw507157451324320935 : True := trivial
theorem tw11169335959182040302 : True := trivial
theorem tw17939550892951096231 : True := trivial
theorem tw5095505656936588032 : True := trivial
theorem tw4058139925683703175 : True := trivial
theorem tw11555771555949219868 : True := trivial
theorem tw458766213113614961 : True := trivial
theorem tw12811695969281167049 : True := trivial
theorem tw17100144471936186039 : True := trivial
theorem tw12481033633266947953 : True := trivial
theorem tw11530446292341344976 : True := trivial
theorem tw12547786113331406000 : True := trivial
theorem tw3784616683635083164 : True := trivial
theorem tw12063957858722925415 : True := trivial
theorem tw12659373012771087126 : True := trivial
theorem tw12714724672765791829 : True := trivial
theorem tw5608241696791217445 : True := trivial
theorem tw1226600092447500459 : True := trivial
theorem tw2291813296226261451 : True := trivial
theorem tw11539187833189807814 : True := trivial
theorem tw5504219241094464668 : True := trivial
theorem tw1982792991882886335 : True := trivial
theorem tw13247648756298403947 : True := trivial
theorem tw2581974671125557368 : True := trivial
theorem tw13195022667850348723 : True := trivial
theorem tw10634609988643523343 : True := trivial
theorem tw13615506147323229302 : True := trivial
theorem tw7676427183130417923 : True := trivial
theorem tw14734007103951012703 : True := trivial
theorem tw6452322500000043895 : True := trivial
theorem tw4659585416634671226 : True := trivial
theorem tw2389955899001949381 : True := trivial
theorem tw8405018449635744617 : True := trivial
theorem tw1470622026867953718 : True := trivial
theorem tw9993264650586472719 : True := trivial
theorem tw5958859337805091380 : True := trivial
theorem tw8232745943064356690 : True := trivial
theorem tw18006357392591173225 : True := trivial
theorem tw9376219820034979551 : True := trivial
theorem tw2564160154926219069 : True := trivial
theorem tw17759697280823566113 : True := trivial
theorem tw13295026042039841722 : True := trivial
theorem tw767249239722494580 : True := trivial
theorem tw16930878315238438464 : True := trivial
theorem tw7146988436615176990 : True := trivial
theorem tw17386361696547652396 : True := trivial
theorem tw6780168444666547626 : True := trivial
theorem tw14631139966958360025 : True := trivial
theorem tw15074905939209161485 : True := trivial
theorem tw13421902385640125551 : True := trivial
theorem tw16010449848846676792 : True := trivial
theorem tw414822829080305507 : True := trivial
theorem tw7052007487474912406 : True := trivial
theorem tw4225306539993121211 : True := trivial
theorem tw3523713740281936165 : True := trivial
theorem tw8972902160630478622 : True := trivial
theorem tw6411609917221004042 : True := trivial
theorem tw17709140397334843083 : True := trivial
theorem tw12887445115583384972 : True := trivial
theorem tw13881704745500399800 : True := trivial
theorem tw3438695262950325135 : True := trivial
theorem tw7190885109018112819 : True := trivial
theorem tw5268538559609902798 : True := trivial
theorem tw8248099819345937184 : True := trivial
theorem tw10855712631850473028 : True := trivial
theorem tw2430422209707395920 : True := trivial
theorem tw8625333412650722582 : True := trivial
theorem tw16565926124737744528 : True := trivial
theorem tw10125926145929522719 : True := trivial
theorem tw16481277001028162566 : True := trivial
theorem tw2660033242018094706 : True := trivial
theorem tw5515440488572018623 : True := trivial
theorem tw17244938376986509363 : True := trivial
theorem tw9913796407027078784 : True := trivial
theorem tw8913675431602649778 : True := trivial
theorem tw2458160585682512658 : True := trivial
theorem tw2358117956300672577 : True := trivial
theorem tw4777256743315829444 : True := trivial
theorem tw5071944972334532499 : True := trivial
theorem tw5104758447784915371 : True := trivial
theorem tw11184527363213789419 : True := trivial
theorem tw3195358909597924057 : True := trivial
theorem tw7502378428638986930 : True := trivial
theorem tw56010138149645911 : True := trivial
theorem tw3878366379450314138 : True := trivial
theorem tw181043138369940375 : True := trivial
theorem tw1891173723566942827 : True := trivial
theorem tw8142612199275752354 : True := trivial
theorem tw1058489477550629959 : True := trivial
theorem tw2146828779391204738 : True := trivial
theorem tw6500998069557204966 : True := trivial
theorem tw2505001561704957577 : True := trivial
theorem tw7255496423030851825 : True := trivial
theorem tw8073037271392376926 : True := trivial
theorem tw3349426102555153210 : True := trivial
theorem tw14025108334995941380 : True := trivial
theorem tw799128778294976918 : True := trivial
theorem tw10176747058508515371 : True := trivial
theorem tw7596548795610553037 : True := trivial
theorem tw11810193786534651170 : True := trivial
theorem tw3488390324776435029 : True := trivial
theorem tw2630249220070229084 : True := trivial
theorem tw15609212101057250593 : True := trivial
theorem tw15307869764297228823 : True := trivial
theorem tw15709418929304390560 : True := trivial
theorem tw4332272655273431625 : True := trivial
theorem tw5991701145139239209 : True := trivial
theorem tw6692644289155221502 : True := trivial
theorem tw11555176732589636534 : True := trivial
theorem tw9851618981785210164 : True := trivial
theorem tw2962493319175999157 : True := trivial
theorem tw588637512481456339 : True := trivial
theorem tw17399053481540908717 : True := trivial
theorem tw12664304854947112201 : True := trivial
theorem tw6858488229353528586 : True := trivial
theorem tw2570331100020972341 : True := trivial
theorem tw4311774948997397830 : True := trivial
theorem tw6196686719705238412 : True := trivial
theorem tw13983833870931069860 : True := trivial
theorem tw8689315911988817268 : True := trivial
theorem tw14195817837766989070 : True := trivial
theorem tw4093056416254832674 : True := trivial
theorem tw11505194004302592368 : True := trivial
theorem tw8790283386349428664 : True := trivial
theorem tw17585973733435857043 : True := trivial
theorem tw11972281318962064062 : True := trivial
theorem tw42027448733759977 : True := trivial
theorem tw15040484462481316482 : True := trivial
theorem tw18305783234397498340 : True := trivial
theorem tw192673401906862371 : True := trivial
theorem tw6992716309820289008 : True := trivial
theorem tw15079707905500146836 : True := trivial
theorem tw14889631079537406147 : True := trivial
theorem tw12214157611317431795 : True := trivial
theorem tw13115110653591942361 : True := trivial
theorem tw4020930983450996026 : True := trivial
theorem tw14661233170727570902 : True := trivial
theorem tw9912731628183906616 : True := trivial
theorem tw13140464091798694586 : True := trivial
theorem tw6093602898961333695 : True := trivial
theorem tw15917888172099611485 : True := trivial
theorem tw7346565732468865748 : True := trivial
theorem tw11428534276252937763 : True := trivial
theorem tw10098304505723497023 : True := trivial
theorem tw15805280593836299249 : True := trivial
theorem tw18079598955963951184 : True := trivial
theorem tw5133574546020119504 : True := trivial
theorem tw14508261428426944974 : True := trivial
theorem tw3739352972766605965 : True := trivial
theorem tw11323460954343799415 : True := trivial
theorem tw11093609693988335133 : True := trivial
theorem tw8709521320854723220 : True := trivial
theorem tw2294182143227641967 : True := trivial
theorem tw5951396214771966168 : True := trivial
theorem tw9438486637927213348 : True := trivial
theorem tw13755036877337777258 : True := trivial
theorem tw7935561889085061176 : True := trivial
theorem tw17506949498341953058 : True := trivial
theorem tw4810237903452945532 : True := trivial
theorem tw8989466205697437919 : True := trivial
theorem tw12542725884070266406 : True := trivial
theorem tw17852515279385190676 : True := trivial
theorem tw18119680073170331146 : True := trivial
theorem tw11919030123103115869 : True := trivial
theorem tw403812079769834770 : True := trivial
theorem tw10783026669840109222 : True := trivial
theorem tw6030160500924239891 : True := trivial
theorem tw9757334313507500242 : True := trivial
theorem tw7604361383951181039 : True := trivial
theorem tw11788596472857547650 : True := trivial
theorem tw5904205431419096493 : True := trivial
theorem tw5682643085034192101 : True := trivial
theorem tw7176390609888134468 : True := trivial
theorem tw12582119901904793193 : True := trivial
theorem tw170791835117179637 : True := trivial
theorem tw5200393275087681087 : True := trivial
theorem tw11122456437846949724 : True := trivial
theorem tw17449074738615755580 : True := trivial
theorem tw10052054003937747352 : True := trivial
theorem tw16885889594333976748 : True := trivial
theorem tw1538103363647825082 : True := trivial
theorem tw8788049194951631462 : True := trivial
theorem tw7098202448310986724 : True := trivial
theorem tw6192180042669294903 : True := trivial
theorem tw8982549052768806898 : True := trivial
theorem tw18089321797663151407 : True := trivial
theorem tw8890101039405931036 : True := trivial
theorem tw2738668728740353458 : True := trivial
theorem tw14220906390709409322 : True := trivial
theorem tw3035464367887458895 : True := trivial
theorem tw14644278359427173836 : True := trivial
theorem tw11534722663673829906 : True := trivial
theorem tw8540577448667079331 : True := trivial
theorem tw6122413443297169014 : True := trivial
theorem tw8821129422108303754 : True := trivial
theorem tw15811970297241540061 : True := trivial
theorem tw14305383424148665395 : True := trivial
theorem tw8507767574426738800 : True := trivial
theorem tw7640048169686287684 : True := trivial
theorem tw2256110524245517843 : True := trivial
theorem tw14468370129310376745 : True := trivial
theorem tw9143513550238882129 : True := trivial
theorem tw646575859882511796 : True := trivial
theorem tw6863132975356421358 : True := trivial
theorem tw15355867760458296755 : True := trivial
theorem tw1663144989054087896 : True := trivial
theorem tw7548278257146384108 : True := trivial
theorem tw12545920189207744004 : True := trivial
theorem tw10524667881560230686 : True := trivial
theorem tw4400524718567136237 : True := trivial
theorem tw593147692729850389 : True := trivial
theorem tw15615225405140772062 : True := trivial
theorem tw17528718893818508847 : True := trivial
theorem tw10480953652592180987 : True := trivial
theorem tw2860374574169727421 : True := trivial
theorem tw16883110109602867507 : True := trivial
theorem tw5267843035149877718 : True := trivial
theorem tw163347484742138807 : True := trivial
theorem tw15785090924745905749 : True := trivial
theorem tw260628875015067583 : True := trivial
theorem tw10331503300449025918 : True := trivial
theorem tw16174678396629460845 : True := trivial
theorem tw1112366514702381876 : True := trivial
theorem tw15841709020552064340 : True := trivial
theorem tw2913845746299330059 : True := trivial
theorem tw16735600758753196291 : True := trivial
theorem tw4179726124759609033 : True := trivial
theorem tw14492875796088662203 : True := trivial
theorem tw9211994575178181982 : True := trivial
theorem tw612506763764328829 : True := trivial
theorem tw7530031648945094201 : True := trivial
theorem tw14454557940725720733 : True := trivial
theorem tw3150697065960479674 : True := trivial
theorem tw3175978818970686818 : True := trivial
theorem tw12953071725817355139 : True := trivial
theorem tw12650953895531027653 : True := trivial
theorem tw8737484725626560384 : True := trivial
theorem tw8556248108466917104 : True := trivial
theorem tw12270821004451913045 : True := trivial
theorem tw5740495375464406152 : True := trivial
theorem tw13233815358802540307 : True := trivial
theorem tw3306104335326675560 : True := trivial
theorem tw7640120705448869907 : True := trivial
theorem tw16339377543192932967 : True := trivial
theorem tw2023008940722029670 : True := trivial
theorem tw6452442170972880679 : True := trivial
theorem tw13921028693776707907 : True := trivial
theorem tw11816298477420667739 : True := trivial
theorem tw261085723679340711 : True := trivial
theorem tw5480190734502510139 : True := trivial
theorem tw13151764958854083531 : True := trivial
theorem tw7312862907007541095 : True := trivial
theorem tw3773704203087563308 : True := trivial
theorem tw762689083846741213 : True := trivial
theorem tw16793347955997536146 : True := trivial
theorem tw5706454872041173461 : True := trivial
theorem tw14072377563258293505 : True := trivial
theorem tw16591200759171212635 : True := trivial
theorem tw2731825839193556764 : True := trivial
theorem tw9084411830888516714 : True := trivial
theorem tw6436830872941316540 : True := trivial
theorem tw7958207921859318011 : True := trivial
theorem tw15639338789765658974 : True := trivial
theorem tw7229573175514403464 : True := trivial
theorem tw17792228386008062149 : True := trivial
theorem tw9521834685916007694 : True := trivial
theorem tw13521425945286397433 : True := trivial
theorem tw713962528193426216 : True := trivial
theorem tw11068620009110752032 : True := trivial
theorem tw16901300011053491382 : True := trivial
theorem tw2585497251631055669 : True := trivial
theorem tw426421892360294878 : True := trivial
theorem tw1390647898575779862 : True := trivial
theorem tw6604615440585190435 : True := trivial
theorem tw15279943778922203695 : True := trivial
theorem tw9823123373508794127 : True := trivial
theorem tw13595287996710162295 : True := trivial
theorem tw14825859411014341900 : True := trivial
theorem tw16851015933021716930 : True := trivial
theorem tw18439892427677403982 : True := trivial
theorem tw5596850061005686221 : True := trivial
theorem tw7949856766110919241 : True := trivial
theorem tw10133873060717704699 : True := trivial
theorem tw5771140958212004353 : True := trivial
theorem tw8587841701445665379 : True := trivial
theorem tw16220672134607653863 : True := trivial
theorem tw5321142266373993345 : True := trivial
theorem tw11961991401199719638 : True := trivial
theorem tw16900187499584184792 : True := trivial
theorem tw16141737477132172740 : True := trivial
theorem tw11637007336731389984 : True := trivial
theorem tw500665424345555911 : True := trivial
theorem tw8832904785417112267 : True := trivial
theorem tw9681861910686866124 : True := trivial
theorem tw3521535380150684893 : True := trivial
theorem tw5870099715357020818 : True := trivial
theorem tw11561643061213313406 : True := trivial
theorem tw14404729918325448969 : True := trivial
theorem tw9260232862000605379 : True := trivial
theorem tw11618526078649088032 : True := trivial
theorem tw15518231049356891477 : True := trivial
theorem tw2643666220666092235 : True := trivial
theorem tw9666200157582144300 : True := trivial
theorem tw12201557233990637645 : True := trivial
theorem tw2538573742185719389 : True := trivial
theorem tw7174760444482149487 : True := trivial
theorem tw7259955038899536445 : True := trivial
theorem tw17544230454315736320 : True := trivial
theorem tw10181573598683961628 : True := trivial
theorem tw1767710060947046031 : True := trivial
theorem tw9371859989409980649 : True := trivial
theorem tw16675997198628761469 : True := trivial
theorem tw12358547405668358425 : True := trivial
theorem tw10146640939832231851 : True := trivial
theorem tw6224633981341891742 : True := trivial
theorem tw1346065671878973573 : True := trivial
theorem tw7437055658444503645 : True := trivial
theorem tw16196830389596081610 : True := trivial
theorem tw4065477334199016178 : True := trivial
theorem tw6131066295510372887 : True := trivial
theorem tw9550082724541144383 : True := trivial
theorem tw859904916992939414 : True := trivial
theorem tw15205748942397724288 : True := trivial
theorem tw1320323075397941947 : True := trivial
theorem tw10891429521137501132 : True := trivial
theorem tw7998358632437980623 : True := trivial
theorem tw9170745288717779417 : True := trivial
theorem tw9165398717908178935 : True := trivial
theorem tw2225462010126449251 : True := trivial
theorem tw7111769688095888046 : True := trivial
theorem tw11822179656750749221 : True := trivial
theorem tw3719821804035682058 : True := trivial
theorem tw8332269571229752664 : True := trivial
theorem tw10333242987607359545 : True := trivial
theorem tw8022331104051087320 : True := trivial
theorem tw7452435635796542253 : True := trivial
theorem tw1051463316240484206 : True := trivial
theorem tw12613885550984445532 : True := trivial
theorem tw9725729616573688027 : True := trivial
theorem tw9837735146587969445 : True := trivial
theorem tw6457876145470364118 : True := trivial
theorem tw13372399251942616670 : True := trivial
theorem tw1565931808709394649 : True := trivial
theorem tw13733983267121216967 : True := trivial
theorem tw1423313261709303033 : True := trivial
end h1
set_option Elab.async true in
set_option maxHeartbeats 8000000 in
theorem h1 : Challenge.rw_og0188_01.Holds := by
  w_on; o_law; k_head
  (case hw => w_witness2)
  exact walk_conv (V := h0.view_1_40) (K := h0.heap_1_39) (n := Str.ofString "law") rfl rfl (by rfl) (fun e => walk_main _ e)
end Mine
end
theorem PySem.Challenge.cw_og0188_01_holds : PySem.Challenge.rw_og0188_01.Holds := by
  exact Mine.h1
