import PyProof.Rows.All
import Wide.All
import OpenK.AllK
import Wide.FinOn
import KE.KWhile
import KE.KEqDat
import PySem.Challenge.RW_sj0192_01
open PySem PySem.W PyProof.Rows PySem.Calls
namespace Mine
def quietP : Pos := ⟨1, 0, 1, 1⟩
def quiet : Stmt → Stmt
  | .FunctionDef name args body dec ret tps scope tscope bind pos => .FunctionDef name args [.If (.Constant (.bool false) 0 quietP) body [] quietP, .Return (some (.Constant (.bool true) 0 quietP)) quietP] dec ret tps scope tscope bind pos
  | s => s
def pw2 : Program := { PySem.Challenge.pw_sj0192_01 with main := { PySem.Challenge.pw_sj0192_01.main with body := PySem.Challenge.pw_sj0192_01.main.body.take 28 ++ (PySem.Challenge.pw_sj0192_01.main.body.drop 28).map quiet } }
def rw2 : OpenLaw := { PySem.Challenge.rw_sj0192_01 with prog := pw2 }
def h0.tw9560714145211891185 : Nat := 0
def h0.tw11190401749334714206 : Nat := 0
def h0.tw14403125572704176100 : Nat := 0
def h0.tw3684965911360681114 : Nat := 0
def h0.tw2646819634581056407 : Nat := 0
def h0.tw8452621382147104840 : Nat := 0
def h0.tw11756010980023828979 : Nat := 0
def h0.tw4653268549698064191 : Nat := 0
def h0.tw15586721077045167844 : Nat := 0
def h0.tw12976892419175772481 : Nat := 0
def h0.tw3283794507980794194 : Nat := 0
def h0.tw10598151849221702874 : Nat := 0
def h0.tw11776443800099568279 : Nat := 0
def h0.tw14410061699392674544 : Nat := 0
def h0.tw6729373472634832600 : Nat := 0
def h0.tw17510755309946024045 : Nat := 0
def h0.tw9636162430350437923 : Nat := 0
def h0.tw6316420851021343578 : Nat := 0
def h0.tw5950045311063005598 : Nat := 0
def h0.tw8114333337559660526 : Nat := 0
def h0.tw5858878814874488534 : Nat := 0
def h0.tw17650389268097828633 : Nat := 0
def h0.tw315737977332210345 : Nat := 0
def h0.tw5516717828014391238 : Nat := 0
def h0.tw16590870679435226228 : Nat := 0
def h0.tw2480271536287283598 : Nat := 0
def h0.tw3976775774053727736 : Nat := 0
def h0.tw11298601072899375484 : Nat := 0
def h0.tw2291059708349509821 : Nat := 0
def h0.tw12711198927149690553 : Nat := 0
def h0.tw12157072517896203713 : Nat := 0
def h0.tw14344417855754095137 : Nat := 0
def h0.tw5200276743111997080 : Nat := 0
def h0.tw16474551367353578956 : Nat := 0
def h0.tw7732227690703949348 : Nat := 0
def h0.tw6119156069459854105 : Nat := 0
def h0.tw6453413489625269901 : Nat := 0
def h0.tw12055135632636490865 : Nat := 0
def h0.tw7436934397927724294 : Nat := 0
def h0.tw7480202386591885793 : Nat := 0
def h0.tw5002846180882802622 : Nat := 0
def h0.tw13247336323242608514 : Nat := 0
def h0.tw201636225645789219 : Nat := 0
def h0.tw14529611280170532530 : Nat := 0
def h0.tw8359033805367166379 : Nat := 0
def h0.tw3911460813702264686 : Nat := 0
def h0.tw7947282165923294660 : Nat := 0
def h0.tw10194825565455570988 : Nat := 0
def h0.tw14684463680145934037 : Nat := 0
def h0.tw17595460303489062161 : Nat := 0
def h0.tw16317100390893273581 : Nat := 0
def h0.tw14436878610621563730 : Nat := 0
def h0.tw14249523853479548464 : Nat := 0
def h0.tw12542273519702649171 : Nat := 0
def h0.tw10890663050331558012 : Nat := 0
def h0.tw2152123244109758300 : Nat := 0
def h0.tw7554571642868920442 : Nat := 0
def h0.tw1574601587965037793 : Nat := 0
def h0.tw16234168511776565598 : Nat := 0
def h0.tw17451962187380428190 : Nat := 0
def h0.tw3225427463025686046 : Nat := 0
def h0.tw4353556627882386746 : Nat := 0
def h0.tw6974918051855055839 : Nat := 0
def h0.tw9438445251759315031 : Nat := 0
def h0.tw14988566313389725209 : Nat := 0
def h0.tw9544153919160730355 : Nat := 0
def h0.tw11548809930054366048 : Nat := 0
def h0.tw5037780682272510220 : Nat := 0
def h0.tw11695344257665795552 : Nat := 0
def h0.tw7853938437791908563 : Nat := 0
def h0.tw17020515755695874886 : Nat := 0
def h0.tw13624650487294844052 : Nat := 0
def h0.tw6557711320453919821 : Nat := 0
def h0.tw10844939981614286264 : Nat := 0
def h0.tw9318119886681605803 : Nat := 0
def h0.tw2105706996124039959 : Nat := 0
def h0.tw2039585107946831182 : Nat := 0
def h0.tw8178348772169755637 : Nat := 0
def h0.tw12512260832148694339 : Nat := 0
def h0.tw13781809173768783884 : Nat := 0
def h0.tw11726561858443960359 : Nat := 0
def h0.tw8179261026223156886 : Nat := 0
def h0.tw1208095855235968688 : Nat := 0
def h0.tw17644042637451415569 : Nat := 0
def h0.tw6059935515576284218 : Nat := 0
def h0.tw5571925363956168481 : Nat := 0
def h0.tw14506297956194944699 : Nat := 0
def h0.tw8722000341124395473 : Nat := 0
def h0.tw15316408284645075144 : Nat := 0
def h0.tw12147153187168351353 : Nat := 0
def h0.tw9728326532861356907 : Nat := 0
def h0.tw6944712029667455450 : Nat := 0
def h0.tw7227032913547724285 : Nat := 0
def h0.tw11237341634421071422 : Nat := 0
def h0.tw18341644848587327342 : Nat := 0
def h0.tw8059443278411620393 : Nat := 0
def h0.tw14719631123845806015 : Nat := 0
def h0.tw6535614214831943722 : Nat := 0
def h0.tw12501686663973856043 : Nat := 0
def h0.tw16195161284700469532 : Nat := 0
def h0.tw11557201728913098701 : Nat := 0
def h0.tw3054838087832536348 : Nat := 0
def h0.tw16576308314680669585 : Nat := 0
def h0.tw15348358148177970164 : Nat := 0
def h0.tw8528402420080813730 : Nat := 0
def h0.tw5511373502424188203 : Nat := 0
def h0.tw15177187366770842420 : Nat := 0
def h0.tw2388253881431885397 : Nat := 0
def h0.tw11890164214695412072 : Nat := 0
def h0.tw9256901483587876142 : Nat := 0
def h0.tw8633032871871302571 : Nat := 0
def h0.tw13067032873628234245 : Nat := 0
def h0.tw12716486199993907529 : Nat := 0
def h0.tw4623727097878636803 : Nat := 0
def h0.tw16067910495121874047 : Nat := 0
def h0.tw13177096144220635079 : Nat := 0
def h0.tw15273770383296423315 : Nat := 0
def h0.tw14978068108432239910 : Nat := 0
def h0.tw16057040823684697191 : Nat := 0
def h0.tw5861899477830484850 : Nat := 0
def h0.tw12190348874917586967 : Nat := 0
def h0.tw6424241345488092306 : Nat := 0
def h0.tw9890401828787048779 : Nat := 0
def h0.tw4955733730220032979 : Nat := 0
def h0.tw4091625341231492703 : Nat := 0
def h0.tw3127597209705626842 : Nat := 0
def h0.tw11383741484249373746 : Nat := 0
def h0.tw17133690070080172185 : Nat := 0
def h0.tw14983694259876592852 : Nat := 0
def h0.tw14790534842872491299 : Nat := 0
def h0.tw12223792403116127181 : Nat := 0
def h0.tw9492828882142629918 : Nat := 0
def h0.tw12559817606532261806 : Nat := 0
def h0.tw5598757501080075764 : Nat := 0
def h0.tw12215808092320044325 : Nat := 0
def h0.tw13006211962593333557 : Nat := 0
def h0.tw11292619699618662546 : Nat := 0
def h0.tw7635800600833212051 : Nat := 0
def h0.tw918494026989942156 : Nat := 0
def h0.tw4243996951067569201 : Nat := 0
def h0.tw9198075654626600789 : Nat := 0
def h0.tw4197778175967263855 : Nat := 0
def h0.tw484497197556925362 : Nat := 0
def h0.tw6535458104355512843 : Nat := 0
def h0.tw9763862868824163868 : Nat := 0
def h0.tw2777516317361345367 : Nat := 0
def h0.tw2540601054191465860 : Nat := 0
def h0.tw10023592965192695150 : Nat := 0
def h0.tw7937895932737364410 : Nat := 0
def h0.tw13406136778054030525 : Nat := 0
def h0.tw16718556204062534234 : Nat := 0
def h0.tw13474891334799376072 : Nat := 0
def h0.tw10415162559289145589 : Nat := 0
def h0.tw11328254188656229198 : Nat := 0
def h0.tw18172574551403924839 : Nat := 0
def h0.tw1903562594476465543 : Nat := 0
def h0.tw17341846086959624223 : Nat := 0
def h0.tw3155062883950879829 : Nat := 0
def h0.tw18387460970165292665 : Nat := 0
def h0.tw5600681607793470359 : Nat := 0
def h0.tw4967582900935672457 : Nat := 0
def h0.tw11257839613246630795 : Nat := 0
def h0.tw7265546162459185295 : Nat := 0
def h0.tw12077810693856093080 : Nat := 0
def h0.tw13643287580020656241 : Nat := 0
def h0.tw1283065738450460450 : Nat := 0
def h0.tw17360339096244079499 : Nat := 0
def h0.tw7766270355814575840 : Nat := 0
def h0.tw15653835859030992291 : Nat := 0
def h0.tw10875056674113774955 : Nat := 0
def h0.tw15653301640010691416 : Nat := 0
def h0.tw3353501706874057790 : Nat := 0
def h0.tw8392165027114999185 : Nat := 0
def h0.tw6846028082471638298 : Nat := 0
def h0.tw13888033998857146744 : Nat := 0
def h0.tw3391596905396101797 : Nat := 0
def h0.tw3112274479899902563 : Nat := 0
def h0.tw434899700373981922 : Nat := 0
def h0.tw4994793263345285894 : Nat := 0
def h0.tw2627439650047902540 : Nat := 0
def h0.tw8152078813274758384 : Nat := 0
def h0.tw5370657637646536305 : Nat := 0
def h0.tw12990736492102518391 : Nat := 0
def h0.tw15162549892835542006 : Nat := 0
def h0.tw17614475920134243581 : Nat := 0
def h0.tw8014111272054603128 : Nat := 0
def h0.tw13353828215357793269 : Nat := 0
def h0.tw2607502450163208286 : Nat := 0
def h0.tw9257273931457151013 : Nat := 0
def h0.tw5526453943723232899 : Nat := 0
def h0.tw13722731519036949397 : Nat := 0
def h0.tw708699609108303529 : Nat := 0
def h0.tw4911217719921788968 : Nat := 0
def h0.tw2612460510383841583 : Nat := 0
def h0.tw15912537713315444039 : Nat := 0
def h0.tw6094247076961636732 : Nat := 0
def h0.tw15680186471486777182 : Nat := 0
def h0.tw1348334617554067115 : Nat := 0
def h0.tw5668707088059778417 : Nat := 0
def h0.tw16240309506217274120 : Nat := 0
def h0.tw8548483670235635614 : Nat := 0
def h0.tw8395058777512956496 : Nat := 0
def h0.tw10319141391865436870 : Nat := 0
def h0.tw12844488972014321520 : Nat := 0
def h0.tw9880651309096593588 : Nat := 0
def h0.tw10993206368045639185 : Nat := 0
def h0.tw16342209635007083457 : Nat := 0
def h0.tw9530369851709841175 : Nat := 0
def h0.tw10580115063282698534 : Nat := 0
def h0.tw2620008734136862272 : Nat := 0
def h0.tw9919415698094610329 : Nat := 0
def h0.tw14549961491672753858 : Nat := 0
def h0.tw9118801163071168397 : Nat := 0
def h0.tw13221223621128587428 : Nat := 0
def h0.tw11279051134153851184 : Nat := 0
def h0.tw4279968243314990804 : Nat := 0
def h0.tw259847239198454599 : Nat := 0
def h0.tw13531627063480126996 : Nat := 0
def h0.tw1905285797561709967 : Nat := 0
def h0.tw17894108204605613392 : Nat := 0
def h0.tw2255790964480663336 : Nat := 0
def h0.tw15179566611411877124 : Nat := 0
def h0.tw10128879752551204940 : Nat := 0
def h0.tw14036087349896685714 : Nat := 0
def h0.tw11164289374221797841 : Nat := 0
def h0.tw1524268239902235216 : Nat := 0
def h0.tw13094198153292168033 : Nat := 0
def h0.tw13475682832182836106 : Nat := 0
def h0.tw4983561530433778882 : Nat := 0
def h0.tw9860777295895486153 : Nat := 0
def h0.tw12868830970419679022 : Nat := 0
def h0.tw15172505679432660090 : Nat := 0
def h0.tw7077200354598616433 : Nat := 0
def h0.tw8278569355144872335 : Nat := 0
def h0.tw13162488501694704259 : Nat := 0
def h0.tw15066740580278992468 : Nat := 0
def h0.tw15372698890590699103 : Nat := 0
def h0.tw4595195206640900026 : Nat := 0
def h0.tw1026102559349117412 : Nat := 0
def h0.tw10962853867959454505 : Nat := 0
def h0.tw8607041788140264315 : Nat := 0
def h0.tw4267412274519072954 : Nat := 0
def h0.tw13998453111060538446 : Nat := 0
def h0.tw16743746383161732225 : Nat := 0
def h0.tw4795462946392419140 : Nat := 0
def h0.tw1865295137934904099 : Nat := 0
def h0.tw1659646050662142430 : Nat := 0
def h0.tw4415900262182014741 : Nat := 0
def h0.tw17633186797664359727 : Nat := 0
def h0.tw10076327799927492316 : Nat := 0
def h0.tw6961226954016877254 : Nat := 0
def h0.tw9242129905532361598 : Nat := 0
def h0.tw12375237897028079591 : Nat := 0
def h0.tw16552957707582617287 : Nat := 0
def h0.tw7472121786958918723 : Nat := 0
def h0.tw1467573019263552429 : Nat := 0
def h0.tw869553992796292058 : Nat := 0
def h0.tw14952855439641330696 : Nat := 0
def h0.tw15100298481008233714 : Nat := 0
def h0.tw3487396089035477641 : Nat := 0
def h0.tw5784713366291160019 : Nat := 0
def h0.tw11752493748525743379 : Nat := 0
def h0.tw14151065212596873788 : Nat := 0
def h0.tw12060618688741047819 : Nat := 0
def h0.tw8374213171170128259 : Nat := 0
def h0.tw2617617001648382052 : Nat := 0
def h0.tw11275521837109870566 : Nat := 0
def h0.tw17157620594012115677 : Nat := 0
def h0.tw11320821149192881102 : Nat := 0
def h0.tw18193496173243652561 : Nat := 0
def h0.tw10529670187242881017 : Nat := 0
def h0.tw5422997514637096799 : Nat := 0
def h0.tw540371531147120950 : Nat := 0
def h0.tw18166394773367877903 : Nat := 0
def h0.tw7721897534688220840 : Nat := 0
def h0.tw4509868253164738065 : Nat := 0
def h0.tw8976364092149940651 : Nat := 0
def h0.tw11368380489344339413 : Nat := 0
def h0.tw7717288822092626203 : Nat := 0
def h0.tw17776167816894596356 : Nat := 0
def h0.tw16510772549855244365 : Nat := 0
def h0.tw2033868928877676015 : Nat := 0
def h0.tw6660283794314180987 : Nat := 0
def h0.tw17250136860981254603 : Nat := 0
def h0.tw3921903420096232037 : Nat := 0
def h0.tw16584622985297111268 : Nat := 0
def h0.tw16981243746944155839 : Nat := 0
def h0.tw1456162097735802843 : Nat := 0
def h0.tw1344623626192521210 : Nat := 0
def h0.tw5013893581291427881 : Nat := 0
def h0.tw15548550798437907708 : Nat := 0
def h0.tw14755131137401554638 : Nat := 0
def h0.tw5598798885378788522 : Nat := 0
def h0.tw9421876003277245631 : Nat := 0
def h0.tw2177048924834719834 : Nat := 0
def h0.tw16019657911929878948 : Nat := 0
def h0.tw1702602245502786946 : Nat := 0
def h0.tw3028020904904987531 : Nat := 0
def h0.tw14857240474300831897 : Nat := 0
def h0.tw3820884695609932291 : Nat := 0
def h0.tw2294050948738389535 : Nat := 0
def h0.tw593086735438457924 : Nat := 0
def h0.tw13535335637642258008 : Nat := 0
def h0.tw17955954229689541017 : Nat := 0
def h0.tw17205318104488847615 : Nat := 0
def h0.tw5823638213467505069 : Nat := 0
def h0.tw2051451748135845978 : Nat := 0
def h0.tw1238828662806013023 : Nat := 0
def h0.tw1650691227173119246 : Nat := 0
def h0.tw17592142925427602674 : Nat := 0
def h0.tw16474424210907479407 : Nat := 0
def h0.tw1270287161788596174 : Nat := 0
def h0.tw11561248822825265415 : Nat := 0
def h0.tw14774321504664041362 : Nat := 0
def h0.tw3325148560643163779 : Nat := 0
def h0.tw15672959599434194814 : Nat := 0
def h0.tw17498552580007177261 : Nat := 0
def h0.tw6055295664834943761 : Nat := 0
def h0.tw1447316616175980873 : Nat := 0
def h0.tw3794273830223084892 : Nat := 0
def h0.tw9067025432760835197 : Nat := 0
def h0.tw16537363308205623428 : Nat := 0
def h0.tw13217822668245674232 : Nat := 0
def h0.tw11783800251234250412 : Nat := 0
def h0.tw5163469197465677204 : Nat := 0
def h0.tw15407123327578213415 : Nat := 0
def h0.tw14725554973861892178 : Nat := 0
def h0.tw10536474244777180169 : Nat := 0
def h0.tw18059158300982006251 : Nat := 0
def h0.tw6049671950177758757 : Nat := 0
def h0.tw5585174963456173400 : Nat := 0
def h0.tw15904550311919063610 : Nat := 0
def h0.tw16212399793595145887 : Nat := 0
def h0.tw6838538786266254422 : Nat := 0
def h0.tw17798662673846769023 : Nat := 0
def h0.tw6913633958454327176 : Nat := 0
def h0.tw8002864666333376985 : Nat := 0
def h0.tw9741648650557404915 : Nat := 0
def h0.tw12212024663201924829 : Nat := 0
def h0.tw17975128789629174793 : Nat := 0
def h0.tw8433256737139960426 : Nat := 0
def h0.tw14379413657103509249 : Nat := 0
def h0.tw18037871045212077495 : Nat := 0
def h0.tw6113771130717379868 : Nat := 0
def h0.tw3352868831914529549 : Nat := 0
def h0.tw15145753427235556085 : Nat := 0
def h0.tw9982867925491735008 : Nat := 0
def h0.tw4815130955182674186 : Nat := 0
def h0.tw12964557092691732021 : Nat := 0
def h0.tw7734630803607459070 : Nat := 0
def h0.tw11880079704871210817 : Nat := 0
def h0.tw3548665813795951017 : Nat := 0
def h0.tw14437580271843073067 : Nat := 0
def h0.tw8850369151664550709 : Nat := 0
def h0.tw14592353054933039756 : Nat := 0
def h0.tw5020451595342780341 : Nat := 0
def h0.tw16120852249111291926 : Nat := 0
def h0.tw12736809808497669059 : Nat := 0
def h0.tw8987227157700081827 : Nat := 0
def h0.tw16765483113403897725 : Nat := 0
def h0.tw17983578503797544568 : Nat := 0
def h0.tw8025754453300304438 : Nat := 0
def h0.tw8637126730520081291 : Nat := 0
def h0.tw7558379923973224192 : Nat := 0
def h0.tw7502377700484918466 : Nat := 0
def h0.tw13735801576626225392 : Nat := 0
def h0.tw12798934155195380403 : Nat := 0
def h0.tw15014433246999406447 : Nat := 0
def h0.tw17298941977590465514 : Nat := 0
def h0.tw10439629082592381469 : Nat := 0
def h0.tw347199028864547782 : Nat := 0
def h0.tw4896600222647742091 : Nat := 0
def h0.tw10656554359832518861 : Nat := 0
def h0.tw9922951121205627989 : Nat := 0
def h0.tw5855346352654177868 : Nat := 0
def h0.tw3581772974796792257 : Nat := 0
def h0.tw17563155538075125883 : Nat := 0
def h0.tw13541886664651099080 : Nat := 0
def h0.tw9422829158406843059 : Nat := 0
def h0.tw9177222209460309205 : Nat := 0
def h0.tw13077854664430691215 : Nat := 0
def h0.tw9533406109128153449 : Nat := 0
def h0.tw2395727450626748908 : Nat := 0
def h0.tw4600916986806250454 : Nat := 0
def h0.tw15501184942930984010 : Nat := 0
def h0.tw1520538627739437968 : Nat := 0
def h0.tw14996749479872837036 : Nat := 0
def h0.tw16354368192709152269 : Nat := 0
def h0.tw14358126514579283187 : Nat := 0
def h0.tw10835423802198496322 : Nat := 0
def h0.tw13505836941674961503 : Nat := 0
def h0.tw3022704754037198753 : Nat := 0
def h0.tw11769288772503161504 : Nat := 0
def h0.tw9924778399668603250 : Nat := 0
def h0.tw2980852105064871180 : Nat := 0
def h0.tw567177025200476436 : Nat := 0
def h0.tw17612549788027229062 : Nat := 0
def h0.tw10930868481771794492 : Nat := 0
def h0.tw2843341132791932032 : Nat := 0
def h0.tw7257365452434676071 : Nat := 0
def h0.tw986198316838521039 : Nat := 0
def h0.tw6338962096104415412 : Nat := 0
def h0.tw10281256548511197775 : Nat := 0
def h0.tw4551350642886292950 : Nat := 0
def h0.tw13990299079790751835 : Nat := 0
def h0.tw6352206803697432067 : Nat := 0
def h0.tw3579440117514247243 : Nat := 0
def h0.tw11093744472524343213 : Nat := 0
def h0.tw6723776367554735689 : Nat := 0
def h0.tw4725419018234412406 : Nat := 0
def h0.tw14358829234923242138 : Nat := 0
def h0.tw17080180758655679191 : Nat := 0
def h0.tw18163164618008449328 : Nat := 0
def h0.tw460443236203682826 : Nat := 0
def h0.tw6297617762009510678 : Nat := 0
def h0.tw16504506979051933328 : Nat := 0
def h0.tw10456735623641266705 : Nat := 0
def h0.tw5095109543398993034 : Nat := 0
def h0.tw11156156193053338651 : Nat := 0
def h0.tw17381323192542076295 : Nat := 0
set_option Elab.async true in
set_option maxRecDepth 100000 in
set_option maxHeartbeats 8000000 in
theorem h0 : rw2.Holds := by
  open_k
set_option maxRecDepth 100000 in
noncomputable def KK : Params → Frag := fun P => (fun (l r : Frag) (_ : h0.heap_1_39 P = l ++ r) => l) (_ :: _ :: _ :: _ :: _ :: _ :: _ :: _ :: _ :: _ :: _ :: _ :: _ :: _ :: _ :: _ :: _ :: _ :: _ :: _ :: _ :: _ :: _ :: _ :: _ :: _ :: _ :: _ :: _ :: _ :: _ :: _ :: _ :: _ :: _ :: _ :: _ :: _ :: _ :: _ :: _ :: _ :: _ :: _ :: _ :: _ :: _ :: _ :: _ :: _ :: _ :: _ :: _ :: _ :: _ :: _ :: _ :: _ :: _ :: _ :: _ :: _ :: _ :: _ :: _ :: _ :: _ :: _ :: _ :: _ :: _ :: _ :: _ :: _ :: _ :: _ :: _ :: _ :: _ :: _ :: _ :: _ :: _ :: _ :: _ :: _ :: _ :: _ :: _ :: _ :: _ :: _ :: _ :: _ :: _ :: _ :: _ :: _ :: _ :: _ :: _ :: _ :: _ :: _ :: _ :: _ :: _ :: _ :: _ :: _ :: _ :: _ :: _ :: _ :: _ :: _ :: _ :: _ :: _ :: _ :: _ :: _ :: _ :: _ :: _ :: _ :: _ :: _ :: _ :: _ :: _ :: _ :: _ :: _ :: _ :: _ :: _ :: _ :: _ :: _ :: _ :: _ :: _ :: _ :: _ :: _ :: _ :: _ :: _ :: _ :: _ :: _ :: _ :: _ :: _ :: _ :: _ :: _ :: _ :: _ :: _ :: _ :: _ :: _ :: _ :: _ :: _ :: _ :: _ :: _ :: _ :: _ :: _ :: _ :: _ :: _ :: _ :: _ :: _ :: _ :: _ :: _ :: _ :: _ :: _ :: _ :: _ :: _ :: _ :: _ :: _ :: _ :: _ :: _ :: _ :: _ :: _ :: _ :: _ :: _ :: _ :: _ :: _ :: _ :: _ :: _ :: _ :: _ :: _ :: _ :: _ :: _ :: _ :: _ :: _ :: _ :: _ :: _ :: _ :: _ :: _ :: _ :: _ :: _ :: _ :: _ :: _ :: _ :: _ :: _ :: _ :: _ :: _ :: _ :: _ :: _ :: _ :: _ :: _ :: _ :: []) (_ :: _ :: []) rfl
end Mine
set_option Elab.async false
namespace Mine
abbrev Led := List (Addr × Obj)
structure Sm where
  P : Led → Value → Prop
  mono : ∀ {imm imm' : Led} {v}, (∀ p ∈ imm, p ∈ imm') → P imm v → P imm' v
inductive V where
  | d (x : Dat)
  | r (a : Addr)
  | sem (S : Sm)
  | at (a : Addr) (o : Obj)
def VIn (imm : Led) (v : Value) : V → Prop
  | .d x => DatIn imm v x
  | .r a => v = .ref a
  | .sem S => S.P imm v
  | .at a o => v = .ref a ∧ (a, o) ∈ imm
theorem VIn.mono {imm imm' : Led} {v : Value} {x : V} (hs : ∀ p ∈ imm, p ∈ imm') (h : VIn imm v x) : VIn imm' v x := by
  cases x with
  | d y => exact DatIn.mono hs h
  | r a => exact h
  | sem S => exact S.mono hs h
  | «at» a o => exact ⟨h.1, hs _ h.2⟩
inductive VAll (imm : Led) : List Value → List V → Prop
  | nil : VAll imm [] []
  | cons {v vs x xs} : VIn imm v x → VAll imm vs xs → VAll imm (v :: vs) (x :: xs)
theorem VAll.mono {imm imm' : Led} (hs : ∀ p ∈ imm, p ∈ imm') {vs xs} (h : VAll imm vs xs) : VAll imm' vs xs := by
  induction h with
  | nil => exact .nil
  | cons h _ ih => exact .cons (h.mono hs) ih
theorem VAll.append {imm : Led} {vs xs ws ys} (h : VAll imm vs xs) (k : VAll imm ws ys) : VAll imm (vs ++ ws) (xs ++ ys) := by
  induction h with
  | nil => exact k
  | cons h _ ih => exact .cons h ih
theorem VAll.split {imm : Led} {ws : List Value} {ys : List V} (vs : List Value) : ∀ {xs : List V}, vs.length = xs.length → VAll imm (vs ++ ws) (xs ++ ys) → VAll imm vs xs ∧ VAll imm ws ys := by
  induction vs with
  | nil =>
    intro xs e h
    cases xs with
    | nil => exact ⟨.nil, h⟩
    | cons _ _ => cases e
  | cons v vs ih =>
    intro xs e h
    cases xs with
    | nil => cases e
    | cons x xs =>
      cases h with
      | cons h r =>
        obtain ⟨a, b⟩ := ih (Nat.succ.inj e) r
        exact ⟨.cons h a, b⟩
theorem VAll.length {imm : Led} {vs xs} (h : VAll imm vs xs) : vs.length = xs.length := by
  induction h with
  | nil => rfl
  | cons _ _ ih => simp [ih]
inductive Mo where
  | o (x : Obj)
  | l (ds : List Dat)
  | work (stk gs : List Dat)
  | hooks
def Mo.one : Mo → Bool
  | .work _ _ => false
  | .hooks => false
  | _ => true
abbrev Mu := List (Addr × Mo)
def MoIn (imm : Led) (x : Obj) : Mo → Prop
  | .o y => x = y
  | .l ds => ∃ vs n, x = listOf (List.toArray vs) n ∧ DatAll imm vs ds
  | .work _ _ => False
  | .hooks => False
theorem MoIn.mono {imm imm' : Led} {x : Obj} {y : Mo} (hs : ∀ p ∈ imm, p ∈ imm') (h : MoIn imm x y) : MoIn imm' x y := by
  cases y with
  | o y => exact h
  | l ds =>
    obtain ⟨vs, n, e, h⟩ := h
    exact ⟨vs, n, e, DatAll.mono hs h⟩
  | work _ _ => exact h
  | hooks => exact h
inductive WD : List DictEntry → Addr → Addr → Prop
  | mk {h1 h2 h3 h4 t1 t2 t3 t4 al ag} : WD [⟨h1, .str (Str.ofString "stack") t1, .ref al⟩, ⟨h2, .str (Str.ofString "guards") t2, .ref ag⟩, ⟨h3, .str (Str.ofString "found") t3, .none⟩, ⟨h4, .str (Str.ofString "goal") t4, .none⟩] al ag
inductive HD : List DictEntry → Prop
  | mk {h1 h2 h3 t1 t2 t3 v2 v3} : HD [⟨h1, .str (Str.ofString "replies") t1, .ref 357⟩, ⟨h2, .str (Str.ofString "labels") t2, v2⟩, ⟨h3, .str (Str.ofString "notes") t3, v3⟩]
inductive MAll (imm : Led) : Led → Mu → Prop
  | nil : MAll imm [] []
  | cons {a x y l L} : MoIn imm x y → MAll imm l L → MAll imm ((a, x) :: l) ((a, y) :: L)
  | work {a ad al ag es n vs k us j stk gs l L} : WD es al ag → DatAll imm vs stk → DatAll imm us gs → MAll imm l L →
      MAll imm ((a, instObj 103 ad) :: (ad, dictOf es n) :: (al, listOf (List.toArray vs) k) :: (ag, listOf (List.toArray us) j) :: l) ((a, .work stk gs) :: L)
  | hooks {a ad es n l L} : HD es → MAll imm l L → MAll imm ((a, instObj 250 ad) :: (ad, dictOf es n) :: l) ((a, .hooks) :: L)
theorem MAll.mono {imm imm' : Led} (hs : ∀ p ∈ imm, p ∈ imm') {l L} (h : MAll imm l L) : MAll imm' l L := by
  induction h with
  | nil => exact .nil
  | cons h _ ih => exact .cons (h.mono hs) ih
  | work h1 h2 h3 _ ih => exact .work h1 (DatAll.mono hs h2) (DatAll.mono hs h3) ih
  | hooks h1 _ ih => exact .hooks h1 ih
def Locs (imm : Led) (m : Str → Option Value) (σ : List (Str × V)) : Prop := ∀ x X, σ.lookup x = some X → ∃ v, m x = some v ∧ VIn imm v X
theorem Locs.mono {imm imm' : Led} {m σ} (hs : ∀ p ∈ imm, p ∈ imm') (h : Locs imm m σ) : Locs imm' m σ := fun x X e => let ⟨v, a, b⟩ := h x X e; ⟨v, a, b.mono hs⟩
theorem Locs.set {imm : Led} {m σ} {x : Str} {v : Value} {X : V} (h : Locs imm m σ) (hv : VIn imm v X) : Locs imm (fun y => if y = x then some v else m y) ((x, X) :: σ) := by
  intro y Y e
  rw [List.lookup_cons] at e
  by_cases hy : y = x
  · subst hy; simp at e; subst e; exact ⟨v, by simp, hv⟩
  · have : (y == x) = false := by simpa using hy
    rw [this] at e
    obtain ⟨u, a, b⟩ := h y Y e
    exact ⟨u, by simpa [hy] using a, b⟩
structure Fi where
  cn : Str
  cs : Scope
  a : Addr
  ccd : Value
structure Cx (K : Frag) (p : Program) (fi : Fi) where
  room : Nat
  dp : Nat
  un : Nat
  gd : Option (List Code)
  L : Addr
  cl : List (Str × Addr)
  outer : List Env
  A₀ : Around
  base : Heap
  h₀ : Heap
  loose : List Str
  mean : ExcName → Option Value
  mg : Str → Option Value
  mb : Str → Option Value
  imm₀ : Led
  s₀ : Shared
  cv : List (Str × V)
  hcv : ∀ x X, cv.lookup x = some X → ∃ c o v, cl.lookup x = some c ∧ (c, o) ∈ imm₀ ∧ o.data = .cell (some v) ∧ VIn imm₀ v X
  hB : Below A₀ base outer h₀
  hX : K.In h₀
  hT : Top p loose mean mg mb h₀
  hk : fi.cs.kind = .function
  hd : dp + room < recursionLimit
  hu : un + 8 * room + 80 < cLine
variable {K : Frag} {p : Program} {fi : Fi}
abbrev Cx.env (C : Cx K p fi) : Env := envX fi.cn fi.cs C.L fi.a fi.ccd C.cl
abbrev Cx.A (C : Cx K p fi) : Around := ktrTop C.dp C.un C.gd fi.cn fi.cs C.L fi.a fi.ccd C.cl C.outer
structure Sx (C : Cx K p fi) (σ : List (Str × V)) (μ : Mu) (ts : List Value) (Ts : List V) (s : Shared) (m : Str → Option Value) (imm μr : Led) : Prop where
  fr : Fr C.h₀ C.L s.heap m
  nw : News C.h₀ C.L s.heap (μr ++ imm)
  ap : ∀ p ∈ μr, ∀ q ∈ imm, p.1 ≠ q.1
  nd : (μr.map (·.1)).Nodup
  ma : MAll imm μr μ
  im : ∀ p ∈ C.imm₀, p ∈ imm
  lo : Locs imm m σ
  tm : VAll imm ts Ts
  sm : s = { C.s₀ with heap := s.heap, toks := s.toks }
def St (C : Cx K p fi) (σ : List (Str × V)) (μ : Mu) (ts : List Value) (Ts : List V) (s : Shared) : Prop := ∃ m imm μr, Sx C σ μ ts Ts s m imm μr
def StM (C : Cx K p fi) (σ : List (Str × V)) (μ : Mu) (ts : List Value) (Ts : List V) (m : Str → Option Value) (s : Shared) : Prop := ∃ imm μr, Sx C σ μ ts Ts s m imm μr
theorem StM.st {C : Cx K p fi} {σ : List (Str × V)} {μ : Mu} {ts : List Value} {Ts : List V} {m : Str → Option Value} {s : Shared} (S : StM C σ μ ts Ts m s) : St C σ μ ts Ts s := let ⟨imm, μr, S⟩ := S; ⟨m, imm, μr, S⟩
theorem St.stM {C : Cx K p fi} {σ : List (Str × V)} {μ : Mu} {ts : List Value} {Ts : List V} {s : Shared} (S : St C σ μ ts Ts s) : ∃ m, StM C σ μ ts Ts m s := let ⟨m, imm, μr, S⟩ := S; ⟨m, imm, μr, S⟩
variable (prog : Program) (w : World)
def Ev (C : Cx K p fi) (σ : List (Str × V)) (μ : Mu) (e : Expr) (X : V) (μ' : Mu) : Prop :=
  ∀ m ts Ts s (Q : Value → Shared → Prop) E, StM C σ μ ts Ts m s → (∀ v s', StM C σ μ' (v :: ts) (X :: Ts) m s' → Q v s') → wpAny (model prog w) C.A (eval e C.env) Q E s
def EvL (C : Cx K p fi) (σ : List (Str × V)) (μ : Mu) (es : List Expr) (Xs : List V) (μ' : Mu) : Prop :=
  ∀ pos m ts Ts s (Q : List Value → Shared → Prop) E, StM C σ μ ts Ts m s → (∀ vs s', vs.length = Xs.length → StM C σ μ' (vs ++ ts) (Xs ++ Ts) m s' → Q vs s') → wpAny (model prog w) C.A (spliced (backTo pos (starEach es C.env))) Q E s
def EvT (C : Cx K p fi) (σ : List (Str × V)) (μ : Mu) (e : Expr) (b : Bool) (μ' : Mu) : Prop :=
  ∀ m ts Ts s (Q : Bool → Shared → Prop) E, StM C σ μ ts Ts m s → (∀ s', StM C σ μ' ts Ts m s' → Q b s') → wpAny (model prog w) C.A (isTrue e C.env (eval e C.env)) Q E s
inductive Out where
  | next (σ : List (Str × V)) (μ : Mu)
  | ret (X : V) (μ : Mu)
  | retN (y : Mo) (μ : Mu)
def Out.holds (C : Cx K p fi) (ts : List Value) (Ts : List V) (f : Flow) (s : Shared) : Out → Prop
  | .next σ μ => f = .next ∧ St C σ μ ts Ts s
  | .ret X μ => ∃ v, f = .ret v ∧ St C [] μ (v :: ts) (X :: Ts) s
  | .retN y μ => ∃ b, f = .ret (.ref b) ∧ St C [] ((b, y) :: μ) (.ref b :: ts) (.r b :: Ts) s
def Ex (C : Cx K p fi) (σ : List (Str × V)) (μ : Mu) (ss : List Stmt) (O : Out) : Prop :=
  ∀ ts Ts s (Q : Flow → Shared → Prop) E, St C σ μ ts Ts s → (∀ f s', O.holds C ts Ts f s' → Q f s') → wpAny (model prog w) C.A (execs ss C.env) Q E s
def Spec (K : Frag) (p : Program) (n : Nat) (f : Addr) (Xs : List V) (μ : Mu) (X : V) (μ' : Mu) : Prop :=
  ∀ (fi : Fi) (C : Cx K p fi) σ m ts Ts vs s (Q : Value → Shared → Prop) E, n ≤ C.room → vs.length = Xs.length → StM C σ μ (vs ++ ts) (Xs ++ Ts) m s →
    (∀ v s', StM C σ μ' (v :: ts) (X :: Ts) m s' → Q v s') → wpAny (model prog w) C.A (call (.ref f) vs) Q E s
section basics
variable {C : Cx K p fi} {σ : List (Str × V)} {μ : Mu} {ts : List Value} {Ts : List V} {s : Shared}
theorem Sx.toks {m imm μr} (S : Sx C σ μ ts Ts s m imm μr) {h' : Heap} {tk : Nat} (hh : h' = s.heap) : Sx C σ μ ts Ts { s with heap := h', toks := tk } m imm μr := by
  subst hh
  obtain ⟨a1, a2, a3, a4, am, a5, a6, a7, a8⟩ := S
  exact ⟨a1, a2, a3, a4, am, a5, a6, a7, by rw [a8]⟩
theorem Sx.push {m imm μr} (S : Sx C σ μ ts Ts s m imm μr) {v : Value} {X : V} (h : VIn imm v X) : Sx C σ μ (v :: ts) (X :: Ts) s m imm μr :=
  ⟨S.fr, S.nw, S.ap, S.nd, S.ma, S.im, S.lo, .cons h S.tm, S.sm⟩
theorem Sx.pop {m imm μr v X} (S : Sx C σ μ (v :: ts) (X :: Ts) s m imm μr) : VIn imm v X ∧ Sx C σ μ ts Ts s m imm μr := by
  obtain ⟨a1, a2, a3, a4, am, a5, a6, a7, a8⟩ := S
  cases a7 with
  | cons h r => exact ⟨h, a1, a2, a3, a4, am, a5, a6, r, a8⟩
theorem Sx.temps {m imm μr ts' Ts'} (S : Sx C σ μ ts Ts s m imm μr) (h : VAll imm ts' Ts') : Sx C σ μ ts' Ts' s m imm μr := ⟨S.fr, S.nw, S.ap, S.nd, S.ma, S.im, S.lo, h, S.sm⟩
theorem Sx.grow {m imm μr} (S : Sx C σ μ ts Ts s m imm μr) {h' : Heap} {tk : Nat} {a : Addr} {o : Obj} (F : Fr C.h₀ C.L h' m) (N : News C.h₀ C.L h' ((a, o) :: (μr ++ imm))) (ha : ∀ q ∈ μr, q.1 ≠ a) :
    Sx C σ μ ts Ts { s with heap := h', toks := tk } m ((a, o) :: imm) μr := by
  obtain ⟨a1, a2, a3, a4, am, a5, a6, a7, a8⟩ := S
  have sub : ∀ q ∈ imm, q ∈ (a, o) :: imm := fun q hq => .tail _ hq
  refine ⟨F, fun q hq => N q ?_, ?_, a4, am.mono sub, fun q hq => .tail _ (a5 q hq), a6.mono sub, a7.mono sub, by rw [a8]⟩
  · rcases List.mem_append.mp hq with hq | hq
    · exact .tail _ (List.mem_append.mpr (.inl hq))
    · rcases List.mem_cons.mp hq with rfl | hq
      · exact .head _
      · exact .tail _ (List.mem_append.mpr (.inr hq))
  · intro q hq r hr
    rcases List.mem_cons.mp hr with rfl | hr
    · exact ha q hq
    · exact a3 q hq r hr
theorem Sx.offSize {m imm μr} (S : Sx C σ μ ts Ts s m imm μr) : ∀ q ∈ μr, q.1 ≠ s.heap.objs.size := fun q hq => Nat.ne_of_lt (Heap.lt_size (S.nw q (List.mem_append.mpr (.inl hq))).1)
theorem Sx.alloc {m imm μr} (S : Sx C σ μ ts Ts s m imm μr) (o : Obj) (hf : o.isFreed = false) {tk : Nat} : Sx C σ μ ts Ts { s with heap := s.heap.push o, toks := tk } m ((s.heap.objs.size, o) :: imm) μr :=
  S.grow (S.fr.push o) (News.push S.fr S.nw o hf) S.offSize
theorem Sx.allocM {m imm μr} (S : Sx C σ μ ts Ts s m imm μr) {h' : Heap} {tk : Nat} {a : Addr} {o : Obj} {y : Mo} (F : Fr C.h₀ C.L h' m) (N : News C.h₀ C.L h' ((a, o) :: (μr ++ imm))) (ha : ∀ q ∈ μr ++ imm, q.1 ≠ a) (hy : MoIn imm o y) :
    Sx C σ ((a, y) :: μ) ts Ts { s with heap := h', toks := tk } m imm ((a, o) :: μr) := by
  obtain ⟨a1, a2, a3, a4, am, a5, a6, a7, a8⟩ := S
  refine ⟨F, N, ?_, ?_, .cons hy am, a5, a6, a7, by rw [a8]⟩
  · intro q hq r hr
    rcases List.mem_cons.mp hq with rfl | hq
    · exact Ne.symm (ha r (List.mem_append.mpr (.inr hr)))
    · exact a3 q hq r hr
  · rw [List.map_cons, List.nodup_cons]
    refine ⟨fun hm => ?_, a4⟩
    obtain ⟨q, hq, e⟩ := List.mem_map.mp hm
    exact ha q (List.mem_append.mpr (.inl hq)) e
theorem Sx.freeze {m imm μr} {a : Addr} {o : Obj} {y : Mo} (S : Sx C σ ((a, y) :: μ) ts Ts s m imm ((a, o) :: μr)) (hy : y.one = true := by rfl) : MoIn imm o y ∧ Sx C σ μ ts Ts s m ((a, o) :: imm) μr := by
  obtain ⟨a1, a2, a3, a4, am, a5, a6, a7, a8⟩ := S
  have sub : ∀ q ∈ imm, q ∈ (a, o) :: imm := fun q hq => .tail _ hq
  rw [List.map_cons, List.nodup_cons] at a4
  cases am with
  | work _ _ _ _ => cases hy
  | hooks _ _ => cases hy
  | cons hm am =>
    refine ⟨hm, a1, fun q hq => a2 q ?_, ?_, a4.2, am.mono sub, fun q hq => .tail _ (a5 q hq), a6.mono sub, a7.mono sub, a8⟩
    · rcases List.mem_append.mp hq with hq | hq
      · exact .tail _ (List.mem_append.mpr (.inl hq))
      · rcases List.mem_cons.mp hq with rfl | hq
        · exact .head _
        · exact .tail _ (List.mem_append.mpr (.inr hq))
    · intro q hq r hr
      rcases List.mem_cons.mp hr with rfl | hr
      · intro e
        exact a4.1 (List.mem_map.mpr ⟨q, hq, e⟩)
      · exact a3 q (.tail _ hq) r hr
theorem St.toks (S : St C σ μ ts Ts s) {h' : Heap} {tk : Nat} (hh : h' = s.heap) : St C σ μ ts Ts { s with heap := h', toks := tk } := let ⟨m, imm, μr, S⟩ := S; ⟨m, imm, μr, S.toks hh⟩
theorem St.pushD (S : St C σ μ ts Ts s) {v : Value} {x : Dat} (h : ∀ n, DatIn n v x) : St C σ μ (v :: ts) (.d x :: Ts) s := let ⟨m, imm, μr, S⟩ := S; ⟨m, imm, μr, S.push (h imm)⟩
theorem St.pop {v X} (S : St C σ μ (v :: ts) (X :: Ts) s) : St C σ μ ts Ts s := let ⟨m, imm, μr, S⟩ := S; ⟨m, imm, μr, S.pop.2⟩
theorem St.toNil {σ' ts' Ts'} (S : St C σ μ ts Ts s) (h : ∀ m imm, Locs imm m σ → Locs imm m σ') (k : ∀ imm, VAll imm ts Ts → VAll imm ts' Ts') : St C σ' μ ts' Ts' s :=
  let ⟨m, imm, μr, S⟩ := S; ⟨m, imm, μr, S.fr, S.nw, S.ap, S.nd, S.ma, S.im, h m imm S.lo, k imm S.tm, S.sm⟩
variable {m : Str → Option Value}
theorem StM.toks (S : StM C σ μ ts Ts m s) {h' : Heap} {tk : Nat} (hh : h' = s.heap) : StM C σ μ ts Ts m { s with heap := h', toks := tk } := let ⟨imm, μr, S⟩ := S; ⟨imm, μr, S.toks hh⟩
theorem StM.pushD (S : StM C σ μ ts Ts m s) {v : Value} {x : Dat} (h : ∀ n, DatIn n v x) : StM C σ μ (v :: ts) (.d x :: Ts) m s := let ⟨imm, μr, S⟩ := S; ⟨imm, μr, S.push (h imm)⟩
theorem StM.pop {v X} (S : StM C σ μ (v :: ts) (X :: Ts) m s) : StM C σ μ ts Ts m s := let ⟨imm, μr, S⟩ := S; ⟨imm, μr, S.pop.2⟩
theorem StM.temps {ts' Ts'} (S : StM C σ μ ts Ts m s) (k : ∀ imm, VAll imm ts Ts → VAll imm ts' Ts') : StM C σ μ ts' Ts' m s :=
  let ⟨imm, μr, S⟩ := S; ⟨imm, μr, S.temps (k imm S.tm)⟩
end basics
variable {prog w}
variable {C : Cx K p fi} {σ : List (Str × V)} {μ μ₁ μ₂ μ₃ : Mu} {pos : Pos}
theorem Ev.int {i : Int} {k : Nat} : Ev prog w C σ μ (.Constant (.int i) k pos) (.d (.int i)) μ :=
  fun _ _ _ _ _ _ S h => wpAny_Constant_int (h _ _ ((S.toks rfl).pushD fun _ => .int _ _))
theorem Ev.str {x : Str} {k : Nat} : Ev prog w C σ μ (.Constant (.str x) k pos) (.d (.str x)) μ :=
  fun _ _ _ _ _ _ S h => Calls.Constant_str (h _ _ ((S.toks rfl).pushD fun _ => .str _ _))
theorem Ev.bool {b : Bool} {k : Nat} : Ev prog w C σ μ (.Constant (.bool b) k pos) (.d (.bool b)) μ :=
  fun _ _ _ _ _ _ S h => wpAny_pure (h _ _ (S.pushD fun _ => .bool _))
theorem Ev.none {k : Nat} : Ev prog w C σ μ (.Constant .none k pos) (.d .none) μ :=
  fun _ _ _ _ _ _ S h => wpAny_pure (h _ _ (S.pushD fun _ => .none))
theorem Ev.loc {x : Str} {X : V} (hl : σ.lookup x = some X) (hk : fi.cs.names.lookup x = some .local) (hd : (x == ("__debug__" : Str)) = false) : Ev prog w C σ μ (.Name x pos) X μ := by
  rintro m ts Ts s Q E ⟨imm, μr, S⟩ h
  obtain ⟨v, hv, hV⟩ := S.lo x X hl
  exact nameX_L S.fr hv (h _ _ ⟨imm, μr, S.push hV⟩) C.hk hk hd
theorem Ev.ifexp {t b o : Expr} {c : Bool} {X : V} (ht : EvT prog w C σ μ t c μ₁) (h : Ev prog w C σ μ₁ (if c then b else o) X μ₂) : Ev prog w C σ μ (.IfExp t b o pos) X μ₂ := by
  intro m ts Ts s Q E S k
  refine IfExp_ (ht _ _ _ _ _ _ S fun s' S' => ?_)
  cases c
  · exact h _ _ _ _ _ _ S' k
  · exact h _ _ _ _ _ _ S' k
theorem EvL.nil : EvL prog w C σ μ [] [] μ := fun _ _ _ _ _ _ _ S h => spliced_none (h _ _ rfl S)
theorem EvL.cons {e : Expr} {es : List Expr} {X : V} {Xs : List V} (h1 : Ev prog w C σ μ e X μ₁) (h2 : EvL prog w C σ μ₁ es Xs μ₂)
    (he : starEach (e :: es) C.env = (false, eval e C.env) :: starEach es C.env := by rfl) : EvL prog w C σ μ (e :: es) (X :: Xs) μ₂ := by
  intro pos m ts Ts s Q E S k
  refine spliced_more (h1 _ _ _ _ _ _ S fun v s' S' => h2 _ _ _ _ _ _ _ S' fun vs s'' hl S'' => k _ _ (by simp [hl]) ?_) he
  refine S''.temps fun imm h => ?_
  obtain ⟨a, b⟩ := VAll.split _ hl h
  cases b with
  | cons b c => exact .cons b (a.append c)
def EvD (prog : Program) (w : World) (C : Cx K p fi) (σ : List (Str × V)) (μ : Mu) (es : List Expr) (ds : List Dat) (μ' : Mu) : Prop := EvL prog w C σ μ es (ds.map V.d) μ'
theorem EvD.nil : EvD prog w C σ μ [] [] μ := EvL.nil
theorem EvD.cons {e : Expr} {es : List Expr} {x : Dat} {xs : List Dat} (h1 : Ev prog w C σ μ e (.d x) μ₁) (h2 : EvD prog w C σ μ₁ es xs μ₂)
    (he : starEach (e :: es) C.env = (false, eval e C.env) :: starEach es C.env := by rfl) : EvD prog w C σ μ (e :: es) (x :: xs) μ₂ := EvL.cons h1 h2 he
theorem Ev.tup {es : List Expr} {k : Nat} {ds : List Dat} (h : EvD prog w C σ μ es ds μ₁) (hz : ds.length ≤ 1000) : Ev prog w C σ μ (.Tuple es k pos) (.d (.tuple ds)) μ₁ := by
  intro m ts Ts s Q E S k
  refine Tuple_ (h _ _ _ _ _ _ _ S fun vs s' hl S' => ?_)
  obtain ⟨imm, μr, S'⟩ := S'
  obtain ⟨ha, hb⟩ := VAll.split _ hl S'.tm
  have hd : ∀ (vs : List Value) (ds : List Dat), VAll imm vs (ds.map V.d) → DatAll imm vs ds := by
    intro vs ds
    induction ds generalizing vs with
    | nil => intro h; cases h; exact .nil
    | cons d ds ih => intro h; cases h with | cons h r => exact .cons h (ih _ r)
  refine wpAny_newObj_type (k _ _ ⟨_, μr, Sx.push (S'.temps hb |>.alloc _ rfl) ?_⟩) ?_
  · exact DatIn.tuple (n := 0) (.head _) (DatAll.mono (fun q hq => .tail _ hq) (hd _ _ ha))
  · show vs.toArray.size ≤ sizeLine
    rw [List.size_toArray, hl, List.length_map, sizeLine_eq]; omega
theorem Ev.list {es : List Expr} {ds : List Dat} (h : EvD prog w C σ μ es ds μ₁) (hz : ds.length ≤ 1000) : Ev prog w C σ μ (.List es pos) (.d (.list ds)) μ₁ := by
  intro m ts Ts s Q E S k
  refine List_ (h _ _ _ _ _ _ _ S fun vs s' hl S' => ?_)
  obtain ⟨imm, μr, S'⟩ := S'
  obtain ⟨ha, hb⟩ := VAll.split _ hl S'.tm
  have hd : ∀ (vs : List Value) (ds : List Dat), VAll imm vs (ds.map V.d) → DatAll imm vs ds := by
    intro vs ds
    induction ds generalizing vs with
    | nil => intro h; cases h; exact .nil
    | cons d ds ih => intro h; cases h with | cons h r => exact .cons h (ih _ r)
  refine wpAny_newObj_type (k _ _ ⟨_, μr, Sx.push (S'.temps hb |>.alloc _ rfl) ?_⟩) ?_
  · exact DatIn.list (n := 0) (.head _) (DatAll.mono (fun q hq => .tail _ hq) (hd _ _ ha))
  · show vs.toArray.size ≤ sizeLine
    rw [List.size_toArray, hl, List.length_map, sizeLine_eq]; omega
end Mine
namespace Mine
section inv
variable {imm : Led} {v : Value}
theorem dat_list {xs : List Dat} (h : DatIn imm v (.list xs)) : ∃ a vs n, v = .ref a ∧ (a, listOf (List.toArray vs) n) ∈ imm ∧ DatAll imm vs xs := by
  cases h with | list h r => exact ⟨_, _, _, rfl, h, r⟩
theorem dat_tuple {xs : List Dat} (h : DatIn imm v (.tuple xs)) : ∃ a vs n, v = .ref a ∧ (a, ({ cls := .type "tuple", data := .seq (List.toArray vs) n } : Obj)) ∈ imm ∧ DatAll imm vs xs := by
  cases h with | tuple h r => exact ⟨_, _, _, rfl, h, r⟩
theorem dat_int {i : Int} (h : DatIn imm v (.int i)) : ∃ t, v = .int i t := by cases h; exact ⟨_, rfl⟩
theorem dat_str {i : Str} (h : DatIn imm v (.str i)) : ∃ t, v = .str i t := by cases h; exact ⟨_, rfl⟩
theorem dat_bool {i : Bool} (h : DatIn imm v (.bool i)) : v = .bool i := by cases h; rfl
theorem dat_none (h : DatIn imm v .none) : v = .none := by cases h; rfl
theorem datAll_drop : ∀ {vs : List Value} {ds : List Dat}, DatAll imm vs ds → ∀ n, DatAll imm (vs.drop n) (ds.drop n)
  | _, _, h, 0 => h
  | _, _, .nil, _ + 1 => .nil
  | _, _, .cons _ r, n + 1 => datAll_drop r n
theorem datAll_take : ∀ {vs : List Value} {ds : List Dat}, DatAll imm vs ds → ∀ n, DatAll imm (vs.take n) (ds.take n)
  | _, _, _, 0 => .nil
  | _, _, .nil, _ + 1 => .nil
  | _, _, .cons h r, n + 1 => .cons h (datAll_take r n)
end inv
variable {K : Frag} {p : Program} {fi : Fi} {prog : Program} {w : World}
variable {C : Cx K p fi} {σ : List (Str × V)} {μ μ₁ μ₂ μ₃ : Mu} {pos px : Pos} {ts : List Value} {Ts : List V} {s : Shared}
theorem Sx.isList {m imm μr} (S : Sx C σ μ ts Ts s m imm μr) {a : Addr} {vs : List Value} {n : Nat} (h : (a, listOf (List.toArray vs) n) ∈ imm) : s.heap.IsList a vs.toArray :=
  ⟨_, (S.nw _ (List.mem_append.mpr (.inr h))).1, rfl, n, rfl⟩
theorem Sx.isTup {m imm μr} (S : Sx C σ μ ts Ts s m imm μr) {a : Addr} {vs : List Value} {n : Nat} (h : (a, ({ cls := .type "tuple", data := .seq (List.toArray vs) n } : Obj)) ∈ imm) : IsTup s.heap a vs.toArray :=
  ⟨_, (S.nw _ (List.mem_append.mpr (.inr h))).1, rfl, n, rfl⟩
theorem Ev.addL {a b : Expr} {xs ys : List Dat} (h1 : Ev prog w C σ μ a (.d (.list xs)) μ₁) (h2 : Ev prog w C σ μ₁ b (.d (.list ys)) μ₂) (hz : xs.length + ys.length ≤ 16777216) :
    Ev prog w C σ μ (.BinOp a .Add b pos) (.d (.list (xs ++ ys))) μ₂ := by
  intro m ts Ts s Q E S k
  refine wpAny_BinOp (h1 _ _ _ _ _ _ S fun va s1 S1 => h2 _ _ _ _ _ _ S1 fun vb s2 S2 => ?_)
  obtain ⟨imm, μr, S2⟩ := S2
  obtain ⟨hb, S3⟩ := S2.pop
  obtain ⟨ha, S4⟩ := S3.pop
  obtain ⟨aa, vs, n, rfl, ma, Da⟩ := dat_list ha
  obtain ⟨ab, us, n', rfl, mb, Db⟩ := dat_list hb
  refine add_arrays S4.fr S4.nw (S4.isList ma) (S4.isList mb) (fun h' F N => ?_) ?_
  · refine k _ _ ⟨_, μr, (S4.grow (tk := s2.toks) F N S4.offSize).push ?_⟩
    have sub : ∀ q ∈ imm, q ∈ (s2.heap.objs.size, ({ cls := .type "list", data := .seq ((vs.toArray).toList ++ (us.toArray).toList).toArray } : Obj)) :: imm := fun q hq => .tail _ hq
    exact DatIn.list (n := 0) (.head _) ((DatAll.mono sub Da).append (DatAll.mono sub Db))
  · have e1 := Da.length
    have e2 := Db.length
    simp only [List.size_toArray, sizeLine_eq]; omega
theorem Ev.addI {a b : Expr} {x y : Int} (h1 : Ev prog w C σ μ a (.d (.int x)) μ₁) (h2 : Ev prog w C σ μ₁ b (.d (.int y)) μ₂) : Ev prog w C σ μ (.BinOp a .Add b pos) (.d (.int (x + y))) μ₂ := by
  intro m ts Ts s Q E S k
  refine wpAny_BinOp (h1 _ _ _ _ _ _ S fun va s1 S1 => h2 _ _ _ _ _ _ S1 fun vb s2 S2 => ?_)
  obtain ⟨imm, μr, S2⟩ := S2
  obtain ⟨hb, S3⟩ := S2.pop
  obtain ⟨ha, S4⟩ := S3.pop
  obtain ⟨ta, rfl⟩ := dat_int ha
  obtain ⟨tb, rfl⟩ := dat_int hb
  exact add_int (k _ _ ⟨imm, μr, (S4.toks rfl).push (.int _ _)⟩)
theorem Ev.subI {a b : Expr} {x y : Int} (h1 : Ev prog w C σ μ a (.d (.int x)) μ₁) (h2 : Ev prog w C σ μ₁ b (.d (.int y)) μ₂) : Ev prog w C σ μ (.BinOp a .Sub b pos) (.d (.int (x - y))) μ₂ := by
  intro m ts Ts s Q E S k
  refine wpAny_BinOp (h1 _ _ _ _ _ _ S fun va s1 S1 => h2 _ _ _ _ _ _ S1 fun vb s2 S2 => ?_)
  obtain ⟨imm, μr, S2⟩ := S2
  obtain ⟨hb, S3⟩ := S2.pop
  obtain ⟨ha, S4⟩ := S3.pop
  obtain ⟨ta, rfl⟩ := dat_int ha
  obtain ⟨tb, rfl⟩ := dat_int hb
  exact sub_int (k _ _ ⟨imm, μr, (S4.toks rfl).push (.int _ _)⟩)
theorem Ev.modI {a b : Expr} {x y : Int} (h1 : Ev prog w C σ μ a (.d (.int x)) μ₁) (h2 : Ev prog w C σ μ₁ b (.d (.int y)) μ₂) (hy : y ≠ 0) : Ev prog w C σ μ (.BinOp a .Mod b pos) (.d (.int (x.fmod y))) μ₂ := by
  intro m ts Ts s Q E S k
  refine wpAny_BinOp (h1 _ _ _ _ _ _ S fun va s1 S1 => h2 _ _ _ _ _ _ S1 fun vb s2 S2 => ?_)
  obtain ⟨imm, μr, S2⟩ := S2
  obtain ⟨hb, S3⟩ := S2.pop
  obtain ⟨ha, S4⟩ := S3.pop
  obtain ⟨ta, rfl⟩ := dat_int ha
  obtain ⟨tb, rfl⟩ := dat_int hb
  exact mod_int' hy (k _ _ ⟨imm, μr, (S4.toks rfl).push (.int _ _)⟩)
theorem Ev.itemL {a b : Expr} {xs : List Dat} {i : Int} {x : Dat} (h1 : Ev prog w C σ μ a (.d (.list xs)) μ₁) (h2 : Ev prog w C σ μ₁ b (.d (.int i)) μ₂) (h0 : 0 ≤ i) (hx : xs[i.toNat]? = some x) (hi : i < 16777216)
    (hs : ∀ o i, subscripted b false o i = operate [o, i] (getItem o i)) : Ev prog w C σ μ (.Subscript a b pos) (.d x) μ₂ := by
  intro m ts Ts s Q E S k
  refine Subscript_ (h1 _ _ _ _ _ _ S fun va s1 S1 => h2 _ _ _ _ _ _ S1 fun vb s2 S2 => ?_)
  obtain ⟨imm, μr, S2⟩ := S2
  obtain ⟨hb, S3⟩ := S2.pop
  obtain ⟨ha, S4⟩ := S3.pop
  obtain ⟨aa, vs, n, rfl, ma, Da⟩ := dat_list ha
  obtain ⟨tb, rfl⟩ := dat_int hb
  obtain ⟨hlt, rfl⟩ := List.getElem?_eq_some_iff.mp hx
  obtain ⟨v, hv, hd⟩ := Da.get hlt
  exact tail_any (S4.isList ma).typeIs slot_list_getitem.lookup (wpAny_getItem_list (S4.isList ma) h0 (by omega) (by simpa using hv) (k _ _ ⟨imm, μr, S4.push hd⟩)) (hs _ _)
theorem Ev.itemT {a b : Expr} {xs : List Dat} {i : Int} {x : Dat} (h1 : Ev prog w C σ μ a (.d (.tuple xs)) μ₁) (h2 : Ev prog w C σ μ₁ b (.d (.int i)) μ₂) (h0 : 0 ≤ i) (hx : xs[i.toNat]? = some x) (hi : i < 16777216)
    (hs : ∀ o i, subscripted b false o i = operate [o, i] (getItem o i)) : Ev prog w C σ μ (.Subscript a b pos) (.d x) μ₂ := by
  intro m ts Ts s Q E S k
  refine Subscript_ (h1 _ _ _ _ _ _ S fun va s1 S1 => h2 _ _ _ _ _ _ S1 fun vb s2 S2 => ?_)
  obtain ⟨imm, μr, S2⟩ := S2
  obtain ⟨hb, S3⟩ := S2.pop
  obtain ⟨ha, S4⟩ := S3.pop
  obtain ⟨aa, vs, n, rfl, ma, Da⟩ := dat_tuple ha
  obtain ⟨tb, rfl⟩ := dat_int hb
  obtain ⟨hlt, rfl⟩ := List.getElem?_eq_some_iff.mp hx
  obtain ⟨v, hv, hd⟩ := Da.get hlt
  have hvl := Da.length
  refine tail_any (S4.isTup ma).typeIs slot_tuple_getitem.lookup (getItem_tuple (j := i.toNat) (S4.isTup ma) (by omega) (by omega) ?_ (by simpa using hv) (k _ _ ⟨imm, μr, S4.push hd⟩)) (hs _ _)
  unfold seqIndex?
  simp only [List.size_toArray]
  have e : ¬ i < 0 := by omega
  simp only [e, if_false]
  have e2 : ¬ (vs.length : Int) ≤ i := by omega
  simp [e2, h0]
theorem slice_from (its : Array Value) {x : Int} (h : 0 ≤ x) : slicePick its (some x) none none = (its.toList.drop x.toNat).toArray := by
  have e : sliceBounds (some x) none none its.size = (((min x.toNat its.size : Nat) : Int), ((its.size : Nat) : Int), 1) := by
    simp only [sliceBounds, Option.getD_none, show (1 : Int) > 0 by decide, if_true, if_neg (show ¬ (x < 0) by omega)]
    congr 1
    omega
  rw [kmk_pick_nat _ e, ← Array.length_toList, kmk_drop_min, List.take_of_length_le (by rw [List.length_drop]; omega)]
theorem slice_upto (its : Array Value) {y : Int} (h : 0 ≤ y) : slicePick its none (some y) none = (its.toList.take y.toNat).toArray := by
  have e : sliceBounds none (some y) none its.size = (((0 : Nat) : Int), ((min y.toNat its.size : Nat) : Int), 1) := by
    simp only [sliceBounds, Option.getD_none, show (1 : Int) > 0 by decide, if_true, if_neg (show ¬ (y < 0) by omega)]
    congr 1
    congr 1
    omega
  rw [kmk_pick_nat _ e, List.drop_zero, Nat.sub_zero, ← Array.length_toList, kmk_take_min]
theorem Ev.from_ {a b : Expr} {ps : Pos} {xs : List Dat} {i : Int} (h1 : Ev prog w C σ μ a (.d (.list xs)) μ₁) (h2 : Ev prog w C σ μ₁ b (.d (.int i)) μ₂) (h0 : 0 ≤ i) (hz : xs.length ≤ 16777216) :
    Ev prog w C σ μ (.Subscript a (.Slice (some b) Option.none Option.none ps) pos) (.d (.list (xs.drop i.toNat))) μ₂ := by
  intro m ts Ts s Q E S k
  refine Subscript_ (h1 _ _ _ _ _ _ S fun va s1 S1 => wpAny_Slice ?_)
  rw [evalPart_some, evalPart_none]
  refine h2 _ _ _ _ _ _ S1 fun vb s2 S2 => wpAny_pure (wpAny_pure ?_)
  obtain ⟨imm, μr, S2⟩ := S2
  obtain ⟨hb, S3⟩ := S2.pop
  obtain ⟨ha, S4⟩ := S3.pop
  obtain ⟨aa, vs, n, rfl, ma, Da⟩ := dat_list ha
  obtain ⟨tb, rfl⟩ := dat_int hb
  have hl := S4.isList ma
  refine tail_any (T := "list") (ops := [.ref s2.heap.objs.size, .ref aa]) (Heap.IsList.typeIs (s := { s2 with heap := s2.heap.push { cls := .type "slice", data := .fields #[.int i tb, .none, .none] } }) (hl.push _)) slot_list_getitem.lookup
    (wpAny_getItem_list_slice (hl.push _) (Heap.IsSliceOf.new ..) (.int i tb) .none .none (by simp) ?_ ?_) rfl
  · rw [slice_from _ h0]
    have S5 := (S4.alloc (tk := s2.toks) { cls := .type "slice", data := .fields #[.int i tb, .none, .none] } rfl)
    have S6 := S5.alloc (tk := s2.toks) { cls := .type "list", data := .seq ((vs.toArray.toList.drop i.toNat).toArray) } rfl
    refine k _ _ ⟨_, μr, S6.push (DatIn.list (n := 0) (.head _) (DatAll.mono (fun q hq => .tail _ (.tail _ hq)) ?_))⟩
    exact datAll_drop Da _
  · have := Da.length
    simp only [List.size_toArray, sizeLine_eq]; omega
theorem Ev.upto {a b : Expr} {ps : Pos} {xs : List Dat} {i : Int} (h1 : Ev prog w C σ μ a (.d (.list xs)) μ₁) (h2 : Ev prog w C σ μ₁ b (.d (.int i)) μ₂) (h0 : 0 ≤ i) (hz : xs.length ≤ 16777216) :
    Ev prog w C σ μ (.Subscript a (.Slice Option.none (some b) Option.none ps) pos) (.d (.list (xs.take i.toNat))) μ₂ := by
  intro m ts Ts s Q E S k
  refine Subscript_ (h1 _ _ _ _ _ _ S fun va s1 S1 => wpAny_Slice ?_)
  rw [evalPart_some, evalPart_none]
  refine wpAny_pure (h2 _ _ _ _ _ _ S1 fun vb s2 S2 => wpAny_pure ?_)
  obtain ⟨imm, μr, S2⟩ := S2
  obtain ⟨hb, S3⟩ := S2.pop
  obtain ⟨ha, S4⟩ := S3.pop
  obtain ⟨aa, vs, n, rfl, ma, Da⟩ := dat_list ha
  obtain ⟨tb, rfl⟩ := dat_int hb
  have hl := S4.isList ma
  refine tail_any (T := "list") (ops := [.ref s2.heap.objs.size, .ref aa]) (Heap.IsList.typeIs (s := { s2 with heap := s2.heap.push { cls := .type "slice", data := .fields #[.none, .int i tb, .none] } }) (hl.push _)) slot_list_getitem.lookup
    (wpAny_getItem_list_slice (hl.push _) (Heap.IsSliceOf.new ..) .none (.int i tb) .none (by simp) ?_ ?_) rfl
  · rw [slice_upto _ h0]
    have S5 := (S4.alloc (tk := s2.toks) { cls := .type "slice", data := .fields #[.none, .int i tb, .none] } rfl)
    have S6 := S5.alloc (tk := s2.toks) { cls := .type "list", data := .seq ((vs.toArray.toList.take i.toNat).toArray) } rfl
    refine k _ _ ⟨_, μr, S6.push (DatIn.list (n := 0) (.head _) (DatAll.mono (fun q hq => .tail _ (.tail _ hq)) ?_))⟩
    exact datAll_take Da _
  · have := Da.length
    simp only [List.size_toArray, sizeLine_eq]; omega
theorem EvT.eqS {a b : Expr} {x y : Str} {r : Bool} (h1 : Ev prog w C σ μ a (.d (.str x)) μ₁) (h2 : Ev prog w C σ μ₁ b (.d (.str y)) μ₂) (hr : (x == y) = r)
    (hm : behindInMarks .Eq b = false := by rfl) : EvT prog w C σ μ (.Compare a [.Eq] [b] pos) r μ₂ := by
  intro m ts Ts s Q E S k
  refine wpAny_isTrue_Compare1 (h1 _ _ _ _ _ _ S fun va s1 S1 => h2 _ _ _ _ _ _ S1 fun vb s2 S2 => ?_) hm
  obtain ⟨imm, μr, S2⟩ := S2
  obtain ⟨hb, S3⟩ := S2.pop
  obtain ⟨ha, S4⟩ := S3.pop
  obtain ⟨ta, rfl⟩ := dat_str ha
  obtain ⟨tb, rfl⟩ := dat_str hb
  exact eq_str (wpAny_truthy_bool (hr ▸ k _ ⟨imm, μr, S4⟩))
theorem EvT.eqI {a b : Expr} {x y : Int} {r : Bool} (h1 : Ev prog w C σ μ a (.d (.int x)) μ₁) (h2 : Ev prog w C σ μ₁ b (.d (.int y)) μ₂) (hr : (x == y) = r)
    (hm : behindInMarks .Eq b = false := by rfl) : EvT prog w C σ μ (.Compare a [.Eq] [b] pos) r μ₂ := by
  intro m ts Ts s Q E S k
  refine wpAny_isTrue_Compare1 (h1 _ _ _ _ _ _ S fun va s1 S1 => h2 _ _ _ _ _ _ S1 fun vb s2 S2 => ?_) hm
  obtain ⟨imm, μr, S2⟩ := S2
  obtain ⟨hb, S3⟩ := S2.pop
  obtain ⟨ha, S4⟩ := S3.pop
  obtain ⟨ta, rfl⟩ := dat_int ha
  obtain ⟨tb, rfl⟩ := dat_int hb
  exact eq_int (wpAny_truthy_bool (hr ▸ k _ ⟨imm, μr, S4⟩))
theorem EvT.neI {a b : Expr} {x y : Int} {r : Bool} (h1 : Ev prog w C σ μ a (.d (.int x)) μ₁) (h2 : Ev prog w C σ μ₁ b (.d (.int y)) μ₂) (hr : (x != y) = r)
    (hm : behindInMarks .NotEq b = false := by rfl) : EvT prog w C σ μ (.Compare a [.NotEq] [b] pos) r μ₂ := by
  intro m ts Ts s Q E S k
  refine wpAny_isTrue_Compare1 (h1 _ _ _ _ _ _ S fun va s1 S1 => h2 _ _ _ _ _ _ S1 fun vb s2 S2 => ?_) hm
  obtain ⟨imm, μr, S2⟩ := S2
  obtain ⟨hb, S3⟩ := S2.pop
  obtain ⟨ha, S4⟩ := S3.pop
  obtain ⟨ta, rfl⟩ := dat_int ha
  obtain ⟨tb, rfl⟩ := dat_int hb
  exact ne_int (wpAny_truthy_bool (hr ▸ k _ ⟨imm, μr, S4⟩))
theorem EvT.gtI {a b : Expr} {x y : Int} {r : Bool} (h1 : Ev prog w C σ μ a (.d (.int x)) μ₁) (h2 : Ev prog w C σ μ₁ b (.d (.int y)) μ₂) (hr : decide (y < x) = r)
    (hm : behindInMarks .Gt b = false := by rfl) : EvT prog w C σ μ (.Compare a [.Gt] [b] pos) r μ₂ := by
  intro m ts Ts s Q E S k
  refine wpAny_isTrue_Compare1 (h1 _ _ _ _ _ _ S fun va s1 S1 => h2 _ _ _ _ _ _ S1 fun vb s2 S2 => ?_) hm
  obtain ⟨imm, μr, S2⟩ := S2
  obtain ⟨hb, S3⟩ := S2.pop
  obtain ⟨ha, S4⟩ := S3.pop
  obtain ⟨ta, rfl⟩ := dat_int ha
  obtain ⟨tb, rfl⟩ := dat_int hb
  exact gt_int (wpAny_truthy_bool (hr ▸ k _ ⟨imm, μr, S4⟩))
theorem EvT.ltI {a b : Expr} {x y : Int} {r : Bool} (h1 : Ev prog w C σ μ a (.d (.int x)) μ₁) (h2 : Ev prog w C σ μ₁ b (.d (.int y)) μ₂) (hr : decide (x < y) = r)
    (hm : behindInMarks .Lt b = false := by rfl) : EvT prog w C σ μ (.Compare a [.Lt] [b] pos) r μ₂ := by
  intro m ts Ts s Q E S k
  refine wpAny_isTrue_Compare1 (h1 _ _ _ _ _ _ S fun va s1 S1 => h2 _ _ _ _ _ _ S1 fun vb s2 S2 => ?_) hm
  obtain ⟨imm, μr, S2⟩ := S2
  obtain ⟨hb, S3⟩ := S2.pop
  obtain ⟨ha, S4⟩ := S3.pop
  obtain ⟨ta, rfl⟩ := dat_int ha
  obtain ⟨tb, rfl⟩ := dat_int hb
  exact lt_int (wpAny_truthy_bool (hr ▸ k _ ⟨imm, μr, S4⟩))
theorem strsAre_of {imm : Led} : ∀ {vs : List Value} {ys : List Str}, DatAll imm vs (ys.map Dat.str) → StrsAre vs ys
  | [], [], _ => .nil
  | _ :: _, [], h => by cases h
  | [], _ :: _, h => by cases h
  | _ :: _, _ :: _, h => by
    cases h with
    | cons h r => obtain ⟨t, rfl⟩ := dat_str h; exact .cons _ _ (strsAre_of r)
theorem EvT.inS {a b : Expr} {x : Str} {ys : List Str} {r : Bool} (h1 : Ev prog w C σ μ a (.d (.str x)) μ₁) (h2 : Ev prog w C σ μ₁ b (.d (.tuple (ys.map Dat.str))) μ₂) (hr : ys.any (· == x) = r)
    (hm : behindInMarks .In b = false := by rfl) : EvT prog w C σ μ (.Compare a [.In] [b] pos) r μ₂ := by
  intro m ts Ts s Q E S k
  refine wpAny_isTrue_Compare1 (h1 _ _ _ _ _ _ S fun va s1 S1 => h2 _ _ _ _ _ _ S1 fun vb s2 S2 => ?_) hm
  obtain ⟨imm, μr, S2⟩ := S2
  obtain ⟨hb, S3⟩ := S2.pop
  obtain ⟨ha, S4⟩ := S3.pop
  obtain ⟨ta, rfl⟩ := dat_str ha
  obtain ⟨ab, us, n', rfl, mb, Db⟩ := dat_tuple hb
  exact in_tuple_strs (S4.isTup mb) (strsAre_of Db) (wpAny_truthy_bool (hr ▸ k _ ⟨imm, μr, S4⟩))
theorem Ev.inS {a b : Expr} {x : Str} {ys : List Str} {r : Bool} (h1 : Ev prog w C σ μ a (.d (.str x)) μ₁) (h2 : Ev prog w C σ μ₁ b (.d (.tuple (ys.map Dat.str))) μ₂) (hr : ys.any (· == x) = r)
    (hm : behindInMarks .In b = false := by rfl) : Ev prog w C σ μ (.Compare a [.In] [b] pos) (.d (.bool r)) μ₂ := by
  intro m ts Ts s Q E S k
  refine wpAny_Compare1 (h1 _ _ _ _ _ _ S fun va s1 S1 => h2 _ _ _ _ _ _ S1 fun vb s2 S2 => ?_) hm
  obtain ⟨imm, μr, S2⟩ := S2
  obtain ⟨hb, S3⟩ := S2.pop
  obtain ⟨ha, S4⟩ := S3.pop
  obtain ⟨ta, rfl⟩ := dat_str ha
  obtain ⟨ab, us, n', rfl, mb, Db⟩ := dat_tuple hb
  exact in_tuple_strs (S4.isTup mb) (strsAre_of Db) (hr ▸ k _ _ ⟨imm, μr, S4.push (.bool _)⟩)
theorem Ev.eqS {a b : Expr} {x y : Str} {r : Bool} (h1 : Ev prog w C σ μ a (.d (.str x)) μ₁) (h2 : Ev prog w C σ μ₁ b (.d (.str y)) μ₂) (hr : (x == y) = r)
    (hm : behindInMarks .Eq b = false := by rfl) : Ev prog w C σ μ (.Compare a [.Eq] [b] pos) (.d (.bool r)) μ₂ := by
  intro m ts Ts s Q E S k
  refine wpAny_Compare1 (h1 _ _ _ _ _ _ S fun va s1 S1 => h2 _ _ _ _ _ _ S1 fun vb s2 S2 => ?_) hm
  obtain ⟨imm, μr, S2⟩ := S2
  obtain ⟨hb, S3⟩ := S2.pop
  obtain ⟨ha, S4⟩ := S3.pop
  obtain ⟨ta, rfl⟩ := dat_str ha
  obtain ⟨tb, rfl⟩ := dat_str hb
  exact eq_str (hr ▸ k _ _ ⟨imm, μr, S4.push (.bool _)⟩)
theorem EvT.bool {e : Expr} {b : Bool} (h1 : Ev prog w C σ μ e (.d (.bool b)) μ₁)
    (he : ∀ (whole : Sem Value), isTrue e C.env whole = (do let v ← whole; standAt e.pos; holding [v] (truthy v)) := by intro _; rfl) : EvT prog w C σ μ e b μ₁ := by
  intro m ts Ts s Q E S k
  refine isTrue_plain (h1 _ _ _ _ _ _ S fun v s' S' => ?_) (he _)
  obtain ⟨imm, μr, S2⟩ := S'
  obtain ⟨hb, S3⟩ := S2.pop
  obtain rfl := dat_bool hb
  exact wpAny_truthy_bool (k _ ⟨imm, μr, S3⟩)
theorem EvT.ors {es : List Expr} {e : Expr} {b b' : Bool} (h1 : EvT prog w C σ μ e b μ₁) (h2 : EvT prog w C σ μ₁ (.BoolOp .Or es pos) b' μ₁) : EvT prog w C σ μ (.BoolOp .Or (e :: es) pos) (b || b') μ₁ := by
  intro m ts Ts s Q E S k
  refine isTrue_or (h1 _ _ _ _ _ _ S fun s' S' => ?_)
  cases b
  · exact h2 _ _ _ _ _ _ S' k
  · exact k _ S'
theorem EvT.or0 : EvT prog w C σ μ (.BoolOp .Or [] pos) false μ := fun _ _ _ _ _ _ S k => isTrue_or_nil (k _ S)
theorem EvT.and0 : EvT prog w C σ μ (.BoolOp .And [] pos) true μ := fun _ _ _ _ _ _ S k => isTrue_and_nil (k _ S)
theorem EvT.orT {es : List Expr} {e : Expr} (h1 : EvT prog w C σ μ e true μ₁) : EvT prog w C σ μ (.BoolOp .Or (e :: es) pos) true μ₁ := by
  intro m ts Ts s Q E S k
  exact isTrue_or (h1 _ _ _ _ _ _ S fun s' S' => k _ S')
theorem EvT.orF {es : List Expr} {e : Expr} {b : Bool} (h1 : EvT prog w C σ μ e false μ₁) (h2 : EvT prog w C σ μ₁ (.BoolOp .Or es pos) b μ₂) : EvT prog w C σ μ (.BoolOp .Or (e :: es) pos) b μ₂ := by
  intro m ts Ts s Q E S k
  exact isTrue_or (h1 _ _ _ _ _ _ S fun s' S' => h2 _ _ _ _ _ _ S' k)
theorem EvT.andF {es : List Expr} {e : Expr} (h1 : EvT prog w C σ μ e false μ₁) : EvT prog w C σ μ (.BoolOp .And (e :: es) pos) false μ₁ := by
  intro m ts Ts s Q E S k
  exact isTrue_and (h1 _ _ _ _ _ _ S fun s' S' => k _ S')
theorem EvT.andT {es : List Expr} {e : Expr} {b : Bool} (h1 : EvT prog w C σ μ e true μ₁) (h2 : EvT prog w C σ μ₁ (.BoolOp .And es pos) b μ₂) : EvT prog w C σ μ (.BoolOp .And (e :: es) pos) b μ₂ := by
  intro m ts Ts s Q E S k
  exact isTrue_and (h1 _ _ _ _ _ _ S fun s' S' => h2 _ _ _ _ _ _ S' k)
theorem Ev.and2F {e f : Expr} (h1 : Ev prog w C σ μ e (.d (.bool false)) μ₁) : Ev prog w C σ μ (.BoolOp .And [e, f] pos) (.d (.bool false)) μ₁ := by
  intro m ts Ts s Q E S k
  refine BoolOp_and (h1 _ _ _ _ _ _ S fun v s' S' => ?_)
  obtain ⟨imm, μr, S2⟩ := S'
  obtain ⟨hb, S3⟩ := S2.pop
  obtain rfl := dat_bool hb
  exact wpAny_truthy_bool (k _ _ ⟨imm, μr, S2⟩)
theorem Ev.and2T {e f : Expr} {X : V} (h1 : Ev prog w C σ μ e (.d (.bool true)) μ₁) (h2 : Ev prog w C σ μ₁ f X μ₂) : Ev prog w C σ μ (.BoolOp .And [e, f] pos) X μ₂ := by
  intro m ts Ts s Q E S k
  refine BoolOp_and (h1 _ _ _ _ _ _ S fun v s' S' => ?_)
  obtain ⟨imm, μr, S2⟩ := S'
  obtain ⟨hb, S3⟩ := S2.pop
  obtain rfl := dat_bool hb
  exact wpAny_truthy_bool (BoolOp_one (h2 _ _ _ _ _ _ ⟨imm, μr, S3⟩ k))
end Mine
namespace Mine
variable {K : Frag} {p : Program} {fi : Fi} {prog : Program} {w : World}
variable {C : Cx K p fi} {σ σ₁ σ₂ : List (Str × V)} {μ μ₁ μ₂ μ₃ : Mu} {pos px : Pos} {ts : List Value} {Ts : List V} {s : Shared} {O : Out} {X : V} {x : Str} {rest : List Stmt}
theorem Ev.call {f : Addr} {e : Expr} {es : List Expr} {Xs : List V} {n : Nat} (hg : nsIn K mainGlobals x = some (some (.ref f))) (hf : keepIn K (.ref f) = true)
    (hL : EvL prog w C σ μ (e :: es) Xs μ₁) (hS : Spec prog w K p n f Xs μ₁ X μ₂) (hn : n ≤ C.room) (hx : fi.cs.names.lookup x = some .globalImplicit := by rfl) (hd : (x == ("__debug__" : Str)) = false := by decide)
    (he : starEach (e :: es) C.env = (false, eval e C.env) :: starEach es C.env := by rfl) (hp : ∀ pos, (backTo pos (starEach es C.env)).any (·.1) = false := by intro _; rfl) :
    Ev prog w C σ μ (.Call (.Name x px) (e :: es) [] pos) X μ₂ := by
  intro m ts Ts s Q E S k
  refine Call_Name rfl ?_
  obtain ⟨imm, μr, S'⟩ := id S
  refine nameX_K S'.fr C.hX (topRead_of C.hT) hg ?_ C.hk hx hd
  refine callWith_K C.hX hf (hL _ _ _ _ _ _ _ S fun vs s' hl S1 => ⟨?_, ?_⟩) he (hp _)
  · obtain ⟨imm1, μr1, S1'⟩ := S1
    exact C.hX.keeps S1'.fr.keep
  · exact hS _ _ _ _ _ _ _ _ _ _ hn hl S1 k
theorem Ev.len {e : Expr} {xs : List Dat} (h : Ev prog w C σ μ e (.d (.list xs)) μ₁) (hg : nsIn K mainGlobals ("len" : Str) = some Option.none) (hb : bootBuiltins ("len" : Str) = some (.builtin "len")) (hz : xs.length ≤ 16777216) (hx : fi.cs.names.lookup ("len" : Str) = some .globalImplicit := by rfl)
    (he : starEach [e] C.env = [(false, eval e C.env)] := by rfl) :
    Ev prog w C σ μ (.Call (.Name ("len" : Str) px) [e] [] pos) (.d (.int xs.length)) μ₁ := by
  intro m ts Ts s Q E S k
  refine Call_Name (by rw [he]) ?_
  obtain ⟨imm, μr, S'⟩ := id S
  refine nameX_B S'.fr C.hX (topRead_of C.hT) hg hb (by decide) ?_ C.hk hx (by decide)
  refine callWith_builtin (by rfl) (evalArgs_plain ?_)
  refine Calls.spliced_cons (h _ _ _ _ _ _ S fun v s1 S1 => Calls.spliced_nil ?_)
  obtain ⟨imm1, μr1, S1⟩ := S1
  obtain ⟨hv, S2⟩ := S1.pop
  obtain ⟨a, vs, n, rfl, ma, Da⟩ := dat_list hv
  have hl := Da.length
  refine PyProof.Rows.len_list (items := vs.toArray) (S2.isList ma) (by simp only [List.size_toArray]; omega) ?_
  refine k _ _ ⟨imm1, μr1, Sx.push (S2.toks rfl) ?_⟩
  have e : ((vs.toArray.size : Nat) : Int) = (xs.length : Int) := by simp only [List.size_toArray, hl]
  rw [e]
  exact .int _ _
theorem Ex.nil (h : ∀ y Y, σ₂.lookup y = some Y → σ.lookup y = some Y) : Ex prog w C σ μ [] (.next σ₂ μ) :=
  fun _ _ _ _ _ S k => wpAny_execs_nil (k _ _ ⟨rfl, S.toNil (fun _ _ l y Y e => l y Y (h y Y e)) fun _ h => h⟩)
theorem Ex.ret {e : Expr} (h : Ev prog w C σ μ e X μ₁) : Ex prog w C σ μ (.Return (some e) pos :: rest) (.ret X μ₁) := by
  intro ts Ts s Q E S k
  obtain ⟨m, S⟩ := S.stM
  refine wpAny_execs_cons (wpAny_Return_some (h _ _ _ _ _ _ S fun v s' S' => ?_))
  exact k _ _ ⟨v, rfl, S'.st.toNil (fun _ _ _ _ _ e => by cases e) fun _ h => h⟩
theorem Sx.store {m imm μr} (S : Sx C σ μ ts Ts s m imm μr) {v : Value} (hv : VIn imm v X) {h' : Heap} {tk : Nat} (F : Fr C.h₀ C.L h' (fun y => if y = x then some v else m y)) (N : News C.h₀ C.L h' (μr ++ imm)) :
    Sx C ((x, X) :: σ) μ ts Ts { s with heap := h', toks := tk } (fun y => if y = x then some v else m y) imm μr := by
  obtain ⟨a1, a2, a3, a4, am, a5, a6, a7, a8⟩ := S
  exact ⟨F, N, a3, a4, am, a5, a6.set hv, a7, by rw [a8]⟩
theorem Ex.assign {e : Expr} (h : Ev prog w C σ μ e X μ₁) (hr : Ex prog w C ((x, X) :: σ) μ₁ rest O) (hs : swapsWith e (some (.Name x px)) pos.line C.env = pure false := by rfl) (hx : fi.cs.names.lookup x = some .local := by rfl) :
    Ex prog w C σ μ (.Assign [.Name x px] e pos :: rest) O := by
  intro ts Ts s Q E S k
  obtain ⟨m, S⟩ := S.stM
  refine wpAny_execs_cons (wpAny_Assign_Name (h _ _ _ _ _ _ S fun v s' S' => ?_) hs)
  obtain ⟨imm, μr, S1⟩ := S'
  obtain ⟨hv, S2⟩ := S1.pop
  exact storeX_L S2.fr S2.nw (fun h' F N => hr _ _ _ _ _ ⟨_, imm, μr, S2.store hv F N⟩ k) C.hk hx
theorem Ex.if_ret {t : Expr} {b o : List Stmt} (ht : EvT prog w C σ μ t true μ₁) (hb : Ex prog w C σ μ₁ b (.ret X μ₂)) : Ex prog w C σ μ (.If t b o pos :: rest) (.ret X μ₂) := by
  intro ts Ts s Q E S k
  obtain ⟨m, S⟩ := S.stM
  refine wpAny_execs_cons (wpAny_If (ht _ _ _ _ _ _ S fun s' S' => ?_))
  show wpAny _ _ (execs b C.env) _ _ _
  refine hb _ _ _ _ _ S'.st fun f s'' hf => ?_
  obtain ⟨v, rfl, hS⟩ := hf
  exact k _ _ ⟨v, rfl, hS⟩
theorem Ex.if_skip {t : Expr} {b : List Stmt} (ht : EvT prog w C σ μ t false μ₁) (hr : Ex prog w C σ μ₁ rest O) : Ex prog w C σ μ (.If t b [] pos :: rest) O := by
  intro ts Ts s Q E S k
  obtain ⟨m, S⟩ := S.stM
  refine wpAny_execs_cons (wpAny_If (ht _ _ _ _ _ _ S fun s' S' => ?_))
  show wpAny _ _ (execs [] C.env) _ _ _
  exact wpAny_execs_nil (hr _ _ _ _ _ S'.st k)
theorem Ex.if_next {t : Expr} {b o : List Stmt} {c : Bool} (ht : EvT prog w C σ μ t c μ₁) (hb : Ex prog w C σ μ₁ (if c then b else o) (.next σ₂ μ₂)) (hr : Ex prog w C σ₂ μ₂ rest O) : Ex prog w C σ μ (.If t b o pos :: rest) O := by
  intro ts Ts s Q E S k
  obtain ⟨m, S⟩ := S.stM
  refine wpAny_execs_cons (wpAny_If (ht _ _ _ _ _ _ S fun s' S' => ?_))
  cases c
  all_goals
    refine hb _ _ _ _ _ S'.st fun f s'' hf => ?_
    obtain ⟨rfl, hS⟩ := hf
    exact hr _ _ _ _ _ hS k
theorem Ex.if_else_ret {t : Expr} {b o : List Stmt} (ht : EvT prog w C σ μ t false μ₁) (hb : Ex prog w C σ μ₁ o (.ret X μ₂)) : Ex prog w C σ μ (.If t b o pos :: rest) (.ret X μ₂) := by
  intro ts Ts s Q E S k
  obtain ⟨m, S⟩ := S.stM
  refine wpAny_execs_cons (wpAny_If (ht _ _ _ _ _ _ S fun s' S' => ?_))
  show wpAny _ _ (execs o C.env) _ _ _
  refine hb _ _ _ _ _ S'.st fun f s'' hf => ?_
  obtain ⟨v, rfl, hS⟩ := hf
  exact k _ _ ⟨v, rfl, hS⟩
inductive Al (imm : Led) : List (Str × Value) → List (Str × V) → Prop
  | nil : Al imm [] []
  | cons {x v X l L} : VIn imm v X → Al imm l L → Al imm ((x, v) :: l) ((x, X) :: L)
theorem Al.locs {imm : Led} {l : List (Str × Value)} {L : List (Str × V)} (h : Al imm l L) : Locs imm (fun y => l.lookup y) L := by
  induction h with
  | nil => intro y Y e; cases e
  | @cons x v X l L hv _ ih =>
    intro y Y e
    show ∃ u, List.lookup y ((x, v) :: l) = some u ∧ _
    rw [List.lookup_cons] at e ⊢
    cases hb : y == x with
    | true => rw [hb] at e; cases e; exact ⟨v, rfl, hv⟩
    | false => rw [hb] at e; exact ih y Y e
theorem Spec.of_body {f : Addr} {name qual : Str} {params : Arguments} {body : List Stmt} {scope : Scope} {dV kV doc pm cdv ct oc : Value} {an od : Option Addr} {osl : Array (Option Value)} {n : Nat} {Xs : List V} {μ' : Mu} (σ₀ : List (Str × V))
    (ho : K.lookup f = some ⟨oc, od, .func (fnOf name qual params body scope dV kV doc pm an cdv ct), osl⟩) (hcd : codeIn K cdv qual = true)
    (hb : ∀ (s : Shared) vs imm, VAll imm vs Xs → ∃ binds, BindsTo s (fnOf name qual params body scope dV kV doc pm an cdv ct) ⟨vs, []⟩ binds ∧ (∀ y ∈ binds, scope.names.lookup y.1 = some .local) ∧ Al imm binds.reverse σ₀)
    (hco : scope.isCoroutine = false) (hgen : scope.isGenerator = false) (hk : scope.kind = .function) (hcell : ∀ x ∈ scope.names, x.2 ≠ .cell)
    (h : ∀ (C : Cx K p ⟨qual, scope, f, cdv⟩), C.room = n → Ex prog w C σ₀ μ body (.ret X μ')) : Spec prog w K p (n + 1) f Xs μ X μ' := by
  intro fi C σ m ts Ts vs s Q E hroom hl S k
  obtain ⟨imm, μr, S⟩ := S
  obtain ⟨tv, tt⟩ := VAll.split _ hl S.tm
  obtain ⟨binds, hbind, hloc, hal⟩ := hb s vs imm tv
  have hd := C.hd
  have hu := C.hu
  refine wpAny_call (code_def C.hB S.fr C.hX S.nw C.hT rfl rfl C.hk ho hcd (by show C.dp < recursionLimit; omega) hbind hloc ?_ hco hgen hk hcell)
  intro g L' h₁ FG F' N' B' X' T'
  let C' : Cx K p ⟨qual, scope, f, cdv⟩ := { room := n, dp := C.dp + 1, un := C.un + 3, gd := C.gd, L := L', cl := [], outer := C.env :: C.outer, A₀ := C.A, base := C.base, h₀ := g, loose := C.loose, mean := C.mean, mg := C.mg, mb := C.mb, imm₀ := imm, s₀ := C.s₀, cv := [], hcv := (fun _ _ e => by cases e), hB := B', hX := X', hT := T', hk := hk, hd := by omega, hu := by omega }
  refine h C' rfl [] [] _ _ _ ⟨_, imm, μr, ⟨F', N', S.ap, S.nd, S.ma, fun _ h => h, hal.locs, .nil, by show Shared.mk _ _ _ _ _ = Shared.mk _ _ _ _ _; rw [S.sm]⟩⟩ ?_
  rintro fl s' ⟨v, rfl, m', imm', μr', S'⟩
  refine leaveK_ S'.fr S'.nw fun F N => ?_
  refine k _ _ ⟨imm', μr', ⟨F, N, S'.ap, S'.nd, S'.ma, fun q hq => S'.im q (S.im q hq), S.lo.mono S'.im, .cons ?_ (tt.mono S'.im), S'.sm⟩⟩
  cases S'.tm with | cons h _ => exact h
section arity
variable {f : Addr} {name qual : Str} {params : Arguments} {body : List Stmt} {scope : Scope} {dV kV doc pm cdv ct oc : Value} {an od : Option Addr} {osl : Array (Option Value)} {n : Nat} {μ' : Mu} {X1 X2 X3 X4 : V} {x1 x2 x3 x4 : Str}
theorem Spec.def1 (ho : K.lookup f = some ⟨oc, od, .func (fnOf name qual params body scope dV kV doc pm an cdv ct), osl⟩) (hcd : codeIn K cdv qual = true)
    (hb : ∀ v1, bindArgs (fnOf name qual params body scope dV kV doc pm an cdv ct) ⟨[v1], []⟩ = pure [(x1, v1)]) (h1 : scope.names.lookup x1 = some .local)
    (hco : scope.isCoroutine = false) (hgen : scope.isGenerator = false) (hk : scope.kind = .function) (hcell : ∀ x ∈ scope.names, x.2 ≠ .cell)
    (h : ∀ (C : Cx K p ⟨qual, scope, f, cdv⟩), C.room = n → Ex prog w C [(x1, X1)] μ body (.ret X μ')) : Spec prog w K p (n + 1) f [X1] μ X μ' := by
  refine Spec.of_body _ ho hcd (fun s vs imm hv => ?_) hco hgen hk hcell h
  cases hv with
  | cons a r =>
    cases r
    refine ⟨_, BindsTo.of_eq (hb _), ?_, .cons a .nil⟩
    intro y hy
    simp only [List.mem_cons, List.not_mem_nil, or_false] at hy
    subst hy; exact h1
theorem Spec.def2 (ho : K.lookup f = some ⟨oc, od, .func (fnOf name qual params body scope dV kV doc pm an cdv ct), osl⟩) (hcd : codeIn K cdv qual = true)
    (hb : ∀ v1 v2, bindArgs (fnOf name qual params body scope dV kV doc pm an cdv ct) ⟨[v1, v2], []⟩ = pure [(x1, v1), (x2, v2)]) (h1 : scope.names.lookup x1 = some .local) (h2 : scope.names.lookup x2 = some .local)
    (hco : scope.isCoroutine = false) (hgen : scope.isGenerator = false) (hk : scope.kind = .function) (hcell : ∀ x ∈ scope.names, x.2 ≠ .cell)
    (h : ∀ (C : Cx K p ⟨qual, scope, f, cdv⟩), C.room = n → Ex prog w C [(x2, X2), (x1, X1)] μ body (.ret X μ')) : Spec prog w K p (n + 1) f [X1, X2] μ X μ' := by
  refine Spec.of_body _ ho hcd (fun s vs imm hv => ?_) hco hgen hk hcell h
  cases hv with
  | cons a r =>
    cases r with
    | cons b r =>
      cases r
      refine ⟨_, BindsTo.of_eq (hb _ _), ?_, .cons b (.cons a .nil)⟩
      intro y hy
      simp only [List.mem_cons, List.not_mem_nil, or_false] at hy
      rcases hy with rfl | rfl
      · exact h1
      · exact h2
theorem Spec.def3 (ho : K.lookup f = some ⟨oc, od, .func (fnOf name qual params body scope dV kV doc pm an cdv ct), osl⟩) (hcd : codeIn K cdv qual = true)
    (hb : ∀ v1 v2 v3, bindArgs (fnOf name qual params body scope dV kV doc pm an cdv ct) ⟨[v1, v2, v3], []⟩ = pure [(x1, v1), (x2, v2), (x3, v3)]) (h1 : scope.names.lookup x1 = some .local) (h2 : scope.names.lookup x2 = some .local) (h3 : scope.names.lookup x3 = some .local)
    (hco : scope.isCoroutine = false) (hgen : scope.isGenerator = false) (hk : scope.kind = .function) (hcell : ∀ x ∈ scope.names, x.2 ≠ .cell)
    (h : ∀ (C : Cx K p ⟨qual, scope, f, cdv⟩), C.room = n → Ex prog w C [(x3, X3), (x2, X2), (x1, X1)] μ body (.ret X μ')) : Spec prog w K p (n + 1) f [X1, X2, X3] μ X μ' := by
  refine Spec.of_body _ ho hcd (fun s vs imm hv => ?_) hco hgen hk hcell h
  cases hv with
  | cons a r =>
    cases r with
    | cons b r =>
      cases r with
      | cons c r =>
        cases r
        refine ⟨_, BindsTo.of_eq (hb _ _ _), ?_, .cons c (.cons b (.cons a .nil))⟩
        intro y hy
        simp only [List.mem_cons, List.not_mem_nil, or_false] at hy
        rcases hy with rfl | rfl | rfl
        · exact h1
        · exact h2
        · exact h3
theorem Spec.def4 (ho : K.lookup f = some ⟨oc, od, .func (fnOf name qual params body scope dV kV doc pm an cdv ct), osl⟩) (hcd : codeIn K cdv qual = true)
    (hb : ∀ v1 v2 v3 v4, bindArgs (fnOf name qual params body scope dV kV doc pm an cdv ct) ⟨[v1, v2, v3, v4], []⟩ = pure [(x1, v1), (x2, v2), (x3, v3), (x4, v4)]) (h1 : scope.names.lookup x1 = some .local) (h2 : scope.names.lookup x2 = some .local) (h3 : scope.names.lookup x3 = some .local) (h4 : scope.names.lookup x4 = some .local)
    (hco : scope.isCoroutine = false) (hgen : scope.isGenerator = false) (hk : scope.kind = .function) (hcell : ∀ x ∈ scope.names, x.2 ≠ .cell)
    (h : ∀ (C : Cx K p ⟨qual, scope, f, cdv⟩), C.room = n → Ex prog w C [(x4, X4), (x3, X3), (x2, X2), (x1, X1)] μ body (.ret X μ')) : Spec prog w K p (n + 1) f [X1, X2, X3, X4] μ X μ' := by
  refine Spec.of_body _ ho hcd (fun s vs imm hv => ?_) hco hgen hk hcell h
  cases hv with
  | cons a r =>
    cases r with
    | cons b r =>
      cases r with
      | cons c r =>
        cases r with
        | cons d r =>
          cases r
          refine ⟨_, BindsTo.of_eq (hb _ _ _ _), ?_, .cons d (.cons c (.cons b (.cons a .nil)))⟩
          intro y hy
          simp only [List.mem_cons, List.not_mem_nil, or_false] at hy
          rcases hy with rfl | rfl | rfl | rfl
          · exact h1
          · exact h2
          · exact h3
          · exact h4
end arity
end Mine
namespace Mine
variable {K : Frag} {p : Program} {fi : Fi} {prog : Program} {w : World}
variable {C : Cx K p fi} {σ σ₁ σ₂ : List (Str × V)} {μ μ' μ₁ μ₂ μ₃ : Mu} {pos px p1 p2 p3 : Pos} {ts : List Value} {Ts : List V} {s : Shared} {O : Out} {X : V} {x : Str} {rest : List Stmt}
inductive MU (a : Addr) (y y' : Mo) : Mu → Mu → Prop
  | head {r} : MU a y y' ((a, y) :: r) ((a, y') :: r)
  | tail {q r r'} : MU a y y' r r' → MU a y y' (q :: r) (q :: r')
theorem MU.at {imm : Led} {a : Addr} {y y' : Mo} {μ μ' : Mu} (U : MU a y y' μ μ') (hy : y.one = true) : ∀ {μr : Led}, MAll imm μr μ → (μr.map (·.1)).Nodup →
    ∃ o, MoIn imm o y ∧ (a, o) ∈ μr ∧ ∀ o', MoIn imm o' y' → ∃ μr', MAll imm μr' μ' ∧ μr'.map (·.1) = μr.map (·.1) ∧ ∀ tl : Led, (∀ q ∈ tl, q.1 ≠ a) → Upd a o o' (μr ++ tl) (μr' ++ tl) := by
  induction U with
  | head =>
    intro μr h hn
    cases h with
    | work _ _ _ _ => cases hy
    | hooks _ _ => cases hy
    | @cons _ x _ l _ h r =>
      rw [List.map_cons, List.nodup_cons] at hn
      refine ⟨x, h, .head _, fun o' h' => ⟨(a, o') :: l, .cons h' r, rfl, fun tl ht => Upd.head ?_⟩⟩
      intro q hq
      rcases List.mem_append.mp hq with hq | hq
      · exact fun e => hn.1 (List.mem_map.mpr ⟨q, hq, e⟩)
      · exact ht q hq
  | tail U ih =>
    intro μr h hn
    cases h with
    | @hooks b ad es n l _ h1 r =>
      simp only [List.map_cons] at hn
      have n1 := List.nodup_cons.mp hn
      have n2 := List.nodup_cons.mp n1.2
      obtain ⟨o, k1, k2, k3⟩ := ih r n2.2
      have hm : a ∈ l.map (·.1) := List.mem_map.mpr ⟨(a, o), k2, rfl⟩
      refine ⟨o, k1, .tail _ (.tail _ k2), fun o' h' => ?_⟩
      obtain ⟨μr', q1, q2, q3⟩ := k3 o' h'
      refine ⟨_, .hooks h1 q1, by simp [q2], fun tl ht => Upd.tail ?_ (Upd.tail ?_ (q3 tl ht))⟩
      · intro e; exact n1.1 (.tail _ (by have e : b = a := e; rw [e]; exact hm))
      · intro e; exact n2.1 (by have e : ad = a := e; rw [e]; exact hm)
    | @work b ad al ag es n vs k us j stk gs l _ h1 h2 h3 r =>
      simp only [List.map_cons] at hn
      have n1 := List.nodup_cons.mp hn
      have n2 := List.nodup_cons.mp n1.2
      have n3 := List.nodup_cons.mp n2.2
      have n4 := List.nodup_cons.mp n3.2
      obtain ⟨o, k1, k2, k3⟩ := ih r n4.2
      have hm : a ∈ l.map (·.1) := List.mem_map.mpr ⟨(a, o), k2, rfl⟩
      refine ⟨o, k1, .tail _ (.tail _ (.tail _ (.tail _ k2))), fun o' h' => ?_⟩
      obtain ⟨μr', q1, q2, q3⟩ := k3 o' h'
      refine ⟨_, .work h1 h2 h3 q1, by simp [q2], fun tl ht => Upd.tail ?_ (Upd.tail ?_ (Upd.tail ?_ (Upd.tail ?_ (q3 tl ht))))⟩
      · intro e; exact n1.1 (.tail _ (.tail _ (.tail _ (by have e : b = a := e; rw [e]; exact hm))))
      · intro e; exact n2.1 (.tail _ (.tail _ (by have e : ad = a := e; rw [e]; exact hm)))
      · intro e; exact n3.1 (.tail _ (by have e : al = a := e; rw [e]; exact hm))
      · intro e; exact n4.1 (by have e : ag = a := e; rw [e]; exact hm)
    | @cons b x _ l _ h r =>
      rw [List.map_cons, List.nodup_cons] at hn
      obtain ⟨o, h1, h2, h3⟩ := ih r hn.2
      refine ⟨o, h1, .tail _ h2, fun o' h' => ?_⟩
      obtain ⟨μr', k1, k2, k3⟩ := h3 o' h'
      refine ⟨(b, x) :: μr', .cons h k1, by simp [k2], fun tl ht => Upd.tail ?_ (k3 tl ht)⟩
      intro e
      exact hn.1 (List.mem_map.mpr ⟨(a, o), h2, e.symm⟩)
theorem Sx.upd {m imm μr} (S : Sx C σ μ ts Ts s m imm μr) {a : Addr} {y y' : Mo} (U : MU a y y' μ μ') (hy : y.one = true := by rfl) : ∃ o, MoIn imm o y ∧ (a, o) ∈ μr ++ imm ∧ ∀ o', MoIn imm o' y' → ∃ μr', Upd a o o' (μr ++ imm) (μr' ++ imm) ∧
    ∀ h' tk, Fr C.h₀ C.L h' m → News C.h₀ C.L h' (μr' ++ imm) → Sx C σ μ' ts Ts { s with heap := h', toks := tk } m imm μr' := by
  obtain ⟨o, h1, h2, h3⟩ := U.at hy S.ma S.nd
  refine ⟨o, h1, List.mem_append.mpr (.inl h2), fun o' h' => ?_⟩
  obtain ⟨μr', k1, k2, k3⟩ := h3 o' h'
  refine ⟨μr', k3 imm fun q hq e => S.ap _ h2 _ hq e.symm, fun h' tk F N => ⟨F, N, ?_, by rw [k2]; exact S.nd, k1, S.im, S.lo, S.tm, ?_⟩⟩
  · intro q hq r hr
    have : q.1 ∈ μr'.map (·.1) := List.mem_map.mpr ⟨q, hq, rfl⟩
    rw [k2] at this
    obtain ⟨q', hq', e⟩ := List.mem_map.mp this
    rw [← e]
    exact S.ap _ hq' _ hr
  · rw [S.sm]
theorem Sx.read {m imm μr} (S : Sx C σ μ ts Ts s m imm μr) {a : Addr} {y : Mo} (U : MU a y y μ μ) (hy : y.one = true := by rfl) : ∃ o, MoIn imm o y ∧ (a, o) ∈ μr ++ imm := let ⟨o, h1, h2, _⟩ := S.upd U hy; ⟨o, h1, h2⟩
def EvN (prog : Program) (w : World) (C : Cx K p fi) (σ : List (Str × V)) (μ : Mu) (e : Expr) (y : Mo) (μ' : Mu) : Prop :=
  ∀ m ts Ts s (Q : Value → Shared → Prop) E, StM C σ μ ts Ts m s → (∀ a s', StM C σ ((a, y) :: μ') (.ref a :: ts) (.r a :: Ts) m s' → Q (.ref a) s') → wpAny (model prog w) C.A (eval e C.env) Q E s
theorem EvN.nil : EvN prog w C σ μ (.List [] pos) (.l []) μ := by
  intro m ts Ts s Q E S k
  refine List_ (spliced_none ?_)
  obtain ⟨imm, μr, S⟩ := S
  refine newList_K S.fr S.nw (fun l h' F N l1 => ?_) (by rw [sizeLine_eq]; decide)
  exact k _ _ ⟨imm, _, Sx.push (S.allocM F N (fun q hq => Nat.ne_of_lt (l1 q hq)) (y := .l []) ⟨[], 0, rfl, .nil⟩) rfl⟩
theorem Ex.assignN {e : Expr} {y : Mo} (h : EvN prog w C σ μ e y μ₁) (hr : ∀ a, Ex prog w C ((x, .r a) :: σ) ((a, y) :: μ₁) rest O) (hs : swapsWith e (some (.Name x px)) pos.line C.env = pure false := by rfl) (hx : fi.cs.names.lookup x = some .local := by rfl) :
    Ex prog w C σ μ (.Assign [.Name x px] e pos :: rest) O := by
  intro ts Ts s Q E S k
  obtain ⟨m, S⟩ := S.stM
  refine wpAny_execs_cons (wpAny_Assign_Name (h _ _ _ _ _ _ S fun a s' S' => ?_) hs)
  obtain ⟨imm, μr, S1⟩ := S'
  obtain ⟨hv, S2⟩ := S1.pop
  exact storeX_L S2.fr S2.nw (fun h' F N => hr _ _ _ _ _ _ ⟨_, imm, μr, S2.store hv F N⟩ k) C.hk hx
theorem Ex.expr {e : Expr} (h : Ev prog w C σ μ e (.d .none) μ₁) (hr : Ex prog w C σ μ₁ rest O) (hi : interactive C.env = false := by rfl) (hs : swapsWith e none pos.line C.env = pure false := by rfl) : Ex prog w C σ μ (.Expr e pos :: rest) O := by
  intro ts Ts s Q E S k
  obtain ⟨m, S⟩ := S.stM
  refine wpAny_execs_cons (wpAny_Expr (h _ _ _ _ _ _ S fun v s' S' => ?_) hi hs)
  obtain ⟨imm, μr, S1⟩ := S'
  obtain ⟨hv, S2⟩ := S1.pop
  obtain rfl := dat_none hv
  exact hr _ _ _ _ _ ⟨m, imm, μr, S2⟩ k
theorem Ex.exprD {e : Expr} {i : Bool} (h : Ev prog w C σ μ e (.d (.bool i)) μ₁) (hr : Ex prog w C σ μ₁ rest O) (hi : interactive C.env = false := by rfl) (hs : swapsWith e none pos.line C.env = pure false := by rfl) : Ex prog w C σ μ (.Expr e pos :: rest) O := by
  intro ts Ts s Q E S k
  obtain ⟨m, S⟩ := S.stM
  refine wpAny_execs_cons (wpAny_Expr (h _ _ _ _ _ _ S fun v s' S' => ?_) hi hs)
  obtain ⟨imm, μr, S1⟩ := S'
  obtain ⟨hv, S2⟩ := S1.pop
  obtain rfl := dat_bool hv
  exact hr _ _ _ _ _ ⟨m, imm, μr, S2⟩ k
theorem StM.freezeL {m : Str → Option Value} {σ : List (Str × V)} {a : Addr} {xs : List Dat} (S : StM C σ ((a, .l xs) :: μ) (.ref a :: ts) (.r a :: Ts) m s) : StM C σ μ (.ref a :: ts) (.d (.list xs) :: Ts) m s := by
  obtain ⟨imm, μr, S⟩ := S
  have hm := S.ma
  cases hm with
  | cons h r =>
    obtain ⟨h', S'⟩ := S.freeze
    obtain ⟨vs, n, rfl, hd⟩ := h'
    obtain ⟨_, S2⟩ := S'.pop
    exact ⟨_, _, S2.push (DatIn.list (.head _) (DatAll.mono (fun q hq => .tail _ hq) hd))⟩
theorem Ev.ofN {e : Expr} {xs : List Dat} (h : EvN prog w C σ μ e (.l xs) μ₁) : Ev prog w C σ μ e (.d (.list xs)) μ₁ :=
  fun _ _ _ _ _ _ S k => h _ _ _ _ _ _ S fun _ s' S' => k _ s' S'.freezeL
theorem Ex.retFreeze {a : Addr} {xs : List Dat} (hl : σ.lookup x = some (.r a)) (hk : fi.cs.names.lookup x = some .local := by rfl) (hd : (x == ("__debug__" : Str)) = false := by decide) :
    Ex prog w C σ ((a, .l xs) :: μ) (.Return (some (.Name x px)) pos :: rest) (.ret (.d (.list xs)) μ) := by
  intro ts Ts s Q E S k
  obtain ⟨m, S⟩ := S.stM
  refine wpAny_execs_cons (wpAny_Return_some (Ev.loc hl hk hd _ _ _ _ _ _ S fun v s' S' => ?_))
  have hv : v = .ref a := by obtain ⟨imm, μr, S'⟩ := S'; exact S'.pop.1
  subst hv
  exact k _ _ ⟨_, rfl, S'.freezeL.st.toNil (fun _ _ _ _ _ e => by cases e) fun _ h => h⟩
section meths
variable {o e : Expr} {a : Addr} {xs ys : List Dat} {y : Dat} {pl : Sem Bool}
theorem Ev.append (ho : Ev prog w C σ μ o (.r a) μ₁) (h0 : MU a (.l xs) (.l xs) μ₁ μ₁) (h : Ev prog w C σ μ₁ e (.d y) μ₂) (U : MU a (.l xs) (.l (xs ++ [y])) μ₂ μ₃) (hz : xs.length ≤ 1000000)
    (he : eval (.Call (.Attribute o ("append" : Str) p1) [e] [] p2) C.env = (do
      let ov ← eval o C.env
      standAt p1.atName
      let (f, first) ← holding [ov] (getMethod ov ("append" : Str) pl)
      callWith p2 f first (backTo p2 (starEach [e] C.env)) []) := by rfl) (hs : starEach [e] C.env = [(false, eval e C.env)] := by rfl) : Ev prog w C σ μ (.Call (.Attribute o ("append" : Str) p1) [e] [] p2) (.d .none) μ₃ := by
  intro m ts Ts s Q E S k
  refine MethodCall_ (pl := pl) (ho _ _ _ _ _ _ S fun v s1 S1 => ?_) he
  obtain ⟨imm, μr, S1'⟩ := id S1
  obtain ⟨hv, S2⟩ := S1'.pop
  obtain rfl : v = .ref a := hv
  obtain ⟨ob, ⟨vs, n, rfl, D⟩, hm⟩ := S2.read h0
  refine kl_method S2.nw hm PySem.F.slot_list_append PySem.F.type_list_append ?_
  rw [hs]
  refine callWith_builtin rfl (evalArgs_plain (Calls.spliced_cons (h _ _ _ _ _ _ S1 fun u s2 S3 => Calls.spliced_nil ?_)))
  obtain ⟨imm, μr, S3⟩ := S3
  obtain ⟨hu, S4⟩ := S3.pop
  obtain ⟨_, S5⟩ := S4.pop
  obtain ⟨ob, ⟨vs, n, rfl, D⟩, hm, up⟩ := S5.upd U
  obtain ⟨μr', U', fin⟩ := up (listOf (vs.toArray.push u) (n + 1)) ⟨vs ++ [u], n + 1, by rw [List.push_toArray], D.append (.one hu)⟩
  refine append_K S5.fr S5.nw U' (fun h' F N => k _ _ ⟨imm, μr', Sx.push (fin h' s2.toks F N) .none⟩) ?_
  have := D.length
  simp only [List.size_toArray, sizeLine_eq]; omega
theorem Ev.extend (ho : Ev prog w C σ μ o (.r a) μ₁) (h0 : MU a (.l xs) (.l xs) μ₁ μ₁) (h : Ev prog w C σ μ₁ e (.d (.list ys)) μ₂) (U : MU a (.l xs) (.l (xs ++ ys)) μ₂ μ₃) (hz : xs.length + ys.length ≤ 1000000)
    (he : eval (.Call (.Attribute o ("extend" : Str) p1) [e] [] p2) C.env = (do
      let ov ← eval o C.env
      standAt p1.atName
      let (f, first) ← holding [ov] (getMethod ov ("extend" : Str) pl)
      callWith p2 f first (backTo p2 (starEach [e] C.env)) []) := by rfl) (hs : starEach [e] C.env = [(false, eval e C.env)] := by rfl) : Ev prog w C σ μ (.Call (.Attribute o ("extend" : Str) p1) [e] [] p2) (.d .none) μ₃ := by
  intro m ts Ts s Q E S k
  refine MethodCall_ (pl := pl) (ho _ _ _ _ _ _ S fun v s1 S1 => ?_) he
  obtain ⟨imm, μr, S1'⟩ := id S1
  obtain ⟨hv, S2⟩ := S1'.pop
  obtain rfl : v = .ref a := hv
  obtain ⟨ob, ⟨vs, n, rfl, D⟩, hm⟩ := S2.read h0
  refine kl_method S2.nw hm PySem.F.slot_list_extend PySem.F.type_list_extend ?_
  rw [hs]
  refine callWith_builtin rfl (evalArgs_plain (Calls.spliced_cons (h _ _ _ _ _ _ S1 fun u s2 S3 => Calls.spliced_nil ?_)))
  obtain ⟨imm, μr, S3⟩ := S3
  obtain ⟨hu, S4⟩ := S3.pop
  obtain ⟨_, S5⟩ := S4.pop
  obtain ⟨ob, ⟨vs, n, rfl, D⟩, hm, up⟩ := S5.upd U
  obtain ⟨ab, us, n', rfl, mb, Db⟩ := dat_list hu
  have e1 := D.length
  have e2 := Db.length
  have hlong : ¬ ((!vs.toArray.isEmpty && Builtin.List.listTooLong (vs.toArray.size + us.toArray.size)) = true) := by
    simp only [Builtin.List.listTooLong, List.size_toArray, sizeLine_eq, Bool.and_eq_true, decide_eq_true_eq]
    omega
  by_cases hne : us = []
  · subst hne
    have hy : ys = [] := by cases Db; rfl
    subst hy
    obtain ⟨μr', U', fin⟩ := up (listOf vs.toArray n) ⟨vs, n, rfl, by rw [List.append_nil]; exact D⟩
    refine kxn_extend S5.fr S5.nw (List.mem_append.mpr (.inr mb)) rfl U' hlong ?_ ?_ (fun h' F N => k _ _ ⟨imm, μr', Sx.push (fin h' s2.toks F N) .none⟩)
    · simp only [sizeLine_eq]; omega
    · simp only [List.size_toArray, sizeLine_eq, List.length_nil]; omega
  · obtain ⟨μr', U', fin⟩ := up (listOf (vs ++ us).toArray (n + 1)) ⟨vs ++ us, n + 1, rfl, D.append Db⟩
    refine kl_extend S5.fr S5.nw (List.mem_append.mpr (.inr mb)) rfl ?_ U' hlong ?_ ?_ (fun h' F N => k _ _ ⟨imm, μr', Sx.push (fin h' s2.toks F N) .none⟩)
    · simpa using hne
    · simp only [sizeLine_eq]; omega
    · simp only [List.size_toArray, sizeLine_eq]; omega
theorem datAll_cons {imm : Led} {vs : List Value} {d : Dat} {ds : List Dat} (h : DatAll imm vs (d :: ds)) : ∃ v us, vs = v :: us ∧ DatIn imm v d ∧ DatAll imm us ds := by
  cases h with | cons h r => exact ⟨_, _, rfl, h, r⟩
theorem datAll_snoc {imm : Led} {d : Dat} : ∀ {ds : List Dat} {vs : List Value}, DatAll imm vs (ds ++ [d]) → ∃ us v, vs = us ++ [v] ∧ DatAll imm us ds ∧ DatIn imm v d := by
  intro ds
  induction ds with
  | nil =>
    intro vs h
    obtain ⟨v, us, rfl, h1, h2⟩ := datAll_cons h
    cases h2
    exact ⟨[], v, rfl, .nil, h1⟩
  | cons e ds ih =>
    intro vs h
    obtain ⟨v, us, rfl, h1, h2⟩ := datAll_cons h
    obtain ⟨us', v', rfl, h3, h4⟩ := ih h2
    exact ⟨v :: us', v', rfl, .cons h1 h3, h4⟩
theorem Ev.pop (ho : Ev prog w C σ μ o (.r a) μ₁) (U : MU a (.l (xs ++ [y])) (.l xs) μ₁ μ₂) (hz : xs.length ≤ 1000000)
    (he : eval (.Call (.Attribute o ("pop" : Str) p1) [] [] p2) C.env = (do
      let ov ← eval o C.env
      standAt p1.atName
      let (f, first) ← holding [ov] (getMethod ov ("pop" : Str) pl)
      callWith p2 f first (backTo p2 (starEach [] C.env)) []) := by rfl) : Ev prog w C σ μ (.Call (.Attribute o ("pop" : Str) p1) [] [] p2) (.d y) μ₂ := by
  intro m ts Ts s Q E S k
  refine MethodCall_ (pl := pl) (ho _ _ _ _ _ _ S fun v s1 S1 => ?_) he
  obtain ⟨imm, μr, S1'⟩ := id S1
  obtain ⟨hv, S2⟩ := S1'.pop
  obtain rfl : v = .ref a := hv
  obtain ⟨ob, ⟨vs, n, rfl, D⟩, hm, up⟩ := S2.upd U
  refine kl_method S2.nw hm PySem.F.slot_list_pop PySem.F.type_list_pop ?_
  refine callWith_builtin rfl (evalArgs_nil3 ?_)
  obtain ⟨us, u, rfl, Du, du⟩ := datAll_snoc D
  obtain ⟨μr', U', fin⟩ := up (listOf us.toArray (n + 1)) ⟨us, n + 1, rfl, Du⟩
  refine kl_pop S2.fr S2.nw (p := us) (y := u) ?_ U' ?_ (fun h' F N => k _ _ ⟨imm, μr', Sx.push (fin h' s1.toks F N) du⟩)
  · simpa using kpa_last u us
  · have := Du.length
    simp only [sizeLine_eq, List.length_append, List.length_cons, List.length_nil]; omega
theorem Ev.pop0 {i : Nat} (ho : Ev prog w C σ μ o (.r a) μ₁) (U : MU a (.l (y :: xs)) (.l xs) μ₁ μ₂) (hz : xs.length ≤ 1000000)
    (he : eval (.Call (.Attribute o ("pop" : Str) p1) [.Constant (.int 0) i p3] [] p2) C.env = (do
      let ov ← eval o C.env
      standAt p1.atName
      let (f, first) ← holding [ov] (getMethod ov ("pop" : Str) pl)
      callWith p2 f first (backTo p2 (starEach [.Constant (.int 0) i p3] C.env)) []) := by rfl) : Ev prog w C σ μ (.Call (.Attribute o ("pop" : Str) p1) [.Constant (.int 0) i p3] [] p2) (.d y) μ₂ := by
  intro m ts Ts s Q E S k
  refine MethodCall_ (pl := pl) (ho _ _ _ _ _ _ S fun v s1 S1 => ?_) he
  obtain ⟨imm, μr, S1'⟩ := id S1
  obtain ⟨hv, S2⟩ := S1'.pop
  obtain rfl : v = .ref a := hv
  obtain ⟨ob, ⟨vs, n, rfl, D⟩, hm, _⟩ := S2.upd U
  refine kl_method S2.nw hm PySem.F.slot_list_pop PySem.F.type_list_pop ?_
  refine callWith_builtin rfl (evalArgs_plain (Calls.spliced_cons (wpAny_Constant_int (env := C.env) (pos := p3) (k := i) (Calls.spliced_nil ?_))))
  have S3 := S2.toks (h' := s1.heap) (tk := s1.toks + 1) rfl
  obtain ⟨ob, ⟨vs, n, rfl, D⟩, hm, up⟩ := S3.upd U
  obtain ⟨u, us, rfl, du, Du⟩ := datAll_cons D
  obtain ⟨μr', U', fin⟩ := up (listOf us.toArray (n + 1)) ⟨us, n + 1, rfl, Du⟩
  refine kl_popAt S3.fr S3.nw (k := 0) (p := []) (y := u) (q := us) rfl ?_ ?_ U' ?_ (fun h' F N => k _ _ ⟨imm, μr', Sx.push (fin h' _ F N) du⟩)
  · simp [seqIndex?]
  · rfl
  · have := Du.length
    simp only [sizeLine_eq, List.length_cons]; omega
theorem Ev.lenM (ho : Ev prog w C σ μ e (.r a) μ₁) (h0 : MU a (.l xs) (.l xs) μ₁ μ₁) (hg : nsIn K mainGlobals ("len" : Str) = some Option.none) (hb : bootBuiltins ("len" : Str) = some (.builtin "len")) (hz : xs.length ≤ 1000000) (hx : fi.cs.names.lookup ("len" : Str) = some .globalImplicit := by rfl)
    (he : starEach [e] C.env = [(false, eval e C.env)] := by rfl) :
    Ev prog w C σ μ (.Call (.Name ("len" : Str) px) [e] [] pos) (.d (.int xs.length)) μ₁ := by
  intro m ts Ts s Q E S k
  refine Call_Name (by rw [he]) ?_
  obtain ⟨imm, μr, S'⟩ := id S
  refine nameX_B S'.fr C.hX (topRead_of C.hT) hg hb (by decide) ?_ C.hk hx (by decide)
  refine callWith_builtin rfl (evalArgs_plain ?_)
  refine Calls.spliced_cons (ho _ _ _ _ _ _ S fun v s1 S1 => Calls.spliced_nil ?_)
  obtain ⟨imm1, μr1, S1⟩ := S1
  obtain ⟨hv, S2⟩ := S1.pop
  obtain rfl : v = .ref a := hv
  obtain ⟨ob, ⟨vs, n, rfl, D⟩, hm⟩ := S2.read h0
  have hl := D.length
  refine PyProof.Rows.len_list (items := vs.toArray) ⟨_, (S2.nw _ hm).1, rfl, n, rfl⟩ (by simp only [List.size_toArray]; omega) ?_
  refine k _ _ ⟨imm1, μr1, Sx.push (S2.toks rfl) ?_⟩
  have e : ((vs.toArray.size : Nat) : Int) = (xs.length : Int) := by simp only [List.size_toArray, hl]
  rw [e]
  exact .int _ _
end meths
end Mine
namespace Mine
variable {K : Frag} {p : Program} {fi : Fi} {prog : Program} {w : World}
variable {C : Cx K p fi} {σ σ' σ₁ σ₂ : List (Str × V)} {μ μ' μ₁ μ₂ μ₃ : Mu} {pos px py p1 p2 p3 : Pos} {ts : List Value} {Ts : List V} {s : Shared} {O : Out} {X : V} {x y : Str} {rest : List Stmt}
theorem Sx.extBut {m imm μr} (S : Sx C σ μ ts Ts s m imm μr) {h' : Heap} {tk : Nat} (he : Heap.ExtBut s.heap.objs.size s.heap h') : Sx C σ μ ts Ts { s with heap := h', toks := tk } m imm μr := by
  obtain ⟨a1, a2, a3, a4, am, a5, a6, a7, a8⟩ := S
  refine ⟨a1.extBut he (Nat.le_refl _), fun q hq => ⟨?_, (a2 q hq).2⟩, a3, a4, am, a5, a6, a7, by rw [a8]⟩
  exact he q.1 q.2 (Nat.ne_of_lt (Heap.lt_size (a2 q hq).1)) (a2 q hq).1
def Tgt (prog : Program) (w : World) (C : Cx K p fi) (σ : List (Str × V)) (μ : Mu) (t : Expr) (d : Dat) (σ' : List (Str × V)) : Prop :=
  ∀ ts Ts v s (Q : Unit → Shared → Prop) E, St C σ μ (v :: ts) (.d d :: Ts) s → (∀ s', St C σ' μ ts Ts s' → Q () s') → wpAny (model prog w) C.A (assign t C.env v) Q E s
theorem Tgt.name {d : Dat} (hx : fi.cs.names.lookup x = some .local := by rfl) : Tgt prog w C σ μ (.Name x px) d ((x, .d d) :: σ) := by
  intro ts Ts v s Q E S k
  obtain ⟨m, imm, μr, S⟩ := S
  obtain ⟨hv, S2⟩ := S.pop
  exact PyProof.Rows.assign_Name (storeX_L S2.fr S2.nw (fun h' F N => k _ ⟨_, imm, μr, S2.store hv F N⟩) C.hk hx)
theorem Tgt.tup2 {da db : Dat} {i : Nat} (hx : fi.cs.names.lookup x = some .local := by rfl) (hy : fi.cs.names.lookup y = some .local := by rfl) :
    Tgt prog w C σ μ (.Tuple [.Name x px, .Name y py] i pos) (.tuple [da, db]) ((y, .d db) :: (x, .d da) :: σ) := by
  intro ts Ts v s Q E S k
  obtain ⟨m, imm, μr, S⟩ := S
  obtain ⟨hv, S2⟩ := S.pop
  obtain ⟨a, vs, n, rfl, ma, D⟩ := dat_tuple hv
  obtain ⟨va, us, rfl, ha, D⟩ := datAll_cons D
  obtain ⟨vb, us, rfl, hb, D⟩ := datAll_cons D
  cases D
  refine assign_Tuple_tuple rfl (S2.isTup ma) rfl rfl fun h' he => ?_
  have S3 := S2.extBut (tk := s.toks) he
  show wpAny _ _ (assignInOrder [assign (.Name x px) C.env, assign (.Name y py) C.env] [va, vb]) _ _ _
  refine assignInOrder_cons (PyProof.Rows.assign_Name (storeX_L S3.fr S3.nw (fun h1 F N => ?_) C.hk hx))
  have S4 := S3.store (X := .d da) (tk := s.toks + 1) ha F N
  refine (assignInOrder_cons (PyProof.Rows.assign_Name (storeX_L S4.fr S4.nw (fun h1 F N => ?_) C.hk hy)))
  exact assignInOrder_nil (k _ ⟨_, imm, μr, S4.store (X := .d db) hb F N⟩)
def Quiet (prog : Program) (w : World) (t : Expr) : Prop := ∀ (A : Around) (I l : Addr) (i : Nat) (v : Value) (s : Shared) (Q : Unit → Shared → Prop) E, s.heap.IsListIter I l i → Q () s → wpAny (model prog w) A (letOwnedTupleGo t (.ref I) v) Q E s
theorem Quiet.name : Quiet prog w (.Name x px) := fun _ _ _ _ _ _ _ _ _ h => wpAny_pure h
theorem Quiet.tup {es : List Expr} {i : Nat} : Quiet prog w (.Tuple es i pos) := by
  intro A I l j v s Q E hi h
  cases v
  case ref T => exact wpAny_letOwnedTupleGo_listiter hi h
  all_goals exact wpAny_pure h
theorem MAll.append {imm : Led} {l l' : Led} {L L' : Mu} (h : MAll imm l L) (k : MAll imm l' L') : MAll imm (l ++ l') (L ++ L') := by
  induction h with
  | nil => exact k
  | cons h _ ih => exact .cons h ih
  | work h1 h2 h3 _ ih => exact .work h1 h2 h3 ih
  | hooks h1 _ ih => exact .hooks h1 ih
theorem MAll.split {imm : Led} {L' : Mu} : ∀ {L : Mu} {l : Led}, MAll imm l (L ++ L') → ∃ l1 l2, l = l1 ++ l2 ∧ MAll imm l1 L ∧ MAll imm l2 L' := by
  intro L
  induction L with
  | nil => intro l h; exact ⟨[], l, rfl, .nil, h⟩
  | cons q L ih =>
    intro l h
    cases h with
    | cons h r =>
      obtain ⟨l1, l2, rfl, h1, h2⟩ := ih r
      exact ⟨_ :: l1, l2, rfl, .cons h h1, h2⟩
    | work k1 k2 k3 r =>
      obtain ⟨l1, l2, rfl, h1, h2⟩ := ih r
      exact ⟨_ :: _ :: _ :: _ :: l1, l2, rfl, .work k1 k2 k3 h1, h2⟩
    | hooks k1 r =>
      obtain ⟨l1, l2, rfl, h1, h2⟩ := ih r
      exact ⟨_ :: _ :: l1, l2, rfl, .hooks k1 h1, h2⟩
theorem Ex.forG {target iter : Expr} {body : List Stmt} {xs : List Dat} (σI : Nat → List (Str × V)) (μI : Nat → Mu) (σT : Nat → Dat → List (Str × V)) (h1 : Ev prog w C σ μ iter (.d (.list xs)) (μI 0)) (h0 : ∀ y Y, (σI 0).lookup y = some Y → σ.lookup y = some Y)
    (ht : ∀ (C' : Cx K p fi), C'.room = C.room → C'.cv = C.cv → ∀ i d, xs[i]? = some d → ∀ φ : Mu, Tgt prog w C' (σI i) (μI i ++ φ) target d (σT i d))
    (turn : ∀ (C' : Cx K p fi), C'.room = C.room → C'.cv = C.cv → ∀ i d, xs[i]? = some d → ∀ φ : Mu, Ex prog w C' (σT i d) (μI i ++ φ) body (.next (σI (i + 1)) (μI (i + 1) ++ φ)))
    (done : Ex prog w C (σI xs.length) (μI xs.length) rest O) (hq : Quiet prog w target) (hs : ∀ x, foldedSetIterable iter C.env x = pure x := by intro _; rfl) :
    Ex prog w C σ μ (.For target iter body [] pos :: rest) O := by
  intro ts Ts s Q E S k
  refine wpAny_execs_cons (wpAny_mono (Q := fun f s' => f = .next ∧ St C (σI xs.length) (μI xs.length) ts Ts s') (E := fun _ _ => False) (For_invT C.h₀ ?_ hs PassesOwn.never) (fun f s' hf => ?_) fun _ _ h => h.elim)
  · obtain ⟨m, S⟩ := S.stM
    refine h1 _ _ _ _ _ _ S fun v s1 S1 => ?_
    obtain ⟨imm, μr, S1⟩ := S1
    obtain ⟨hv, S2⟩ := S1.pop
    obtain ⟨ax, vs, n, rfl, ma, D⟩ := dat_list hv
    have hol := (S2.nw _ (List.mem_append.mpr (.inr ma))).1
    have hls : s1.heap.IsList ax vs.toArray := S2.isList ma
    have hne : ax ≠ s1.heap.objs.size := Nat.ne_of_lt (Heap.lt_size hol)
    refine wpAny_pyIter_list hls ?_
    have W := Walks.list (prog := prog) (w := w) (A := C.A) rfl s1.heap.objs.size ax hne vs.toArray
    have hlen : vs.toArray.size = xs.length := by rw [List.size_toArray, D.length]
    rw [hlen] at W
    let J : Nat → (Str → Option Value) → Led → Prop := fun i m' nx => ∃ imm' μr', nx = μr' ++ imm' ∧ (ax, listOf vs.toArray n) ∈ imm' ∧ DatAll imm' vs xs ∧ (∀ q ∈ μr', ∀ r ∈ imm', q.1 ≠ r.1) ∧ (μr'.map (·.1)).Nodup ∧ MAll imm' μr' (μI i) ∧ (∀ q ∈ C.imm₀, q ∈ imm') ∧ Locs imm' m' (σI i) ∧ VAll imm' ts Ts
    have hwr : ∀ b ∈ [s1.heap.objs.size], C.h₀.get? b = none := by
      intro b hb
      rw [List.mem_singleton.mp hb]
      exact next_is_new S2.fr
    refine ⟨s1.heap.objs.size, [s1.heap.objs.size, ax], [s1.heap.objs.size], xs.length, _, _, m, μr ++ imm, J, rfl, W, ?_, hwr, ?_, ⟨⟨_, Heap.get?_push_size _ rfl, rfl, rfl⟩, hls.at fun o e => Heap.get?_push_of_some _ e⟩, S2.fr.push _, (fun q hq => ⟨Heap.get?_push_of_some _ (S2.nw q hq).1, (S2.nw q hq).2⟩), ?_, ?_, ?_, ?_⟩
    · intro hm
      rcases List.mem_cons.mp hm with e | hm
      · exact absurd S2.fr.ns.lt (e ▸ Nat.lt_irrefl _)
      · exact (S2.nw _ (List.mem_append.mpr (.inr ma))).2.1 ((List.mem_singleton.mp hm).symm)
    · intro q hq hI
      exact absurd (Heap.lt_size (S2.nw q hq).1) ((List.mem_singleton.mp hI) ▸ Nat.lt_irrefl _)
    · intro i s' v Q' hst hQ
      exact hq _ _ _ _ _ _ _ _ hst.1 hQ
    · exact ⟨imm, μr, rfl, ma, D, S2.ap, S2.nd, S2.ma, S2.im, fun y Y e => S2.lo y Y (h0 y Y e), S2.tm⟩
    · rintro i v m₁ news₁ s₁ own hin hP ⟨imm', μr', rfl, ma', D', ap, nd, mal, im, lo, tm⟩ hoff hown hget hfp hst F₁ N₁
      have hP' : vs[i]? = some v := by simpa using hP
      have hxi : xs[i]? = some xs[i] := List.getElem?_eq_getElem hin
      obtain ⟨v', hv', hd⟩ := D'.get hin
      have ev : v' = v := by rw [hP'] at hv'; exact (Option.some.inj hv').symm
      subst ev
      obtain ⟨⟨oI, hoI, _⟩, _⟩ := id hst
      have hIown : (s1.heap.objs.size, oI) ∈ own := hfp _ (.head _) (next_is_new S2.fr) _ hoI
      have hlo : s₁.heap.get? ax = some (listOf vs.toArray n) := (N₁ _ (List.mem_append.mpr (.inr (List.mem_append.mpr (.inr ma'))))).1
      have hoffI : ∀ q ∈ μr' ++ imm', q.1 ≠ s1.heap.objs.size := fun q hq e => hoff q hq (List.mem_singleton.mpr e)
      let C' : Cx K p fi := { C with s₀ := s₁ }
      have St1 : St C' (σI i) (μI i ++ [(s1.heap.objs.size, .o oI)]) (v' :: .ref ax :: .ref ax :: ts) (.d xs[i] :: .at ax (listOf vs.toArray n) :: .d (.list xs) :: Ts) s₁ := by
        refine ⟨m₁, imm', μr' ++ [(s1.heap.objs.size, oI)], F₁, fun q hq => N₁ q ?_, ?_, ?_, mal.append (.cons rfl .nil), im, lo, .cons hd (.cons ⟨rfl, ma'⟩ (.cons (.list ma' D') tm)), rfl⟩
        · rcases List.mem_append.mp hq with hq | hq
          · rcases List.mem_append.mp hq with hq | hq
            · exact List.mem_append.mpr (.inr (List.mem_append.mpr (.inl hq)))
            · rw [List.mem_singleton.mp hq]; exact List.mem_append.mpr (.inl hIown)
          · exact List.mem_append.mpr (.inr (List.mem_append.mpr (.inr hq)))
        · intro q hq r hr
          rcases List.mem_append.mp hq with hq | hq
          · exact ap q hq r hr
          · rw [List.mem_singleton.mp hq]; exact Ne.symm (hoffI r (List.mem_append.mpr (.inr hr)))
        · rw [List.map_append, List.nodup_append]
          refine ⟨nd, by simp, ?_⟩
          intro a ha b hb
          obtain ⟨q, hq, rfl⟩ := List.mem_map.mp ha
          simp only [List.map_cons, List.map_nil, List.mem_singleton] at hb
          rw [hb]
          exact hoffI q (List.mem_append.mpr (.inl hq))
      refine ht C' rfl rfl i _ hxi _ _ _ _ _ _ _ St1 fun s2 S2' => turn C' rfl rfl i _ hxi _ _ _ _ _ _ S2' fun f s3 hf => ?_
      obtain ⟨rfl, m3, imm3, μr3, S3⟩ := hf
      obtain ⟨⟨_, mat⟩, S4⟩ := S3.pop
      obtain ⟨hdl, S5⟩ := S4.pop
      clear S3 S4
      obtain ⟨ax2, vs2, n2, e2, ma2, D2⟩ := dat_list hdl
      cases e2
      have q1 := (S5.nw _ (List.mem_append.mpr (.inr ma2))).1
      have q2 := (S5.nw _ (List.mem_append.mpr (.inr mat))).1
      rw [q1] at q2
      have q3 := Option.some.inj q2
      simp only [Obj.mk.injEq, Data.seq.injEq, true_and, and_true] at q3
      have q4 : vs2 = vs := by simpa using q3.1
      subst q4
      obtain ⟨μa, μb, rfl, mal3, mb3⟩ := S5.ma.split
      cases mb3 with
      | @cons _ oI2 _ _ _ hI hnil =>
        cases hnil
        have hI : oI2 = oI := hI
        have nd3 := S5.nd
        rw [List.map_append, List.nodup_append] at nd3
        refine ⟨rfl, s3.heap, s3.toks, m3, μa ++ imm3, S5.sm, S5.fr, ?_, ?_, imm3, μa, rfl, mat, D2, ?_, nd3.1, mal3, S5.im, S5.lo, S5.tm⟩
        · intro q hq
          rcases List.mem_append.mp hq with hq | hq
          · have e1 := hget q hq
            rcases List.mem_cons.mp (hown q hq) with e | e
            · rw [e, hoI] at e1
              have e3 : q = (s1.heap.objs.size, oI) := Prod.ext e (Option.some.inj e1).symm
              rw [e3, ← hI]
              exact S5.nw _ (List.mem_append.mpr (.inl (List.mem_append.mpr (.inr (.head _)))))
            · have e := List.mem_singleton.mp e
              rw [e, hlo] at e1
              have e3 : q = (ax, listOf vs2.toArray n) := Prod.ext e (Option.some.inj e1).symm
              rw [e3]
              exact S5.nw _ (List.mem_append.mpr (.inr mat))
          · rcases List.mem_append.mp hq with hq | hq
            · exact S5.nw _ (List.mem_append.mpr (.inl (List.mem_append.mpr (.inl hq))))
            · exact S5.nw _ (List.mem_append.mpr (.inr hq))
        · intro q hq hm
          have hm := List.mem_singleton.mp hm
          rcases List.mem_append.mp hq with hq | hq
          · exact nd3.2.2 _ (List.mem_map.mpr ⟨q, hq, rfl⟩) _ (by simp) hm
          · exact S5.ap _ (List.mem_append.mpr (.inr (.head _))) q hq hm.symm
        · intro q hq r hr
          exact S5.ap q (List.mem_append.mpr (.inl hq)) r hr
    · rintro h' tk m' news' F' N' _ ⟨imm', μr', rfl, ma', D', ap, nd, mal, im, lo, tm⟩
      refine ⟨rfl, m', imm', μr', F', N', ap, nd, mal, im, lo, tm, ?_⟩
      rw [S2.sm]
  · obtain ⟨rfl, hS⟩ := hf
    exact done _ _ _ _ _ hS k
end Mine
namespace Mine
abbrev S (x : String) : Str := Str.ofString x
abbrev dS (x : String) : Dat := .str (Str.ofString x)
mutual
inductive Vt where
  | null
  | text (s : Str)
  | whole (i : Int)
  | name (s : Str)
  | join (a b : Vt)
  | bin (op : Str) (a b : Vt)
  | given (op : Str) (a : Vt) (b : Nt)
  | neg (a : Vt)
  | dollar (a : Vt)
  | star (a : Vt)
  | opt (a : Vt)
  | dot (n : Nt)
  | «at» (n : Nt)
  | call (f : Str) (as : Vl)
  | item (o : Vt) (ks : Vl)
  | kw (s : Str)
  | not (a : Vt) (as : Vl)
inductive Nt where
  | name (s : Str)
  | call (f : Str) (as : Vl)
  | item (o : Vt) (ks : Vl)
  | dollar (a : Vt)
  | kw (s : Str)
inductive Vl where
  | nil
  | cons (a : Vt) (l : Vl)
end
mutual
def Vt.dat : Vt → Dat
  | .null => .tuple [dS "null"]
  | .text s => .tuple [dS "text", .str s]
  | .whole i => .tuple [dS "whole", .int i]
  | .name s => .tuple [dS "name", .str s]
  | .join a b => .tuple [dS "join", a.dat, b.dat]
  | .bin op a b => .tuple [dS "binary", .str op, a.dat, b.dat]
  | .given op a b => .tuple [dS "binary", .str op, a.dat, b.dat]
  | .neg a => .tuple [dS "unary", dS "-", a.dat]
  | .dollar a => .tuple [dS "unary", dS "$", a.dat]
  | .star a => .tuple [dS "unary", dS "*", a.dat]
  | .opt a => .tuple [dS "unary", dS "?", a.dat]
  | .dot n => .tuple [dS "unary", dS ".", n.dat]
  | .at n => .tuple [dS "unary", dS "@", n.dat]
  | .call f as => .tuple [dS "call", .str f, .list as.dats]
  | .item o ks => .tuple [dS "item", o.dat, .list ks.dats]
  | .kw s => .tuple [dS "unary", dS "&", .tuple [dS "name", .str s]]
  | .not a as => .tuple [dS "unary", dS "~", .tuple [dS "join", a.dat, .tuple [dS "call", dS "LOSES", .list as.dats]]]
def Nt.dat : Nt → Dat
  | .name s => .tuple [dS "name", .str s]
  | .call f as => .tuple [dS "call", .str f, .list as.dats]
  | .item o ks => .tuple [dS "item", o.dat, .list ks.dats]
  | .dollar a => .tuple [dS "unary", dS "$", a.dat]
  | .kw s => .tuple [dS "unary", dS "&", .tuple [dS "name", .str s]]
def Vl.dats : Vl → List Dat
  | .nil => []
  | .cons a l => a.dat :: l.dats
end
mutual
def Vt.sz : Vt → Nat
  | .null | .text _ | .whole _ | .name _ | .kw _ => 1
  | .join a b => 1 + a.sz + b.sz
  | .bin _ a b => 1 + a.sz + b.sz
  | .given _ a b => 1 + a.sz + b.sz
  | .neg a | .dollar a | .star a | .opt a => 1 + a.sz
  | .dot n | .at n => 1 + n.sz
  | .call _ as => 1 + as.sz
  | .item o ks => 1 + o.sz + ks.sz
  | .not a as => 3 + a.sz + as.sz
def Nt.sz : Nt → Nat
  | .name _ | .kw _ => 1
  | .call _ as => 1 + as.sz
  | .item o ks => 1 + o.sz + ks.sz
  | .dollar a => 1 + a.sz
def Vl.sz : Vl → Nat
  | .nil => 1
  | .cons a l => 1 + a.sz + l.sz
end
def Vl.len : Vl → Nat
  | .nil => 0
  | .cons _ l => l.len + 1
inductive Ord where
  | push (d : Dat)
  | var (s : Str)
  | ref (s : Str)
  | kw (s : Str)
  | value
  | indirect
  | call (f : Str) (n : Nat) (b : Bool)
  | item (n : Nat) (b : Bool)
  | unary (op : Str)
  | binary (op : Str)
  | join
  | delayed (d : Dat)
  | given (op : Str)
  | cursor
  | guard (k : Nat)
  | unguard
  | fail
  | drop
def Ord.dat : Ord → Dat
  | .push d => .tuple [dS "PUSH", d]
  | .var s => .tuple [dS "VAR", .str s]
  | .ref s => .tuple [dS "REF", .str s]
  | .kw s => .tuple [dS "KEYWORD", .str s]
  | .value => .tuple [dS "VALUE"]
  | .indirect => .tuple [dS "INDIRECT"]
  | .call f n b => .tuple [dS "CALL", .str f, .int n, .bool b]
  | .item n b => .tuple [dS "ITEM", .int n, .bool b]
  | .unary op => .tuple [dS "UNARY", .str op]
  | .binary op => .tuple [dS "BINARY", .str op]
  | .join => .tuple [dS "JOIN"]
  | .delayed d => .tuple [dS "DELAYED", d]
  | .given op => .tuple [dS "GIVEN", .str op]
  | .cursor => .tuple [dS "CURSOR"]
  | .guard k => .tuple [dS "GUARD", .int k]
  | .unguard => .tuple [dS "UNGUARD"]
  | .fail => .tuple [dS "FAIL"]
  | .drop => .tuple [dS "DROP"]
mutual
def Vt.vo : Vt → List Ord
  | .null => [.push (dS "")]
  | .text s => [.push (.str s)]
  | .whole i => [.push (.int i)]
  | .name s => [.var s]
  | .join a b => a.vo ++ b.vo ++ [.join]
  | .bin op a b => a.vo ++ b.vo ++ [.binary op]
  | .given op a b => a.vo ++ b.no ++ [.given op]
  | .neg a => a.vo ++ [.unary (S "-")]
  | .dollar a => a.vo ++ [.indirect, .value]
  | .star a => [.delayed a.dat]
  | .opt a => a.vo ++ [.drop, .push (dS "")]
  | .dot n => n.no
  | .at n => n.no ++ [.cursor]
  | .call f as => as.vl ++ [.call f as.len false]
  | .item o ks => o.vo ++ ks.vl ++ [.item ks.len false]
  | .kw s => [.kw s, .value]
  | .not a as => Ord.guard ((a.vo ++ (as.vl ++ [Ord.call (S "LOSES") as.len false]) ++ [Ord.join]).length + 3) :: (a.vo ++ (as.vl ++ [Ord.call (S "LOSES") as.len false]) ++ [Ord.join]) ++ [.unguard, .fail, .push (dS "")]
def Nt.no : Nt → List Ord
  | .name s => [.ref s]
  | .call f as => as.vl ++ [.call f as.len true]
  | .item o ks => o.vo ++ ks.vl ++ [.item ks.len true]
  | .dollar a => a.vo ++ [.indirect]
  | .kw s => [.kw s]
def Vl.vl : Vl → List Ord
  | .nil => []
  | .cons a l => a.vo ++ l.vl
end
theorem Vl.dats_length : ∀ l : Vl, l.dats.length = l.len
  | .nil => by simp [Vl.dats, Vl.len]
  | .cons a l => by simp [Vl.dats, Vl.len, Vl.dats_length l]
theorem Vl.len_le : ∀ l : Vl, l.len ≤ l.sz
  | .nil => by simp [Vl.len]
  | .cons a l => by have := Vl.len_le l; simp only [Vl.len, Vl.sz]; omega
mutual
theorem Vt.vo_len : ∀ t : Vt, t.vo.length ≤ 3 * t.sz
  | .null | .text _ | .whole _ | .name _ | .kw _ | .star _ => by simp [Vt.vo, Vt.sz] <;> omega
  | .join a b => by have := Vt.vo_len a; have := Vt.vo_len b; simp only [Vt.vo, Vt.sz, List.length_append, List.length_cons, List.length_nil]; omega
  | .bin _ a b => by have := Vt.vo_len a; have := Vt.vo_len b; simp only [Vt.vo, Vt.sz, List.length_append, List.length_cons, List.length_nil]; omega
  | .given _ a b => by have := Vt.vo_len a; have := Nt.no_len b; simp only [Vt.vo, Vt.sz, List.length_append, List.length_cons, List.length_nil]; omega
  | .neg a => by have := Vt.vo_len a; simp only [Vt.vo, Vt.sz, List.length_append, List.length_cons, List.length_nil]; omega
  | .dollar a => by have := Vt.vo_len a; simp only [Vt.vo, Vt.sz, List.length_append, List.length_cons, List.length_nil]; omega
  | .opt a => by have := Vt.vo_len a; simp only [Vt.vo, Vt.sz, List.length_append, List.length_cons, List.length_nil]; omega
  | .dot n => by have := Nt.no_len n; simp only [Vt.vo, Vt.sz]; omega
  | .at n => by have := Nt.no_len n; simp only [Vt.vo, Vt.sz, List.length_append, List.length_cons, List.length_nil]; omega
  | .call _ as => by have := Vl.vl_len as; simp only [Vt.vo, Vt.sz, List.length_append, List.length_cons, List.length_nil]; omega
  | .item o ks => by have := Vt.vo_len o; have := Vl.vl_len ks; simp only [Vt.vo, Vt.sz, List.length_append, List.length_cons, List.length_nil]; omega
  | .not a as => by have := Vt.vo_len a; have := Vl.vl_len as; simp only [Vt.vo, Vt.sz, List.length_append, List.length_cons, List.length_nil]; omega
theorem Nt.no_len : ∀ t : Nt, t.no.length ≤ 3 * t.sz
  | .name _ | .kw _ => by simp [Nt.no, Nt.sz]
  | .call _ as => by have := Vl.vl_len as; simp only [Nt.no, Nt.sz, List.length_append, List.length_cons, List.length_nil]; omega
  | .item o ks => by have := Vt.vo_len o; have := Vl.vl_len ks; simp only [Nt.no, Nt.sz, List.length_append, List.length_cons, List.length_nil]; omega
  | .dollar a => by have := Vt.vo_len a; simp only [Nt.no, Nt.sz, List.length_append, List.length_cons, List.length_nil]; omega
theorem Vl.vl_len : ∀ l : Vl, l.vl.length ≤ 3 * l.sz
  | .nil => by simp [Vl.vl]
  | .cons a l => by have := Vt.vo_len a; have := Vl.vl_len l; simp only [Vl.vl, Vl.sz, List.length_append]; omega
end
mutual
def Vt.ok : Vt → Prop
  | .null | .whole _ => True
  | .text s | .name s | .kw s => PyData.strOk s = true
  | .join a b => a.ok ∧ b.ok
  | .bin op a b => (PyData.strOk op = true ∧ (op == S ".") = false ∧ (op == S "$") = false) ∧ a.ok ∧ b.ok
  | .given op a b => (op = S "." ∨ op = S "$") ∧ a.ok ∧ b.ok
  | .neg a | .dollar a | .star a | .opt a => a.ok
  | .dot n | .at n => n.ok
  | .call f as => (PyData.strOk f = true ∧ (f == S "LOSES") = false) ∧ as.ok
  | .item o ks => o.ok ∧ ks.ok
  | .not a as => a.ok ∧ as.ok
def Nt.ok : Nt → Prop
  | .name s | .kw s => PyData.strOk s = true
  | .call f as => (PyData.strOk f = true ∧ (f == S "LOSES") = false) ∧ as.ok
  | .item o ks => o.ok ∧ ks.ok
  | .dollar a => a.ok
def Vl.ok : Vl → Prop
  | .nil => True
  | .cons a l => a.ok ∧ l.ok
end
end Mine
namespace Mine
variable {K : Frag} {p : Program} {fi : Fi} {prog : Program} {w : World}
variable {C : Cx K p fi} {σ σ' σ₁ σ₂ : List (Str × V)} {μ μ' μ₁ μ₂ μ₃ : Mu} {pos px py p1 p2 p3 : Pos} {ts : List Value} {Ts : List V} {s : Shared} {O : Out} {X X' : V} {x y : Str} {rest : List Stmt}
theorem Spec.mono {n n' : Nat} {f : Addr} {Xs : List V} (h : Spec prog w K p n f Xs μ X μ') (hn : n ≤ n') : Spec prog w K p n' f Xs μ X μ' :=
  fun fi C σ m ts Ts vs s Q E hr => h fi C σ m ts Ts vs s Q E (Nat.le_trans hn hr)
def SpecP (prog : Program) (w : World) (K : Frag) (p : Program) (n : Nat) (f : Addr) (Xs : List V) (X : V) : Prop := ∀ μ, Spec prog w K p n f Xs μ X μ
theorem SpecP.mono {n n' : Nat} {f : Addr} {Xs : List V} (h : SpecP prog w K p n f Xs X) (hn : n ≤ n') : SpecP prog w K p n' f Xs X := fun μ => (h μ).mono hn
theorem Ev.callP {f : Addr} {e : Expr} {es : List Expr} {Xs : List V} {n : Nat} (hg : nsIn K mainGlobals x = some (some (.ref f))) (hf : keepIn K (.ref f) = true)
    (hL : EvL prog w C σ μ (e :: es) Xs μ₁) (hS : SpecP prog w K p n f Xs X) (hn : n ≤ C.room) (hx : fi.cs.names.lookup x = some .globalImplicit := by rfl) (hd : (x == ("__debug__" : Str)) = false := by decide)
    (he : starEach (e :: es) C.env = (false, eval e C.env) :: starEach es C.env := by rfl) (hp : ∀ pos, (backTo pos (starEach es C.env)).any (·.1) = false := by intro _; rfl) :
    Ev prog w C σ μ (.Call (.Name x px) (e :: es) [] pos) X μ₁ := Ev.call hg hf hL (hS _) hn hx hd he hp
theorem Ex.retE {e : Expr} (h : Ev prog w C σ μ e X' μ₁) (hX : X' = X) : Ex prog w C σ μ (.Return (some e) pos :: rest) (.ret X μ₁) := hX ▸ Ex.ret h
def AllLk (σ : List (Str × V)) : List (Str × V) → Prop
  | [] => True
  | q :: r => σ.lookup q.1 = some q.2 ∧ AllLk σ r
theorem AllLk.use : ∀ {σ₂ : List (Str × V)}, AllLk σ σ₂ → ∀ y Y, σ₂.lookup y = some Y → σ.lookup y = some Y
  | [], _, _, _, e => by cases e
  | (z, Z) :: r, ⟨h, k⟩, y, Y, e => by
    rw [List.lookup_cons] at e
    cases hb : y == z with
    | true => rw [hb] at e; rw [eq_of_beq hb]; cases e; exact h
    | false => rw [hb] at e; exact AllLk.use k y Y e
theorem Ex.nilK (h : AllLk σ σ₂) : Ex prog w C σ μ [] (.next σ₂ μ) := Ex.nil h.use
end Mine
namespace Mine
variable {K : Frag} {p : Program} {fi : Fi} {prog : Program} {w : World}
variable {C : Cx K p fi} {σ σ' σ₁ σ₂ : List (Str × V)} {μ μ' μ₁ μ₂ μ₃ : Mu} {pos px py p1 p2 p3 : Pos} {ts : List Value} {Ts : List V} {s : Shared} {O : Out} {X X' : V} {x y : Str} {rest : List Stmt}
def ElEv (prog : Program) (w : World) (C : Cx K p fi) (σ : List (Str × V)) (μ : Mu) (elt : Expr) (x : Str) (scope : Scope) (cl : List (Str × Addr)) (d y : Dat) (μ' : Mu) : Prop :=
  ∀ m ts Ts v s (Q : Value → Shared → Prop) E Cc oC m₂, (Cc, Mo.o oC) ∈ μ → LCg.NsObj oC m₂ → m₂ x = some v → StM C σ μ (v :: ts) (.d d :: Ts) m s →
    (∀ u s', StM C σ μ' (u :: v :: ts) (.d y :: .d d :: Ts) m s' → Q u s') → wpAny (model prog w) C.A (eval elt (compEnvC scope cl Cc C.env)) Q E s
theorem comp_core {elt : Expr} {scope : Scope} {cl : List (Str × Addr)} {m : Str → Option Value} {n : Nat} {P : Nat → Value → Prop} {Sr : Led → Prop} {us : List Value} {Us : List V} (μI : Nat → Mu) (Yf Df : Nat → Dat) {Q : Value → Shared → Prop}
    (hs : s = { C.s₀ with heap := s.heap, toks := s.toks })
    (hS : ∀ imm : Led, VAll imm us Us → ∀ news : Led, (∀ q ∈ imm, q ∈ news) → Sr news)
    (hP : ∀ i v (imm : Led) (h : Heap), i < n → P i v → (∀ q ∈ imm, h.get? q.1 = some q.2) → VAll imm us Us → DatIn imm v (Df i))
    (hel : ∀ i, i < n → ∀ φ : Mu, ElEv prog w C σ (μI i ++ φ) elt x scope cl (Df i) (Yf i) (μI (i + 1) ++ φ))
    (fin : ∀ v s', StM C σ (μI n) (v :: ts) (.d (.list ((List.range n).map Yf)) :: Ts) m s' → Q v s') :
    ∀ (k i : Nat) (ys : List Value) (imm μr : Led), i + k = n → (∀ q ∈ μr, ∀ r ∈ imm, q.1 ≠ r.1) → (μr.map (·.1)).Nodup → MAll imm μr (μI i) → (∀ q ∈ C.imm₀, q ∈ imm) → Locs imm m σ → DatAll imm ys ((List.range i).map Yf) → VAll imm us Us → VAll imm ts Ts →
      LCg.CompRest prog w C.A C.h₀ C.L m C.env elt x scope cl s Sr P (LCg.FinE C.h₀ C.L m s Q) k i ys (μr ++ imm) := by
  intro k
  induction k with
  | zero =>
    intro i ys imm μr hi ap nd ma im lo hy hu ht
    have hi : i = n := by omega
    subst hi
    refine LCg.CompRest.zero ?_
    intro D h tk F N off
    refine fin _ _ ⟨(D, listOf ys.toArray ys.length) :: imm, μr, F, fun q hq => N q ?_, ?_, nd, ma.mono fun q hq => .tail _ hq, fun q hq => .tail _ (im q hq), lo.mono fun q hq => .tail _ hq, .cons (DatIn.list (.head _) (DatAll.mono (fun q hq => .tail _ hq) hy)) (ht.mono fun q hq => .tail _ hq), by rw [hs]⟩
    · rcases List.mem_append.mp hq with hq | hq
      · exact .tail _ (List.mem_append.mpr (.inl hq))
      · rcases List.mem_cons.mp hq with rfl | hq
        · exact .head _
        · exact .tail _ (List.mem_append.mpr (.inr hq))
    · intro q hq r hr
      rcases List.mem_cons.mp hr with rfl | hr
      · have hoff : ∀ (l : Led), LCg.Off1 D l → ∀ q ∈ l, q.1 ≠ D := by
          intro l
          induction l with
          | nil => intro _ q hq; cases hq
          | cons a l ih =>
            intro o q hq
            rcases List.mem_cons.mp hq with rfl | hq
            · exact o.1
            · exact ih o.2 q hq
        exact hoff _ off q (List.mem_append.mpr (.inl hq))
      · exact ap q hq r hr
  | succ k ih =>
    intro i ys imm μr hi ap nd ma im lo hy hu ht
    refine LCg.CompRest.succ ?_
    intro v I oI Cc oC D m₂ h tk E' hv hC hx F N off ne
    have hoff := LCg.Off3.mem off
    have hget : ∀ q ∈ imm, h.get? q.1 = some q.2 := fun q hq => (N q (.tail _ (.tail _ (.tail _ (List.mem_append.mpr (.inr hq)))))).1
    have hd := hP i v imm h (by omega) hv hget hu
    have tys : ∀ (vs : List Value) (ds : List Dat), DatAll imm vs ds → VAll imm vs (ds.map V.d) := by
      intro vs
      induction vs with
      | nil => intro ds h; cases h; exact .nil
      | cons v vs ih => intro ds h; cases h with | cons h r => exact .cons h (ih _ r)
    have S1 : StM C σ (μI i ++ [(I, .o oI), (Cc, .o oC), (D, .o (LCg.lst ys))]) (v :: (ys ++ (us ++ ts))) (.d (Df i) :: (((List.range i).map Yf).map V.d ++ (Us ++ Ts))) m { s with heap := h, toks := tk } := by
      refine ⟨imm, μr ++ [(I, oI), (Cc, oC), (D, LCg.lst ys)], F, fun q hq => N q ?_, ?_, ?_, ma.append (.cons rfl (.cons rfl (.cons rfl .nil))), im, lo, .cons hd ((tys _ _ hy).append (hu.append ht)), by rw [hs]⟩
      · rcases List.mem_append.mp hq with hq | hq
        · rcases List.mem_append.mp hq with hq | hq
          · exact .tail _ (.tail _ (.tail _ (List.mem_append.mpr (.inl hq))))
          · simp only [List.mem_cons, List.not_mem_nil, or_false] at hq
            rcases hq with rfl | rfl | rfl
            · exact .head _
            · exact .tail _ (.head _)
            · exact .tail _ (.tail _ (.head _))
        · exact .tail _ (.tail _ (.tail _ (List.mem_append.mpr (.inr hq))))
      · intro q hq r hr
        rcases List.mem_append.mp hq with hq | hq
        · exact ap q hq r hr
        · have := hoff r (List.mem_append.mpr (.inr hr))
          simp only [List.mem_cons, List.not_mem_nil, or_false] at hq
          rcases hq with rfl | rfl | rfl
          · exact Ne.symm this.1
          · exact Ne.symm this.2.1
          · exact Ne.symm this.2.2
      · rw [List.map_append, List.nodup_append]
        refine ⟨nd, ?_, ?_⟩
        · have n1 : ¬ I = Cc := ne.1
          have n2 : ¬ I = D := ne.2.1
          have n3 : ¬ Cc = D := ne.2.2
          simp [n1, n2, n3]
        · intro a ha b hb
          obtain ⟨q, hq, rfl⟩ := List.mem_map.mp ha
          have := hoff q (List.mem_append.mpr (.inl hq))
          simp only [List.map_cons, List.map_nil, List.mem_cons, List.not_mem_nil, or_false] at hb
          rcases hb with rfl | rfl | rfl
          · exact this.1
          · exact this.2.1
          · exact this.2.2
    refine hel i (by omega) _ _ _ _ _ _ _ _ _ _ _ (List.mem_append.mpr (.inr (.tail _ (.head _)))) hC hx S1 fun u s' S2 => ?_
    obtain ⟨imm2, μr2, S2⟩ := S2
    obtain ⟨hu2, S3⟩ := S2.pop
    obtain ⟨hv2, S4⟩ := S3.pop
    have ely := hy.length
    have etm := S4.tm.length
    obtain ⟨ty, tm⟩ := VAll.split ys (by rw [List.length_map]; exact ely) S4.tm
    have elu := hu.length
    obtain ⟨tu, tt⟩ := VAll.split us elu tm
    obtain ⟨μa, μb, rfl, mal, mb⟩ := S4.ma.split
    cases mb with
    | @cons _ oI2 _ _ _ h1 mb =>
      cases mb with
      | @cons _ oC2 _ _ _ h2 mb =>
        cases mb with
        | @cons _ oD2 _ _ _ h3 mb =>
          cases mb
          have h1 : oI2 = oI := h1
          have h2 : oC2 = oC := h2
          have h3 : oD2 = LCg.lst ys := h3
          subst h1 h2 h3
          have nd3 := S4.nd
          rw [List.map_append, List.nodup_append] at nd3
          have hoff2 : ∀ q ∈ μa ++ imm2, q.1 ≠ I ∧ q.1 ≠ Cc ∧ q.1 ≠ D := by
            intro q hq
            rcases List.mem_append.mp hq with hq | hq
            · have k3 := nd3.2.2 q.1 (List.mem_map.mpr ⟨q, hq, rfl⟩)
              exact ⟨k3 I (by simp), k3 Cc (by simp), k3 D (by simp)⟩
            · exact ⟨Ne.symm (S4.ap _ (List.mem_append.mpr (.inr (.head _))) q hq), Ne.symm (S4.ap _ (List.mem_append.mpr (.inr (.tail _ (.head _)))) q hq), Ne.symm (S4.ap _ (List.mem_append.mpr (.inr (.tail _ (.tail _ (.head _))))) q hq)⟩
          have dys : ∀ (vs : List Value) (ds : List Dat), VAll imm2 vs (ds.map V.d) → DatAll imm2 vs ds := by
            intro vs ds
            induction ds generalizing vs with
            | nil => intro h; cases h; exact .nil
            | cons d ds ih => intro h; cases h with | cons h r => exact .cons h (ih _ r)
          refine ⟨s'.heap, s'.toks, μa ++ imm2, ?_, S4.fr, fun q hq => S4.nw q ?_, LCg.Off3.of hoff2, hS imm2 tu _ (fun q hq => List.mem_append.mpr (.inr hq)), ?_⟩
          · show s' = { s with heap := s'.heap, toks := s'.toks }
            rw [hs]
            exact S4.sm
          · rcases List.mem_cons.mp hq with rfl | hq
            · exact List.mem_append.mpr (.inl (List.mem_append.mpr (.inr (.head _))))
            · rcases List.mem_cons.mp hq with rfl | hq
              · exact List.mem_append.mpr (.inl (List.mem_append.mpr (.inr (.tail _ (.head _)))))
              · rcases List.mem_cons.mp hq with rfl | hq
                · exact List.mem_append.mpr (.inl (List.mem_append.mpr (.inr (.tail _ (.tail _ (.head _))))))
                · rcases List.mem_append.mp hq with hq | hq
                  · exact List.mem_append.mpr (.inl (List.mem_append.mpr (.inl hq)))
                  · exact List.mem_append.mpr (.inr hq)
          · refine ih (i + 1) (ys ++ [u]) imm2 μa (by omega) (fun q hq r hr => S4.ap q (List.mem_append.mpr (.inl hq)) r hr) nd3.1 mal S4.im S4.lo ?_ tu tt
            rw [List.range_succ, List.map_append]
            exact (dys _ _ ty).append (.one hu2)
theorem Ev.compL {elt iter : Expr} {scope : Scope} {cl : List (Str × Addr)} {xs : List Dat} (μI : Nat → Mu) (Yf : Nat → Dat) (h1 : Ev prog w C σ μ iter (.d (.list xs)) (μI 0)) (hz : xs.length ≤ 1000000)
    (hel : ∀ i d, xs[i]? = some d → ∀ φ : Mu, ElEv prog w C σ (μI i ++ φ) elt x scope cl d (Yf i) (μI (i + 1) ++ φ))
    (hclos : closureFor scope C.env = pure cl) (hcell : ∀ y ∈ scope.names, y.2 ≠ .cell) (hkind : scope.kind = .function)
    (hnames : ∀ y ∈ scope.names, y.2 = .local → scope.names.lookup y.1 = some .local) (hx : scope.names.lookup x = some .local) (hs : ∀ x, foldedSetIterable iter C.env x = pure x := by intro _; rfl) :
    Ev prog w C σ μ (.ListComp elt [⟨.Name x px, iter, [], 0⟩] scope pos) (.d (.list ((List.range xs.length).map Yf))) (μI xs.length) := by
  intro m ts Ts s Q E S k
  have F0 : Fr C.h₀ C.L s.heap m := by obtain ⟨imm, μr, S⟩ := S; exact S.fr
  refine LCg.ListComp_U F0 hclos hcell hkind hnames hx (h1 _ _ _ _ _ _ S fun v s1 S1 => ?_) hs
  obtain ⟨imm, μr, S1⟩ := S1
  obtain ⟨hv, S2⟩ := S1.pop
  obtain ⟨ax, vs, n, rfl, ma, D⟩ := dat_list hv
  have hlen : vs.toArray.size = xs.length := by rw [List.size_toArray, D.length]
  refine LCg.CompSrc.ledger (its := vs.toArray) (k := n) rfl S2.fr S2.nw (List.mem_append.mpr (.inr ma)) (by rw [hlen, sizeLine_eq]; omega) fun g => ?_
  rw [hlen]
  refine comp_core (ts := ts) (Ts := Ts) (us := [.ref ax, .ref ax]) (Us := [.at ax (listOf vs.toArray n), .d (.list xs)]) μI Yf (fun i => xs.getD i .none) ?_ ?_ ?_ ?_ ?_ _ _ _ _ _ (Nat.zero_add _) S2.ap S2.nd S2.ma S2.im S2.lo .nil (.cons ⟨rfl, ma⟩ (.cons (.list ma D) .nil)) S2.tm
  · rw [S2.sm]
  · intro imm' hu news' hsub
    cases hu with
    | cons a r => exact .inr ⟨_, hsub _ a.2, rfl, n, rfl⟩
  · intro i v imm' h hi hP hget hu
    cases hu with
    | cons a r =>
      cases r with
      | cons b r =>
        obtain ⟨ax2, vs2, n2, e2, ma2, D2⟩ := dat_list b
        cases e2
        have q1 := hget _ ma2
        have q2 := hget _ a.2
        rw [q1] at q2
        have q3 := Option.some.inj q2
        simp only [Obj.mk.injEq, Data.seq.injEq, true_and, and_true] at q3
        have q4 : vs2 = vs := by simpa using q3.1
        subst q4
        obtain ⟨v', hv', hd⟩ := D2.get hi
        have hP' : vs2[i]? = some v := by simpa using hP
        have ev : v' = v := by rw [hP'] at hv'; exact (Option.some.inj hv').symm
        subst ev
        rw [List.getD_eq_getElem?_getD, List.getElem?_eq_getElem hi]
        exact hd
  · intro i hi φ
    have e : xs[i]? = some (xs.getD i .none) := by rw [List.getD_eq_getElem?_getD, List.getElem?_eq_getElem hi]; rfl
    exact hel i _ e φ
  · exact k
theorem Ev.compR {elt e : Expr} {scope : Scope} {cl : List (Str × Addr)} {n : Nat} {pc pr : Pos} (μI : Nat → Mu) (Yf : Nat → Dat) (h1 : Ev prog w C σ μ e (.d (.int n)) (μI 0)) (hz : n ≤ 1000000) (hg : nsIn K mainGlobals ("range" : Str) = some Option.none) (hb : bootBuiltins ("range" : Str) = some (.type "range"))
    (hel : ∀ i, i < n → ∀ φ : Mu, ElEv prog w C σ (μI i ++ φ) elt x scope cl (.int i) (Yf i) (μI (i + 1) ++ φ))
    (hclos : closureFor scope C.env = pure cl) (hcell : ∀ y ∈ scope.names, y.2 ≠ .cell) (hkind : scope.kind = .function)
    (hnames : ∀ y ∈ scope.names, y.2 = .local → scope.names.lookup y.1 = some .local) (hx : scope.names.lookup x = some .local) (hr : fi.cs.names.lookup ("range" : Str) = some .globalImplicit := by rfl)
    (he : starEach [e] C.env = (false, eval e C.env) :: starEach [] C.env := by rfl) (hs : ∀ x, foldedSetIterable (.Call (.Name ("range" : Str) pr) [e] [] pc) C.env x = pure x := by intro _; rfl) :
    Ev prog w C σ μ (.ListComp elt [⟨.Name x px, .Call (.Name ("range" : Str) pr) [e] [] pc, [], 0⟩] scope pos) (.d (.list ((List.range n).map Yf))) (μI n) := by
  intro m ts Ts s Q E S k
  have F0 : Fr C.h₀ C.L s.heap m := by obtain ⟨imm, μr, S⟩ := S; exact S.fr
  refine LCg.ListComp_U F0 hclos hcell hkind hnames hx (Call_Name rfl ?_) hs
  obtain ⟨imm, μr, S'⟩ := id S
  refine nameX_B S'.fr C.hX (topRead_of C.hT) hg hb (by decide) ?_ C.hk hr (by decide)
  refine Pv.callWith_type1 ?_ he rfl
  rw [he]
  refine Calls.spliced_cons (h1 _ _ _ _ _ _ S fun v s1 S1 => Calls.spliced_nil ?_)
  obtain ⟨imm, μr, S1⟩ := S1
  obtain ⟨hv, S2⟩ := S1.pop
  obtain ⟨t, rfl⟩ := dat_int hv
  refine range1_rows S2.fr S2.nw fun h' tk t₁ u₁ v₁ hr F N up => ?_
  refine LCg.CompSrc.range (n := n) rfl F N hr (small_one (by omega) (by omega) (by omega) (by omega)) (by rw [rangeSize_nat]; omega) (by rw [sizeLine_eq]; omega) fun g => ?_
  refine comp_core (ts := ts) (Ts := Ts) (us := []) (Us := []) μI Yf (fun i => .int i) ?_ ?_ ?_ ?_ ?_ _ _ _ _ _ (Nat.zero_add _) S2.ap S2.nd S2.ma S2.im S2.lo .nil .nil S2.tm
  · rw [S2.sm]
  · intro _ _ _ _; trivial
  · rintro i v imm' h hi ⟨t, rfl⟩ _ _
    rw [Int.zero_add]
    exact .int _ _
  · exact hel
  · exact k
theorem comp_local {M : Model} {A : Around} {E : Value → Shared → Prop} {env : Env} {Cc : Addr} {oC : Obj} {m₂ : Str → Option Value} {scope : Scope} {cl : List (Str × Addr)} {v : Value} {Q : Value → Shared → Prop} (ho : s.heap.get? Cc = some oC) (hC : LCg.NsObj oC m₂) (hv : m₂ x = some v) (h : Q v s)
    (hk : (compEnvC scope cl Cc env).scope.kind = .function) (hx : (compEnvC scope cl Cc env).kindOf x = some .local) (hd : (x == ("__debug__" : Str)) = false) :
    wpAny M A (eval (.Name x px) (compEnvC scope cl Cc env)) Q E s := wpAny_Name (wpAny_loadName_local hk hx (hC.ns ho) hv h) hd
theorem comp_cell {M : Model} {A : Around} {E : Value → Shared → Prop} {env : Env} {Cc c : Addr} {o : Obj} {scope : Scope} {cl : List (Str × Addr)} {v : Value} {Q : Value → Shared → Prop} (ho : s.heap.get? c = some o) (hd : o.data = .cell (some v)) (hc : cl.lookup x = some c) (h : Q v s)
    (hk : (compEnvC scope cl Cc env).scope.kind = .function) (hx : (compEnvC scope cl Cc env).kindOf x = some .cell) (hb : (x == ("__debug__" : Str)) = false) :
    wpAny M A (eval (.Name x px) (compEnvC scope cl Cc env)) Q E s := wpAny_Name (wpAny_loadName_cell hk hx hc ⟨o, ho, hd⟩ h) hb
theorem MAll.get {imm : Led} {l : Led} {L : Mu} (h : MAll imm l L) {a : Addr} {o : Obj} (hm : (a, Mo.o o) ∈ L) : (a, o) ∈ l := by
  induction h with
  | nil => cases hm
  | @cons b x y l L hx _ ih =>
    rcases List.mem_cons.mp hm with e | hm
    · cases e
      obtain rfl : x = o := hx
      exact .head _
    · exact .tail _ (ih hm)
  | work _ _ _ _ ih =>
    rcases List.mem_cons.mp hm with e | hm
    · cases e
    · exact .tail _ (.tail _ (.tail _ (.tail _ (ih hm))))
  | hooks _ _ ih =>
    rcases List.mem_cons.mp hm with e | hm
    · cases e
    · exact .tail _ (.tail _ (ih hm))
theorem ElEv.pair {scope : Scope} {cl : List (Str × Addr)} {d : Dat} {b : Bool} {i j : Nat} (hk : scope.kind = .function) (hx : ∀ Cc, (compEnvC scope cl Cc C.env).kindOf x = some .local) (hd : (x == ("__debug__" : Str)) = false := by decide) :
    ElEv prog w C σ μ (.Tuple [.Name x p1, .Constant (.bool b) i p2] j pos) x scope cl d (.tuple [d, .bool b]) μ := by
  intro m ts Ts v s Q E Cc oC m₂ hm hC hv S k
  obtain ⟨imm, μr, S⟩ := S
  have ho := (S.nw _ (List.mem_append.mpr (.inl (S.ma.get hm)))).1
  refine Tuple_ (spliced_more (comp_local ho hC hv (spliced_more (wpAny_pure (spliced_none ?_)) rfl) hk (hx _) hd) rfl)
  obtain ⟨hvd, _⟩ := S.pop
  refine newTuple_N S.fr S.nw (fun h' F N => ?_) (by rw [sizeLine_eq]; exact Nat.le_of_ble_eq_true rfl)
  refine k _ _ ⟨_, μr, (S.grow (tk := s.toks) F N S.offSize).push ?_⟩
  exact DatIn.tuple (n := 0) (.head _) (.cons (DatIn.mono (fun q hq => .tail _ hq) hvd) (.cons (.bool _) .nil))
theorem ElEv.addCell {scope : Scope} {c : Addr} {cl : List (Str × Addr)} {xs ys : List Dat} (hcv : ∃ o v, (c, o) ∈ C.imm₀ ∧ o.data = .cell (some v) ∧ VIn C.imm₀ v (.d (.list xs))) (hc : cl.lookup y = some c) (hk : scope.kind = .function) (hx : ∀ Cc, (compEnvC scope cl Cc C.env).kindOf x = some .local) (hy : ∀ Cc, (compEnvC scope cl Cc C.env).kindOf y = some .cell)
    (hz : xs.length + ys.length ≤ 1000000) (hd : (x == ("__debug__" : Str)) = false := by decide) (hd2 : (y == ("__debug__" : Str)) = false := by decide) :
    ElEv prog w C σ μ (.BinOp (.Name y p1) .Add (.Name x p2) pos) x scope cl (.list ys) (.list (xs ++ ys)) μ := by
  intro m ts Ts v s Q E Cc oC m₂ hm hC hv S k
  obtain ⟨imm, μr, S⟩ := S
  obtain ⟨oc, vc, hmc, hdc, hvc⟩ := hcv
  have ho := (S.nw _ (List.mem_append.mpr (.inl (S.ma.get hm)))).1
  have hoc := (S.nw _ (List.mem_append.mpr (.inr (S.im _ hmc)))).1
  obtain ⟨hvd, S2⟩ := S.pop
  have hvc' := VIn.mono S.im hvc
  obtain ⟨aa, vs, n, rfl, ma, Da⟩ := dat_list hvc'
  obtain ⟨ab, us, n', rfl, mb, Db⟩ := dat_list hvd
  refine wpAny_BinOp (comp_cell hoc hdc hc (comp_local ho hC hv ?_ hk (hx _) hd) hk (hy _) hd2)
  refine add_arrays S.fr S.nw (S.isList ma) (S.isList mb) (fun h' F N => ?_) ?_
  · refine k _ _ ⟨_, μr, (S.grow (tk := s.toks) F N S.offSize).push ?_⟩
    have sub : ∀ q ∈ imm, q ∈ (s.heap.objs.size, ({ cls := .type "list", data := .seq ((vs.toArray).toList ++ (us.toArray).toList).toArray } : Obj)) :: imm := fun q hq => .tail _ hq
    exact DatIn.list (n := 0) (.head _) ((DatAll.mono sub Da).append (DatAll.mono sub Db))
  · have e1 := Da.length
    have e2 := Db.length
    simp only [List.size_toArray, sizeLine_eq]; omega
theorem ElEv.call2 {scope : Scope} {z z1 z2 : Str} {f c1 c2 : Addr} {cl : List (Str × Addr)} {d dy : Dat} {X1 X2 : V} {n : Nat} (hg : nsIn K mainGlobals z = some (some (.ref f))) (hf : keepIn K (.ref f) = true)
    (hcv1 : ∃ o v, (c1, o) ∈ C.imm₀ ∧ o.data = .cell (some v) ∧ VIn C.imm₀ v X1) (hc1 : cl.lookup z1 = some c1) (hcv2 : ∃ o v, (c2, o) ∈ C.imm₀ ∧ o.data = .cell (some v) ∧ VIn C.imm₀ v X2) (hc2 : cl.lookup z2 = some c2)
    (hk : scope.kind = .function) (hz : ∀ Cc, (compEnvC scope cl Cc C.env).kindOf z = some .globalImplicit) (hy1 : ∀ Cc, (compEnvC scope cl Cc C.env).kindOf z1 = some .cell) (hy2 : ∀ Cc, (compEnvC scope cl Cc C.env).kindOf z2 = some .cell)
    (hS : Spec prog w K p n f [X1, X2] μ (.d dy) μ') (hn : n ≤ C.room) (hd : (z == ("__debug__" : Str)) = false := by decide) (hd1 : (z1 == ("__debug__" : Str)) = false := by decide) (hd2 : (z2 == ("__debug__" : Str)) = false := by decide) :
    ElEv prog w C σ μ (.Call (.Name z px) [.Name z1 p1, .Name z2 p2] [] pos) x scope cl d dy μ' := by
  intro m ts Ts v s Q E Cc oC m₂ hm hC hv S k
  obtain ⟨imm, μr, S'⟩ := id S
  obtain ⟨o1, v1, hm1, hdc1, hv1⟩ := hcv1
  obtain ⟨o2, v2, hm2, hdc2, hv2⟩ := hcv2
  have ho1 := (S'.nw _ (List.mem_append.mpr (.inr (S'.im _ hm1)))).1
  have ho2 := (S'.nw _ (List.mem_append.mpr (.inr (S'.im _ hm2)))).1
  refine Call_Name rfl (Name_function_global hk (hz _) (loadGlobal_global (env := compEnvC scope cl Cc C.env) ((topRead_of C.hT).g.keeps S'.fr.keep) (mg_of C.hX C.hT.g hg) ?_) hd)
  refine callWith_K C.hX hf ?_ rfl rfl
  refine spliced_more (comp_cell ho1 hdc1 hc1 (spliced_more (comp_cell ho2 hdc2 hc2 (spliced_none ⟨C.hX.keeps S'.fr.keep, ?_⟩) hk (hy2 _) hd2) rfl) hk (hy1 _) hd1) rfl
  refine hS fi C σ m (v :: ts) (.d d :: Ts) [v1, v2] s Q E hn rfl ?_ k
  exact ⟨imm, μr, S'.temps (.cons (VIn.mono S'.im hv1) (.cons (VIn.mono S'.im hv2) S'.tm))⟩
theorem Ev.cell (hl : C.cv.lookup x = some X) (hk : fi.cs.names.lookup x = some .cell) (hd : (x == ("__debug__" : Str)) = false) : Ev prog w C σ μ (.Name x px) X μ := by
  rintro m ts Ts s Q E ⟨imm, μr, S⟩ k
  obtain ⟨c, o, v, h1, h2, h3, h4⟩ := C.hcv x X hl
  exact nameX_C S.nw h1 (List.mem_append.mpr (.inr (S.im _ h2))) h3 (k _ _ ⟨imm, μr, S.push (VIn.mono S.im h4)⟩) C.hk hk hd
end Mine
namespace Mine
variable {K : Frag} {p : Program} {fi : Fi} {prog : Program} {w : World}
variable {C : Cx K p fi} {σ σ' σ₁ σ₂ : List (Str × V)} {μ μ' μ₁ μ₂ μ₃ : Mu} {pos px py p1 p2 p3 : Pos} {ts : List Value} {Ts : List V} {s : Shared} {O : Out} {X X' : V} {x y : Str} {rest : List Stmt}
def strsOf : List Dat → List Str
  | [] => []
  | .str x :: r => x :: strsOf r
  | _ :: r => strsOf r
theorem Ev.inD {a b : Expr} {x : Str} {ds : List Dat} {r : Bool} (h1 : Ev prog w C σ μ a (.d (.str x)) μ₁) (h2 : Ev prog w C σ μ₁ b (.d (.tuple ds)) μ₂) (hd : (strsOf ds).map Dat.str = ds) (hr : (strsOf ds).any (· == x) = r)
    (hm : behindInMarks .In b = false := by rfl) : Ev prog w C σ μ (.Compare a [.In] [b] pos) (.d (.bool r)) μ₂ := Ev.inS h1 (hd.symm ▸ h2) hr hm
theorem EvT.inD {a b : Expr} {x : Str} {ds : List Dat} {r : Bool} (h1 : Ev prog w C σ μ a (.d (.str x)) μ₁) (h2 : Ev prog w C σ μ₁ b (.d (.tuple ds)) μ₂) (hd : (strsOf ds).map Dat.str = ds) (hr : (strsOf ds).any (· == x) = r)
    (hm : behindInMarks .In b = false := by rfl) : EvT prog w C σ μ (.Compare a [.In] [b] pos) r μ₂ := EvT.inS h1 (hd.symm ▸ h2) hr hm
theorem Ex.assign2 {e : Expr} {da db : Dat} {i : Nat} {pt : Pos} (h : Ev prog w C σ μ e (.d (.tuple [da, db])) μ₁) (hr : Ex prog w C ((x, .d da) :: (y, .d db) :: σ) μ₁ rest O) (hx : fi.cs.names.lookup x = some .local := by rfl) (hy : fi.cs.names.lookup y = some .local := by rfl)
    (hs : swapsWithSole [.Tuple [.Name x px, .Name y py] i pt] e pos.line C.env = pure false := by rfl)
    (hw : swappedStores [.Tuple [.Name x px, .Name y py] i pt] e C.env = pure (some [x, y]) := by rfl) :
    Ex prog w C σ μ (.Assign [.Tuple [.Name x px, .Name y py] i pt] e pos :: rest) O := by
  intro ts Ts s Q E S k
  obtain ⟨m, S⟩ := S.stM
  refine wpAny_execs_cons (Assign_Tuple_swapped (h _ _ _ _ _ _ S fun v s' S' => ?_) hs hw)
  obtain ⟨imm, μr, S1⟩ := S'
  obtain ⟨hv, S2⟩ := S1.pop
  obtain ⟨a, vs, n, rfl, ma, D⟩ := dat_tuple hv
  obtain ⟨va, us, rfl, ha, D⟩ := datAll_cons D
  obtain ⟨vb, us, rfl, hb, D⟩ := datAll_cons D
  cases D
  refine unpackItems_tuple (items := [va, vb].toArray) rfl (S2.isTup ma) fun h' he => ?_
  have S3 := S2.extBut (tk := s'.toks) he
  show wpAny _ _ (assignInOrder [bindName C.env y, bindName C.env x] [vb, va]) _ _ _
  refine assignInOrder_cons (bindName_ (storeX_L S3.fr S3.nw (fun h1 F N => ?_) C.hk hy))
  have S4 := S3.store (X := .d db) (tk := s'.toks + 1) hb F N
  refine (assignInOrder_cons (bindName_ (storeX_L S4.fr S4.nw (fun h1 F N => ?_) C.hk hx)))
  exact assignInOrder_nil (hr _ _ _ _ _ ⟨_, imm, μr, S4.store (X := .d da) ha F N⟩ k)
theorem Ex.unpack2 {e : Expr} {da db : Dat} {i : Nat} {pt : Pos} (h : Ev prog w C σ μ e (.d (.tuple [da, db])) μ₁) (hr : Ex prog w C ((y, .d db) :: (x, .d da) :: σ) μ₁ rest O) (hx : fi.cs.names.lookup x = some .local := by rfl) (hy : fi.cs.names.lookup y = some .local := by rfl)
    (hs : swapsWithSole [.Tuple [.Name x px, .Name y py] i pt] e pos.line C.env = pure false := by rfl)
    (hw : swappedStores [.Tuple [.Name x px, .Name y py] i pt] e C.env = pure Option.none := by rfl) :
    Ex prog w C σ μ (.Assign [.Tuple [.Name x px, .Name y py] i pt] e pos :: rest) O := by
  intro ts Ts s Q E S k
  obtain ⟨m, S⟩ := S.stM
  refine wpAny_execs_cons (Assign_Tuple (h _ _ _ _ _ _ S fun v s' S' => ?_) hs hw)
  exact Tgt.tup2 hx hy _ _ _ _ _ _ S'.st fun s2 S2 => hr _ _ _ _ _ S2 k
theorem cells_at {cm : Str → Option Value} {cl : List (Str × Addr)} {cells : Led} (h : CellsAre cm cl cells) : ∀ {c : Addr}, cl.lookup x = some c → ∃ o, (c, o) ∈ cells ∧ o.data = .cell (cm x) := by
  induction h with
  | nil => intro c e; cases e
  | @cons n c' o cs cells ho _ ih =>
    intro c e
    rw [List.lookup_cons] at e
    cases hb : x == n with
    | true => rw [hb] at e; cases e; rw [eq_of_beq hb]; exact ⟨o, .head _, ho⟩
    | false => rw [hb] at e; obtain ⟨o', h1, h2⟩ := ih e; exact ⟨o', .tail _ h1, h2⟩
theorem cells_above {cm : Str → Option Value} {cl : List (Str × Addr)} {cells : Led} (h : CellsAre cm cl cells) : ∀ q ∈ cells, ∃ n, (n, q.1) ∈ cl := by
  induction h with
  | nil => intro q hq; cases hq
  | @cons n c' o cs cells ho _ ih =>
    intro q hq
    rcases List.mem_cons.mp hq with rfl | hq
    · exact ⟨n, .head _⟩
    · obtain ⟨n', hn⟩ := ih q hq; exact ⟨n', .tail _ hn⟩
theorem cellsFrom_ge : ∀ (names : List (Str × NameKind)) (n b : Nat) (acc : List (Str × Addr)), b ≤ n → (∀ q ∈ acc, b ≤ q.2) → ∀ q ∈ cellsFrom n names acc, b ≤ q.2
  | [], _, _, _, _, h => h
  | (y, k) :: r, n, b, acc, hb, h => by
    unfold cellsFrom
    by_cases hk : (k == .cell) = true
    · rw [if_pos hk]
      refine cellsFrom_ge r (n + 1) b _ (Nat.le_succ_of_le hb) fun q hq => ?_
      rcases List.mem_cons.mp hq with rfl | hq
      · exact hb
      · exact h q hq
    · rw [if_neg hk]
      exact cellsFrom_ge r n b acc hb h
theorem Spec.of_bodyC {f : Addr} {name qual : Str} {params : Arguments} {body : List Stmt} {scope : Scope} {dV kV doc pm cdv ct oc : Value} {an od : Option Addr} {osl : Array (Option Value)} {n : Nat} {Xs : List V} {μ' : Mu} (σ₀ cv : List (Str × V))
    (ho : K.lookup f = some ⟨oc, od, .func (fnOf name qual params body scope dV kV doc pm an cdv ct), osl⟩) (hcd : codeIn K cdv qual = true)
    (hb : ∀ (s : Shared) vs imm, VAll imm vs Xs → ∃ binds, BindsTo s (fnOf name qual params body scope dV kV doc pm an cdv ct) ⟨vs, []⟩ binds ∧ ((binds.all fun y => scope.names.lookup y.1 == some .local || scope.names.lookup y.1 == some .cell) = true) ∧
      Locs imm (bindL (fun y => scope.names.lookup y) binds fun _ => none) σ₀ ∧ (∀ x X, cv.lookup x = some X → scope.names.lookup x = some .cell ∧ ∃ v, bindC (fun y => scope.names.lookup y) binds (fun _ => none) x = some v ∧ VIn imm v X))
    (hnd : ((cellsFrom 0 scope.names []).map (·.1)).Nodup) (hco : scope.isCoroutine = false) (hgen : scope.isGenerator = false) (hk : scope.kind = .function)
    (h : ∀ (C : Cx K p ⟨qual, scope, f, cdv⟩), C.room = n → C.cv = cv → Ex prog w C σ₀ μ body (.ret X μ')) : Spec prog w K p (n + 1) f Xs μ X μ' := by
  intro fi C σ m ts Ts vs s Q E hroom hl S k
  obtain ⟨imm, μr, S⟩ := S
  obtain ⟨tv, tt⟩ := VAll.split _ hl S.tm
  obtain ⟨binds, hbind, hkind, hloc, hcell⟩ := hb s vs imm tv
  have hd := C.hd
  have hu := C.hu
  refine wpAny_call (code_defC C.hB S.fr C.hX S.nw C.hT rfl rfl C.hk ho hcd (by show C.dp < recursionLimit; omega) hbind hkind hnd ?_ hco hgen hk)
  intro g L' h₁ tk cells FG F' N' Y' B' X' T' l1
  have hab : ∀ q ∈ cells, L' + 1 ≤ q.1 := by
    intro q hq
    obtain ⟨n', hn⟩ := cells_above Y' q hq
    exact cellsFrom_ge scope.names (L' + 1) (L' + 1) [] (Nat.le_refl _) (fun q hq => by cases hq) _ hn
  let C' : Cx K p ⟨qual, scope, f, cdv⟩ := { room := n, dp := C.dp + 1, un := C.un + 3, gd := C.gd, L := L', cl := cellsFrom (L' + 1) scope.names [], outer := C.env :: C.outer, A₀ := C.A, base := C.base, h₀ := g, loose := C.loose, mean := C.mean, mg := C.mg, mb := C.mb, imm₀ := cells ++ imm, s₀ := C.s₀, cv := cv, hcv := (by
    intro x X e
    obtain ⟨h1, v, h2, h3⟩ := hcell x X e
    obtain ⟨c, hc⟩ := Option.isSome_iff_exists.mp (cellsFrom_some scope.names (L' + 1) [] (.inl h1))
    obtain ⟨o, ho, hdt⟩ := cells_at Y' hc
    exact ⟨c, o, v, hc, List.mem_append.mpr (.inl ho), hdt.trans (by exact congrArg Data.cell h2), VIn.mono (fun q hq => List.mem_append.mpr (.inr hq)) h3⟩), hB := B', hX := X', hT := T', hk := hk, hd := by omega, hu := by omega }
  have sub : ∀ q ∈ imm, q ∈ cells ++ imm := fun q hq => List.mem_append.mpr (.inr hq)
  refine h C' rfl rfl [] [] _ _ _ ⟨_, cells ++ imm, μr, ⟨F', fun q hq => N' q ?_, ?_, S.nd, S.ma.mono sub, fun _ h => h, hloc.mono sub, .nil, by show Shared.mk _ _ _ _ _ = Shared.mk _ _ _ _ _; rw [S.sm]⟩⟩ ?_
  · rcases List.mem_append.mp hq with hq | hq
    · exact List.mem_append.mpr (.inr (List.mem_append.mpr (.inl hq)))
    · rcases List.mem_append.mp hq with hq | hq
      · exact List.mem_append.mpr (.inl hq)
      · exact List.mem_append.mpr (.inr (List.mem_append.mpr (.inr hq)))
  · intro q hq r hr
    rcases List.mem_append.mp hr with hr | hr
    · have e1 : q.1 < L' := l1 q (List.mem_append.mpr (.inl hq))
      have e2 : L' + 1 ≤ r.1 := hab r hr
      exact Nat.ne_of_lt (Nat.lt_trans e1 (Nat.lt_of_succ_le e2))
    · exact S.ap q hq r hr
  rintro fl s' ⟨v, rfl, m', imm', μr', S'⟩
  refine leaveK_ S'.fr S'.nw fun F N => ?_
  have sub' : ∀ q ∈ imm, q ∈ imm' := fun q hq => S'.im q (sub q hq)
  refine k _ _ ⟨imm', μr', ⟨F, N, S'.ap, S'.nd, S'.ma, fun q hq => sub' q (S.im q hq), S.lo.mono sub', .cons ?_ (tt.mono sub'), S'.sm⟩⟩
  cases S'.tm with | cons h _ => exact h
end Mine
namespace Mine
variable {K : Frag} {p : Program} {fi : Fi} {prog : Program} {w : World}
variable {C : Cx K p fi} {σ σ' σ₁ σ₂ : List (Str × V)} {μ μ' μ₁ μ₂ μ₃ : Mu} {pos px py p1 p2 p3 : Pos} {ts : List Value} {Ts : List V} {s : Shared} {O : Out} {X X' : V} {x y : Str} {rest : List Stmt}
def EvP (prog : Program) (w : World) (C : Cx K p fi) (σ : List (Str × V)) (μ : Mu) (ks : List (Option Expr)) (vs : List Expr) (kvs : List (Dat × Dat)) (μ' : Mu) : Prop :=
  ∀ pos m ts Ts s (Q : List (Value × Value) → Shared → Prop) E, StM C σ μ ts Ts m s →
    (∀ ps s', ps.length = kvs.length → StM C σ μ' (ps.map (·.1) ++ (ps.map (·.2) ++ ts)) (kvs.map (fun q => V.d q.1) ++ (kvs.map (fun q => V.d q.2) ++ Ts)) m s' → Q ps s') → wpAny (model prog w) C.A (evalPairs (pairTrees ks vs C.env pos)) Q E s
theorem EvP.nil : EvP prog w C σ μ [] [] [] μ := fun _ _ _ _ _ _ _ S k => evalPairs_nil (k _ _ rfl S)
theorem EvP.cons {k v : Expr} {ks : List (Option Expr)} {vs : List Expr} {a b : Dat} {kvs : List (Dat × Dat)} (h1 : Ev prog w C σ μ k (.d a) μ₁) (h2 : Ev prog w C σ μ₁ v (.d b) μ₂) (h3 : EvP prog w C σ μ₂ ks vs kvs μ₃) :
    EvP prog w C σ μ (some k :: ks) (v :: vs) ((a, b) :: kvs) μ₃ := by
  intro pos m ts Ts s Q E S k'
  refine evalPairs_cons (h1 _ _ _ _ _ _ S fun va s1 S1 => wpAny_bind (h2 _ _ _ _ _ _ S1 fun vb s2 S2 => wpAny_bind (wpAny_standAt (wpAny_pure (h3 _ _ _ _ _ _ _ S2 fun ps s3 hl S3 => k' _ _ (by simp [hl]) ?_)))))
  refine S3.temps fun imm t => ?_
  obtain ⟨t1, t2⟩ := VAll.split (ps.map (·.1)) (by simp [hl]) t
  obtain ⟨t3, t4⟩ := VAll.split (ps.map (·.2)) (by simp [hl]) t2
  cases t4 with
  | cons hb r =>
    cases r with
    | cons ha r =>
      exact .cons ha (t1.append (.cons hb (t3.append r)))
def valueAtD {α : Type} [DecidableEq α] (L : List (α × Dat)) (k : α) : Option Dat := (L.find? fun q => q.1 = k).map (·.2)
inductive KA {α : Type} (imm : Led) : List (α × Value) → List (α × Dat) → Prop
  | nil : KA imm [] []
  | cons {k v d l L} : DatIn imm v d → KA imm l L → KA imm ((k, v) :: l) ((k, d) :: L)
theorem KA.mono {α : Type} {imm imm' : Led} (hs : ∀ q ∈ imm, q ∈ imm') {l : List (α × Value)} {L : List (α × Dat)} (h : KA imm l L) : KA imm' l L := by
  induction h with
  | nil => exact .nil
  | cons h _ ih => exact .cons (DatIn.mono hs h) ih
theorem KA.keys {α : Type} {imm : Led} {l : List (α × Value)} {L : List (α × Dat)} (h : KA imm l L) : l.map (·.1) = L.map (·.1) := by
  induction h with
  | nil => rfl
  | cons _ _ ih => simp [ih]
theorem KA.at {α : Type} [DecidableEq α] {imm : Led} {l : List (α × Value)} {L : List (α × Dat)} (h : KA imm l L) (k : α) :
    (valueAt l k = none ∧ valueAtD L k = none) ∨ ∃ v d, valueAt l k = some v ∧ valueAtD L k = some d ∧ DatIn imm v d := by
  induction h with
  | nil => exact .inl ⟨rfl, rfl⟩
  | @cons a v d l L hd _ ih =>
    by_cases e : a = k
    · exact .inr ⟨v, d, by simp [valueAt, e], by simp [valueAtD, e], hd⟩
    · rcases ih with ⟨h1, h2⟩ | ⟨v', d', h1, h2, h3⟩
      · exact .inl ⟨by simpa [valueAt, e] using h1, by simpa [valueAtD, e] using h2⟩
      · exact .inr ⟨v', d', by simpa [valueAt, e] using h1, by simpa [valueAtD, e] using h2, h3⟩
def dictSm {α : Type} [DecidableEq α] (knd : KeyKind prog w α) (L : List (α × Dat)) : Sm where
  P imm v := ∃ d o l, v = .ref d ∧ (d, o) ∈ imm ∧ o.IsDictOf knd l ∧ KA imm l L ∧ (d == sysModules) = false
  mono hs h := let ⟨d, o, l, h1, h2, h3, h4, h5⟩ := h; ⟨d, o, l, h1, hs _ h2, h3, h4.mono hs, h5⟩
theorem Ev.dict {α : Type} [DecidableEq α] (knd : KeyKind prog w α) (enc : α → Dat) (henc : ∀ imm v a, DatIn imm v (enc a) → knd.is a v = true) {ks : List (Option Expr)} {vs : List Expr} (L : List (α × Dat))
    (h : ∀ a o, EvP prog w C σ ((a, .o o) :: μ) ks vs (L.map fun q => (enc q.1, q.2)) ((a, .o o) :: μ₁)) (hn : (L.map (·.1)).Nodup)
    (hall : ks.all (·.isSome) = true) (hl : ks.length = vs.length) (h0 : ks ≠ []) (hlen : ks.length ≤ 15) : Ev prog w C σ μ (.Dict ks vs pos) (.sem (dictSm knd L)) μ₁ := by
  intro m ts Ts s Q E S k
  obtain ⟨imm, μr, S⟩ := S
  refine Dict_made (knd := knd) S.fr hall hl h0 hlen fun F1 => ?_
  have hd0 : (s.heap.push { cls := .type "dict", data := .dict #[] }).DictOf knd s.heap.objs.size [] := Heap.DictOf.new s.heap
  obtain ⟨o0, ho0, hdo⟩ := Heap.dictOf_iff.mp hd0
  have eo0 : o0 = { cls := .type "dict", data := .dict #[] } := by
    have e := Heap.get?_push_size (o := ({ cls := .type "dict", data := .dict #[] } : Obj)) s.heap rfl
    rw [e] at ho0; exact (Option.some.inj ho0).symm
  have N1 := News.push S.fr S.nw ({ cls := .type "dict", data := .dict #[] } : Obj) rfl
  have hoff : ∀ q ∈ μr ++ imm, q.1 ≠ s.heap.objs.size := fun q hq => Nat.ne_of_lt (Heap.lt_size (S.nw q hq).1)
  have S1 := S.allocM (tk := s.toks) (y := .o { cls := .type "dict", data := .dict #[] }) F1 N1 hoff rfl
  refine h s.heap.objs.size { cls := .type "dict", data := .dict #[] } _ _ _ _ _ _ _ ⟨imm, _, S1⟩ fun ps s1 hpl S2 => ?_
  obtain ⟨imm2, μr2, S2⟩ := S2
  obtain ⟨t1, t2⟩ := VAll.split (ps.map (·.1)) (by simp [hpl]) S2.tm
  obtain ⟨t3, t4⟩ := VAll.split (ps.map (·.2)) (by simp [hpl]) t2
  have hps : ∀ (ps : List (Value × Value)) (L : List (α × Dat)), VAll imm2 (ps.map (·.1)) ((L.map fun q => (enc q.1, q.2)).map fun q => V.d q.1) → VAll imm2 (ps.map (·.2)) ((L.map fun q => (enc q.1, q.2)).map fun q => V.d q.2) →
      ∃ l : List (α × Value), Carries knd ps l ∧ KA imm2 l L := by
    intro ps
    induction ps with
    | nil => intro L a b; cases L with
      | nil => exact ⟨[], trivial, .nil⟩
      | cons _ _ => cases a
    | cons q ps ih =>
      intro L a b
      cases L with
      | nil => cases a
      | cons r L =>
        cases a with
        | cons ha a =>
          cases b with
          | cons hb b =>
            obtain ⟨l, h1, h2⟩ := ih L a b
            exact ⟨(r.1, q.2) :: l, ⟨henc _ _ _ ha, rfl, h1⟩, .cons hb h2⟩
  obtain ⟨l, hc, hka⟩ := hps ps L t1 t3
  have hma := S2.ma
  cases hma with
  | @cons _ o1 _ lr _ hoe mar =>
    have hoe : o1 = { cls := .type "dict", data := .dict #[] } := hoe
    subst hoe
    have hm := S2.nw _ (List.mem_append.mpr (.inl (.head _)))
    refine ⟨l, hc, Heap.dictOf_iff.mpr ⟨_, hm.1, by rw [← eo0]; exact hdo⟩, fun h' hd hs => ?_⟩
    rw [merged_nil_of_nodup _ (by rw [hka.keys]; exact hn)] at hd
    obtain ⟨o', ho', hd'⟩ := Heap.dictOf_iff.mp hd
    have nd := S2.nd
    rw [List.map_cons, List.nodup_cons] at nd
    have N3 : News C.h₀ C.L h' ((s.heap.objs.size, o') :: (lr ++ imm2)) := by
      have q := News.setAt (own := []) (rest := lr ++ imm2) (o' := o') S2.nw (fun _ hq => by cases hq) (fun q hq => ?_) hs ho'
      · exact q
      · rcases List.mem_append.mp hq with hq | hq
        · exact fun e => nd.1 (List.mem_map.mpr ⟨q, hq, e⟩)
        · exact Ne.symm (S2.ap _ (.head _) q hq)
    have F3 := S2.fr.change hs hm.2.1 hm.2.2
    have sub : ∀ q ∈ imm2, q ∈ (s.heap.objs.size, o') :: imm2 := fun q hq => .tail _ hq
    refine k _ _ ⟨(s.heap.objs.size, o') :: imm2, lr, F3, fun q hq => N3 q ?_, ?_, nd.2, mar.mono sub, fun q hq => .tail _ (S2.im q hq), S2.lo.mono sub, .cons ?_ (t4.mono sub), by rw [S2.sm]⟩
    · rcases List.mem_append.mp hq with hq | hq
      · exact .tail _ (List.mem_append.mpr (.inl hq))
      · rcases List.mem_cons.mp hq with rfl | hq
        · exact .head _
        · exact .tail _ (List.mem_append.mpr (.inr hq))
    · intro q hq r hr
      rcases List.mem_cons.mp hr with rfl | hr
      · intro e
        exact nd.1 (List.mem_map.mpr ⟨q, hq, e⟩)
      · exact S2.ap q (.tail _ hq) r hr
    · exact ⟨_, o', l, rfl, .head _, hd', hka.mono sub, S.fr.notModules (modules_low (topRead_of C.hT).nolimit)⟩
theorem Ev.dictGet {α : Type} [DecidableEq α] {knd : KeyKind prog w α} {enc : α → Dat} (henc : ∀ imm v a, DatIn imm v (enc a) → knd.is a v = true) {o e1 e2 : Expr} {L : List (α × Dat)} {a : α} {dd r : Dat} {pl : Sem Bool}
    (hD : Ev prog w C σ μ o (.sem (dictSm knd L)) μ₁) (h1 : Ev prog w C σ μ₁ e1 (.d (enc a)) μ₂) (h2 : Ev prog w C σ μ₂ e2 (.d dd) μ₃) (hr : (valueAtD L a).getD dd = r)
    (he : eval (.Call (.Attribute o ("get" : Str) p1) [e1, e2] [] p2) C.env = (do
      let ov ← eval o C.env
      standAt p1.atName
      let (f, first) ← holding [ov] (getMethod ov ("get" : Str) pl)
      callWith p2 f first (backTo p2 (starEach [e1, e2] C.env)) []) := by rfl) (hs : starEach [e1, e2] C.env = [(false, eval e1 C.env), (false, eval e2 C.env)] := by rfl) :
    Ev prog w C σ μ (.Call (.Attribute o ("get" : Str) p1) [e1, e2] [] p2) (.d r) μ₃ := by
  intro m ts Ts s Q E S k
  refine MethodCall_ (pl := pl) (hD _ _ _ _ _ _ S fun v s1 S1 => ?_) he
  obtain ⟨imm, μr, S1'⟩ := id S1
  obtain ⟨⟨d, ob, l, rfl, hm, hd, hka, hlo⟩, S2⟩ := S1'.pop
  refine kdg_method S2.nw (List.mem_append.mpr (.inr hm)) hd ?_
  rw [hs]
  refine callWith_builtin rfl (evalArgs_plain (Calls.spliced_cons (h1 _ _ _ _ _ _ S1 fun u1 s2 S3 => Calls.spliced_cons (h2 _ _ _ _ _ _ S3 fun u2 s3 S4 => Calls.spliced_nil ?_))))
  obtain ⟨imm4, μr4, S4⟩ := S4
  obtain ⟨hu2, S5⟩ := S4.pop
  obtain ⟨hu1, S6⟩ := S5.pop
  obtain ⟨⟨d', ob', l', e', hm', hd', hka', hlo'⟩, S7⟩ := S6.pop
  cases e'
  rcases hka'.at a with ⟨k1, k2⟩ | ⟨v, dv, k1, k2, k3⟩
  · refine kdg_get2 S7.nw (List.mem_append.mpr (.inr hm')) hd' hlo' (henc _ _ _ hu1) Option.none k1 (k _ _ ⟨imm4, μr4, Sx.push (S7.toks rfl) ?_⟩)
    rw [k2] at hr
    subst hr
    exact hu2
  · refine kdg_get2 S7.nw (List.mem_append.mpr (.inr hm')) hd' hlo' (henc _ _ _ hu1) (some v) k1 (k _ _ ⟨imm4, μr4, Sx.push (S7.toks rfl) ?_⟩)
    rw [k2] at hr
    subst hr
    exact k3
theorem Ev.dictItem {α : Type} [DecidableEq α] {knd : KeyKind prog w α} {enc : α → Dat} (henc : ∀ imm v a, DatIn imm v (enc a) → knd.is a v = true) {o e1 : Expr} {L : List (α × Dat)} {a : α} {r : Dat}
    (hD : Ev prog w C σ μ o (.sem (dictSm knd L)) μ₁) (h1 : Ev prog w C σ μ₁ e1 (.d (enc a)) μ₂) (hr : valueAtD L a = some r)
    (hs : ∀ o i, subscripted e1 false o i = operate [o, i] (getItem o i)) : Ev prog w C σ μ (.Subscript o e1 pos) (.d r) μ₂ := by
  intro m ts Ts s Q E S k
  refine Subscript_ (hD _ _ _ _ _ _ S fun v s1 S1 => h1 _ _ _ _ _ _ S1 fun u1 s2 S3 => ?_)
  obtain ⟨imm4, μr4, S4⟩ := S3
  obtain ⟨hu1, S5⟩ := S4.pop
  obtain ⟨⟨d', ob', l', rfl, hm', hd', hka', hlo'⟩, S7⟩ := S5.pop
  rcases hka'.at a with ⟨k1, k2⟩ | ⟨v, dv, k1, k2, k3⟩
  · rw [k2] at hr; cases hr
  · have hDd := kda_dict S7.nw (List.mem_append.mpr (.inr hm')) hd'
    refine tail_any hDd.typeIs slot_dict_getitem.lookup (wpAny_getItem_of (henc _ _ _ hu1) hDd.mapOf k1 (k _ _ ⟨imm4, μr4, Sx.push (S7.toks rfl) ?_⟩)) (hs _ _)
    rw [k2] at hr
    cases hr
    exact k3
theorem enc_str : ∀ (imm : Led) (v : Value) (a : Str), DatIn imm v (Dat.str a) → (strKind prog w).is a v = true := by
  intro imm v a h
  obtain ⟨t, rfl⟩ := dat_str h
  exact strKind_is prog w a t
theorem enc_int : ∀ (imm : Led) (v : Value) (a : Int), DatIn imm v (Dat.int a) → (intKind prog w).is a v = true := by
  intro imm v a h
  obtain ⟨t, rfl⟩ := dat_int h
  exact intKind_is prog w a t
end Mine
namespace Mine
variable {K : Frag} {p : Program} {fi : Fi} {prog : Program} {w : World}
variable {C : Cx K p fi} {σ σ' σ₁ σ₂ : List (Str × V)} {μ μ' μ₁ μ₂ μ₃ : Mu} {pos px py p1 p2 p3 : Pos} {ts : List Value} {Ts : List V} {s : Shared} {O : Out} {X X' : V} {x y : Str} {rest : List Stmt}
theorem Ev.ifexpT {t b o : Expr} (ht : EvT prog w C σ μ t true μ₁) (h : Ev prog w C σ μ₁ b X μ₂) : Ev prog w C σ μ (.IfExp t b o pos) X μ₂ := Ev.ifexp (c := true) ht h
theorem Ev.ifexpF {t b o : Expr} (ht : EvT prog w C σ μ t false μ₁) (h : Ev prog w C σ μ₁ o X μ₂) : Ev prog w C σ μ (.IfExp t b o pos) X μ₂ := Ev.ifexp (c := false) ht h
theorem Ev.conv {e : Expr} (h : Ev prog w C σ μ e X' μ₁) (hX : X' = X) : Ev prog w C σ μ e X μ₁ := hX ▸ h
theorem map_getD {α β : Type} (f : α → β) (l : List α) (d : α) : (List.range l.length).map (fun i => f (l.getD i d)) = l.map f := by
  apply List.ext_getElem
  · simp
  · intro i h1 h2
    have hi : i < l.length := by simpa using h2
    simp [List.getD_eq_getElem?_getD, List.getElem?_eq_getElem hi]
end Mine
namespace Mine
variable {K : Frag} {p : Program} {prog : Program} {w : World} {μ μ' : Mu} {X : V}
section
variable {f : Addr} {name qual : Str} {params : Arguments} {body : List Stmt} {scope : Scope} {dV kV doc pm cdv ct oc : Value} {an od : Option Addr} {osl : Array (Option Value)} {n : Nat} {X1 X2 X3 : V} {x1 x2 x3 : Str}
theorem Locs.empty {imm : Led} : Locs imm (fun _ => none) [] := fun _ _ e => by cases e
theorem Spec.def3c (ho : K.lookup f = some ⟨oc, od, .func (fnOf name qual params body scope dV kV doc pm an cdv ct), osl⟩) (hcd : codeIn K cdv qual = true)
    (hb : ∀ v1 v2 v3, bindArgs (fnOf name qual params body scope dV kV doc pm an cdv ct) ⟨[v1, v2, v3], []⟩ = pure [(x1, v1), (x2, v2), (x3, v3)]) (h1 : scope.names.lookup x1 = some .local) (h2 : scope.names.lookup x2 = some .local) (h3 : scope.names.lookup x3 = some .cell)
    (hnd : ((cellsFrom 0 scope.names []).map (·.1)).Nodup) (hco : scope.isCoroutine = false) (hgen : scope.isGenerator = false) (hk : scope.kind = .function)
    (h : ∀ (C : Cx K p ⟨qual, scope, f, cdv⟩), C.room = n → C.cv = [(x3, X3)] → Ex prog w C [(x2, X2), (x1, X1)] μ body (.ret X μ')) : Spec prog w K p (n + 1) f [X1, X2, X3] μ X μ' := by
  refine Spec.of_bodyC [(x2, X2), (x1, X1)] [(x3, X3)] ho hcd (fun s vs imm hv => ?_) hnd hco hgen hk h
  cases hv with
  | @cons v1 _ _ _ a r =>
    cases r with
    | @cons v2 _ _ _ b r =>
      cases r with
      | @cons v3 _ _ _ c r =>
        cases r
        have h3' : ¬ (scope.names.lookup x3 = some .local) := by rw [h3]; decide
        refine ⟨_, BindsTo.of_eq (hb _ _ _), by simp [h1, h2, h3], ?_, ?_⟩
        · simp only [bindL, h1, h2, h3', if_true, if_false]
          exact (Locs.empty.set a).set b
        · intro y Y e
          simp only [bindC, h1, h2, h3', if_true, if_false]
          rw [List.lookup_cons] at e
          cases hb : y == x3 with
          | true =>
            rw [hb] at e; cases e
            have e' := eq_of_beq hb
            subst e'
            exact ⟨h3, v3, by simp, c⟩
          | false => rw [hb] at e; cases e
theorem Spec.def3k (ho : K.lookup f = some ⟨oc, od, .func (fnOf name qual params body scope dV kV doc pm an cdv ct), osl⟩) (hcd : codeIn K cdv qual = true)
    (hb : ∀ v1 v2 v3, bindArgs (fnOf name qual params body scope dV kV doc pm an cdv ct) ⟨[v1, v2, v3], []⟩ = pure [(x1, v1), (x2, v2), (x3, v3)]) (h1 : scope.names.lookup x1 = some .cell) (h2 : scope.names.lookup x2 = some .cell) (h3 : scope.names.lookup x3 = some .local) (h12 : (x1 == x2) = false)
    (hnd : ((cellsFrom 0 scope.names []).map (·.1)).Nodup) (hco : scope.isCoroutine = false) (hgen : scope.isGenerator = false) (hk : scope.kind = .function)
    (h : ∀ (C : Cx K p ⟨qual, scope, f, cdv⟩), C.room = n → C.cv = [(x2, X2), (x1, X1)] → Ex prog w C [(x3, X3)] μ body (.ret X μ')) : Spec prog w K p (n + 1) f [X1, X2, X3] μ X μ' := by
  refine Spec.of_bodyC [(x3, X3)] [(x2, X2), (x1, X1)] ho hcd (fun s vs imm hv => ?_) hnd hco hgen hk h
  cases hv with
  | @cons v1 _ _ _ a r =>
    cases r with
    | @cons v2 _ _ _ b r =>
      cases r with
      | @cons v3 _ _ _ c r =>
        cases r
        have h1' : ¬ (scope.names.lookup x1 = some .local) := by rw [h1]; decide
        have h2' : ¬ (scope.names.lookup x2 = some .local) := by rw [h2]; decide
        refine ⟨_, BindsTo.of_eq (hb _ _ _), by simp [h1, h2, h3], ?_, ?_⟩
        · simp only [bindL, h1', h2', h3, if_true, if_false]
          exact Locs.empty.set c
        · intro y Y e
          simp only [bindC, h1', h2', h3, if_true, if_false]
          rw [List.lookup_cons] at e
          cases hb2 : y == x2 with
          | true =>
            rw [hb2] at e; cases e
            have e' := eq_of_beq hb2
            subst e'
            exact ⟨h2, v2, by simp, b⟩
          | false =>
            rw [hb2] at e
            rw [List.lookup_cons] at e
            cases hb1 : y == x1 with
            | true =>
              rw [hb1] at e; cases e
              have e' := eq_of_beq hb1
              subst e'
              have hne : ¬ y = x2 := by simpa using hb2
              exact ⟨h1, v1, by simp [hne], a⟩
            | false => rw [hb1] at e; cases e
end
end Mine
namespace Mine
abbrev opD (op : Str) (vs : List Dat) : Dat := .tuple [dS "operator", .list [.str op, .list vs]]
abbrev indD (v : Dat) : Dat := .tuple [dS "indirect", .list [v]]
abbrev valD (v : Dat) : Dat := .tuple [dS "value", .list [v]]
abbrev kwD (s : Str) : Dat := .tuple [dS "keyword", .list [.str s]]
abbrev callD (f : Str) (vs : List Dat) (b : Bool) : Dat := .tuple [dS "call", .list [.str f, .list vs, .bool b]]
abbrev itemD (v : Dat) (vs : List Dat) (b : Bool) : Dat := .tuple [dS "item", .list [v, .list vs, .bool b]]
abbrev curD (v : Dat) : Dat := .tuple [dS "cursor", .list [v]]
abbrev givD (op : Str) (v r : Dat) : Dat := .tuple [dS "given", .list [.str op, v, r]]
mutual
def Vt.fv : Vt → Dat
  | .null => dS ""
  | .text s => .str s
  | .whole i => .int i
  | .name s => .tuple [dS "read", .list [.str s]]
  | .join a b => opD (S " ") [a.fv, b.fv]
  | .bin op a b => opD op [a.fv, b.fv]
  | .given op a b => givD op a.fv b.fv
  | .neg a => opD (S "-") [a.fv]
  | .dollar a => valD (indD a.fv)
  | .star a => .tuple [dS "delayed", .list [a.dat]]
  | .opt _ => dS ""
  | .dot n => n.fv
  | .at n => curD n.fv
  | .call f as => callD f as.fvs false
  | .item o ks => itemD o.fv ks.fvs false
  | .kw s => valD (kwD s)
  | .not _ _ => dS ""
def Nt.fv : Nt → Dat
  | .name s => .tuple [dS "var", .list [.str s]]
  | .call f as => callD f as.fvs true
  | .item o ks => itemD o.fv ks.fvs true
  | .dollar a => indD a.fv
  | .kw s => kwD s
def Vl.fvs : Vl → List Dat
  | .nil => []
  | .cons a l => a.fv :: l.fvs
end
mutual
def Vt.st : Vt → List Dat → List (List Dat)
  | .null, u => [u ++ [dS ""]]
  | .text s, u => [u ++ [.str s]]
  | .whole i, u => [u ++ [.int i]]
  | .name s, u => [u ++ [.tuple [dS "read", .list [.str s]]]]
  | .join a b, u => a.st u ++ b.st (u ++ [a.fv]) ++ [u ++ [opD (S " ") [a.fv, b.fv]]]
  | .bin op a b, u => a.st u ++ b.st (u ++ [a.fv]) ++ [u ++ [opD op [a.fv, b.fv]]]
  | .given op a b, u => a.st u ++ b.st (u ++ [a.fv]) ++ [u ++ [givD op a.fv b.fv]]
  | .neg a, u => a.st u ++ [u ++ [opD (S "-") [a.fv]]]
  | .dollar a, u => a.st u ++ [u ++ [indD a.fv], u ++ [valD (indD a.fv)]]
  | .star a, u => [u ++ [.tuple [dS "delayed", .list [a.dat]]]]
  | .opt a, u => a.st u ++ [u, u ++ [dS ""]]
  | .dot n, u => n.st u
  | .at n, u => n.st u ++ [u ++ [curD n.fv]]
  | .call f as, u => as.st u ++ [u ++ [callD f as.fvs false]]
  | .item o ks, u => o.st u ++ ks.st (u ++ [o.fv]) ++ [u ++ [itemD o.fv ks.fvs false]]
  | .kw s, u => [u ++ [kwD s], u ++ [valD (kwD s)]]
  | .not a as, u => u :: a.st u ++ as.st (u ++ [a.fv]) ++ [u, u, u, u, u ++ [dS ""]]
def Nt.st : Nt → List Dat → List (List Dat)
  | .name s, u => [u ++ [.tuple [dS "var", .list [.str s]]]]
  | .call f as, u => as.st u ++ [u ++ [callD f as.fvs true]]
  | .item o ks, u => o.st u ++ ks.st (u ++ [o.fv]) ++ [u ++ [itemD o.fv ks.fvs true]]
  | .dollar a, u => a.st u ++ [u ++ [indD a.fv]]
  | .kw s, u => [u ++ [kwD s]]
def Vl.st : Vl → List Dat → List (List Dat)
  | .nil, _ => []
  | .cons a l, u => a.st u ++ l.st (u ++ [a.fv])
end
theorem Vl.fvs_length : ∀ l : Vl, l.fvs.length = l.len
  | .nil => by simp [Vl.fvs, Vl.len]
  | .cons a l => by simp [Vl.fvs, Vl.len, Vl.fvs_length l]
theorem Vt.st_last : ∀ (t : Vt) (u : List Dat), ∃ l, t.st u = l ++ [u ++ [t.fv]]
  | .null, u => ⟨[], by simp [Vt.st, Vt.fv]⟩
  | .text s, u => ⟨[], by simp [Vt.st, Vt.fv]⟩
  | .whole i, u => ⟨[], by simp [Vt.st, Vt.fv]⟩
  | .name s, u => ⟨[], by simp [Vt.st, Vt.fv]⟩
  | .join a b, u => ⟨_, by simp only [Vt.st, Vt.fv]; rfl⟩
  | .bin op a b, u => ⟨_, by simp only [Vt.st, Vt.fv]; rfl⟩
  | .given op a b, u => ⟨_, by simp only [Vt.st, Vt.fv]; rfl⟩
  | .neg a, u => ⟨_, by simp only [Vt.st, Vt.fv]; rfl⟩
  | .dollar a, u => ⟨a.st u ++ [u ++ [indD a.fv]], by simp [Vt.st, Vt.fv]⟩
  | .star a, u => ⟨[], by simp [Vt.st, Vt.fv]⟩
  | .opt a, u => ⟨a.st u ++ [u], by simp [Vt.st, Vt.fv]⟩
  | .dot n, u => by
    cases n with
    | name s => exact ⟨[], by simp [Vt.st, Vt.fv, Nt.st, Nt.fv]⟩
    | call f as => exact ⟨_, by simp only [Vt.st, Vt.fv, Nt.st, Nt.fv]; rfl⟩
    | item o ks => exact ⟨_, by simp only [Vt.st, Vt.fv, Nt.st, Nt.fv]; rfl⟩
    | dollar a => exact ⟨_, by simp only [Vt.st, Vt.fv, Nt.st, Nt.fv]; rfl⟩
    | kw s => exact ⟨[], by simp [Vt.st, Vt.fv, Nt.st, Nt.fv]⟩
  | .at n, u => ⟨_, by simp only [Vt.st, Vt.fv]; rfl⟩
  | .call f as, u => ⟨_, by simp only [Vt.st, Vt.fv]; rfl⟩
  | .item o ks, u => ⟨_, by simp only [Vt.st, Vt.fv]; rfl⟩
  | .kw s, u => ⟨[u ++ [kwD s]], by simp [Vt.st, Vt.fv]⟩
  | .not a as, u => ⟨u :: a.st u ++ as.st (u ++ [a.fv]) ++ [u, u, u, u], by simp [Vt.st, Vt.fv]⟩
theorem Nt.st_last (n : Nt) (u : List Dat) : ∃ l, n.st u = l ++ [u ++ [n.fv]] := by
  cases n with
  | name s => exact ⟨[], by simp [Nt.st, Nt.fv]⟩
  | call f as => exact ⟨_, by simp only [Nt.st, Nt.fv]; rfl⟩
  | item o ks => exact ⟨_, by simp only [Nt.st, Nt.fv]; rfl⟩
  | dollar a => exact ⟨_, by simp only [Nt.st, Nt.fv]; rfl⟩
  | kw s => exact ⟨[], by simp [Nt.st, Nt.fv]⟩
mutual
theorem Vt.st_len : ∀ (t : Vt) (u : List Dat), (t.st u).length = t.vo.length
  | .null, u | .text s, u | .whole i, u | .name s, u | .star a, u | .kw s, u => by simp [Vt.st, Vt.vo]
  | .join a b, u => by simp [Vt.st, Vt.vo, Vt.st_len a, Vt.st_len b]
  | .bin op a b, u => by simp [Vt.st, Vt.vo, Vt.st_len a, Vt.st_len b]
  | .given op a b, u => by simp [Vt.st, Vt.vo, Vt.st_len a, Nt.st_len b]
  | .neg a, u => by simp [Vt.st, Vt.vo, Vt.st_len a]
  | .dollar a, u => by simp [Vt.st, Vt.vo, Vt.st_len a]
  | .opt a, u => by simp [Vt.st, Vt.vo, Vt.st_len a]
  | .dot n, u => by simp [Vt.st, Vt.vo, Nt.st_len n]
  | .at n, u => by simp [Vt.st, Vt.vo, Nt.st_len n]
  | .call f as, u => by simp [Vt.st, Vt.vo, Vl.st_len as]
  | .item o ks, u => by simp [Vt.st, Vt.vo, Vt.st_len o, Vl.st_len ks]
  | .not a as, u => by simp [Vt.st, Vt.vo, Vt.st_len a, Vl.st_len as]
theorem Nt.st_len : ∀ (t : Nt) (u : List Dat), (t.st u).length = t.no.length
  | .name s, u | .kw s, u => by simp [Nt.st, Nt.no]
  | .call f as, u => by simp [Nt.st, Nt.no, Vl.st_len as]
  | .item o ks, u => by simp [Nt.st, Nt.no, Vt.st_len o, Vl.st_len ks]
  | .dollar a, u => by simp [Nt.st, Nt.no, Vt.st_len a]
theorem Vl.st_len : ∀ (t : Vl) (u : List Dat), (t.st u).length = t.vl.length
  | .nil, u => by simp [Vl.st, Vl.vl]
  | .cons a l, u => by simp [Vl.st, Vl.vl, Vt.st_len a, Vl.st_len l]
end
end Mine
namespace Mine
variable {K : Frag} {p : Program} {fi : Fi} {prog : Program} {w : World}
variable {C : Cx K p fi} {σ σ' σ₁ σ₂ : List (Str × V)} {μ μ' μ₁ μ₂ μ₃ φ φ' : Mu} {pos px py p1 p2 p3 : Pos} {ts : List Value} {Ts : List V} {s : Shared} {O : Out} {X X' : V} {x y : Str} {rest : List Stmt}
theorem Ev.attr {o : Expr} {a c ad : Addr} {es : List DictEntry} {n : Nat} {name : Str} {at' : Option Value} {v : Value} (ho : Ev prog w C σ μ o (.r a) μ₁) (h1 : (a, Mo.o (instObj c ad)) ∈ μ₁) (h2 : (ad, Mo.o (dictOf es n)) ∈ μ₁)
    (hg : plainGet K c name = true) (hh : hasDictIn K c = true) (ha : findIn K (.ref c) name = some at') (hn : noGet K at' = true) (hl : getL name es = some (some v)) (hv : handedIn v = true) (hX : ∀ imm, VIn imm v X)
    (he : eval (.Attribute o name pos) C.env = (do
      let r ← eval o C.env
      standAt pos.atName
      let q ← holding [r] (getAttr r name true)
      letTemporaryGo o r q
      pure q) := by rfl) : Ev prog w C σ μ (.Attribute o name pos) X μ₁ := by
  intro m ts Ts s Q E S k
  refine Attribute_any_ (ho _ _ _ _ _ _ S fun u s1 S1 => ?_) he
  obtain ⟨imm, μr, S1⟩ := S1
  obtain ⟨hu, S2⟩ := S1.pop
  obtain rfl : u = .ref a := hu
  refine get_own S2.fr C.hX (InstAt.of_news S2.nw (List.mem_append.mpr (.inl (S2.ma.get h1))) (List.mem_append.mpr (.inl (S2.ma.get h2)))) hg hh ha hn hl hv ?_
  exact k _ _ ⟨imm, μr, (S2.toks rfl).push (hX _)⟩
def InstV (c : Addr) (name : Str) (μ : Mu) (X : V) : Prop := ∀ imm μr v, MAll imm μr μ → VIn imm v X → ∃ a ad es n, v = .ref a ∧ (a, instObj c ad) ∈ μr ++ imm ∧ (ad, dictOf es n) ∈ μr ++ imm ∧ getL name es = some none
theorem Ev.meth {o e : Expr} {es : List Expr} {c f : Addr} {name : Str} {n : Nat} {X0 : V} {Xs : List V} {pl : Sem Bool} (ho : Ev prog w C σ μ o X0 μ₁) (hI : InstV c name μ₁ X0)
    (hg : plainGet K c name = true) (hf : findIn K (.ref c) name = some (some (.ref f))) (ht : isFn K (.ref f) = true) (hk : keepIn K (.ref f) = true) (hL : EvL prog w C σ μ₁ (e :: es) Xs μ₂) (hS : Spec prog w K p n f (X0 :: Xs) μ₂ X μ₃) (hn : n ≤ C.room)
    (he : eval (.Call (.Attribute o name p1) (e :: es) [] p2) C.env = (do
      let ov ← eval o C.env
      standAt p1.atName
      let (f, first) ← holding [ov] (getMethod ov name pl)
      callWith p2 f first (backTo p2 (starEach (e :: es) C.env)) []) := by rfl)
    (hs : starEach (e :: es) C.env = (false, eval e C.env) :: starEach es C.env := by rfl) (hp : ∀ pos, (backTo pos (starEach es C.env)).any (·.1) = false := by intro _; rfl) :
    Ev prog w C σ μ (.Call (.Attribute o name p1) (e :: es) [] p2) X μ₃ := by
  intro m ts Ts s Q E S k
  refine MethodCall_ (pl := pl) (ho _ _ _ _ _ _ S fun v s1 S1 => ?_) he
  obtain ⟨imm, μr, S1'⟩ := id S1
  obtain ⟨hv, S2⟩ := S1'.pop
  obtain ⟨a, ad, ds, nn, rfl, m1, m2, hl⟩ := hI imm μr v S2.ma hv
  refine method_inst S2.fr C.hX (InstAt.of_news S2.nw m1 m2) hg hf ht hl ?_
  refine callWith_K C.hX hk (hL _ _ _ _ _ _ _ S1 fun vs s' hl S3 => ⟨?_, ?_⟩) hs (hp _)
  · obtain ⟨imm1, μr1, S3'⟩ := S3
    exact C.hX.keeps S3'.fr.keep
  · refine hS fi C σ m ts Ts (.ref a :: vs) s' Q E hn (by simp [hl]) ?_ k
    refine S3.temps fun imm h => ?_
    obtain ⟨h1, h2⟩ := VAll.split _ hl h
    cases h2 with
    | cons b r => exact .cons b (h1.append r)
theorem Ev.meth0 {o : Expr} {c f : Addr} {name : Str} {n : Nat} {X0 : V} {pl : Sem Bool} (ho : Ev prog w C σ μ o X0 μ₁) (hI : InstV c name μ₁ X0)
    (hg : plainGet K c name = true) (hf : findIn K (.ref c) name = some (some (.ref f))) (ht : isFn K (.ref f) = true) (hk : keepIn K (.ref f) = true) (hS : Spec prog w K p n f [X0] μ₁ X μ₃) (hn : n ≤ C.room)
    (he : eval (.Call (.Attribute o name p1) [] [] p2) C.env = (do
      let ov ← eval o C.env
      standAt p1.atName
      let (f, first) ← holding [ov] (getMethod ov name pl)
      callWith p2 f first (backTo p2 (starEach [] C.env)) []) := by rfl) :
    Ev prog w C σ μ (.Call (.Attribute o name p1) [] [] p2) X μ₃ := by
  intro m ts Ts s Q E S k
  refine MethodCall_ (pl := pl) (ho _ _ _ _ _ _ S fun v s1 S1 => ?_) he
  obtain ⟨imm, μr, S1'⟩ := id S1
  obtain ⟨hv, S2⟩ := S1'.pop
  obtain ⟨a, ad, ds, nn, rfl, m1, m2, hl⟩ := hI imm μr v S2.ma hv
  refine method_inst S2.fr C.hX (InstAt.of_news S2.nw m1 m2) hg hf ht hl ?_
  refine callWith_K0 (C.hX.keeps S2.fr.keep) hk ?_
  exact hS fi C σ m ts Ts [.ref a] s1 Q E hn rfl S1 k
abbrev W4 (a ad al ag : Addr) (es : List DictEntry) (n : Nat) (stk gs : List Dat) : Mu := [(a, .o (instObj 103 ad)), (ad, .o (dictOf es n)), (al, .l stk), (ag, .l gs)]
theorem Sx.openW {m imm μr} {a : Addr} {stk gs : List Dat} (S : Sx C σ ((a, .work stk gs) :: φ) ts Ts s m imm μr) : ∃ ad al ag es n, WD es al ag ∧ Sx C σ (W4 a ad al ag es n stk gs ++ φ) ts Ts s m imm μr := by
  obtain ⟨a1, a2, a3, a4, am, a5, a6, a7, a8⟩ := S
  cases am with
  | cons h _ => cases h
  | @work _ ad al ag es n vs k us j _ _ l _ h1 h2 h3 r => exact ⟨ad, al, ag, es, n, h1, a1, a2, a3, a4, .cons rfl (.cons rfl (.cons ⟨vs, k, rfl, h2⟩ (.cons ⟨us, j, rfl, h3⟩ r))), a5, a6, a7, a8⟩
theorem Sx.closeW {m imm μr} {a ad al ag : Addr} {es : List DictEntry} {n : Nat} {stk gs : List Dat} (h : WD es al ag) (S : Sx C σ (W4 a ad al ag es n stk gs ++ φ) ts Ts s m imm μr) : Sx C σ ((a, .work stk gs) :: φ) ts Ts s m imm μr := by
  obtain ⟨a1, a2, a3, a4, am, a5, a6, a7, a8⟩ := S
  refine ⟨a1, a2, a3, a4, ?_, a5, a6, a7, a8⟩
  cases am with
  | cons h1 am =>
    cases am with
    | cons h2 am =>
      cases am with
      | cons h3 am =>
        cases am with
        | cons h4 am =>
          obtain ⟨vs, k, rfl, h3⟩ := h3
          obtain ⟨us, j, rfl, h4⟩ := h4
          obtain rfl : _ = _ := h1
          obtain rfl : _ = _ := h2
          exact .work h h3 h4 am
variable {a : Addr} {stk gs stk' gs' : List Dat} {e : Expr}
theorem Ev.opn (h : ∀ ad al ag es n, WD es al ag → Ev prog w C σ (W4 a ad al ag es n stk gs ++ φ) e X (W4 a ad al ag es n stk' gs' ++ φ')) : Ev prog w C σ ((a, .work stk gs) :: φ) e X ((a, .work stk' gs') :: φ') := by
  rintro m ts Ts s Q E ⟨imm, μr, S⟩ k
  obtain ⟨ad, al, ag, es, n, hW, S⟩ := S.openW
  refine h ad al ag es n hW _ _ _ _ _ _ ⟨imm, μr, S⟩ ?_
  rintro v s' ⟨imm', μr', S'⟩
  exact k _ _ ⟨imm', μr', S'.closeW hW⟩
theorem EvT.opn {b : Bool} (h : ∀ ad al ag es n, WD es al ag → EvT prog w C σ (W4 a ad al ag es n stk gs ++ φ) e b (W4 a ad al ag es n stk' gs' ++ φ')) : EvT prog w C σ ((a, .work stk gs) :: φ) e b ((a, .work stk' gs') :: φ') := by
  rintro m ts Ts s Q E ⟨imm, μr, S⟩ k
  obtain ⟨ad, al, ag, es, n, hW, S⟩ := S.openW
  refine h ad al ag es n hW _ _ _ _ _ _ ⟨imm, μr, S⟩ ?_
  rintro s' ⟨imm', μr', S'⟩
  exact k _ ⟨imm', μr', S'.closeW hW⟩
theorem Sx.closeW1 {m imm μr} {b a ad al ag : Addr} {y : Mo} {es : List DictEntry} {n : Nat} {stk gs : List Dat} (hy : y.one = true) (h : WD es al ag) (S : Sx C σ ((b, y) :: (W4 a ad al ag es n stk gs ++ φ)) ts Ts s m imm μr) : Sx C σ ((b, y) :: (a, .work stk gs) :: φ) ts Ts s m imm μr := by
  obtain ⟨a1, a2, a3, a4, am, a5, a6, a7, a8⟩ := S
  refine ⟨a1, a2, a3, a4, ?_, a5, a6, a7, a8⟩
  cases am with
  | work _ _ _ _ => cases hy
  | hooks _ _ => cases hy
  | cons h0 am =>
    cases am with
    | cons h1 am =>
      cases am with
      | cons h2 am =>
        cases am with
        | cons h3 am =>
          cases am with
          | cons h4 am =>
            obtain ⟨vs, k, rfl, h3⟩ := h3
            obtain ⟨us, j, rfl, h4⟩ := h4
            obtain rfl : _ = _ := h1
            obtain rfl : _ = _ := h2
            exact .cons h0 (.work h h3 h4 am)
theorem EvN.opn {a : Addr} {stk gs stk' gs' : List Dat} {e : Expr} {y : Mo} (hy : y.one = true) (h : ∀ ad al ag es n, WD es al ag → EvN prog w C σ (W4 a ad al ag es n stk gs ++ φ) e y (W4 a ad al ag es n stk' gs' ++ φ')) : EvN prog w C σ ((a, .work stk gs) :: φ) e y ((a, .work stk' gs') :: φ') := by
  rintro m ts Ts s Q E ⟨imm, μr, S⟩ k
  obtain ⟨ad, al, ag, es, n, hW, S⟩ := S.openW
  refine h ad al ag es n hW _ _ _ _ _ _ ⟨imm, μr, S⟩ ?_
  rintro v s' ⟨imm', μr', S'⟩
  exact k _ _ ⟨imm', μr', S'.closeW1 hy hW⟩
end Mine
namespace Mine
variable {K : Frag} {p : Program} {fi : Fi} {prog : Program} {w : World}
variable {C : Cx K p fi} {σ σ' σ₁ σ₂ : List (Str × V)} {μ μ' μ₁ μ₂ μ₃ φ φ' : Mu} {pos px py p1 p2 p3 : Pos} {ts : List Value} {Ts : List V} {s : Shared} {O : Out} {X X' : V} {x y : Str} {rest : List Stmt}
theorem Ev.fromM {a b : Expr} {ps : Pos} {al : Addr} {xs : List Dat} {i : Int} (h1 : Ev prog w C σ μ a (.r al) μ₁) (h2 : Ev prog w C σ μ₁ b (.d (.int i)) μ₂) (h0 : MU al (.l xs) (.l xs) μ₂ μ₂) (hi : 0 ≤ i) (hz : xs.length ≤ 16777216) :
    Ev prog w C σ μ (.Subscript a (.Slice (some b) Option.none Option.none ps) pos) (.d (.list (xs.drop i.toNat))) μ₂ := by
  intro m ts Ts s Q E S k
  refine Subscript_ (h1 _ _ _ _ _ _ S fun va s1 S1 => wpAny_Slice ?_)
  rw [evalPart_some, evalPart_none]
  refine h2 _ _ _ _ _ _ S1 fun vb s2 S2 => wpAny_pure (wpAny_pure ?_)
  obtain ⟨imm, μr, S2⟩ := S2
  obtain ⟨hb, S3⟩ := S2.pop
  obtain ⟨ha, S4⟩ := S3.pop
  obtain rfl : va = .ref al := ha
  obtain ⟨tb, rfl⟩ := dat_int hb
  obtain ⟨ob, ⟨vs, n, rfl, Da⟩, hm⟩ := S4.read h0
  have hl : s2.heap.IsList al vs.toArray := ⟨_, (S4.nw _ hm).1, rfl, n, rfl⟩
  refine tail_any (T := "list") (ops := [.ref s2.heap.objs.size, .ref al]) (Heap.IsList.typeIs (s := { s2 with heap := s2.heap.push { cls := .type "slice", data := .fields #[.int i tb, .none, .none] } }) (hl.push _)) slot_list_getitem.lookup
    (wpAny_getItem_list_slice (hl.push _) (Heap.IsSliceOf.new ..) (.int i tb) .none .none (by simp) ?_ ?_) rfl
  · rw [slice_from _ hi]
    have S5 := (S4.alloc (tk := s2.toks) { cls := .type "slice", data := .fields #[.int i tb, .none, .none] } rfl)
    have S6 := S5.alloc (tk := s2.toks) { cls := .type "list", data := .seq ((vs.toArray.toList.drop i.toNat).toArray) } rfl
    refine k _ _ ⟨_, μr, S6.push (DatIn.list (n := 0) (.head _) (DatAll.mono (fun q hq => .tail _ (.tail _ hq)) ?_))⟩
    exact datAll_drop Da _
  · have := Da.length
    simp only [List.size_toArray, sizeLine_eq]; omega
theorem EvN.uptoM {a b : Expr} {ps : Pos} {al : Addr} {xs : List Dat} {i : Int} (h1 : Ev prog w C σ μ a (.r al) μ₁) (h2 : Ev prog w C σ μ₁ b (.d (.int i)) μ₂) (h0 : MU al (.l xs) (.l xs) μ₂ μ₂) (hi : 0 ≤ i) (hz : xs.length ≤ 16777216) :
    EvN prog w C σ μ (.Subscript a (.Slice Option.none (some b) Option.none ps) pos) (.l (xs.take i.toNat)) μ₂ := by
  intro m ts Ts s Q E S k
  refine Subscript_ (h1 _ _ _ _ _ _ S fun va s1 S1 => wpAny_Slice ?_)
  rw [evalPart_some, evalPart_none]
  refine wpAny_pure (h2 _ _ _ _ _ _ S1 fun vb s2 S2 => wpAny_pure ?_)
  obtain ⟨imm, μr, S2⟩ := S2
  obtain ⟨hb, S3⟩ := S2.pop
  obtain ⟨ha, S4⟩ := S3.pop
  obtain rfl : va = .ref al := ha
  obtain ⟨tb, rfl⟩ := dat_int hb
  obtain ⟨ob, ⟨vs, n, rfl, Da⟩, hm⟩ := S4.read h0
  have hl : s2.heap.IsList al vs.toArray := ⟨_, (S4.nw _ hm).1, rfl, n, rfl⟩
  refine tail_any (T := "list") (ops := [.ref s2.heap.objs.size, .ref al]) (Heap.IsList.typeIs (s := { s2 with heap := s2.heap.push { cls := .type "slice", data := .fields #[.none, .int i tb, .none] } }) (hl.push _)) slot_list_getitem.lookup
    (wpAny_getItem_list_slice (hl.push _) (Heap.IsSliceOf.new ..) .none (.int i tb) .none (by simp) ?_ ?_) rfl
  · rw [slice_upto _ hi]
    have S5 := (S4.alloc (tk := s2.toks) { cls := .type "slice", data := .fields #[.none, .int i tb, .none] } rfl)
    have S6 := S5.allocM (tk := s2.toks) (a := (s2.heap.push { cls := .type "slice", data := .fields #[.none, .int i tb, .none] }).objs.size) (o := { cls := .type "list", data := .seq ((vs.toArray.toList.take i.toNat).toArray) }) (y := .l (xs.take i.toNat)) (S5.fr.push _) (News.push S5.fr S5.nw _ rfl)
      (fun q hq => Nat.ne_of_lt (Heap.lt_size (S5.nw q hq).1)) ⟨vs.take i.toNat, 0, rfl, datAll_take (DatAll.mono (fun q hq => .tail _ hq) Da) _⟩
    exact k _ _ ⟨_, _, S6.push rfl⟩
  · have := Da.length
    simp only [List.size_toArray, sizeLine_eq]; omega
theorem EvT.isNone {e : Expr} {b : Bool} {i : Nat} (h : Ev prog w C σ μ e X μ₁) (hX : ∀ imm v, VIn imm v X → (v == Value.none) = b) (hm : behindInMarks .Is (.Constant .none i p1) = false := by rfl) : EvT prog w C σ μ (.Compare e [.Is] [.Constant .none i p1] pos) b μ₁ := by
  intro m ts Ts s Q E S k
  refine wpAny_isTrue_Compare1 (h _ _ _ _ _ _ S fun va s1 S1 => wpAny_pure ?_) hm
  obtain ⟨imm, μr, S1⟩ := S1
  obtain ⟨hb, S2⟩ := S1.pop
  exact is_none_gen (wpAny_truthy_bool (hX _ _ hb ▸ k _ ⟨imm, μr, S2⟩))
theorem none_of_dat {d : Dat} (h : ¬ d = .none) : ∀ imm v, VIn imm v (.d d) → (v == Value.none) = false := by
  intro imm v hv
  cases hv
  case none => exact absurd rfl h
  all_goals rfl
theorem none_of_none : ∀ imm v, VIn imm v (.d .none) → (v == Value.none) = true := by
  intro imm v hv
  cases hv
  rfl
theorem none_of_ref {a : Addr} : ∀ imm v, VIn imm v (.r a) → (v == Value.none) = false := by
  intro imm v hv
  obtain rfl : v = .ref a := hv
  rfl
theorem Ev.glob {f : Addr} (hg : nsIn K mainGlobals x = some (some (.ref f))) (hx : fi.cs.names.lookup x = some .globalImplicit := by rfl) (hd : (x == ("__debug__" : Str)) = false := by decide) : Ev prog w C σ μ (.Name x pos) (.r f) μ := by
  rintro m ts Ts s Q E ⟨imm, μr, S⟩ k
  exact nameX_K S.fr C.hX (topRead_of C.hT) hg (k _ _ ⟨imm, μr, S.push rfl⟩) C.hk hx hd
theorem Ex.exprA {e : Expr} (h : Ev prog w C σ μ e X μ₁) (hr : Ex prog w C σ μ₁ rest O) (hi : interactive C.env = false := by rfl) (hs : swapsWith e none pos.line C.env = pure false := by rfl) : Ex prog w C σ μ (.Expr e pos :: rest) O := by
  intro ts Ts s Q E S k
  obtain ⟨m, S⟩ := S.stM
  refine wpAny_execs_cons (wpAny_Expr_any (h _ _ _ _ _ _ S fun v s' S' => ?_) hi hs)
  obtain ⟨imm, μr, S1⟩ := S'
  exact hr _ _ _ _ _ ⟨m, imm, μr, S1.pop.2⟩ k
def WhE (prog : Program) (w : World) (C : Cx K p fi) (σ : List (Str × V)) (μ : Mu) (t : Expr) (b : List Stmt) (O : Out) : Prop :=
  ∀ ts Ts s (Q : Flow → Shared → Prop), St C σ μ ts Ts s → (∀ f s', O.holds C ts Ts f s' → Q f s') → ∀ k, WhlRest prog w C.A (fun _ _ => False) C.env t b [] Q k s
theorem WhE.stop {t : Expr} {b : List Stmt} (ht : EvT prog w C σ μ t false μ₁) : WhE prog w C σ μ t b (.next σ μ₁) := by
  intro ts Ts s Q S k n
  obtain ⟨m, S⟩ := S.stM
  refine whl_turn (k := n) PassesOwn.never (ht _ _ _ _ _ _ S fun s' S' => WhlIf.no rfl (wpAny_execs_nil (k _ _ ⟨rfl, S'.st⟩)))
theorem WhE.ret {t : Expr} {b : List Stmt} (ht : EvT prog w C σ μ t true μ₁) (hb : Ex prog w C σ μ₁ b (.ret X μ₂)) : WhE prog w C σ μ t b (.ret X μ₂) := by
  intro ts Ts s Q S k n
  obtain ⟨m, S⟩ := S.stM
  refine whl_turn (k := n) PassesOwn.never (ht _ _ _ _ _ _ S fun s' S' => WhlIf.yes rfl (hb _ _ _ _ _ S'.st fun f s'' hf => ?_))
  obtain ⟨v, rfl, hS⟩ := hf
  exact k _ _ ⟨v, rfl, hS⟩
theorem WhE.turn {t : Expr} {b : List Stmt} (ht : EvT prog w C σ μ t true μ₁) (hb : Ex prog w C σ μ₁ b (.next σ₂ μ₂)) (hr : WhE prog w C σ₂ μ₂ t b O) : WhE prog w C σ μ t b O := by
  intro ts Ts s Q S k n
  obtain ⟨m, S⟩ := S.stM
  refine whl_turn (k := n) PassesOwn.never (ht _ _ _ _ _ _ S fun s' S' => WhlIf.yes rfl (hb _ _ _ _ _ S'.st fun f s'' hf => ?_))
  obtain ⟨rfl, hS⟩ := hf
  exact hr _ _ _ _ hS k n
theorem Ex.whileN {t : Expr} {b : List Stmt} (h : WhE prog w C σ μ t b (.next σ₂ μ₂)) (hr : Ex prog w C σ₂ μ₂ rest O) : Ex prog w C σ μ (.While t b [] pos :: rest) O := by
  intro ts Ts s Q E S k
  refine wpAny_execs_cons (wpAny_mono (E := fun _ _ => False) (whl_start 0 (h _ _ _ (fun f s' => f = .next ∧ St C σ₂ μ₂ ts Ts s') S (fun f s' hf => hf) 0)) (fun f s' hf => ?_) fun _ _ h => h.elim)
  obtain ⟨rfl, hS⟩ := hf
  exact hr _ _ _ _ _ hS k
theorem Ex.whileR {t : Expr} {b : List Stmt} (h : WhE prog w C σ μ t b (.ret X μ₂)) : Ex prog w C σ μ (.While t b [] pos :: rest) (.ret X μ₂) := by
  intro ts Ts s Q E S k
  refine wpAny_execs_cons (wpAny_mono (E := fun _ _ => False) (whl_start 0 (h _ _ _ (fun f s' => ∃ v, f = .ret v ∧ St C [] μ₂ (v :: ts) (X :: Ts) s') S (fun f s' hf => hf) 0)) (fun f s' hf => ?_) fun _ _ h => h.elim)
  obtain ⟨v, rfl, hS⟩ := hf
  exact k _ _ ⟨v, rfl, hS⟩
end Mine
namespace Mine
variable {K : Frag} {p : Program} {fi : Fi} {prog : Program} {w : World}
variable {C : Cx K p fi} {σ σ' σ₁ σ₂ : List (Str × V)} {μ μ' μ₁ μ₂ μ₃ φ φ' : Mu} {pos px py p1 p2 p3 : Pos} {ts : List Value} {Ts : List V} {s : Shared} {O : Out} {X X' : V} {x y : Str} {rest : List Stmt}
theorem Sx.re {m imm μr μr'} (S : Sx C σ μ ts Ts s m imm μr) (hs : ∀ q ∈ μr', q ∈ μr) (hnd : (μr'.map (·.1)).Nodup) (hm : MAll imm μr' μ') : Sx C σ μ' ts Ts s m imm μr' := by
  obtain ⟨a1, a2, a3, a4, am, a5, a6, a7, a8⟩ := S
  refine ⟨a1, fun q hq => a2 q ?_, fun q hq => a3 q (hs q hq), hnd, hm, a5, a6, a7, a8⟩
  rcases List.mem_append.mp hq with hq | hq
  · exact List.mem_append.mpr (.inl (hs q hq))
  · exact List.mem_append.mpr (.inr hq)
theorem MAll.tailOf {imm : Led} {q : Addr × Mo} {l : Led} {L : Mu} (h : MAll imm l (q :: L)) : ∃ l1 l2, l = l1 ++ l2 ∧ MAll imm l2 L := by
  cases h with
  | cons _ r => exact ⟨[_], _, rfl, r⟩
  | work _ _ _ r => exact ⟨[_, _, _, _], _, rfl, r⟩
  | hooks _ r => exact ⟨[_, _], _, rfl, r⟩
theorem Sx.drop {m imm μr} {q : Addr × Mo} (S : Sx C σ (q :: μ) ts Ts s m imm μr) : ∃ μr', Sx C σ μ ts Ts s m imm μr' := by
  obtain ⟨l1, l2, rfl, h⟩ := S.ma.tailOf
  have hn := S.nd
  rw [List.map_append] at hn
  exact ⟨l2, S.re (fun q hq => List.mem_append.mpr (.inr hq)) (List.nodup_append.mp hn).2.1 h⟩
theorem St.drop {q : Addr × Mo} (S : St C σ (q :: μ) ts Ts s) : St C σ μ ts Ts s := let ⟨m, imm, _, S⟩ := S; let ⟨μr', S⟩ := S.drop; ⟨m, imm, μr', S⟩
theorem Ex.weak {q : Addr × Mo} {ss : List Stmt} (h : Ex prog w C σ μ ss O) : Ex prog w C σ (q :: μ) ss O := fun ts Ts s Q E S k => h ts Ts s Q E S.drop k
theorem Ex.nilC (h : ∀ ts Ts s, St C σ μ ts Ts s → St C σ₂ μ₂ ts Ts s) : Ex prog w C σ μ [] (.next σ₂ μ₂) :=
  fun _ _ _ _ _ S k => wpAny_execs_nil (k _ _ ⟨rfl, h _ _ _ S⟩)
theorem upd_mid {d : Addr} {o o' : Obj} : ∀ {l1 l2 imm : Led}, ((l1 ++ (d, o) :: l2).map (·.1)).Nodup → (∀ q ∈ l1 ++ (d, o) :: l2, ∀ r ∈ imm, q.1 ≠ r.1) → Upd d o o' ((l1 ++ (d, o) :: l2) ++ imm) ((l1 ++ (d, o') :: l2) ++ imm)
  | [], l2, imm, nd, ap => by
    refine Upd.head fun q hq => ?_
    rcases List.mem_append.mp hq with hq | hq
    · intro e
      exact (List.nodup_cons.mp nd).1 (List.mem_map.mpr ⟨q, hq, e⟩)
    · exact fun e => ap (d, o) (.head _) q hq e.symm
  | (b, ob) :: l1, l2, imm, nd, ap => by
    have nd' := List.nodup_cons.mp nd
    refine Upd.tail ?_ (upd_mid nd'.2 fun q hq => ap q (.tail _ hq))
    intro e
    exact nd'.1 (List.mem_map.mpr ⟨(d, o), by simp, e.symm⟩)
theorem Ex.setA {o e : Expr} {a c ad : Addr} {es : List DictEntry} {n : Nat} {name : Str} {f : Obj → Mu} (he : Ev prog w C σ μ e X μ₁) (ho : Ev prog w C σ μ₁ o (.r a) μ₁) (h1 : (a, Mo.o (instObj c ad)) ∈ μ₁) (U : ∀ d', MU ad (.o (dictOf es n)) (.o d') μ₁ (f d'))
    (hs : findIn K (.ref c) "__setattr__" = some (some (.builtin "object.__setattr__"))) (hp : plainOver K c = true) (ht : takerIn K c name = some none) (hh : hasDictIn K c = true) (hl : (getL name es).isSome = true) (hz : ∀ h t v, (putL name h (.str name t) v es).length ≤ 1000)
    (hr : ∀ h t v, (∃ imm, VIn imm v X) → Ex prog w C σ (f (dictOf (putL name h (.str name t) v es) (putN name es n))) rest O)
    (hw : swapsWith e (some (.Attribute o name p1)) pos.line C.env = pure false := by rfl) : Ex prog w C σ μ (.Assign [.Attribute o name p1] e pos :: rest) O := by
  intro ts Ts s Q E S k
  obtain ⟨m, S⟩ := S.stM
  refine wpAny_execs_cons (plainObj_wpAny_Assign_Attribute (he _ _ _ _ _ _ S fun v s1 S1 => ho _ _ _ _ _ _ S1 fun u s2 S2 => ?_) hw)
  obtain ⟨imm, μr, S2⟩ := S2
  obtain ⟨hu, S3⟩ := S2.pop
  obtain ⟨hv, S4⟩ := S3.pop
  obtain rfl : u = .ref a := hu
  obtain ⟨od, hod, hm, up⟩ := S4.upd (U (dictOf (putL name (PyData.keyHash w.params name) (.str name (s2.toks + 1)) v es) (putN name es n)))
  obtain rfl : od = dictOf es n := hod
  obtain ⟨μr', U', fin⟩ := up _ rfl
  refine set_dict S4.fr C.hX S4.nw (InstAt.of_news S4.nw (List.mem_append.mpr (.inl (S4.ma.get h1))) hm) rfl hs hp ht hh hl rfl U' (hz _ _ _) fun h' F N => ?_
  exact hr _ _ _ ⟨imm, hv⟩ _ _ _ _ _ ⟨m, imm, μr', fin h' _ F N⟩ k
theorem Ex.setN {o e : Expr} {a c ad : Addr} {es : List DictEntry} {n : Nat} {name : Str} {z : Mo} {f : Obj → Mu} (he : EvN prog w C σ μ e z μ₁) (ho : ∀ μ, Ev prog w C σ μ o (.r a) μ) (h1 : (a, Mo.o (instObj c ad)) ∈ μ₁) (U : ∀ d', MU ad (.o (dictOf es n)) (.o d') μ₁ (f d'))
    (hs : findIn K (.ref c) "__setattr__" = some (some (.builtin "object.__setattr__"))) (hp : plainOver K c = true) (ht : takerIn K c name = some none) (hh : hasDictIn K c = true) (hl : (getL name es).isSome = true) (hz : ∀ h t v, (putL name h (.str name t) v es).length ≤ 1000)
    (hr : ∀ b h t, Ex prog w C σ ((b, z) :: f (dictOf (putL name h (.str name t) (.ref b) es) (putN name es n))) rest O)
    (hw : swapsWith e (some (.Attribute o name p1)) pos.line C.env = pure false := by rfl) : Ex prog w C σ μ (.Assign [.Attribute o name p1] e pos :: rest) O := by
  intro ts Ts s Q E S k
  obtain ⟨m, S⟩ := S.stM
  refine wpAny_execs_cons (plainObj_wpAny_Assign_Attribute (he _ _ _ _ _ _ S fun b s1 S1 => ho _ _ _ _ _ _ _ S1 fun u s2 S2 => ?_) hw)
  obtain ⟨imm, μr, S2⟩ := S2
  obtain ⟨hu, S3⟩ := S2.pop
  obtain ⟨hv, S4⟩ := S3.pop
  obtain rfl : u = .ref a := hu
  obtain ⟨od, hod, hm, up⟩ := S4.upd (MU.tail (q := (b, z)) (U (dictOf (putL name (PyData.keyHash w.params name) (.str name (s2.toks + 1)) (.ref b) es) (putN name es n))))
  obtain rfl : od = dictOf es n := hod
  obtain ⟨μr', U', fin⟩ := up _ rfl
  refine set_dict S4.fr C.hX S4.nw (InstAt.of_news S4.nw (List.mem_append.mpr (.inl (S4.ma.get (.tail _ h1)))) hm) rfl hs hp ht hh hl rfl U' (hz _ _ _) fun h' F N => ?_
  exact hr _ _ _ _ _ _ _ _ ⟨m, imm, μr', fin h' _ F N⟩ k
theorem Ex.setStk {o e : Expr} {a : Addr} {stk gs stk1 gs1 xs : List Dat} (he : EvN prog w C σ ((a, .work stk gs) :: φ) e (.l xs) ((a, .work stk1 gs1) :: φ')) (ho : ∀ μ, Ev prog w C σ μ o (.r a) μ)
    (hs : findIn K (.ref 103) "__setattr__" = some (some (.builtin "object.__setattr__"))) (hp : plainOver K 103 = true) (ht : takerIn K 103 (Str.ofString "stack") = some none) (hh : hasDictIn K 103 = true)
    (hr : Ex prog w C σ ((a, .work xs gs1) :: φ') rest O)
    (hw : swapsWith e (some (.Attribute o (Str.ofString "stack") p1)) pos.line C.env = pure false := by rfl) : Ex prog w C σ ((a, .work stk gs) :: φ) (.Assign [.Attribute o (Str.ofString "stack") p1] e pos :: rest) O := by
  intro ts Ts s Q E S k
  obtain ⟨m, S⟩ := S.stM
  refine wpAny_execs_cons (plainObj_wpAny_Assign_Attribute (he _ _ _ _ _ _ S fun b s1 S1 => ho _ _ _ _ _ _ _ S1 fun u s2 S2 => ?_) hw)
  obtain ⟨imm, μr, S2⟩ := S2
  obtain ⟨hu, S3⟩ := S2.pop
  obtain ⟨hv, S4⟩ := S3.pop
  obtain rfl : u = .ref a := hu
  have hma := S4.ma
  cases hma with
  | @cons _ ob _ l _ hb hma =>
    cases hma with
    | cons h _ => cases h
    | @work _ ad al ag es n vs k' us j _ _ l _ hW h2 h3 r =>
      cases hW with
      | @mk e1 e2 e3 e4 t1 t2 t3 t4 =>
        have nd := S4.nd
        let es₁ : List DictEntry := [⟨e1, .str (Str.ofString "stack") t1, .ref al⟩, ⟨e2, .str (Str.ofString "guards") t2, .ref ag⟩, ⟨e3, .str (Str.ofString "found") t3, .none⟩, ⟨e4, .str (Str.ofString "goal") t4, .none⟩]
        let es₂ : List DictEntry := [⟨e1, .str (Str.ofString "stack") t1, .ref b⟩, ⟨e2, .str (Str.ofString "guards") t2, .ref ag⟩, ⟨e3, .str (Str.ofString "found") t3, .none⟩, ⟨e4, .str (Str.ofString "goal") t4, .none⟩]
        have hput : (putL (Str.ofString "stack") (PyData.keyHash w.params (Str.ofString "stack")) (.str (Str.ofString "stack") (s2.toks + 1)) (.ref b) es₁, putN (Str.ofString "stack") es₁ n) = (es₂, n) := rfl
        refine set_dict S4.fr C.hX S4.nw (InstAt.of_news (dx := ad) (od := dictOf es₁ n) S4.nw (List.mem_append.mpr (.inl (.tail _ (.head _)))) (List.mem_append.mpr (.inl (.tail _ (.tail _ (.head _)))))) rfl hs hp ht hh rfl hput (upd_mid (l1 := [(b, ob), (a, instObj 103 ad)]) S4.nd S4.ap) (Nat.le_of_ble_eq_true rfl) fun h' F N => ?_
        have S5 : Sx C σ ((b, .l xs) :: (a, .o (instObj 103 ad)) :: (ad, .o (dictOf es₂ n)) :: (al, .l stk1) :: (ag, .l gs1) :: φ') ts Ts { s2 with heap := h', toks := s2.toks + 2 } m imm ((b, ob) :: (a, instObj 103 ad) :: (ad, dictOf es₂ n) :: (al, listOf vs.toArray k') :: (ag, listOf us.toArray j) :: l) :=
          ⟨F, N, fun q hq => ?_, ?_, .cons hb (.cons rfl (.cons rfl (.cons ⟨vs, k', rfl, h2⟩ (.cons ⟨us, j, rfl, h3⟩ r)))), S4.im, S4.lo, S4.tm, by rw [S4.sm]⟩
        · obtain ⟨ws, nw, rfl, hb⟩ := hb
          have nd2 := S5.nd
          refine hr _ _ _ _ _ ⟨m, imm, _, S5.re (μr' := (a, instObj 103 ad) :: (ad, dictOf es₂ n) :: (b, listOf ws.toArray nw) :: (ag, listOf us.toArray j) :: l) ?_ ?_ (.work .mk hb h3 r)⟩ k
          · intro q hq
            simp only [List.mem_cons] at hq ⊢
            rcases hq with rfl | rfl | rfl | rfl | hq
            · simp
            · simp
            · simp
            · simp
            · simp [hq]
          · simp only [List.map_cons, List.nodup_cons, List.mem_cons, not_or] at nd2 ⊢
            obtain ⟨⟨q1, q2, q3, q4, q5⟩, ⟨q6, q7, q8, q9⟩, ⟨q10, q11, q12⟩, ⟨q13, q14⟩, q15, q16⟩ := nd2
            exact ⟨⟨q6, Ne.symm q1, q8, q9⟩, ⟨Ne.symm q2, q11, q12⟩, ⟨q4, q5⟩, q15, q16⟩
        · have : ∃ q' ∈ (b, ob) :: (a, instObj 103 ad) :: (ad, dictOf es₁ n) :: (al, listOf vs.toArray k') :: (ag, listOf us.toArray j) :: l, q'.1 = q.1 := by
            simp only [List.mem_cons] at hq
            rcases hq with rfl | rfl | rfl | rfl | rfl | hq
            · exact ⟨_, .head _, rfl⟩
            · exact ⟨_, .tail _ (.head _), rfl⟩
            · exact ⟨_, .tail _ (.tail _ (.head _)), rfl⟩
            · exact ⟨_, .tail _ (.tail _ (.tail _ (.head _))), rfl⟩
            · exact ⟨_, .tail _ (.tail _ (.tail _ (.tail _ (.head _)))), rfl⟩
            · exact ⟨q, .tail _ (.tail _ (.tail _ (.tail _ (.tail _ hq)))), rfl⟩
          obtain ⟨q', h1, h2⟩ := this
          intro r hr
          rw [← h2]
          exact S4.ap q' h1 r hr
        · exact S4.nd
end Mine
namespace Mine
variable {K : Frag} {p : Program} {fi : Fi} {prog : Program} {w : World}
variable {C : Cx K p fi} {σ σ' σ₀ σ₁ σ₂ : List (Str × V)} {μ μ' μ₁ μ₂ μ₃ φ φ' : Mu} {pos px py p1 p2 p3 : Pos} {ts : List Value} {Ts : List V} {s : Shared} {O : Out} {X X' : V} {x y : Str} {rest : List Stmt}
def SpecN (prog : Program) (w : World) (K : Frag) (p : Program) (n : Nat) (f : Addr) (Xs : List V) (μ : Mu) (y : Mo) (μ' : Mu) : Prop :=
  ∀ (fi : Fi) (C : Cx K p fi) σ m ts Ts vs s (Q : Value → Shared → Prop) E, n ≤ C.room → vs.length = Xs.length → StM C σ μ (vs ++ ts) (Xs ++ Ts) m s →
    (∀ b s', StM C σ ((b, y) :: μ') (.ref b :: ts) (.r b :: Ts) m s' → Q (.ref b) s') → wpAny (model prog w) C.A (call (.ref f) vs) Q E s
section
variable {f : Addr} {name qual : Str} {params : Arguments} {body : List Stmt} {scope : Scope} {dV kV doc pm cdv ct oc : Value} {an od : Option Addr} {osl : Array (Option Value)} {n : Nat} {Xs : List V} {z : Mo}
theorem SpecN.of_body (σ₀ : List (Str × V))
    (ho : K.lookup f = some ⟨oc, od, .func (fnOf name qual params body scope dV kV doc pm an cdv ct), osl⟩) (hcd : codeIn K cdv qual = true)
    (hb : ∀ (s : Shared) vs imm, VAll imm vs Xs → ∃ binds, BindsTo s (fnOf name qual params body scope dV kV doc pm an cdv ct) ⟨vs, []⟩ binds ∧ (∀ y ∈ binds, scope.names.lookup y.1 = some .local) ∧ Al imm binds.reverse σ₀)
    (hco : scope.isCoroutine = false) (hgen : scope.isGenerator = false) (hk : scope.kind = .function) (hcell : ∀ x ∈ scope.names, x.2 ≠ .cell)
    (h : ∀ (C : Cx K p ⟨qual, scope, f, cdv⟩), C.room = n → Ex prog w C σ₀ μ body (.retN z μ')) : SpecN prog w K p (n + 1) f Xs μ z μ' := by
  intro fi C σ m ts Ts vs s Q E hroom hl S k
  obtain ⟨imm, μr, S⟩ := S
  obtain ⟨tv, tt⟩ := VAll.split _ hl S.tm
  obtain ⟨binds, hbind, hloc, hal⟩ := hb s vs imm tv
  have hd := C.hd
  have hu := C.hu
  refine wpAny_call (code_def C.hB S.fr C.hX S.nw C.hT rfl rfl C.hk ho hcd (by show C.dp < recursionLimit; omega) hbind hloc ?_ hco hgen hk hcell)
  intro g L' h₁ FG F' N' B' X' T'
  let C' : Cx K p ⟨qual, scope, f, cdv⟩ := { room := n, dp := C.dp + 1, un := C.un + 3, gd := C.gd, L := L', cl := [], outer := C.env :: C.outer, A₀ := C.A, base := C.base, h₀ := g, loose := C.loose, mean := C.mean, mg := C.mg, mb := C.mb, imm₀ := imm, s₀ := C.s₀, cv := [], hcv := (fun _ _ e => by cases e), hB := B', hX := X', hT := T', hk := hk, hd := by omega, hu := by omega }
  refine h C' rfl [] [] _ _ _ ⟨_, imm, μr, ⟨F', N', S.ap, S.nd, S.ma, fun _ h => h, hal.locs, .nil, by show Shared.mk _ _ _ _ _ = Shared.mk _ _ _ _ _; rw [S.sm]⟩⟩ ?_
  rintro fl s' ⟨b, rfl, m', imm', μr', S'⟩
  refine leaveK_ S'.fr S'.nw fun F N => ?_
  exact k _ _ ⟨imm', μr', ⟨F, N, S'.ap, S'.nd, S'.ma, fun q hq => S'.im q (S.im q hq), S.lo.mono S'.im, .cons rfl (tt.mono S'.im), S'.sm⟩⟩
theorem CodeB {C : Cx K p fi} {m : Str → Option Value} {vs : List Value} {R : Result → Shared → Prop} (σ₀ : List (Str × V))
    (ho : K.lookup f = some ⟨oc, od, .func (fnOf name qual params body scope dV kV doc pm an cdv ct), osl⟩) (hcd : codeIn K cdv qual = true)
    (hb : ∀ (s : Shared) vs imm, VAll imm vs Xs → ∃ binds, BindsTo s (fnOf name qual params body scope dV kV doc pm an cdv ct) ⟨vs, []⟩ binds ∧ (∀ y ∈ binds, scope.names.lookup y.1 = some .local) ∧ Al imm binds.reverse σ₀)
    (hco : scope.isCoroutine = false) (hgen : scope.isGenerator = false) (hk : scope.kind = .function) (hcell : ∀ x ∈ scope.names, x.2 ≠ .cell)
    (h : ∀ (C : Cx K p ⟨qual, scope, f, cdv⟩), C.room = n → Ex prog w C σ₀ μ body (.next σ₁ μ')) (hroom : n + 1 ≤ C.room) (hl : vs.length = Xs.length) (S : StM C σ μ (vs ++ ts) (Xs ++ Ts) m s)
    (k : ∀ s', StM C σ μ' ts Ts m s' → R (.ok (.ret .none)) s') : codeAny (model prog w) C.A (.call (.ref f) ⟨vs, []⟩) R s := by
  obtain ⟨imm, μr, S⟩ := S
  obtain ⟨tv, tt⟩ := VAll.split _ hl S.tm
  obtain ⟨binds, hbind, hloc, hal⟩ := hb s vs imm tv
  have hd := C.hd
  have hu := C.hu
  refine code_def C.hB S.fr C.hX S.nw C.hT rfl rfl C.hk ho hcd (by show C.dp < recursionLimit; omega) hbind hloc ?_ hco hgen hk hcell
  intro g L' h₁ FG F' N' B' X' T'
  let C' : Cx K p ⟨qual, scope, f, cdv⟩ := { room := n, dp := C.dp + 1, un := C.un + 3, gd := C.gd, L := L', cl := [], outer := C.env :: C.outer, A₀ := C.A, base := C.base, h₀ := g, loose := C.loose, mean := C.mean, mg := C.mg, mb := C.mb, imm₀ := imm, s₀ := C.s₀, cv := [], hcv := (fun _ _ e => by cases e), hB := B', hX := X', hT := T', hk := hk, hd := by omega, hu := by omega }
  refine h C' rfl [] [] _ _ _ ⟨_, imm, μr, ⟨F', N', S.ap, S.nd, S.ma, fun _ h => h, hal.locs, .nil, by show Shared.mk _ _ _ _ _ = Shared.mk _ _ _ _ _; rw [S.sm]⟩⟩ ?_
  rintro fl s' ⟨rfl, m', imm', μr', S'⟩
  refine leaveK_ S'.fr S'.nw fun F N => ?_
  exact k _ ⟨imm', μr', ⟨F, N, S'.ap, S'.nd, S'.ma, fun q hq => S'.im q (S.im q hq), S.lo.mono S'.im, tt.mono S'.im, S'.sm⟩⟩
end
theorem Ex.retNm {b : Addr} {z : Mo} (hl : σ.lookup x = some (.r b)) (hk : fi.cs.names.lookup x = some .local := by rfl) (hd : (x == ("__debug__" : Str)) = false := by decide) :
    Ex prog w C σ ((b, z) :: μ) (.Return (some (.Name x px)) pos :: rest) (.retN z μ) := by
  intro ts Ts s Q E S k
  obtain ⟨m, S⟩ := S.stM
  refine wpAny_execs_cons (wpAny_Return_some (Ev.loc hl hk hd _ _ _ _ _ _ S fun v s' S' => ?_))
  have hv : v = .ref b := by obtain ⟨imm, μr, S'⟩ := S'; exact S'.pop.1
  subst hv
  exact k _ _ ⟨b, rfl, S'.st.toNil (fun _ _ _ _ _ e => by cases e) fun _ h => h⟩
def Cx.un1 (C : Cx K p fi) (hr : 1 ≤ C.room) : Cx K p fi := { C with room := C.room - 1, dp := C.dp + 1, un := C.un + 1, hd := by have := C.hd; omega, hu := by have := C.hu; omega }
theorem Cx.un1_A (C : Cx K p fi) (hr : 1 ≤ C.room) (c : Addr) (vs : List Value) : C.A.under (.builtin "type.__call__" ⟨.ref c :: vs, []⟩) = (C.un1 hr).A := by
  obtain ⟨room, dp, un, gd, L, cl, outer⟩ := C
  cases gd <;> rfl
theorem Sx.mkW {m imm μr} {x dx bl bg : Addr} {es : List DictEntry} {n : Nat} (h : WD es bl bg) (S : Sx C σ ((bg, .l []) :: (bl, .l []) :: (x, .o (instObj 103 dx)) :: (dx, .o (dictOf es n)) :: φ) ts Ts s m imm μr) : ∃ μr', Sx C σ ((x, .work [] []) :: φ) ts Ts s m imm μr' := by
  have hma := S.ma
  cases hma with
  | @cons _ o1 _ _ _ h1 hma =>
    cases hma with
    | @cons _ o2 _ _ _ h2 hma =>
      cases hma with
      | cons h3 hma =>
        cases hma with
        | @cons _ _ _ l _ h4 r =>
          obtain ⟨vs, k, rfl, h1⟩ := h1
          obtain ⟨us, j, rfl, h2⟩ := h2
          obtain rfl : _ = _ := h3
          obtain rfl : _ = _ := h4
          have nd2 := S.nd
          refine ⟨(x, instObj 103 dx) :: (dx, dictOf es n) :: (bl, listOf us.toArray j) :: (bg, listOf vs.toArray k) :: l, S.re ?_ ?_ (.work h h2 h1 r)⟩
          · intro q hq
            simp only [List.mem_cons] at hq ⊢
            rcases hq with rfl | rfl | rfl | rfl | hq
            · simp
            · simp
            · simp
            · simp
            · simp [hq]
          · simp only [List.map_cons, List.nodup_cons, List.mem_cons, not_or] at nd2 ⊢
            obtain ⟨⟨q1, q2, q3, q4⟩, ⟨q5, q6, q7⟩, ⟨q8, q9⟩, q10, q11⟩ := nd2
            exact ⟨⟨q8, Ne.symm q5, Ne.symm q2, q9⟩, ⟨Ne.symm q6, Ne.symm q3, q10⟩, ⟨Ne.symm q1, q7⟩, q4, q11⟩
theorem Sx.mkH {m imm μr} {b x dx : Addr} {es : List DictEntry} {n : Nat} (h : HD es) (S : Sx C σ ((b, .l []) :: (x, .o (instObj 250 dx)) :: (dx, .o (dictOf es n)) :: φ) ts Ts s m imm μr) : ∃ μr', Sx C σ ((x, .hooks) :: φ) ts Ts s m imm μr' := by
  obtain ⟨μr1, S⟩ := S.drop
  have hma := S.ma
  cases hma with
  | cons h3 hma =>
    cases hma with
    | @cons _ _ _ l _ h4 r =>
      obtain rfl : _ = _ := h3
      obtain rfl : _ = _ := h4
      exact ⟨_, S.re (fun _ h => h) S.nd (.hooks h r)⟩
theorem EvN.make {c fI : Addr} {e : Expr} {es : List Expr} {Xs : List V} {z : Mo} {n : Nat} (hg : nsIn K mainGlobals x = some (some (.ref c))) (hm : makesIn K c = true) (hi : findIn K (.ref c) "__init__" = some (some (.ref fI))) (hf : isFn K (.ref fI) = true) (hk : keepIn K (.ref c) = true)
    (hL : EvL prog w C σ μ (e :: es) Xs μ₁)
    (hI : ∀ (C' : Cx K p fi) a ad σ m ts Ts vs s R, C'.room = C.room - 1 → vs.length = Xs.length → StM C' σ ((a, .o (instObj c ad)) :: (ad, .o (dictOf [] 0)) :: μ₁) (.ref a :: vs ++ ts) (.r a :: Xs ++ Ts) m s → (∀ s', StM C' σ ((a, z) :: μ₁) ts Ts m s' → R (.ok (.ret .none)) s') → codeAny (model prog w) C'.A (.call (.ref fI) ⟨.ref a :: vs, []⟩) R s)
    (hr : 1 ≤ C.room) (hx : fi.cs.names.lookup x = some .globalImplicit := by rfl) (hd : (x == ("__debug__" : Str)) = false := by decide)
    (he : starEach (e :: es) C.env = (false, eval e C.env) :: starEach es C.env := by rfl) (hp : ∀ pos, (backTo pos (starEach es C.env)).any (·.1) = false := by intro _; rfl) :
    EvN prog w C σ μ (.Call (.Name x px) (e :: es) [] pos) z μ₁ := by
  intro m ts Ts s Q E S k
  refine Call_Name rfl ?_
  obtain ⟨imm, μr, S'⟩ := id S
  refine nameX_K S'.fr C.hX (topRead_of C.hT) hg ?_ C.hk hx hd
  refine callWith_K C.hX hk (hL _ _ _ _ _ _ _ S fun vs s' hl S1 => ⟨?_, ?_⟩) he (hp _)
  · obtain ⟨imm1, μr1, S1'⟩ := S1
    exact C.hX.keeps S1'.fr.keep
  · obtain ⟨imm1, μr1, S1⟩ := S1
    refine call_cls S1.fr C.hX S1.nw hm hi hf fun a ad h' F N l1 l2 => ?_
    rw [C.un1_A hr c]
    refine hI (C.un1 hr) a ad σ m (.ref a :: ts) (.r a :: Ts) vs _ _ rfl hl ⟨imm1, (a, instObj c ad) :: (ad, dictOf [] 0) :: μr1, ⟨F, N, ?_, ?_, .cons rfl (.cons rfl S1.ma), S1.im, S1.lo, ?_, by rw [S1.sm]; rfl⟩⟩ fun s'' S2 => ⟨rfl, k a s'' ?_⟩
    · intro q hq r hr
      have e1 := l1 r (List.mem_append.mpr (.inr hr))
      rcases List.mem_cons.mp hq with rfl | hq
      · exact Ne.symm (Nat.ne_of_lt (Nat.lt_trans e1 l2))
      · rcases List.mem_cons.mp hq with rfl | hq
        · exact Ne.symm (Nat.ne_of_lt e1)
        · exact S1.ap q hq r hr
    · have h1 : ∀ q ∈ μr1, q.1 < ad := fun q hq => l1 q (List.mem_append.mpr (.inl hq))
      simp only [List.map_cons, List.nodup_cons, List.mem_cons, not_or]
      refine ⟨⟨Nat.ne_of_gt l2, fun hm => ?_⟩, fun hm => ?_, S1.nd⟩
      · obtain ⟨q, hq, e⟩ := List.mem_map.mp hm
        have := h1 q hq
        rw [e] at this
        exact absurd (Nat.lt_trans this l2) (Nat.lt_irrefl _)
      · obtain ⟨q, hq, e⟩ := List.mem_map.mp hm
        have := h1 q hq
        rw [e] at this
        exact absurd this (Nat.lt_irrefl _)
    · obtain ⟨ha, hb⟩ := VAll.split _ hl S1.tm
      exact .cons rfl (ha.append (.cons rfl hb))
    · obtain ⟨imm2, μr2, S2⟩ := S2
      exact ⟨imm2, μr2, ⟨S2.fr, S2.nw, S2.ap, S2.nd, S2.ma, S2.im, S2.lo, S2.tm, S2.sm⟩⟩
theorem EvN.make0 {c fI : Addr} {z : Mo} (hg : nsIn K mainGlobals x = some (some (.ref c))) (hm : makesIn K c = true) (hi : findIn K (.ref c) "__init__" = some (some (.ref fI))) (hf : isFn K (.ref fI) = true) (hk : keepIn K (.ref c) = true)
    (hI : ∀ (C' : Cx K p fi) a ad σ m ts Ts s R, C'.room = C.room - 1 → StM C' σ ((a, .o (instObj c ad)) :: (ad, .o (dictOf [] 0)) :: μ) (.ref a :: ts) (.r a :: Ts) m s → (∀ s', StM C' σ ((a, z) :: μ) ts Ts m s' → R (.ok (.ret .none)) s') → codeAny (model prog w) C'.A (.call (.ref fI) ⟨[.ref a], []⟩) R s)
    (hr : 1 ≤ C.room) (hx : fi.cs.names.lookup x = some .globalImplicit := by rfl) (hd : (x == ("__debug__" : Str)) = false := by decide) :
    EvN prog w C σ μ (.Call (.Name x px) [] [] pos) z μ := by
  intro m ts Ts s Q E S k
  refine Call_Name rfl ?_
  obtain ⟨imm1, μr1, S1⟩ := S
  refine nameX_K S1.fr C.hX (topRead_of C.hT) hg ?_ C.hk hx hd
  refine callWith_K0 (C.hX.keeps S1.fr.keep) hk ?_
  refine call_cls S1.fr C.hX S1.nw hm hi hf fun a ad h' F N l1 l2 => ?_
  rw [C.un1_A hr c]
  refine hI (C.un1 hr) a ad σ m (.ref a :: ts) (.r a :: Ts) _ _ rfl ⟨imm1, (a, instObj c ad) :: (ad, dictOf [] 0) :: μr1, ⟨F, N, ?_, ?_, .cons rfl (.cons rfl S1.ma), S1.im, S1.lo, ?_, by rw [S1.sm]; rfl⟩⟩ fun s'' S2 => ⟨rfl, k a s'' ?_⟩
  · intro q hq r hr
    have e1 := l1 r (List.mem_append.mpr (.inr hr))
    rcases List.mem_cons.mp hq with rfl | hq
    · exact Ne.symm (Nat.ne_of_lt (Nat.lt_trans e1 l2))
    · rcases List.mem_cons.mp hq with rfl | hq
      · exact Ne.symm (Nat.ne_of_lt e1)
      · exact S1.ap q hq r hr
  · have h1 : ∀ q ∈ μr1, q.1 < ad := fun q hq => l1 q (List.mem_append.mpr (.inl hq))
    simp only [List.map_cons, List.nodup_cons, List.mem_cons, not_or]
    refine ⟨⟨Nat.ne_of_gt l2, fun hm => ?_⟩, fun hm => ?_, S1.nd⟩
    · obtain ⟨q, hq, e⟩ := List.mem_map.mp hm
      have := h1 q hq
      rw [e] at this
      exact absurd (Nat.lt_trans this l2) (Nat.lt_irrefl _)
    · obtain ⟨q, hq, e⟩ := List.mem_map.mp hm
      have := h1 q hq
      rw [e] at this
      exact absurd this (Nat.lt_irrefl _)
  · exact .cons rfl (.cons rfl S1.tm)
  · obtain ⟨imm2, μr2, S2⟩ := S2
    exact ⟨imm2, μr2, ⟨S2.fr, S2.nw, S2.ap, S2.nd, S2.ma, S2.im, S2.lo, S2.tm, S2.sm⟩⟩
theorem Ex.assign2N {e1 e2 : Expr} {z : Mo} {db : Dat} {i j : Nat} {pt : Pos} (h1 : EvN prog w C σ μ e1 z μ₁) (h2 : ∀ μ, Ev prog w C σ μ e2 (.d db) μ) (hr : ∀ a, Ex prog w C ((x, .r a) :: (y, .d db) :: σ) ((a, z) :: μ₁) rest O) (hx : fi.cs.names.lookup x = some .local := by rfl) (hy : fi.cs.names.lookup y = some .local := by rfl)
    (hs : swapsWithSole [.Tuple [.Name x px, .Name y py] i pt] (.Tuple [e1, e2] j p1) pos.line C.env = pure false := by rfl)
    (hw : swappedStores [.Tuple [.Name x px, .Name y py] i pt] (.Tuple [e1, e2] j p1) C.env = pure (some [x, y]) := by rfl)
    (he1 : starEach [e1, e2] C.env = (false, eval e1 C.env) :: starEach [e2] C.env := by rfl) (he2 : starEach [e2] C.env = (false, eval e2 C.env) :: starEach [] C.env := by rfl) :
    Ex prog w C σ μ (.Assign [.Tuple [.Name x px, .Name y py] i pt] (.Tuple [e1, e2] j p1) pos :: rest) O := by
  intro ts Ts s Q E S k
  obtain ⟨m, S⟩ := S.stM
  refine wpAny_execs_cons (Assign_Tuple_swapped (Tuple_ (spliced_more (h1 _ _ _ _ _ _ S fun a s1 S1 => spliced_more (h2 _ _ _ _ _ _ _ S1 fun vb s2 S2 => spliced_none ?_) he2) he1)) hs hw)
  obtain ⟨imm, μr, S2⟩ := S2
  obtain ⟨hb, S3⟩ := S2.pop
  obtain ⟨ha, S4⟩ := S3.pop
  refine wpAny_newObj_type ?_ (by show _ ≤ sizeLine; rw [sizeLine_eq]; exact Nat.le_of_ble_eq_true rfl)
  have S5 := S4.alloc (tk := s2.toks) ({ cls := .type "tuple", data := .seq #[.ref a, vb] } : Obj) rfl
  refine unpackItems_tuple (items := #[.ref a, vb]) rfl (S5.isTup (vs := [.ref a, vb]) (n := 0) (.head _)) fun h' he => ?_
  have S3 := S5.extBut (tk := s2.toks) he
  show wpAny _ _ (assignInOrder [bindName C.env y, bindName C.env x] [vb, .ref a]) _ _ _
  refine assignInOrder_cons (bindName_ (storeX_L S3.fr S3.nw (fun h1 F N => ?_) C.hk hy))
  have S4 := S3.store (X := .d db) (tk := s2.toks + 1) (VIn.mono (fun q hq => .tail _ hq) hb) F N
  refine (assignInOrder_cons (bindName_ (storeX_L S4.fr S4.nw (fun h1 F N => ?_) C.hk hx)))
  exact assignInOrder_nil (hr _ _ _ _ _ _ ⟨_, _, μr, S4.store (X := .r a) (tk := s2.toks + 2) rfl F N⟩ k)
end Mine
namespace Mine
variable {K : Frag} {p : Program} {fi : Fi} {prog : Program} {w : World}
variable {C : Cx K p fi} {σ σ' σ₀ σ₁ σ₂ : List (Str × V)} {μ μ' μ₁ μ₂ μ₃ φ φ' : Mu} {pos px py p1 p2 p3 : Pos} {ts : List Value} {Ts : List V} {s : Shared} {O : Out} {X X' : V} {x y : Str} {rest : List Stmt}
def plainDat : Dat → Bool
  | .str _ => true
  | .int _ => true
  | .tuple _ => true
  | _ => false
theorem Ev.isNot {e : Expr} {d : Dat} {c : Addr} (h : Ev prog w C σ μ e (.d d) μ₁) (hd : plainDat d = true) (hg : nsIn K mainGlobals ("isinstance" : Str) = some Option.none) (hb : bootBuiltins ("isinstance" : Str) = some (.builtin "isinstance"))
    (hy : nsIn K mainGlobals y = some (some (.ref c))) (h1 : isNotIn K "str" c = true) (h2 : isNotIn K "int" c = true) (h3 : isNotIn K "tuple" c = true)
    (hx : fi.cs.names.lookup ("isinstance" : Str) = some .globalImplicit := by rfl) (hyk : fi.cs.names.lookup y = some .globalImplicit := by rfl) (hyd : (y == ("__debug__" : Str)) = false := by decide)
    (he : starEach [e, .Name y py] C.env = [(false, eval e C.env), (false, eval (.Name y py) C.env)] := by rfl) :
    Ev prog w C σ μ (.Call (.Name ("isinstance" : Str) px) [e, .Name y py] [] pos) (.d (.bool false)) μ₁ := by
  intro m ts Ts s Q E S k
  refine Call_Name (by rw [he]) ?_
  obtain ⟨imm, μr, S'⟩ := id S
  refine nameX_B S'.fr C.hX (topRead_of C.hT) hg hb (by decide) ?_ C.hk hx (by decide)
  refine callWith_builtin (by rfl) (evalArgs_plain ?_)
  refine Calls.spliced_cons (h _ _ _ _ _ _ S fun v s1 S1 => Calls.spliced_cons ?_)
  refine Ev.glob (pos := py) hy hyk hyd _ _ _ _ _ _ S1 fun u s2 S2 => Calls.spliced_nil ?_
  obtain ⟨imm1, μr1, S2⟩ := S2
  obtain ⟨hu, S3⟩ := S2.pop
  obtain ⟨hv, S4⟩ := S3.pop
  obtain rfl : u = .ref c := hu
  have X := C.hX.keeps S4.fr.keep
  cases hv with
  | str => exact isn_call (P := fun _ => True) X (fun M => Looks.of_pure rfl) h1 (by intro e; cases e) trivial str_cls (k _ _ ⟨imm1, μr1, Sx.push (S4.toks rfl) (.bool _)⟩)
  | int => exact isn_call (P := fun _ => True) X (fun M => Looks.of_pure rfl) h2 (by intro e; cases e) trivial int_cls (k _ _ ⟨imm1, μr1, Sx.push (S4.toks rfl) (.bool _)⟩)
  | tuple hm _ =>
    have ho := (S4.nw _ (List.mem_append.mpr (.inr hm))).1
    exact isn_call (P := fun h => ∃ o, h.get? _ = some o ∧ o.cls = .type "tuple") X (fun M => (Looks.ld ho).andThen .now) h3 (by intro e; cases e) ⟨_, ho, rfl⟩ tuple_cls (k _ _ ⟨imm1, μr1, Sx.push (S4.toks rfl) (.bool _)⟩)
  | _ => cases hd
theorem Ev.strAt {a b : Expr} {st : Str} {i : Int} {c : Nat} (h1 : Ev prog w C σ μ a (.d (.str st)) μ₁) (h2 : Ev prog w C σ μ₁ b (.d (.int i)) μ₂) (hr : (decide (i < -(2 ^ 63 : Int)) || decide (i ≥ 2 ^ 63)) = false) (hc : (seqIndex? i st.length).bind (st.cps[·]?) = some c)
    (hs : ∀ o i, subscripted b false o i = operate [o, i] (getItem o i)) : Ev prog w C σ μ (.Subscript a b pos) (.d (.str ⟨#[c]⟩)) μ₂ := by
  intro m ts Ts s Q E S k
  refine Subscript_ (h1 _ _ _ _ _ _ S fun va s1 S1 => h2 _ _ _ _ _ _ S1 fun vb s2 S2 => ?_)
  obtain ⟨imm, μr, S2⟩ := S2
  obtain ⟨hb, S3⟩ := S2.pop
  obtain ⟨ha, S4⟩ := S3.pop
  obtain ⟨ta, rfl⟩ := dat_str ha
  obtain ⟨tb, rfl⟩ := dat_int hb
  exact tail_any (typeIs_str _ _ _) slot_str_getitem.lookup (getItem_str hr hc (k _ _ ⟨imm, μr, (S4.toks rfl).push (.str _ _)⟩)) (hs _ _)
theorem Ex.forR {e1 e2 : Expr} {body : List Stmt} {a : Int} {n : Nat} {pc pr : Pos} (σI : Nat → List (Str × V)) (μI : Nat → Mu) (h1 : EvL prog w C σ μ [e1, e2] [.d (.int a), .d (.int (a + n))] (μI 0)) (h0 : ∀ y Y, (σI 0).lookup y = some Y → σ.lookup y = some Y) (hz : n ≤ 1000000) (ha : 0 ≤ a ∧ a ≤ 1000000)
    (hg : nsIn K mainGlobals ("range" : Str) = some Option.none) (hb : bootBuiltins ("range" : Str) = some (.type "range"))
    (turn : ∀ (C' : Cx K p fi), C'.room = C.room → C'.cv = C.cv → ∀ i, i < n → ∀ φ : Mu, Ex prog w C' ((x, .d (.int (a + i))) :: σI i) (μI i ++ φ) body (.next (σI (i + 1)) (μI (i + 1) ++ φ)))
    (done : Ex prog w C (σI n) (μI n) rest O) (hx : fi.cs.names.lookup x = some .local := by rfl) (hrk : fi.cs.names.lookup ("range" : Str) = some .globalImplicit := by rfl)
    (he : starEach [e1, e2] C.env = (false, eval e1 C.env) :: starEach [e2] C.env := by rfl)
    (hp : (backTo pc (starEach [e2] C.env)).any (·.1) = false := by rfl)
    (hs : ∀ x, foldedSetIterable (.Call (.Name ("range" : Str) pr) [e1, e2] [] pc) C.env x = pure x := by intro _; rfl) :
    Ex prog w C σ μ (.For (.Name x px) (.Call (.Name ("range" : Str) pr) [e1, e2] [] pc) body [] pos :: rest) O := by
  intro ts Ts s Q E S k
  refine wpAny_execs_cons (wpAny_mono (Q := fun f s' => f = .next ∧ St C (σI n) (μI n) ts Ts s') (E := fun _ _ => False) (For_invT C.h₀ ?_ hs PassesOwn.never) (fun f s' hf => ?_) fun _ _ h => h.elim)
  · obtain ⟨m, S⟩ := S.stM
    refine Call_Name rfl ?_
    obtain ⟨imm, μr, S'⟩ := id S
    refine nameX_B S'.fr C.hX (topRead_of C.hT) hg hb (by decide) ?_ C.hk hrk (by decide)
    refine wpAny_mono (Q := fun xv s₁ => ∃ r t₁ u₁ v₁ imm μr, xv = .ref r ∧ IsRange s₁.heap r a (a + n) 1 t₁ u₁ v₁ ∧ Sx C σ (μI 0) ts Ts s₁ m imm μr) (E := fun _ _ => False) ?_ (fun xv s₁ h₁ => ?_) fun _ _ h => h
    · refine Pv.callWith_type1 ?_ he hp
      refine h1 _ _ _ _ _ _ _ S fun vs s1 hl S1 => ?_
      obtain ⟨imm, μr, S1⟩ := S1
      obtain ⟨htv, htt⟩ := VAll.split _ hl S1.tm
      cases htv with
      | @cons va _ _ _ ha' htv =>
        cases htv with
        | @cons vb _ _ _ hb' htv =>
          cases htv
          obtain ⟨t1, rfl⟩ := dat_int ha'
          obtain ⟨t2, rfl⟩ := dat_int hb'
          refine range2_rows S1.fr S1.nw fun h' tk t₁ u₁ v₁ hr F N up => ?_
          refine ⟨_, t₁, u₁, v₁, imm, μr, rfl, hr, ⟨F, N, S1.ap, S1.nd, S1.ma, S1.im, S1.lo, htt, by rw [S1.sm]⟩⟩
    · obtain ⟨r, t₁, u₁, v₁, imm, μr, rfl, hr, S2⟩ := h₁
      refine wpAny_pyIter_range hr (small_one (by omega) (by omega) (by omega) (by omega)) ?_
      have hn : Builtin.Range.rangeSize a (a + n) 1 = (n : Int) := by rw [rangeSize_nat]; omega
      rw [hn]
      have W := Walks.range (prog := prog) (w := w) (A := C.A) rfl s₁.heap.objs.size a 1 n
      let J : Nat → (Str → Option Value) → Led → Prop := fun i m' nx => ∃ imm' μr', nx = μr' ++ imm' ∧ (∀ q ∈ μr', ∀ r ∈ imm', q.1 ≠ r.1) ∧ (μr'.map (·.1)).Nodup ∧ MAll imm' μr' (μI i) ∧ (∀ q ∈ C.imm₀, q ∈ imm') ∧ Locs imm' m' (σI i) ∧ VAll imm' ts Ts
      have hwr : ∀ b ∈ [s₁.heap.objs.size], C.h₀.get? b = none := by
        intro b hb
        rw [List.mem_singleton.mp hb]
        exact next_is_new S2.fr
      refine ⟨s₁.heap.objs.size, [s₁.heap.objs.size], [s₁.heap.objs.size], n, _, _, m, μr ++ imm, J, rfl, W, ?_, hwr, ?_, ?_, S2.fr.push _, (fun q hq => ⟨Heap.get?_push_of_some _ (S2.nw q hq).1, (S2.nw q hq).2⟩), ?_, ?_, ?_, ?_⟩
      · intro hm
        exact absurd S2.fr.ns.lt (List.mem_singleton.mp hm ▸ Nat.lt_irrefl _)
      · intro q hq hI
        exact absurd (Heap.lt_size (S2.nw q hq).1) ((List.mem_singleton.mp hI) ▸ Nat.lt_irrefl _)
      · have e0 : a + ((0 : Nat) : Int) * 1 = a := by omega
        have e1 : (n : Int) - ((0 : Nat) : Int) = n := by omega
        show IsRangeIter _ _ (a + ((0 : Nat) : Int) * 1) ((n : Int) - ((0 : Nat) : Int)) 1
        rw [e0, e1]
        exact Heap.get?_push_size _ rfl
      · intro i s' v Q' hst hQ
        exact wpAny_pure hQ
      · exact ⟨imm, μr, rfl, S2.ap, S2.nd, S2.ma, S2.im, fun y Y e => S2.lo y Y (h0 y Y e), S2.tm⟩
      · rintro i v m₁ news₁ s₂ own hin ⟨tv, rfl⟩ ⟨imm', μr', rfl, ap, nd, mal, im, lo, tm⟩ hoff hown hget hfp hst F₁ N₁
        obtain ⟨oI, hoI, _⟩ : ∃ oI, s₂.heap.get? s₁.heap.objs.size = some oI ∧ True := ⟨_, hst, trivial⟩
        have hIown : (s₁.heap.objs.size, oI) ∈ own := hfp _ (.head _) (next_is_new S2.fr) _ hoI
        have hoffI : ∀ q ∈ μr' ++ imm', q.1 ≠ s₁.heap.objs.size := fun q hq e => hoff q hq (List.mem_singleton.mpr e)
        let C' : Cx K p fi := { C with s₀ := s₂ }
        have St1 : St C' (σI i) (μI i ++ [(s₁.heap.objs.size, .o oI)]) ts Ts s₂ := by
          refine ⟨m₁, imm', μr' ++ [(s₁.heap.objs.size, oI)], F₁, fun q hq => N₁ q ?_, ?_, ?_, mal.append (.cons rfl .nil), im, lo, tm, rfl⟩
          · rcases List.mem_append.mp hq with hq | hq
            · rcases List.mem_append.mp hq with hq | hq
              · exact List.mem_append.mpr (.inr (List.mem_append.mpr (.inl hq)))
              · rw [List.mem_singleton.mp hq]; exact List.mem_append.mpr (.inl hIown)
            · exact List.mem_append.mpr (.inr (List.mem_append.mpr (.inr hq)))
          · intro q hq r hr
            rcases List.mem_append.mp hq with hq | hq
            · exact ap q hq r hr
            · rw [List.mem_singleton.mp hq]; exact Ne.symm (hoffI r (List.mem_append.mpr (.inr hr)))
          · rw [List.map_append, List.nodup_append]
            refine ⟨nd, by simp, ?_⟩
            intro a ha b hb
            obtain ⟨q, hq, rfl⟩ := List.mem_map.mp ha
            simp only [List.map_cons, List.map_nil, List.mem_singleton] at hb
            rw [hb]
            exact hoffI q (List.mem_append.mpr (.inl hq))
        have St2 : St C' (σI i) (μI i ++ [(s₁.heap.objs.size, .o oI)]) (.int (a + i * 1) tv :: ts) (.d (.int (a + i)) :: Ts) s₂ := by
          obtain ⟨m', imm2, μr2, S⟩ := St1
          refine ⟨m', imm2, μr2, S.push ?_⟩
          rw [Int.mul_one]
          exact .int _ _
        refine (Tgt.name hx : Tgt prog w C' (σI i) (μI i ++ [(s₁.heap.objs.size, .o oI)]) (.Name x px) (.int (a + i)) _) _ _ _ _ _ _ St2 fun s3 S2' => turn C' rfl rfl i hin _ _ _ _ _ _ S2' fun f s4 hf => ?_
        obtain ⟨rfl, m3, imm3, μr3, S5⟩ := hf
        obtain ⟨μa, μb, rfl, mal3, mb3⟩ := S5.ma.split
        cases mb3 with
        | @cons _ oI2 _ _ _ hI hnil =>
          cases hnil
          have hI : oI2 = oI := hI
          have nd3 := S5.nd
          rw [List.map_append, List.nodup_append] at nd3
          refine ⟨rfl, s4.heap, s4.toks, m3, μa ++ imm3, S5.sm, S5.fr, ?_, ?_, imm3, μa, rfl, ?_, nd3.1, mal3, S5.im, S5.lo, S5.tm⟩
          · intro q hq
            rcases List.mem_append.mp hq with hq | hq
            · have e1 := hget q hq
              have e := List.mem_singleton.mp (hown q hq)
              rw [e, hoI] at e1
              have e3 : q = (s₁.heap.objs.size, oI) := Prod.ext e (Option.some.inj e1).symm
              rw [e3, ← hI]
              exact S5.nw _ (List.mem_append.mpr (.inl (List.mem_append.mpr (.inr (.head _)))))
            · rcases List.mem_append.mp hq with hq | hq
              · exact S5.nw _ (List.mem_append.mpr (.inl (List.mem_append.mpr (.inl hq))))
              · exact S5.nw _ (List.mem_append.mpr (.inr hq))
          · intro q hq hm
            have hm := List.mem_singleton.mp hm
            rcases List.mem_append.mp hq with hq | hq
            · exact nd3.2.2 _ (List.mem_map.mpr ⟨q, hq, rfl⟩) _ (by simp) hm
            · exact S5.ap _ (List.mem_append.mpr (.inr (.head _))) q hq hm.symm
          · intro q hq r hr
            exact S5.ap q (List.mem_append.mpr (.inl hq)) r hr
      · rintro h' tk m' news' F' N' _ ⟨imm', μr', rfl, ap, nd, mal, im, lo, tm⟩
        refine ⟨rfl, m', imm', μr', F', N', ap, nd, mal, im, lo, tm, ?_⟩
        rw [S2.sm]
  · obtain ⟨rfl, hS⟩ := hf
    exact done _ _ _ _ _ hS k
end Mine
namespace Mine
inductive Step : Ord → List Dat → List Dat → List Dat → List Dat → Prop
  | push {d stk gs} : plainDat d = true → Step (.push d) stk gs (stk ++ [d]) gs
  | var {x stk gs} : Step (.var x) stk gs (stk ++ [.tuple [dS "read", .list [.str x]]]) gs
  | ref {x stk gs} : Step (.ref x) stk gs (stk ++ [.tuple [dS "var", .list [.str x]]]) gs
  | kw {x stk gs} : Step (.kw x) stk gs (stk ++ [kwD x]) gs
  | value {v stk gs} : Step .value (stk ++ [v]) gs (stk ++ [valD v]) gs
  | indirect {v stk gs} : Step .indirect (stk ++ [v]) gs (stk ++ [indD v]) gs
  | call {f n b vs stk gs} : (f == S "LOSES") = false → n = vs.length → vs.length ≤ 100000 → Step (.call f n b) (stk ++ vs) gs (stk ++ [callD f vs b]) gs
  | item {n b v vs stk gs} : n = vs.length → vs.length ≤ 100000 → Step (.item n b) ((stk ++ [v]) ++ vs) gs (stk ++ [itemD v vs b]) gs
  | unary {op v stk gs} : Step (.unary op) (stk ++ [v]) gs (stk ++ [opD op [v]]) gs
  | binary {op v u stk gs} : Step (.binary op) (stk ++ [v, u]) gs (stk ++ [opD op [v, u]]) gs
  | join {v u stk gs} : Step .join (stk ++ [v, u]) gs (stk ++ [opD (S " ") [v, u]]) gs
  | delayed {d stk gs} : Step (.delayed d) stk gs (stk ++ [.tuple [dS "delayed", .list [d]]]) gs
  | given {op v r stk gs} : Step (.given op) ((stk ++ [v]) ++ [r]) gs (stk ++ [givD op v r]) gs
  | cursor {v stk gs} : Step .cursor (stk ++ [v]) gs (stk ++ [curD v]) gs
  | unguard {g stk gs} : Step .unguard stk (gs ++ [g]) stk gs
  | drop {v stk gs} : Step .drop (stk ++ [v]) gs stk gs
inductive StepF : Ord → List Dat → List Dat → Prop
  | lose {n b vs stk} : n = vs.length → vs.length ≤ 100000 → StepF (.call (S "LOSES") n b) (stk ++ vs) stk
  | fail {stk} : StepF .fail stk stk
def Ord.isGuard : Ord → Bool
  | .guard _ => true
  | _ => false
abbrev gD (at' : Nat) (ht : Nat) : Dat := .tuple [.int at', .int ht]
inductive Run (os : List Ord) : Nat → List Dat → List Dat → List Dat → List Dat → Prop
  | stop {i stk gs} : os.length ≤ i → Run os i stk gs stk gs
  | ok {i o s1 g1 s2 g2 stk gs fs fg} : os[i]? = some o → Step o s1 g1 s2 g2 → stk = s1 → gs = g1 → stk.length ≤ 50000 → gs.length ≤ 50000 → Run os (i + 1) s2 g2 fs fg → Run os i stk gs fs fg
  | guard {i k stk gs fs fg} : os[i]? = some (.guard k) → stk.length ≤ 50000 → gs.length ≤ 50000 → Run os (i + 1) stk (gs ++ [gD (i + k) stk.length]) fs fg → Run os i stk gs fs fg
  | back {i o j ht s1 s2 gs fs fg} : os[i]? = some o → StepF o s1 s2 → s1.length ≤ 50000 → gs.length ≤ 50000 → ht ≤ s2.length → Run os j (s2.take ht) gs fs fg → Run os i s1 (gs ++ [gD j ht]) fs fg
def RunX (os : List Ord) (i : Nat) (stk gs fs : List Dat) : Prop := ∃ fg, Run os i stk gs fs fg
def SegR (os : List Ord) (M p n : Nat) (u u' : List Dat) (S : List (List Dat)) (gs : List Dat) : Prop :=
  S.length = n ∧ (p + n ≤ M → ∀ fs, RunX os (p + n) u' gs fs → RunX os p u gs fs) ∧ ∀ (j : Nat) s, M = p + j + 1 → S[j]? = some s → RunX os p u gs s
theorem SegR.nil {os : List Ord} {M p : Nat} {u gs : List Dat} : SegR os M p 0 u u [] gs := ⟨rfl, fun _ _ h => h, fun _ _ _ h => by simp at h⟩
theorem SegR.app {os : List Ord} {M p n1 n2 : Nat} {u u1 u2 gs : List Dat} {S1 S2 : List (List Dat)} (h1 : SegR os M p n1 u u1 S1 gs) (h2 : SegR os M (p + n1) n2 u1 u2 S2 gs) : SegR os M p (n1 + n2) u u2 (S1 ++ S2) gs := by
  obtain ⟨a1, a2, a3⟩ := h1
  obtain ⟨b1, b2, b3⟩ := h2
  refine ⟨by rw [List.length_append, a1, b1], fun hM fs h => a2 (by omega) fs (b2 (by omega) fs (by rwa [Nat.add_assoc])), fun j s hM hs => ?_⟩
  by_cases hj : j < n1
  · rw [List.getElem?_append_left (by omega)] at hs
    exact a3 j s hM hs
  · rw [List.getElem?_append_right (by omega), a1] at hs
    exact a2 (by omega) s (b3 (j - n1) s (by omega) hs)
theorem SegR.one {os : List Ord} {M p : Nat} {o : Ord} {u u' gs : List Dat} (hl : os.length = M) (ho : p < M → os[p]? = some o) (hS : Step o u gs u' gs) (h1 : u.length ≤ 50000) (h2 : gs.length ≤ 50000) : SegR os M p 1 u u' [u'] gs := by
  refine ⟨rfl, fun hM fs ⟨fg, h⟩ => ⟨fg, .ok (ho (by omega)) hS rfl rfl h1 h2 h⟩, fun j s hM hs => ?_⟩
  cases j with
  | zero =>
    simp only [List.getElem?_cons_zero, Option.some.injEq] at hs
    subst hs
    exact ⟨gs, .ok (ho (by omega)) hS rfl rfl h1 h2 (.stop (by omega))⟩
  | succ j => simp at hs
structure At (full : List Ord) (p : Nat) (seg : List Ord) : Prop where
  get : ∀ i o, seg[i]? = some o → full[p + i]? = some o
theorem At.left {full s1 s2 : List Ord} {p : Nat} (h : At full p (s1 ++ s2)) : At full p s1 := ⟨fun i o e => h.get i o (by
  have hi : i < s1.length := (List.getElem?_eq_some_iff.mp e).1
  rw [List.getElem?_append_left hi]; exact e)⟩
theorem At.right {full s1 s2 : List Ord} {p : Nat} (h : At full p (s1 ++ s2)) : At full (p + s1.length) s2 := ⟨fun i o e => by
  rw [Nat.add_assoc]
  refine h.get (s1.length + i) o ?_
  rw [List.getElem?_append_right (by omega)]
  rw [Nat.add_sub_cancel_left]; exact e⟩
theorem At.one {full : List Ord} {p : Nat} {o : Ord} {r : List Ord} (h : At full p (o :: r)) {M : Nat} (hM : p < M) : (full.take M)[p]? = some o := by
  rw [List.getElem?_take_of_lt hM]
  exact h.get 0 o rfl
theorem At.tail {full : List Ord} {p : Nat} {o : Ord} {r : List Ord} (h : At full p (o :: r)) : At full (p + 1) r := ⟨fun i e he => by
  have := h.get (i + 1) e (by simpa using he)
  rw [Nat.add_assoc, Nat.add_comm 1 i]; exact this⟩
section
variable {full : List Ord} {M p : Nat} {u gs : List Dat}
theorem sone {o : Ord} {s1 s2 : List Dat} (hM : M ≤ full.length) (h : At full p [o]) (hS : Step o s1 gs s2 gs) (eu : u = s1) (h1 : u.length ≤ 50000) (h2 : gs.length ≤ 50000) : SegR (full.take M) M p 1 u s2 [s2] gs := by
  subst eu
  exact SegR.one (by rw [List.length_take]; omega) (fun h' => h.one h') hS h1 h2
theorem SegR.conv {n n' : Nat} {u' u'' : List Dat} {S S' : List (List Dat)} {os : List Ord} (h : SegR os M p n u u' S gs) (e1 : n = n') (e2 : u' = u'') (e3 : S = S') : SegR os M p n' u u'' S' gs := by subst e1; subst e2; subst e3; exact h
theorem SegR.then1 {n1 : Nat} {u1 s1 s2 : List Dat} {S1 : List (List Dat)} {seg : List Ord} {o : Ord} (h : SegR (full.take M) M p n1 u u1 S1 gs) (hl : n1 = seg.length) (hM : M ≤ full.length) (hA : At full p (seg ++ [o])) (hS : Step o s1 gs s2 gs) (eu : u1 = s1) (h1 : u1.length ≤ 50000) (h2 : gs.length ≤ 50000) :
    SegR (full.take M) M p (seg ++ [o]).length u s2 (S1 ++ [s2]) gs := by
  subst hl
  exact (h.app (sone hM hA.right hS eu h1 h2)).conv (by simp) rfl rfl
theorem SegR.thenS {n1 n2 : Nat} {u1 u2 : List Dat} {S1 S2 : List (List Dat)} {sg1 sg2 : List Ord} (h : SegR (full.take M) M p n1 u u1 S1 gs) (e1 : n1 = sg1.length) (k : SegR (full.take M) M (p + sg1.length) n2 u1 u2 S2 gs) (e2 : n2 = sg2.length) : SegR (full.take M) M p (sg1 ++ sg2).length u u2 (S1 ++ S2) gs := by
  subst e1; subst e2
  exact (h.app k).conv (by simp) rfl rfl
theorem run_take {os : List Ord} {i : Nat} {stk : List Dat} (h : os.length ≤ i) : RunX os i stk gs stk := ⟨gs, .stop h⟩
theorem seg_not {S : List (List Dat)} {vs : List Dat} {nn : Nat} {v : Dat} {seg : List Ord} (hM : M ≤ full.length) (hA : At full p (Ord.guard (seg.length + 2 + 3) :: (seg ++ ([Ord.call (Mine.S "LOSES") nn false] ++ ([Ord.join] ++ [.unguard, .fail, .push (dS "")])))))
    (h : SegR (full.take M) M (p + 1) seg.length u (u ++ [v] ++ vs) S (gs ++ [gD (p + (seg.length + 2 + 3)) u.length])) (hn : nn = vs.length) (hu : u.length ≤ 1000) (hg : gs.length ≤ 1000) (hv : vs.length ≤ 1000) :
    SegR (full.take M) M p (1 + (seg.length + 5)) u (u ++ [dS ""]) (u :: S ++ [u, u, u, u, u ++ [dS ""]]) gs := by
  obtain ⟨a1, a2, a3⟩ := h
  have hlen : (full.take M).length = M := by rw [List.length_take]; omega
  have g0 : p < M → ∀ fs, RunX (full.take M) (p + 1) u (gs ++ [gD (p + (seg.length + 2 + 3)) u.length]) fs → RunX (full.take M) p u gs fs :=
    fun hp fs ⟨fg, hr⟩ => ⟨fg, .guard (hA.one hp) (by omega) (by omega) hr⟩
  have hl : p + 1 + seg.length < M → ∀ fs, RunX (full.take M) (p + (seg.length + 2 + 3)) u gs fs → RunX (full.take M) (p + 1 + seg.length) (u ++ [v] ++ vs) (gs ++ [gD (p + (seg.length + 2 + 3)) u.length]) fs := by
    rintro hp fs ⟨fg, hr⟩
    refine ⟨fg, .back (At.one (hA.tail.right (s1 := seg)) hp) (.lose hn (by omega)) (by simp only [List.length_append, List.length_cons, List.length_nil]; omega) (by omega) (by simp) ?_⟩
    rw [List.take_left]
    exact hr
  have hp5 : p + (seg.length + 5) < M → (full.take M)[p + (seg.length + 5)]? = some (.push (dS "")) := by
    intro hp
    have := (hA.tail.right (s1 := seg)).get 4 (.push (dS "")) rfl
    rw [List.getElem?_take_of_lt hp, ← this]
    congr 1; omega
  refine ⟨by simp [a1]; omega, fun hp fs hr => ?_, fun j s hMj hs => ?_⟩
  · refine g0 (by omega) fs (a2 (by omega) fs (hl (by omega) fs ?_))
    obtain ⟨fg, hr⟩ := hr
    exact ⟨fg, .ok (hp5 (by omega)) (.push rfl) rfl rfl (by omega) (by omega) (by rwa [Nat.add_comm 1, ← Nat.add_assoc] at hr)⟩
  · rw [List.cons_append] at hs
    cases j with
    | zero =>
      simp only [List.getElem?_cons_zero, Option.some.injEq] at hs
      subst hs
      exact g0 (by omega) _ (run_take (by omega))
    | succ j =>
      rw [List.getElem?_cons_succ] at hs
      by_cases hj : j < seg.length
      · rw [List.getElem?_append_left (by omega)] at hs
        exact g0 (by omega) _ (a3 j s (by omega) hs)
      · rw [List.getElem?_append_right (by omega), a1] at hs
        refine g0 (by omega) _ (a2 (by omega) _ (hl (by omega) _ ?_))
        by_cases hj4 : j - seg.length < 4
        · have : s = u := by
            have h4 : j - seg.length = 0 ∨ j - seg.length = 1 ∨ j - seg.length = 2 ∨ j - seg.length = 3 := by omega
            rcases h4 with e | e | e | e <;> · rw [e] at hs; simpa using hs.symm
          subst this
          exact run_take (by omega)
        · have h4 : j - seg.length = 4 := by
            have := (List.getElem?_eq_some_iff.mp hs).1
            simp only [List.length_cons, List.length_nil] at this
            omega
          rw [h4] at hs
          have : s = u ++ [dS ""] := by simpa using hs.symm
          subst this
          exact ⟨gs, .ok (hp5 (by omega)) (.push rfl) rfl rfl (by omega) (by omega) (.stop (by omega))⟩
mutual
theorem seg_t (hM : M ≤ full.length) : ∀ (t : Vt) (p : Nat) (u gs : List Dat), t.ok → At full p t.vo → u.length + t.sz ≤ 1000 → gs.length + t.sz ≤ 1000 → SegR (full.take M) M p t.vo.length u (u ++ [t.fv]) (t.st u) gs
  | .null, p, u, gs, _, hA, h1, h2 => by
    simp only [Vt.vo, Vt.fv, Vt.st] at hA ⊢
    exact sone hM hA (.push rfl) rfl (by omega) (by omega)
  | .text s, p, u, gs, _, hA, h1, h2 => by
    simp only [Vt.vo, Vt.fv, Vt.st] at hA ⊢
    exact sone hM hA (.push rfl) rfl (by omega) (by omega)
  | .whole s, p, u, gs, _, hA, h1, h2 => by
    simp only [Vt.vo, Vt.fv, Vt.st] at hA ⊢
    exact sone hM hA (.push rfl) rfl (by omega) (by omega)
  | .name s, p, u, gs, _, hA, h1, h2 => by
    simp only [Vt.vo, Vt.fv, Vt.st] at hA ⊢
    exact sone hM hA .var rfl (by omega) (by omega)
  | .star a, p, u, gs, _, hA, h1, h2 => by
    simp only [Vt.vo, Vt.fv, Vt.st] at hA ⊢
    exact sone hM hA .delayed rfl (by omega) (by omega)
  | .kw s, p, u, gs, _, hA, h1, h2 => by
    simp only [Vt.vo, Vt.fv, Vt.st, Vt.sz] at hA h1 h2 ⊢
    exact (sone hM (hA.left (s1 := [.kw s])) .kw rfl (by omega) (by omega)).then1 (seg := [.kw s]) rfl hM hA .value rfl (by rw [List.length_append, List.length_cons, List.length_nil]; omega) (by omega)
  | .join a b, p, u, gs, hk, hA, h1, h2 => by
    simp only [Vt.vo, Vt.fv, Vt.st, Vt.sz, Vt.ok] at hA h1 h2 hk ⊢
    have ha := seg_t hM a p u gs hk.1 hA.left.left (by omega) (by omega)
    have hb := seg_t hM b _ (u ++ [a.fv]) gs hk.2 hA.left.right (by rw [List.length_append, List.length_cons, List.length_nil]; omega) (by omega)
    exact (ha.thenS rfl hb rfl).then1 rfl hM hA .join (by rw [List.append_assoc]; rfl) (by simp only [List.length_append, List.length_cons, List.length_nil]; omega) (by omega)
  | .bin op a b, p, u, gs, hk, hA, h1, h2 => by
    simp only [Vt.vo, Vt.fv, Vt.st, Vt.sz, Vt.ok] at hA h1 h2 hk ⊢
    have ha := seg_t hM a p u gs hk.2.1 hA.left.left (by omega) (by omega)
    have hb := seg_t hM b _ (u ++ [a.fv]) gs hk.2.2 hA.left.right (by rw [List.length_append, List.length_cons, List.length_nil]; omega) (by omega)
    exact (ha.thenS rfl hb rfl).then1 rfl hM hA .binary (by rw [List.append_assoc]; rfl) (by simp only [List.length_append, List.length_cons, List.length_nil]; omega) (by omega)
  | .given op a b, p, u, gs, hk, hA, h1, h2 => by
    simp only [Vt.vo, Vt.fv, Vt.st, Vt.sz, Vt.ok] at hA h1 h2 hk ⊢
    have ha := seg_t hM a p u gs hk.2.1 hA.left.left (by omega) (by omega)
    have hb := seg_n hM b _ (u ++ [a.fv]) gs hk.2.2 hA.left.right (by rw [List.length_append, List.length_cons, List.length_nil]; omega) (by omega)
    exact (ha.thenS rfl hb rfl).then1 rfl hM hA .given rfl (by simp only [List.length_append, List.length_cons, List.length_nil]; omega) (by omega)
  | .neg a, p, u, gs, hk, hA, h1, h2 => by
    simp only [Vt.vo, Vt.fv, Vt.st, Vt.sz, Vt.ok] at hA h1 h2 hk ⊢
    have ha := seg_t hM a p u gs hk hA.left (by omega) (by omega)
    exact ha.then1 rfl hM hA .unary rfl (by simp only [List.length_append, List.length_cons, List.length_nil]; omega) (by omega)
  | .dollar a, p, u, gs, hk, hA, h1, h2 => by
    simp only [Vt.vo, Vt.fv, Vt.st, Vt.sz, Vt.ok] at hA h1 h2 hk ⊢
    have e : a.vo ++ [Ord.indirect, .value] = a.vo ++ [Ord.indirect] ++ [.value] := by simp
    rw [e] at hA ⊢
    have ha := seg_t hM a p u gs hk hA.left.left (by omega) (by omega)
    have hb := ha.then1 rfl hM hA.left .indirect rfl (by simp only [List.length_append, List.length_cons, List.length_nil]; omega) (by omega)
    exact (hb.then1 rfl hM hA .value rfl (by simp only [List.length_append, List.length_cons, List.length_nil]; omega) (by omega)).conv rfl rfl (by simp)
  | .opt a, p, u, gs, hk, hA, h1, h2 => by
    simp only [Vt.vo, Vt.fv, Vt.st, Vt.sz, Vt.ok] at hA h1 h2 hk ⊢
    have e : a.vo ++ [Ord.drop, .push (dS "")] = a.vo ++ [Ord.drop] ++ [.push (dS "")] := by simp
    rw [e] at hA ⊢
    have ha := seg_t hM a p u gs hk hA.left.left (by omega) (by omega)
    have hb := ha.then1 rfl hM hA.left .drop rfl (by simp only [List.length_append, List.length_cons, List.length_nil]; omega) (by omega)
    exact (hb.then1 rfl hM hA (.push rfl) rfl (by omega) (by omega)).conv rfl rfl (by simp)
  | .dot n, p, u, gs, hk, hA, h1, h2 => by
    simp only [Vt.vo, Vt.fv, Vt.st, Vt.sz, Vt.ok] at hA h1 h2 hk ⊢
    exact seg_n hM n p u gs hk hA (by omega) (by omega)
  | .at n, p, u, gs, hk, hA, h1, h2 => by
    simp only [Vt.vo, Vt.fv, Vt.st, Vt.sz, Vt.ok] at hA h1 h2 hk ⊢
    have ha := seg_n hM n p u gs hk hA.left (by omega) (by omega)
    exact ha.then1 rfl hM hA .cursor rfl (by simp only [List.length_append, List.length_cons, List.length_nil]; omega) (by omega)
  | .call f as, p, u, gs, hk, hA, h1, h2 => by
    simp only [Vt.vo, Vt.fv, Vt.st, Vt.sz, Vt.ok] at hA h1 h2 hk ⊢
    have l1 := as.fvs_length; have l2 := as.len_le
    have ha := seg_l hM as p u gs hk.2 hA.left (by omega) (by omega)
    exact ha.then1 rfl hM hA (.call hk.1.2 l1.symm (by omega)) rfl (by simp only [List.length_append, List.length_cons, List.length_nil]; omega) (by omega)
  | .item o ks, p, u, gs, hk, hA, h1, h2 => by
    simp only [Vt.vo, Vt.fv, Vt.st, Vt.sz, Vt.ok] at hA h1 h2 hk ⊢
    have l1 := ks.fvs_length; have l2 := ks.len_le
    have ha := seg_t hM o p u gs hk.1 hA.left.left (by omega) (by omega)
    have hb := seg_l hM ks _ (u ++ [o.fv]) gs hk.2 hA.left.right (by rw [List.length_append, List.length_cons, List.length_nil]; omega) (by omega)
    exact (ha.thenS rfl hb rfl).then1 rfl hM hA (.item l1.symm (by omega)) rfl (by simp only [List.length_append, List.length_cons, List.length_nil]; omega) (by omega)
  | .not a as, p, u, gs, hk, hA, h1, h2 => by
    simp only [Vt.vo, Vt.fv, Vt.st, Vt.sz, Vt.ok] at hA h1 h2 hk ⊢
    have l1 := as.fvs_length; have l2 := as.len_le
    have e : Ord.guard ((a.vo ++ (as.vl ++ [Ord.call (S "LOSES") as.len false]) ++ [Ord.join]).length + 3) :: (a.vo ++ (as.vl ++ [Ord.call (S "LOSES") as.len false]) ++ [Ord.join]) ++ [.unguard, .fail, .push (dS "")]
        = Ord.guard ((a.vo ++ as.vl).length + 2 + 3) :: ((a.vo ++ as.vl) ++ ([Ord.call (S "LOSES") as.len false] ++ ([Ord.join] ++ [.unguard, .fail, .push (dS "")]))) := by simp; omega
    rw [e] at hA ⊢
    have hA2 := (hA.tail.left (s1 := a.vo ++ as.vl))
    have ha := seg_t hM a (p + 1) u (gs ++ [gD (p + ((a.vo ++ as.vl).length + 2 + 3)) u.length]) hk.1 hA2.left (by omega) (by rw [List.length_append, List.length_cons, List.length_nil]; omega)
    have hb := seg_l hM as _ (u ++ [a.fv]) (gs ++ [gD (p + ((a.vo ++ as.vl).length + 2 + 3)) u.length]) hk.2 hA2.right (by rw [List.length_append, List.length_cons, List.length_nil]; omega) (by rw [List.length_append, List.length_cons, List.length_nil]; omega)
    exact (seg_not hM hA (ha.thenS rfl hb rfl) l1.symm (by omega) (by omega) (by omega)).conv (by simp; omega) rfl (by simp)
theorem seg_n (hM : M ≤ full.length) : ∀ (t : Nt) (p : Nat) (u gs : List Dat), t.ok → At full p t.no → u.length + t.sz ≤ 1000 → gs.length + t.sz ≤ 1000 → SegR (full.take M) M p t.no.length u (u ++ [t.fv]) (t.st u) gs
  | .name s, p, u, gs, _, hA, h1, h2 => by
    simp only [Nt.no, Nt.fv, Nt.st] at hA ⊢
    exact sone hM hA .ref rfl (by omega) (by omega)
  | .kw s, p, u, gs, _, hA, h1, h2 => by
    simp only [Nt.no, Nt.fv, Nt.st, Nt.sz] at hA h1 h2 ⊢
    exact sone hM hA .kw rfl (by omega) (by omega)
  | .call f as, p, u, gs, hk, hA, h1, h2 => by
    simp only [Nt.no, Nt.fv, Nt.st, Nt.sz, Nt.ok] at hA h1 h2 hk ⊢
    have l1 := as.fvs_length; have l2 := as.len_le
    have ha := seg_l hM as p u gs hk.2 hA.left (by omega) (by omega)
    exact ha.then1 rfl hM hA (.call hk.1.2 l1.symm (by omega)) rfl (by simp only [List.length_append, List.length_cons, List.length_nil]; omega) (by omega)
  | .item o ks, p, u, gs, hk, hA, h1, h2 => by
    simp only [Nt.no, Nt.fv, Nt.st, Nt.sz, Nt.ok] at hA h1 h2 hk ⊢
    have l1 := ks.fvs_length; have l2 := ks.len_le
    have ha := seg_t hM o p u gs hk.1 hA.left.left (by omega) (by omega)
    have hb := seg_l hM ks _ (u ++ [o.fv]) gs hk.2 hA.left.right (by rw [List.length_append, List.length_cons, List.length_nil]; omega) (by omega)
    exact (ha.thenS rfl hb rfl).then1 rfl hM hA (.item l1.symm (by omega)) rfl (by simp only [List.length_append, List.length_cons, List.length_nil]; omega) (by omega)
  | .dollar a, p, u, gs, hk, hA, h1, h2 => by
    simp only [Nt.no, Nt.fv, Nt.st, Nt.sz, Nt.ok] at hA h1 h2 hk ⊢
    have ha := seg_t hM a p u gs hk hA.left (by omega) (by omega)
    exact ha.then1 rfl hM hA .indirect rfl (by simp only [List.length_append, List.length_cons, List.length_nil]; omega) (by omega)
theorem seg_l (hM : M ≤ full.length) : ∀ (l : Vl) (p : Nat) (u gs : List Dat), l.ok → At full p l.vl → u.length + l.sz ≤ 1000 → gs.length + l.sz ≤ 1000 → SegR (full.take M) M p l.vl.length u (u ++ l.fvs) (l.st u) gs
  | .nil, p, u, gs, _, hA, h1, h2 => by
    simp only [Vl.vl, Vl.fvs, Vl.st, List.append_nil]
    exact SegR.nil
  | .cons a l, p, u, gs, hk, hA, h1, h2 => by
    simp only [Vl.vl, Vl.fvs, Vl.st, Vl.sz, Vl.ok] at hA h1 h2 hk ⊢
    have ha := seg_t hM a p u gs hk.1 hA.left (by omega) (by omega)
    have hb := seg_l hM l _ (u ++ [a.fv]) gs hk.2 hA.right (by rw [List.length_append, List.length_cons, List.length_nil]; omega) (by omega)
    exact (ha.thenS rfl hb rfl).conv rfl (by simp) rfl
end
theorem run_all {t : Vt} (hk : t.ok) (hz : t.sz ≤ 1000) {j : Nat} {s : List Dat} (hs : (t.st [])[j]? = some s) : RunX (t.vo.take (j + 1)) 0 [] [] s := by
  have hj : j < t.vo.length := by rw [← t.st_len []]; exact (List.getElem?_eq_some_iff.mp hs).1
  exact (seg_t (full := t.vo) (M := j + 1) (by omega) t 0 [] [] hk ⟨fun i o e => by rwa [Nat.zero_add]⟩ (by simpa using hz) (by simpa using hz)).2.2 j s (by omega) hs
end
end Mine
namespace Mine
def pick : List Nat → Nat → Nat × List Nat
  | [], _ => (0, [])
  | n :: r, m => (n % m, r)
def mkL (f : List Nat → Vt × List Nat) : Nat → List Nat → Vl × List Nat
  | 0, c => (.nil, c)
  | n + 1, c => (.cons (f c).1 (mkL f n (f c).2).1, (mkL f n (f c).2).2)
def charAt (s : String) (i : Nat) : Str := ⟨#[(S s).cps.getD i 0]⟩
def leaf (form : Nat) (c : List Nat) : Vt × List Nat :=
  let told := pick c 4
  (if form = 0 then .name (charAt "XYZW" told.1) else if form = 1 then .text (charAt "pqrs" told.1) else if form = 2 then .whole told.1 else .null, told.2)
def opAt (i : Nat) : Str := if i = 0 then S "+" else if i = 1 then S "/" else if i = 2 then S "|" else S "**"
mutual
def mkT : Nat → List Nat → Vt × List Nat
  | 0, c => leaf (pick c 4).1 (pick c 4).2
  | d + 1, c =>
    let form := (pick c 16).1
    let c1 := (pick c 16).2
    if form < 4 then leaf form c1
    else if form = 4 then
      let a := mkT d c1
      let b := mkT d a.2
      (.join a.1 b.1, b.2)
    else if form = 5 then
      let o := pick c1 4
      let a := mkT d o.2
      let b := mkT d a.2
      (.bin (opAt o.1) a.1 b.1, b.2)
    else if form = 6 then
      let o := pick c1 2
      let a := mkT d o.2
      let b := mkN d a.2
      (.given (charAt ".$" o.1) a.1 b.1, b.2)
    else if form = 7 then
      let a := mkT d c1
      (.neg a.1, a.2)
    else if form = 8 then
      let a := mkT d c1
      (.dollar a.1, a.2)
    else if form = 10 then
      let a := mkT d c1
      (.star a.1, a.2)
    else if form = 11 then
      let a := mkT d c1
      (.opt a.1, a.2)
    else if form = 9 then
      let o := pick c1 2
      let a := mkN d o.2
      (if o.1 = 0 then .dot a.1 else .at a.1, a.2)
    else if form = 12 then
      let n := pick c1 3
      let l := mkL (mkT d) n.1 n.2
      (.call (S "F") l.1, l.2)
    else if form = 13 then
      let n := pick c1 2
      let o := mkT d n.2
      let l := mkL (mkT d) (1 + n.1) o.2
      (.item o.1 l.1, l.2)
    else if form = 14 then (.kw (S "ANCHOR"), c1)
    else
      let a := mkT d c1
      let n := pick a.2 3
      let l := mkL (mkT d) n.1 n.2
      (.not a.1 l.1, l.2)
def mkN : Nat → List Nat → Nt × List Nat
  | 0, c => (.name (charAt "ABC" (pick c 3).1), (pick c 3).2)
  | d + 1, c =>
    let form := (pick c 5).1
    let c1 := (pick c 5).2
    if form = 0 then
      let o := pick c1 3
      (.name (charAt "ABC" o.1), o.2)
    else if form = 1 then
      let n := pick c1 3
      let l := mkL (mkT d) n.1 n.2
      (.call (S "G") l.1, l.2)
    else if form = 2 then
      let o := mkT d c1
      let l := mkL (mkT d) 1 o.2
      (.item o.1 l.1, l.2)
    else if form = 3 then
      let a := mkT d c1
      (.dollar a.1, a.2)
    else (.kw (S "TRIM"), c1)
end
theorem pick_lt (c : List Nat) {m : Nat} (hm : 0 < m) : (pick c m).1 < m := by
  cases c with
  | nil => exact hm
  | cons n r => exact Nat.mod_lt _ hm
end Mine
namespace Mine
inductive Dk : Nat → Dat → Prop
  | none {n} : Dk n .none
  | bool {n b} : Dk n (.bool b)
  | int {n i} : Dk n (.int i)
  | str {n x} : PyData.strOk x = true → Dk n (.str x)
  | tuple {n m ds} : (∀ d ∈ ds, Dk m d) → m + 1 ≤ n → Dk n (.tuple ds)
  | list {n m ds} : (∀ d ∈ ds, Dk m d) → m + 1 ≤ n → Dk n (.list ds)
theorem Dk.mono {n k : Nat} {d : Dat} (h : Dk n d) (hk : n ≤ k) : Dk k d := by
  cases h with
  | none => exact .none
  | bool => exact .bool
  | int => exact .int
  | str h => exact .str h
  | tuple h e => exact .tuple h (Nat.le_trans e hk)
  | list h e => exact .list h (Nat.le_trans e hk)
theorem all1 {P : Dat → Prop} {a : Dat} (ha : P a) : ∀ d ∈ [a], P d := by
  intro d h
  rw [List.mem_singleton.mp h]; exact ha
theorem all2 {P : Dat → Prop} {a b : Dat} (ha : P a) (hb : P b) : ∀ d ∈ [a, b], P d := by
  intro d h
  rcases List.mem_cons.mp h with rfl | h
  · exact ha
  · exact all1 hb d h
theorem all3 {P : Dat → Prop} {a b c : Dat} (ha : P a) (hb : P b) (hc : P c) : ∀ d ∈ [a, b, c], P d := by
  intro d h
  rcases List.mem_cons.mp h with rfl | h
  · exact ha
  · exact all2 hb hc d h
theorem all4 {P : Dat → Prop} {a b c e : Dat} (ha : P a) (hb : P b) (hc : P c) (he : P e) : ∀ d ∈ [a, b, c, e], P d := by
  intro d h
  rcases List.mem_cons.mp h with rfl | h
  · exact ha
  · exact all3 hb hc he d h
theorem reads_all {news : List (Addr × Obj)} {h : Heap} : ∀ {vs : List Value} {ds : List Dat}, DatAll news vs ds → (∀ d ∈ ds, ∀ v, DatIn news v d → ∃ as, Reads h v (kqdP d) as) → ∃ as, ReadsAll h vs (kqdPs ds) as
  | _, _, .nil, _ => ⟨_, by rw [kqdPs]; exact .nil⟩
  | _, _, .cons hd r, k => by
    obtain ⟨as, q⟩ := k _ (.head _) _ hd
    obtain ⟨bs, p⟩ := reads_all r fun d hm => k d (.tail _ hm)
    rw [kqdPs]
    exact ⟨_, .cons q p⟩
theorem Dk.reads {news : List (Addr × Obj)} {h : Heap} (N : ∀ q ∈ news, h.get? q.1 = some q.2) {n : Nat} {d : Dat} (k : Dk n d) : ∀ v, DatIn news v d → ∃ as, Reads h v (kqdP d) as := by
  induction k with
  | none => intro v hv; cases hv; exact ⟨_, by rw [kqdP]; exact .none⟩
  | bool => intro v hv; cases hv; exact ⟨_, by rw [kqdP]; exact .bool _⟩
  | int => intro v hv; cases hv; exact ⟨_, by rw [kqdP]; exact .int _ _⟩
  | str _ => intro v hv; cases hv; exact ⟨_, by rw [kqdP]; exact .str _ _⟩
  | tuple _ _ ih =>
    intro v hv
    cases hv with
    | tuple hm r =>
      obtain ⟨as, q⟩ := reads_all (h := h) r ih
      rw [kqdP]
      exact ⟨_, .tuple (N _ hm) rfl rfl (by simpa using q)⟩
  | list _ _ ih =>
    intro v hv
    cases hv with
    | list hm r =>
      obtain ⟨as, q⟩ := reads_all (h := h) r ih
      rw [kqdP]
      exact ⟨_, .list (N _ hm) rfl rfl (by simpa using q)⟩
theorem lay_all {n : Nat} : ∀ ds : List Dat, (∀ d ∈ ds, (kqdP d).canLay0 = true ∧ (kqdP d).depth ≤ n) → PyData.canLayAll0 (kqdPs ds) = true ∧ PyData.depthAll (kqdPs ds) ≤ n
  | [], _ => by simp [kqdPs, PyData.canLayAll0, PyData.depthAll]
  | d :: ds, h => by
    have h1 := h d (.head _)
    have h2 := lay_all ds fun e he => h e (.tail _ he)
    rw [kqdPs, PyData.canLayAll0, PyData.depthAll]
    exact ⟨by rw [h1.1, h2.1]; rfl, Nat.max_le.mpr ⟨h1.2, h2.2⟩⟩
theorem Dk.lay {n : Nat} {d : Dat} (k : Dk n d) : (kqdP d).canLay0 = true ∧ (kqdP d).depth ≤ n := by
  induction k with
  | none => simp [kqdP, PyData.canLay0, PyData.depth]
  | bool => simp [kqdP, PyData.canLay0, PyData.depth]
  | int => simp [kqdP, PyData.canLay0, PyData.depth]
  | str h => simp [kqdP, PyData.canLay0, PyData.depth, h]
  | tuple _ e ih =>
    have q := lay_all _ ih
    rw [kqdP, PyData.canLay0, PyData.depth]
    exact ⟨q.1, by have := q.2; omega⟩
  | list _ e ih =>
    have q := lay_all _ ih
    rw [kqdP, PyData.canLay0, PyData.depth]
    exact ⟨q.1, by have := q.2; omega⟩
theorem dkS {n : Nat} (x : String) (h : PyData.strOk (S x) = true := by decide +kernel) : Dk n (dS x) := .str h
mutual
theorem Vt.dat_dk : ∀ t : Vt, t.ok → Dk (3 * t.sz) t.dat
  | .null, _ => by rw [Vt.dat, Vt.sz]; exact .tuple (m := 0) (all1 (dkS _)) (by omega)
  | .text s, h => by rw [Vt.ok] at h; rw [Vt.dat, Vt.sz]; exact .tuple (m := 0) (all2 (dkS _) (.str h)) (by omega)
  | .whole i, _ => by rw [Vt.dat, Vt.sz]; exact .tuple (m := 0) (all2 (dkS _) .int) (by omega)
  | .name s, h => by rw [Vt.ok] at h; rw [Vt.dat, Vt.sz]; exact .tuple (m := 0) (all2 (dkS _) (.str h)) (by omega)
  | .join a b, h => by
    rw [Vt.ok] at h
    have ha := Vt.dat_dk a h.1; have hb := Vt.dat_dk b h.2
    rw [Vt.dat, Vt.sz]; exact .tuple (m := 3 * a.sz + 3 * b.sz) (all3 (dkS _) (ha.mono (by omega)) (hb.mono (by omega))) (by omega)
  | .bin op a b, h => by
    rw [Vt.ok] at h
    have ha := Vt.dat_dk a h.2.1; have hb := Vt.dat_dk b h.2.2
    rw [Vt.dat, Vt.sz]; exact .tuple (m := 3 * a.sz + 3 * b.sz) (all4 (dkS _) (.str h.1.1) (ha.mono (by omega)) (hb.mono (by omega))) (by omega)
  | .given op a b, h => by
    rw [Vt.ok] at h
    have ha := Vt.dat_dk a h.2.1; have hb := Nt.dat_dk b h.2.2
    have ho : PyData.strOk op = true := by rcases h.1 with rfl | rfl <;> decide +kernel
    rw [Vt.dat, Vt.sz]; exact .tuple (m := 3 * a.sz + 3 * b.sz) (all4 (dkS _) (.str ho) (ha.mono (by omega)) (hb.mono (by omega))) (by omega)
  | .neg a, h => by
    rw [Vt.ok] at h
    have ha := Vt.dat_dk a h
    rw [Vt.dat, Vt.sz]; exact .tuple (all3 (dkS _) (dkS _) ha) (by omega)
  | .dollar a, h => by
    rw [Vt.ok] at h
    have ha := Vt.dat_dk a h
    rw [Vt.dat, Vt.sz]; exact .tuple (all3 (dkS _) (dkS _) ha) (by omega)
  | .star a, h => by
    rw [Vt.ok] at h
    have ha := Vt.dat_dk a h
    rw [Vt.dat, Vt.sz]; exact .tuple (all3 (dkS _) (dkS _) ha) (by omega)
  | .opt a, h => by
    rw [Vt.ok] at h
    have ha := Vt.dat_dk a h
    rw [Vt.dat, Vt.sz]; exact .tuple (all3 (dkS _) (dkS _) ha) (by omega)
  | .dot n, h => by
    rw [Vt.ok] at h
    have ha := Nt.dat_dk n h
    rw [Vt.dat, Vt.sz]; exact .tuple (all3 (dkS _) (dkS _) ha) (by omega)
  | .at n, h => by
    rw [Vt.ok] at h
    have ha := Nt.dat_dk n h
    rw [Vt.dat, Vt.sz]; exact .tuple (all3 (dkS _) (dkS _) ha) (by omega)
  | .call f as, h => by
    rw [Vt.ok] at h
    have ha := Vl.dats_dk as h.2
    rw [Vt.dat, Vt.sz]; exact .tuple (all3 (dkS _) (.str h.1.1) (.list ha (Nat.le_refl _))) (by omega)
  | .item o ks, h => by
    rw [Vt.ok] at h
    have ho := Vt.dat_dk o h.1
    have ha := Vl.dats_dk ks h.2
    rw [Vt.dat, Vt.sz]; exact .tuple (m := 3 * o.sz + 3 * ks.sz + 1) (all3 (dkS _) (ho.mono (by omega)) (.list ha (by omega))) (by omega)
  | .kw s, h => by rw [Vt.ok] at h; rw [Vt.dat, Vt.sz]; exact .tuple (m := 1) (all3 (dkS _) (dkS _) (.tuple (m := 0) (all2 (dkS _) (.str h)) (by omega))) (by omega)
  | .not a as, h => by
    rw [Vt.ok] at h
    have ha := Vt.dat_dk a h.1
    have hl := Vl.dats_dk as h.2
    rw [Vt.dat, Vt.sz]
    exact .tuple (m := 3 * a.sz + 3 * as.sz + 3) (all3 (dkS _) (dkS _) (.tuple (m := 3 * a.sz + 3 * as.sz + 2) (all3 (dkS _) (ha.mono (by omega)) (.tuple (m := 3 * as.sz + 1) (all3 (dkS _) (dkS _) (.list hl (by omega))) (by omega))) (by omega))) (by omega)
theorem Nt.dat_dk : ∀ t : Nt, t.ok → Dk (3 * t.sz) t.dat
  | .name s, h => by rw [Nt.ok] at h; rw [Nt.dat, Nt.sz]; exact .tuple (m := 0) (all2 (dkS _) (.str h)) (by omega)
  | .call f as, h => by
    rw [Nt.ok] at h
    have ha := Vl.dats_dk as h.2
    rw [Nt.dat, Nt.sz]; exact .tuple (all3 (dkS _) (.str h.1.1) (.list ha (Nat.le_refl _))) (by omega)
  | .item o ks, h => by
    rw [Nt.ok] at h
    have ho := Vt.dat_dk o h.1
    have ha := Vl.dats_dk ks h.2
    rw [Nt.dat, Nt.sz]; exact .tuple (m := 3 * o.sz + 3 * ks.sz + 1) (all3 (dkS _) (ho.mono (by omega)) (.list ha (by omega))) (by omega)
  | .dollar a, h => by
    rw [Nt.ok] at h
    have ha := Vt.dat_dk a h
    rw [Nt.dat, Nt.sz]; exact .tuple (all3 (dkS _) (dkS _) ha) (by omega)
  | .kw s, h => by rw [Nt.ok] at h; rw [Nt.dat, Nt.sz]; exact .tuple (m := 1) (all3 (dkS _) (dkS _) (.tuple (m := 0) (all2 (dkS _) (.str h)) (by omega))) (by omega)
theorem Vl.dats_dk : ∀ l : Vl, l.ok → ∀ d ∈ l.dats, Dk (3 * l.sz) d
  | .nil, _ => by intro d h; rw [Vl.dats] at h; cases h
  | .cons a l, h => by
    rw [Vl.ok] at h
    intro d hd
    rw [Vl.dats] at hd
    rw [Vl.sz]
    rcases List.mem_cons.mp hd with rfl | hd
    · exact (Vt.dat_dk a h.1).mono (by omega)
    · exact (Vl.dats_dk l h.2 d hd).mono (by omega)
end
abbrev two (h : String) (x : Dat) : Dat := .tuple [dS h, .list [x]]
theorem dk_t {n m : Nat} (w : String) {ds : List Dat} (h : ∀ d ∈ ds, Dk m d) (hn : m + 2 ≤ n) (hw : PyData.strOk (S w) = true := by decide +kernel) : Dk n (.tuple [dS w, .list ds]) := .tuple (m := m + 1) (all2 (.str hw) (.list h (Nat.le_refl _))) (by omega)
mutual
theorem Vt.fv_dk : ∀ t : Vt, t.ok → Dk (6 * t.sz) t.fv
  | .null, _ => by rw [Vt.fv]; exact dkS _
  | .text s, h => by rw [Vt.ok] at h; rw [Vt.fv]; exact .str h
  | .whole i, _ => by rw [Vt.fv]; exact .int
  | .name s, h => by rw [Vt.ok] at h; rw [Vt.fv, Vt.sz]; exact dk_t (m := 0) _ (all1 (.str h)) (by omega)
  | .join a b, h => by
    rw [Vt.ok] at h
    have ha := Vt.fv_dk a h.1; have hb := Vt.fv_dk b h.2
    rw [Vt.fv, Vt.sz]; exact dk_t (m := 6 * a.sz + 6 * b.sz + 1) _ (all2 (dkS _) (.list (m := 6 * a.sz + 6 * b.sz) (all2 (ha.mono (by omega)) (hb.mono (by omega))) (by omega))) (by omega)
  | .bin op a b, h => by
    rw [Vt.ok] at h
    have ha := Vt.fv_dk a h.2.1; have hb := Vt.fv_dk b h.2.2
    rw [Vt.fv, Vt.sz]; exact dk_t (m := 6 * a.sz + 6 * b.sz + 1) _ (all2 (.str h.1.1) (.list (m := 6 * a.sz + 6 * b.sz) (all2 (ha.mono (by omega)) (hb.mono (by omega))) (by omega))) (by omega)
  | .given op a b, h => by
    rw [Vt.ok] at h
    have ha := Vt.fv_dk a h.2.1; have hb := Nt.fv_dk b h.2.2
    have ho : PyData.strOk op = true := by rcases h.1 with rfl | rfl <;> decide +kernel
    rw [Vt.fv, Vt.sz]; exact dk_t (m := 6 * a.sz + 6 * b.sz) _ (all3 (.str ho) (ha.mono (by omega)) (hb.mono (by omega))) (by omega)
  | .neg a, h => by
    rw [Vt.ok] at h
    have ha := Vt.fv_dk a h
    rw [Vt.fv, Vt.sz]; exact dk_t (m := 6 * a.sz + 1) _ (all2 (dkS _) (.list (all1 ha) (by omega))) (by omega)
  | .dollar a, h => by
    rw [Vt.ok] at h
    have ha := Vt.fv_dk a h
    rw [Vt.fv, Vt.sz]; exact dk_t (m := 6 * a.sz + 2) _ (all1 (dk_t _ (all1 ha) (by omega))) (by omega)
  | .star a, h => by
    rw [Vt.ok] at h
    have ha := Vt.dat_dk a h
    rw [Vt.fv, Vt.sz]; exact dk_t (m := 3 * a.sz) _ (all1 ha) (by omega)
  | .opt a, _ => by rw [Vt.fv]; exact dkS _
  | .dot n, h => by
    rw [Vt.ok] at h
    have ha := Nt.fv_dk n h
    rw [Vt.fv, Vt.sz]; exact ha.mono (by omega)
  | .at n, h => by
    rw [Vt.ok] at h
    have ha := Nt.fv_dk n h
    rw [Vt.fv, Vt.sz]; exact dk_t _ (all1 ha) (by omega)
  | .call f as, h => by
    rw [Vt.ok] at h
    have ha := Vl.fvs_dk as h.2
    rw [Vt.fv, Vt.sz]; exact dk_t (m := 6 * as.sz + 1) _ (all3 (.str h.1.1) (.list ha (by omega)) .bool) (by omega)
  | .item o ks, h => by
    rw [Vt.ok] at h
    have ho := Vt.fv_dk o h.1
    have ha := Vl.fvs_dk ks h.2
    rw [Vt.fv, Vt.sz]; exact dk_t (m := 6 * o.sz + 6 * ks.sz + 1) _ (all3 (ho.mono (by omega)) (.list ha (by omega)) .bool) (by omega)
  | .kw s, h => by
    rw [Vt.ok] at h
    rw [Vt.fv, Vt.sz]; exact dk_t (m := 2) _ (all1 (dk_t (m := 0) _ (all1 (.str h)) (by omega))) (by omega)
  | .not _ _, _ => by rw [Vt.fv]; exact dkS _
theorem Nt.fv_dk : ∀ t : Nt, t.ok → Dk (6 * t.sz) t.fv
  | .name s, h => by rw [Nt.ok] at h; rw [Nt.fv, Nt.sz]; exact dk_t (m := 0) _ (all1 (.str h)) (by omega)
  | .call f as, h => by
    rw [Nt.ok] at h
    have ha := Vl.fvs_dk as h.2
    rw [Nt.fv, Nt.sz]; exact dk_t (m := 6 * as.sz + 1) _ (all3 (.str h.1.1) (.list ha (by omega)) .bool) (by omega)
  | .item o ks, h => by
    rw [Nt.ok] at h
    have ho := Vt.fv_dk o h.1
    have ha := Vl.fvs_dk ks h.2
    rw [Nt.fv, Nt.sz]; exact dk_t (m := 6 * o.sz + 6 * ks.sz + 1) _ (all3 (ho.mono (by omega)) (.list ha (by omega)) .bool) (by omega)
  | .dollar a, h => by
    rw [Nt.ok] at h
    have ha := Vt.fv_dk a h
    rw [Nt.fv, Nt.sz]; exact dk_t _ (all1 ha) (by omega)
  | .kw s, h => by
    rw [Nt.ok] at h
    rw [Nt.fv, Nt.sz]; exact dk_t (m := 0) _ (all1 (.str h)) (by omega)
theorem Vl.fvs_dk : ∀ l : Vl, l.ok → ∀ d ∈ l.fvs, Dk (6 * l.sz) d
  | .nil, _ => by intro d h; rw [Vl.fvs] at h; cases h
  | .cons a l, h => by
    rw [Vl.ok] at h
    intro d hd
    rw [Vl.fvs] at hd
    rw [Vl.sz]
    rcases List.mem_cons.mp hd with rfl | hd
    · exact (Vt.fv_dk a h.1).mono (by omega)
    · exact (Vl.fvs_dk l h.2 d hd).mono (by omega)
end
end Mine
namespace Mine
def AD (N : Nat) (u : List Dat) : Prop := ∀ d ∈ u, Dk N d
def AS (N : Nat) (S : List (List Dat)) : Prop := ∀ s ∈ S, AD N s
theorem AD.nil {N : Nat} : AD N [] := fun _ h => by cases h
theorem AD.add {N : Nat} {u : List Dat} {x : Dat} (h : AD N u) (hx : Dk N x) : AD N (u ++ [x]) := by
  intro d hd
  rcases List.mem_append.mp hd with hd | hd
  · exact h d hd
  · exact all1 hx d hd
theorem AS.app {N : Nat} {S T : List (List Dat)} (h : AS N S) (k : AS N T) : AS N (S ++ T) := by
  intro s hs
  rcases List.mem_append.mp hs with hs | hs
  · exact h s hs
  · exact k s hs
theorem AS.nil {N : Nat} : AS N [] := fun _ h => by cases h
theorem AS.cons {N : Nat} {u : List Dat} {S : List (List Dat)} (h : AD N u) (k : AS N S) : AS N (u :: S) := by
  intro s hs
  rcases List.mem_cons.mp hs with rfl | hs
  · exact h
  · exact k s hs
theorem AS.one {N : Nat} {u : List Dat} (h : AD N u) : AS N [u] := .cons h .nil
mutual
theorem Vt.st_dk {N : Nat} : ∀ (t : Vt) (u : List Dat), t.ok → 6 * t.sz ≤ N → AD N u → AS N (t.st u)
  | .null, u, h, hN, hu => by have hf := (Vt.fv_dk .null h).mono hN; rw [Vt.fv] at hf; rw [Vt.st]; exact .one (hu.add hf)
  | .text s, u, h, hN, hu => by have hf := (Vt.fv_dk (.text s) h).mono hN; rw [Vt.fv] at hf; rw [Vt.st]; exact .one (hu.add hf)
  | .whole i, u, h, hN, hu => by have hf := (Vt.fv_dk (.whole i) h).mono hN; rw [Vt.fv] at hf; rw [Vt.st]; exact .one (hu.add hf)
  | .name s, u, h, hN, hu => by have hf := (Vt.fv_dk (.name s) h).mono hN; rw [Vt.fv] at hf; rw [Vt.st]; exact .one (hu.add hf)
  | .join a b, u, h, hN, hu => by
    have hf := (Vt.fv_dk (.join a b) h).mono hN
    rw [Vt.fv] at hf; rw [Vt.ok] at h; rw [Vt.sz] at hN; rw [Vt.st]
    exact ((Vt.st_dk a u h.1 (by omega) hu).app (Vt.st_dk b _ h.2 (by omega) (hu.add ((Vt.fv_dk a h.1).mono (by omega))))).app (.one (hu.add hf))
  | .bin op a b, u, h, hN, hu => by
    have hf := (Vt.fv_dk (.bin op a b) h).mono hN
    rw [Vt.fv] at hf; rw [Vt.ok] at h; rw [Vt.sz] at hN; rw [Vt.st]
    exact ((Vt.st_dk a u h.2.1 (by omega) hu).app (Vt.st_dk b _ h.2.2 (by omega) (hu.add ((Vt.fv_dk a h.2.1).mono (by omega))))).app (.one (hu.add hf))
  | .given op a b, u, h, hN, hu => by
    have hf := (Vt.fv_dk (.given op a b) h).mono hN
    rw [Vt.fv] at hf; rw [Vt.ok] at h; rw [Vt.sz] at hN; rw [Vt.st]
    exact ((Vt.st_dk a u h.2.1 (by omega) hu).app (Nt.st_dk b _ h.2.2 (by omega) (hu.add ((Vt.fv_dk a h.2.1).mono (by omega))))).app (.one (hu.add hf))
  | .neg a, u, h, hN, hu => by
    have hf := (Vt.fv_dk (.neg a) h).mono hN
    rw [Vt.fv] at hf; rw [Vt.ok] at h; rw [Vt.sz] at hN; rw [Vt.st]
    exact (Vt.st_dk a u h (by omega) hu).app (.one (hu.add hf))
  | .dollar a, u, h, hN, hu => by
    have hf := (Vt.fv_dk (.dollar a) h).mono hN
    rw [Vt.fv] at hf; rw [Vt.ok] at h; rw [Vt.sz] at hN; rw [Vt.st]
    exact (Vt.st_dk a u h (by omega) hu).app (.cons (hu.add (dk_t _ (all1 (Vt.fv_dk a h)) (by omega))) (.one (hu.add hf)))
  | .star a, u, h, hN, hu => by have hf := (Vt.fv_dk (.star a) h).mono hN; rw [Vt.fv] at hf; rw [Vt.st]; exact .one (hu.add hf)
  | .opt a, u, h, hN, hu => by
    rw [Vt.ok] at h; rw [Vt.sz] at hN; rw [Vt.st]
    exact (Vt.st_dk a u h (by omega) hu).app (.cons hu (.one (hu.add (dkS _))))
  | .dot n, u, h, hN, hu => by
    rw [Vt.ok] at h; rw [Vt.sz] at hN; rw [Vt.st]
    exact Nt.st_dk n u h (by omega) hu
  | .at n, u, h, hN, hu => by
    have hf := (Vt.fv_dk (.at n) h).mono hN
    rw [Vt.fv] at hf; rw [Vt.ok] at h; rw [Vt.sz] at hN; rw [Vt.st]
    exact (Nt.st_dk n u h (by omega) hu).app (.one (hu.add hf))
  | .call f as, u, h, hN, hu => by
    have hf := (Vt.fv_dk (.call f as) h).mono hN
    rw [Vt.fv] at hf; rw [Vt.ok] at h; rw [Vt.sz] at hN; rw [Vt.st]
    exact (Vl.st_dk as u h.2 (by omega) hu).app (.one (hu.add hf))
  | .item o ks, u, h, hN, hu => by
    have hf := (Vt.fv_dk (.item o ks) h).mono hN
    rw [Vt.fv] at hf; rw [Vt.ok] at h; rw [Vt.sz] at hN; rw [Vt.st]
    exact ((Vt.st_dk o u h.1 (by omega) hu).app (Vl.st_dk ks _ h.2 (by omega) (hu.add ((Vt.fv_dk o h.1).mono (by omega))))).app (.one (hu.add hf))
  | .kw s, u, h, hN, hu => by
    have hf := (Vt.fv_dk (.kw s) h).mono hN
    rw [Vt.fv] at hf; rw [Vt.ok] at h; rw [Vt.sz] at hN; rw [Vt.st]
    exact .cons (hu.add (dk_t (m := 0) _ (all1 (.str h)) (by omega))) (.one (hu.add hf))
  | .not a as, u, h, hN, hu => by
    rw [Vt.ok] at h; rw [Vt.sz] at hN; rw [Vt.st]
    exact (AS.app (.cons hu (Vt.st_dk a u h.1 (by omega) hu)) (Vl.st_dk as _ h.2 (by omega) (hu.add ((Vt.fv_dk a h.1).mono (by omega))))).app (.cons hu (.cons hu (.cons hu (.cons hu (.one (hu.add (dkS _)))))))
theorem Nt.st_dk {N : Nat} : ∀ (t : Nt) (u : List Dat), t.ok → 6 * t.sz ≤ N → AD N u → AS N (t.st u)
  | .name s, u, h, hN, hu => by have hf := (Nt.fv_dk (.name s) h).mono hN; rw [Nt.fv] at hf; rw [Nt.st]; exact .one (hu.add hf)
  | .call f as, u, h, hN, hu => by
    have hf := (Nt.fv_dk (.call f as) h).mono hN
    rw [Nt.fv] at hf; rw [Nt.ok] at h; rw [Nt.sz] at hN; rw [Nt.st]
    exact (Vl.st_dk as u h.2 (by omega) hu).app (.one (hu.add hf))
  | .item o ks, u, h, hN, hu => by
    have hf := (Nt.fv_dk (.item o ks) h).mono hN
    rw [Nt.fv] at hf; rw [Nt.ok] at h; rw [Nt.sz] at hN; rw [Nt.st]
    exact ((Vt.st_dk o u h.1 (by omega) hu).app (Vl.st_dk ks _ h.2 (by omega) (hu.add ((Vt.fv_dk o h.1).mono (by omega))))).app (.one (hu.add hf))
  | .dollar a, u, h, hN, hu => by
    have hf := (Nt.fv_dk (.dollar a) h).mono hN
    rw [Nt.fv] at hf; rw [Nt.ok] at h; rw [Nt.sz] at hN; rw [Nt.st]
    exact (Vt.st_dk a u h (by omega) hu).app (.one (hu.add hf))
  | .kw s, u, h, hN, hu => by have hf := (Nt.fv_dk (.kw s) h).mono hN; rw [Nt.fv] at hf; rw [Nt.st]; exact .one (hu.add hf)
theorem Vl.st_dk {N : Nat} : ∀ (t : Vl) (u : List Dat), t.ok → 6 * t.sz ≤ N → AD N u → AS N (t.st u)
  | .nil, u, _, _, _ => by rw [Vl.st]; exact .nil
  | .cons a l, u, h, hN, hu => by
    rw [Vl.ok] at h; rw [Vl.sz] at hN; rw [Vl.st]
    exact (Vt.st_dk a u h.1 (by omega) hu).app (Vl.st_dk l _ h.2 (by omega) (hu.add ((Vt.fv_dk a h.1).mono (by omega))))
end
end Mine
namespace Mine
variable {K : Frag} {p : Program} {fi : Fi} {prog : Program} {w : World}
variable {C : Cx K p fi} {σ σ' σ₁ σ₂ : List (Str × V)} {μ μ' μ₁ μ₂ μ₃ : Mu} {pos px pz p1 p2 p3 p4 p5 : Pos} {ts : List Value} {Ts : List V} {s : Shared} {O : Out} {X X1 : V} {x z : Str} {rest : List Stmt}
theorem ints_dat {imm : Led} {vs : List Value} {is : List Int} (h : IntsAre vs is) : DatAll imm vs (is.map Dat.int) := by
  induction h with
  | nil => exact .nil
  | cons n t _ ih => exact .cons (.int n t) ih
theorem Ev.uptoScr {a b : Expr} {ps : Pos} {ad : Addr} {vs : List Value} {is : List Int} {i : Int} (hL : C.h₀.IsList ad vs.toArray) (hI : IntsAre vs is) (h1 : Ev prog w C σ μ a (.r ad) μ₁) (h2 : Ev prog w C σ μ₁ b (.d (.int i)) μ₂) (h0 : 0 ≤ i) (hz : is.length ≤ 16777216) :
    Ev prog w C σ μ (.Subscript a (.Slice Option.none (some b) Option.none ps) pos) (.d (.list ((is.map Dat.int).take i.toNat))) μ₂ := by
  intro m ts Ts s Q E S k
  refine Subscript_ (h1 _ _ _ _ _ _ S fun va s1 S1 => wpAny_Slice ?_)
  rw [evalPart_some, evalPart_none]
  refine wpAny_pure (h2 _ _ _ _ _ _ S1 fun vb s2 S2 => wpAny_pure ?_)
  obtain ⟨imm, μr, S2⟩ := S2
  obtain ⟨hb, S3⟩ := S2.pop
  obtain ⟨ha, S4⟩ := S3.pop
  obtain rfl : va = .ref ad := ha
  obtain ⟨tb, rfl⟩ := dat_int hb
  have hl := S4.fr.lst hL
  have Da : DatAll imm vs (is.map Dat.int) := ints_dat hI
  refine tail_any (T := "list") (ops := [.ref s2.heap.objs.size, .ref ad]) (Heap.IsList.typeIs (s := { s2 with heap := s2.heap.push { cls := .type "slice", data := .fields #[.none, .int i tb, .none] } }) (hl.push _)) slot_list_getitem.lookup
    (wpAny_getItem_list_slice (hl.push _) (Heap.IsSliceOf.new ..) .none (.int i tb) .none (by simp) ?_ ?_) rfl
  · rw [slice_upto _ h0]
    have S5 := (S4.alloc (tk := s2.toks) { cls := .type "slice", data := .fields #[.none, .int i tb, .none] } rfl)
    have S6 := S5.alloc (tk := s2.toks) { cls := .type "list", data := .seq ((vs.toArray.toList.take i.toNat).toArray) } rfl
    refine k _ _ ⟨_, μr, S6.push (DatIn.list (n := 0) (.head _) (DatAll.mono (fun q hq => .tail _ (.tail _ hq)) ?_))⟩
    exact datAll_take Da _
  · have := Da.length
    simp only [List.length_map] at this
    simp only [List.size_toArray, sizeLine_eq]; omega
theorem EvN.addL {a b : Expr} {xs ys : List Dat} (h1 : Ev prog w C σ μ a (.d (.list xs)) μ₁) (h2 : Ev prog w C σ μ₁ b (.d (.list ys)) μ₂) (hz : xs.length + ys.length ≤ 16777216) :
    EvN prog w C σ μ (.BinOp a .Add b pos) (.l (xs ++ ys)) μ₂ := by
  intro m ts Ts s Q E S k
  refine wpAny_BinOp (h1 _ _ _ _ _ _ S fun va s1 S1 => h2 _ _ _ _ _ _ S1 fun vb s2 S2 => ?_)
  obtain ⟨imm, μr, S2⟩ := S2
  obtain ⟨hb, S3⟩ := S2.pop
  obtain ⟨ha, S4⟩ := S3.pop
  obtain ⟨aa, vs, n, rfl, ma, Da⟩ := dat_list ha
  obtain ⟨ab, us, n', rfl, mb, Db⟩ := dat_list hb
  refine add_arrays S4.fr S4.nw (S4.isList ma) (S4.isList mb) (fun h' F N => ?_) ?_
  · have S5 := S4.allocM (tk := s2.toks) (y := .l (xs ++ ys)) F N (fun q hq => Nat.ne_of_lt (Heap.lt_size (S4.nw q hq).1)) ⟨vs ++ us, 0, rfl, Da.append Db⟩
    exact k _ _ ⟨_, _, S5.push rfl⟩
  · have e1 := Da.length
    have e2 := Db.length
    simp only [List.size_toArray, sizeLine_eq]; omega
theorem ElEv.absInt {scope : Scope} {cl : List (Str × Addr)} {i : Int} (hga : nsIn K mainGlobals ("abs" : Str) = some Option.none) (hba : bootBuiltins ("abs" : Str) = some (.builtin "abs")) (hgi : nsIn K mainGlobals ("int" : Str) = some Option.none) (hbi : bootBuiltins ("int" : Str) = some (.type "int"))
    (hk : scope.kind = .function) (hx : ∀ Cc, (compEnvC scope cl Cc C.env).kindOf x = some .local) (hya : ∀ Cc, (compEnvC scope cl Cc C.env).kindOf ("abs" : Str) = some .globalImplicit) (hyi : ∀ Cc, (compEnvC scope cl Cc C.env).kindOf ("int" : Str) = some .globalImplicit) (hd : (x == ("__debug__" : Str)) = false := by decide) :
    ElEv prog w C σ μ (.Call (.Name ("abs" : Str) p1) [.Call (.Name ("int" : Str) p2) [.Name x p3] [] p4] [] p5) x scope cl (.int i) (.int i.natAbs) μ := by
  intro m ts Ts v s Q E Cc oC m₂ hm hC hv S k
  obtain ⟨imm, μr, S⟩ := S
  have ho := (S.nw _ (List.mem_append.mpr (.inl (S.ma.get hm)))).1
  obtain ⟨hvd, _⟩ := S.pop
  obtain ⟨t, rfl⟩ := dat_int hvd
  have T := topRead_of C.hT
  refine Call_Name rfl (Name_function_global hk (hya _) (loadGlobal_builtin (env := compEnvC scope cl Cc C.env) (T.g.keeps S.fr.keep) (mg_none_of C.hX T.g hga) (T.b.keeps S.fr.keep) ((T.builtins _ (by decide)).trans hba) ?_) (by decide))
  refine callWith_builtin rfl (evalArgs_plain (Calls.spliced_cons ?_))
  refine Call_Name rfl (Name_function_global hk (hyi _) (loadGlobal_builtin (env := compEnvC scope cl Cc C.env) (T.g.keeps S.fr.keep) (mg_none_of C.hX T.g hgi) (T.b.keeps S.fr.keep) ((T.builtins _ (by decide)).trans hbi) ?_) (by decide))
  refine Pv.callWith_type1 (Calls.spliced_cons (comp_local ho hC hv (Calls.spliced_nil (call_int_int ?_)) hk (hx _) hd)) rfl rfl
  refine Calls.spliced_nil (call_abs_int fun u tk => ?_)
  have e : (if i < 0 then -i else i) = (i.natAbs : Int) := by split <;> omega
  rw [e]
  exact k _ _ ⟨imm, μr, Sx.push (S.toks rfl) (.int _ _)⟩
theorem EvT.neL {a b : Expr} {al : Addr} {xs : List Dat} {N : Nat} (h1 : Ev prog w C σ μ a (.r al) μ₁) (h2 : Ev prog w C σ μ₁ b (.d (.list xs)) μ₂) (h0 : MU al (.l xs) (.l xs) μ₂ μ₂) (hD : AD N xs) (hN : N ≤ 1000) (hr : 200 ≤ C.room) (hm : behindInMarks .NotEq b = false := by rfl) :
    EvT prog w C σ μ (.Compare a [.NotEq] [b] pos) false μ₂ := by
  intro m ts Ts s Q E S k
  refine wpAny_isTrue_Compare1 (h1 _ _ _ _ _ _ S fun va s1 S1 => h2 _ _ _ _ _ _ S1 fun vb s2 S2 => ?_) hm
  obtain ⟨imm, μr, S2⟩ := S2
  obtain ⟨hb, S3⟩ := S2.pop
  obtain ⟨ha, S4⟩ := S3.pop
  obtain rfl : va = .ref al := ha
  obtain ⟨ob, ⟨vs, n, rfl, Da⟩, hma⟩ := S4.read h0
  have NN : ∀ q ∈ imm, s2.heap.get? q.1 = some q.2 := fun q hq => (S4.nw q (List.mem_append.mpr (.inr hq))).1
  obtain ⟨as, ra⟩ := reads_all (h := s2.heap) Da fun d hd v hv => (hD d hd).reads NN v hv
  have ra' : Reads s2.heap (.ref al) (.list (kqdPs xs)) (al :: as) := .list (S4.nw _ hma).1 rfl rfl (by simpa using ra)
  have hDl : Dk (N + 1) (.list xs) := .list hD (Nat.le_refl _)
  obtain ⟨bs, rb⟩ := hDl.reads NN _ hb
  have hlay := hDl.lay
  rw [kqdP] at rb hlay
  have hu := C.hu
  refine SeqAt.compareNe_reads ra' rb hlay.1 hlay.1 ?_ ?_
  · have h2 := hlay.2
    have h3 : C.A.units = C.un := rfl
    have h4 : cLine = 9900 := rfl
    rw [Nat.min_self, h3]; omega
  · rw [SeqAt.eqv_refl _ hlay.1]
    exact wpAny_truthy_bool (k _ ⟨imm, μr, S4⟩)
theorem Ex.assignRun {f : Addr} {e1 e2 : Expr} {y zf : Mo} {n : Nat} (hg : nsIn K mainGlobals z = some (some (.ref f))) (hf : keepIn K (.ref f) = true) (h1 : Ev prog w C σ μ e1 X1 μ₁) (h2 : EvN prog w C σ μ₁ e2 y μ₂)
    (hS : ∀ h, SpecN prog w K p n f [X1, .r h] ((h, y) :: μ₂) zf ((h, y) :: μ₂)) (hn : n ≤ C.room) (hr : ∀ h b, Ex prog w C ((x, .r b) :: σ) ((b, zf) :: (h, y) :: μ₂) rest O)
    (he1 : starEach [e1, e2] C.env = (false, eval e1 C.env) :: starEach [e2] C.env := by rfl) (he2 : starEach [e2] C.env = (false, eval e2 C.env) :: starEach [] C.env := by rfl) (hp : ∀ pos, (backTo pos (starEach [e2] C.env)).any (·.1) = false := by intro _; rfl)
    (hs : swapsWith (.Call (.Name z pz) [e1, e2] [] p2) (some (.Name x px)) pos.line C.env = pure false := by rfl) (hx : fi.cs.names.lookup x = some .local := by rfl) (hz : fi.cs.names.lookup z = some .globalImplicit := by rfl) (hd : (z == ("__debug__" : Str)) = false := by decide) :
    Ex prog w C σ μ (.Assign [.Name x px] (.Call (.Name z pz) [e1, e2] [] p2) pos :: rest) O := by
  intro ts Ts s Q E S k
  obtain ⟨m, S⟩ := S.stM
  refine wpAny_execs_cons (wpAny_Assign_Name ?_ hs)
  refine Call_Name rfl ?_
  obtain ⟨imm, μr, S'⟩ := id S
  refine nameX_K S'.fr C.hX (topRead_of C.hT) hg ?_ C.hk hz hd
  refine callWith_K C.hX hf ?_ he1 (hp _)
  refine spliced_more (h1 _ _ _ _ _ _ S fun v1 s1 S1 => spliced_more (h2 _ _ _ _ _ _ S1 fun h s2 S2 => spliced_none ⟨?_, ?_⟩) he2) he1
  · obtain ⟨imm1, μr1, S2⟩ := S2
    exact C.hX.keeps S2.fr.keep
  · refine hS h _ C σ m ts Ts [v1, .ref h] s2 _ _ hn rfl ?_ fun b s3 S3 => ?_
    rotate_left
    · obtain ⟨imm, μr, S1⟩ := S3
      obtain ⟨hv, S2⟩ := S1.pop
      exact storeX_L S2.fr S2.nw (fun h' F N => hr h b _ _ _ _ _ ⟨_, imm, μr, S2.store hv F N⟩ k) C.hk hx
    refine S2.temps fun imm t => ?_
    cases t with
    | cons a r =>
      cases r with
      | cons b r => exact .cons b (.cons a r)
end Mine
namespace Mine
theorem kk_fill : (PySem.Challenge.rw_sj0192_01 = PySem.Challenge.rw_sj0192_01) ∧ KK = KK := by k_fill; exact ⟨rfl, rfl⟩
local macro_rules | `(tactic| cell_call) => `(tactic| first
  | ((with_reducible refine' Ev.loc ?a ?b ?c); (case a => rfl); (case b => rfl); (case c => decide))
  | with_reducible exact Ev.str
  | with_reducible exact Ev.int
  | with_reducible exact Ev.bool
  | with_reducible exact Ev.none
  | ((with_reducible refine' Ev.itemT ?a ?b ?c ?d ?e ?f); (case a => cell_call); (case b => cell_call); (case c => decide); (case d => rfl); (case e => decide); (case f => (intro _ _; rfl)))
  | ((with_reducible refine' Ev.itemL ?a ?b ?c ?d ?e ?f); (case a => cell_call); (case b => cell_call); (case c => decide); (case d => rfl); (case e => decide); (case f => (intro _ _; rfl)))
  | ((with_reducible refine' Ev.addL ?a ?b ?c); (case a => cell_call); (case b => cell_call); (case c => ((try simp only [List.length_append, List.length_cons, List.length_nil, List.length_map] at *); omega)))
  | ((with_reducible refine' Ev.addI ?a ?b); (case a => cell_call); (case b => cell_call))
  | ((with_reducible refine' Ev.subI ?a ?b); (case a => cell_call); (case b => cell_call))
  | ((with_reducible refine' Ev.tup ?a ?b); (case a => cell_call); (case b => exact Nat.le_of_ble_eq_true rfl))
  | ((with_reducible refine' Ev.list ?a ?b); (case a => cell_call); (case b => exact Nat.le_of_ble_eq_true rfl))
  | ((with_reducible refine' Ev.len ?a ?b ?c ?d ?e ?f); (case a => cell_call); (case b => k_is); (case c => rfl); (case d => ((try simp only [List.length_append, List.length_cons, List.length_nil, List.length_map] at *); omega)); (case e => rfl); (case f => rfl))
  | ((with_reducible refine' Ev.callP ?a ?b ?c ?d ?e ?f ?g ?h ?i); (case a => k_is); (case b => k_is); (case c => cell_call); (case d => with_reducible assumption); (case e => omega); (case f => rfl); (case g => decide); (case h => rfl); (case i => (intro _; rfl)))
  | ((with_reducible refine' Ev.ifexpT ?a ?b); (case a => cell_call); (case b => cell_call))
  | ((with_reducible refine' Ev.ifexpF ?a ?b); (case a => cell_call); (case b => cell_call))
  | ((with_reducible refine' Ev.inD ?a ?b ?c ?d ?e); (case a => cell_call); (case b => cell_call); (case c => rfl); (case d => rfl); (case e => rfl))
  | ((with_reducible refine' Ev.from_ ?a ?b ?c ?d); (case a => cell_call); (case b => cell_call); (case c => first | decide | omega); (case d => ((try simp only [List.length_append, List.length_cons, List.length_nil, List.length_map] at *); omega)))
  | ((with_reducible refine' Ev.cell ?a ?b ?c); (case a => assumption); (case b => rfl); (case c => decide))
  | ((with_reducible refine' Ev.eqS ?a ?b ?c ?d); (case a => cell_call); (case b => cell_call); (case c => first | with_reducible assumption | rfl); (case d => rfl))
  | ((with_reducible refine' Ev.and2F ?a); (case a => cell_call))
  | ((with_reducible refine' Ev.and2T ?a ?b); (case a => cell_call); (case b => cell_call))
  | with_reducible exact EvD.nil
  | ((with_reducible refine' EvD.cons ?a ?b ?c); (case a => cell_call); (case b => cell_call); (case c => rfl))
  | with_reducible exact EvL.nil
  | ((with_reducible refine' EvL.cons ?a ?b ?c); (case a => cell_call); (case b => cell_call); (case c => rfl))
  | with_reducible exact EvP.nil
  | ((with_reducible refine' EvP.cons ?a ?b ?c); (case a => cell_call); (case b => cell_call); (case c => cell_call))
  | ((with_reducible refine' EvT.eqS ?a ?b ?c ?d); (case a => cell_call); (case b => cell_call); (case c => first | decide | assumption); (case d => rfl))
  | ((with_reducible refine' EvT.inD ?a ?b ?c ?d ?e); (case a => cell_call); (case b => cell_call); (case c => rfl); (case d => first | decide | assumption); (case e => rfl))
  | ((with_reducible refine' EvT.eqI ?a ?b ?c ?d); (case a => cell_call); (case b => cell_call); (case c => first | decide | assumption); (case d => rfl))
  | ((with_reducible refine' EvT.gtI ?a ?b ?c ?d); (case a => cell_call); (case b => cell_call); (case c => first | decide | assumption); (case d => rfl))
  | ((with_reducible refine' EvT.ltI ?a ?b ?c ?d); (case a => cell_call); (case b => cell_call); (case c => first | decide | assumption); (case d => rfl))
  | with_reducible exact EvT.or0
  | with_reducible exact EvT.and0
  | ((with_reducible refine' EvT.orT ?a); (case a => cell_call))
  | ((with_reducible refine' EvT.orF ?a ?b); (case a => cell_call); (case b => cell_call))
  | ((with_reducible refine' EvT.andF ?a); (case a => cell_call))
  | ((with_reducible refine' EvT.andT ?a ?b); (case a => cell_call); (case b => cell_call))
  | ((with_reducible refine' EvT.bool ?a ?b); (case a => cell_call); (case b => (intro _; rfl)))
  | fail "no rule")
local macro_rules | `(tactic| ktr_unf) => `(tactic| (
  (case ho => k_is); (case hcd => k_is); (case hb => intros; rfl); (case h1 => rfl); (try case h2 => rfl); (try case h3 => rfl); (try case h4 => rfl); (case c1 => rfl); (case c2 => rfl); (case c3 => rfl); (case cell => decide)))
local macro_rules | `(tactic| fin_run) => `(tactic| (repeat' (first
  | ((with_reducible refine' Ex.if_skip ?a ?_); (case a => cell_call))
  | ((with_reducible refine' Ex.if_ret ?a ?_); (case a => cell_call))
  | ((with_reducible refine' Ex.assign ?a ?_ ?b ?c); (case a => cell_call); (case b => rfl); (case c => rfl))
  | ((with_reducible refine' Ex.assign2 ?a ?_ ?b ?c ?d ?e); (case a => cell_call); (case b => rfl); (case c => rfl); (case d => rfl); (case e => rfl))
  | ((with_reducible refine' Ex.retE ?a ?_); (case a => cell_call))
  | fail "no step")))
section
variable {pv : Program}
variable {prog : Program} {w : World}
abbrev VO (pv prog : Program) (w : World) (n : Nat) (t : Dat) (os : List Ord) : Prop := SpecP prog w (KK w.params) pv n 296 [.d t] (.d (.list (os.map Ord.dat)))
abbrev NO (pv prog : Program) (w : World) (n : Nat) (t : Dat) (os : List Ord) : Prop := SpecP prog w (KK w.params) pv n 324 [.d t] (.d (.list (os.map Ord.dat)))
abbrev RO (pv prog : Program) (w : World) (n : Nat) (ts : List Dat) (os : List Ord) : Prop := SpecP prog w (KK w.params) pv n 303 [.d (.list ts)] (.d (.list (os.map Ord.dat)))
abbrev UO (pv prog : Program) (w : World) (n : Nat) (op : Str) (t : Dat) (os : List Ord) : Prop := SpecP prog w (KK w.params) pv n 310 [.d (.str op), .d t] (.d (.list (os.map Ord.dat)))
abbrev BO (pv prog : Program) (w : World) (n : Nat) (op : Str) (a b : Dat) (os : List Ord) : Prop := SpecP prog w (KK w.params) pv n 317 [.d (.str op), .d a, .d b] (.d (.list (os.map Ord.dat)))
theorem vo_null {n : Nat} : VO pv prog w (n + 1) (.tuple [dS "null"]) [.push (dS "")] := by
  intro μ
  refine' Spec.def1 (x1 := S "tree") ?ho ?hcd ?hb ?h1 ?c1 ?c2 ?c3 ?cell ?h
  ktr_unf
  intro C hC
  fin_run
  all_goals (simp [Ord.dat])
theorem vo_text {n : Nat} {s : Str} : VO pv prog w (n + 1) (.tuple [dS "text", .str s]) [.push (.str s)] := by
  intro μ
  refine' Spec.def1 (x1 := S "tree") ?ho ?hcd ?hb ?h1 ?c1 ?c2 ?c3 ?cell ?h
  ktr_unf
  intro C hC
  fin_run
  all_goals (simp [Ord.dat])
theorem vo_whole {n : Nat} {i : Int} : VO pv prog w (n + 1) (.tuple [dS "whole", .int i]) [.push (.int i)] := by
  intro μ
  refine' Spec.def1 (x1 := S "tree") ?ho ?hcd ?hb ?h1 ?c1 ?c2 ?c3 ?cell ?h
  ktr_unf
  intro C hC
  fin_run
  all_goals (simp [Ord.dat])
theorem vo_name {n : Nat} {s : Str} : VO pv prog w (n + 1) (.tuple [dS "name", .str s]) [.var s] := by
  intro μ
  refine' Spec.def1 (x1 := S "tree") ?ho ?hcd ?hb ?h1 ?c1 ?c2 ?c3 ?cell ?h
  ktr_unf
  intro C hC
  fin_run
  all_goals (simp [Ord.dat])
theorem vo_call {n : Nat} {f : Str} {ts : List Dat} {la : List Ord} (ha : RO pv prog w n ts la) (h1 : la.length ≤ 10000) (h2 : ts.length ≤ 10000) : VO pv prog w (n + 1) (.tuple [dS "call", .str f, .list ts]) (la ++ [.call f ts.length false]) := by
  intro μ
  refine' Spec.def1 (x1 := S "tree") ?ho ?hcd ?hb ?h1 ?c1 ?c2 ?c3 ?cell ?h
  ktr_unf
  intro C hC
  fin_run
  all_goals (simp [Ord.dat])
theorem vo_item {n : Nat} {o : Dat} {ts : List Dat} {la lb : List Ord} (ha : VO pv prog w n o la) (hb : RO pv prog w n ts lb) (h1 : la.length ≤ 10000) (h2 : lb.length ≤ 10000) (h3 : ts.length ≤ 10000) : VO pv prog w (n + 1) (.tuple [dS "item", o, .list ts]) (la ++ lb ++ [.item ts.length false]) := by
  intro μ
  refine' Spec.def1 (x1 := S "tree") ?ho ?hcd ?hb ?h1 ?c1 ?c2 ?c3 ?cell ?h
  ktr_unf
  intro C hC
  fin_run
  all_goals (simp [Ord.dat])
theorem vo_unary {n : Nat} {op : Str} {t : Dat} {la : List Ord} (ha : UO pv prog w n op t la) : VO pv prog w (n + 1) (.tuple [dS "unary", .str op, t]) la := by
  intro μ
  refine' Spec.def1 (x1 := S "tree") ?ho ?hcd ?hb ?h1 ?c1 ?c2 ?c3 ?cell ?h
  ktr_unf
  intro C hC
  fin_run
  all_goals (simp [Ord.dat])
theorem vo_join {n : Nat} {a b : Dat} {la lb : List Ord} (ha : VO pv prog w n a la) (hb : VO pv prog w n b lb) (h1 : la.length ≤ 10000) (h2 : lb.length ≤ 10000) : VO pv prog w (n + 1) (.tuple [dS "join", a, b]) (la ++ lb ++ [.join]) := by
  intro μ
  refine' Spec.def1 (x1 := S "tree") ?ho ?hcd ?hb ?h1 ?c1 ?c2 ?c3 ?cell ?h
  ktr_unf
  intro C hC
  fin_run
  all_goals (simp [Ord.dat])
theorem vo_binary {n : Nat} {op : Str} {a b : Dat} {la : List Ord} (ha : BO pv prog w n op a b la) : VO pv prog w (n + 1) (.tuple [dS "binary", .str op, a, b]) la := by
  intro μ
  refine' Spec.def1 (x1 := S "tree") ?ho ?hcd ?hb ?h1 ?c1 ?c2 ?c3 ?cell ?h
  ktr_unf
  intro C hC
  fin_run
  all_goals (simp [Ord.dat])
theorem uo_dollar {n : Nat} {a : Dat} {la : List Ord} (ha : VO pv prog w n a la) (h1 : la.length ≤ 10000) : UO pv prog w (n + 1) (S "$") a (la ++ [.indirect, .value]) := by
  intro μ
  refine' Spec.def2 (x1 := S "op") (x2 := S "tree") ?ho ?hcd ?hb ?h1 ?h2 ?c1 ?c2 ?c3 ?cell ?h
  ktr_unf
  intro C hC
  fin_run
  all_goals (simp [Ord.dat])
theorem uo_kw {n : Nat} {s : Str} (ha : NO pv prog w n (.tuple [dS "unary", dS "&", .tuple [dS "name", .str s]]) [.kw s]) : UO pv prog w (n + 1) (S "&") (.tuple [dS "name", .str s]) ([.kw s, .value]) := by
  intro μ
  refine' Spec.def2 (x1 := S "op") (x2 := S "tree") ?ho ?hcd ?hb ?h1 ?h2 ?c1 ?c2 ?c3 ?cell ?h
  ktr_unf
  intro C hC
  fin_run
  all_goals (simp [Ord.dat])
theorem uo_dot {n : Nat} {a : Dat} {la : List Ord} (ha : NO pv prog w n a la) (h1 : la.length ≤ 10000) : UO pv prog w (n + 1) (S ".") a (la) := by
  intro μ
  refine' Spec.def2 (x1 := S "op") (x2 := S "tree") ?ho ?hcd ?hb ?h1 ?h2 ?c1 ?c2 ?c3 ?cell ?h
  ktr_unf
  intro C hC
  fin_run
  all_goals (simp [Ord.dat])
theorem uo_star {n : Nat} {a : Dat} : UO pv prog w (n + 1) (S "*") a ([.delayed a]) := by
  intro μ
  refine' Spec.def2 (x1 := S "op") (x2 := S "tree") ?ho ?hcd ?hb ?h1 ?h2 ?c1 ?c2 ?c3 ?cell ?h
  ktr_unf
  intro C hC
  fin_run
  all_goals (simp [Ord.dat])
theorem uo_at {n : Nat} {a : Dat} {la : List Ord} (ha : NO pv prog w n a la) (h1 : la.length ≤ 10000) : UO pv prog w (n + 1) (S "@") a (la ++ [.cursor]) := by
  intro μ
  refine' Spec.def2 (x1 := S "op") (x2 := S "tree") ?ho ?hcd ?hb ?h1 ?h2 ?c1 ?c2 ?c3 ?cell ?h
  ktr_unf
  intro C hC
  fin_run
  all_goals (simp [Ord.dat])
theorem uo_opt {n : Nat} {a : Dat} {la : List Ord} (ha : VO pv prog w n a la) (h1 : la.length ≤ 10000) : UO pv prog w (n + 1) (S "?") a (la ++ [.drop, .push (dS "")]) := by
  intro μ
  refine' Spec.def2 (x1 := S "op") (x2 := S "tree") ?ho ?hcd ?hb ?h1 ?h2 ?c1 ?c2 ?c3 ?cell ?h
  ktr_unf
  intro C hC
  fin_run
  all_goals (simp [Ord.dat])
theorem uo_not {n : Nat} {a : Dat} {la : List Ord} (ha : VO pv prog w n a la) (h1 : la.length ≤ 10000) : UO pv prog w (n + 1) (S "~") a (Ord.guard (la.length + 3) :: la ++ [.unguard, .fail, .push (dS "")]) := by
  intro μ
  refine' Spec.def2 (x1 := S "op") (x2 := S "tree") ?ho ?hcd ?hb ?h1 ?h2 ?c1 ?c2 ?c3 ?cell ?h
  ktr_unf
  intro C hC
  fin_run
  all_goals (simp [Ord.dat])
theorem uo_neg {n : Nat} {a : Dat} {la : List Ord} (ha : VO pv prog w n a la) (h1 : la.length ≤ 10000) : UO pv prog w (n + 1) (S "-") a (la ++ [.unary (S "-")]) := by
  intro μ
  refine' Spec.def2 (x1 := S "op") (x2 := S "tree") ?ho ?hcd ?hb ?h1 ?h2 ?c1 ?c2 ?c3 ?cell ?h
  ktr_unf
  intro C hC
  fin_run
  all_goals (simp [Ord.dat])
theorem bo_dot {n : Nat} {a b : Dat} {la lb : List Ord} (ha : VO pv prog w n a la) (hb : NO pv prog w n b lb) (h1 : la.length ≤ 10000) (h2 : lb.length ≤ 10000) : BO pv prog w (n + 1) (S ".") a b (la ++ lb ++ [.given (S ".")]) := by
  intro μ
  refine' Spec.def3 (x1 := S "op") (x2 := S "left") (x3 := S "right") ?ho ?hcd ?hb ?h1 ?h2 ?h3 ?c1 ?c2 ?c3 ?cell ?h
  ktr_unf
  intro C hC
  fin_run
  all_goals (simp [Ord.dat])
theorem bo_dollar {n : Nat} {a b : Dat} {la lb : List Ord} (ha : VO pv prog w n a la) (hb : NO pv prog w n b lb) (h1 : la.length ≤ 10000) (h2 : lb.length ≤ 10000) : BO pv prog w (n + 1) (S "$") a b (la ++ lb ++ [.given (S "$")]) := by
  intro μ
  refine' Spec.def3 (x1 := S "op") (x2 := S "left") (x3 := S "right") ?ho ?hcd ?hb ?h1 ?h2 ?h3 ?c1 ?c2 ?c3 ?cell ?h
  ktr_unf
  intro C hC
  fin_run
  all_goals (simp [Ord.dat])
theorem bo_op {n : Nat} {a b : Dat} {op : Str} {la lb : List Ord} (ha : VO pv prog w n a la) (hb : VO pv prog w n b lb) (hop1 : (op == Str.ofString ".") = false) (hop2 : (op == Str.ofString "$") = false) (h1 : la.length ≤ 10000) (h2 : lb.length ≤ 10000) : BO pv prog w (n + 1) op a b (la ++ lb ++ [.binary op]) := by
  intro μ
  refine' Spec.def3 (x1 := S "op") (x2 := S "left") (x3 := S "right") ?ho ?hcd ?hb ?h1 ?h2 ?h3 ?c1 ?c2 ?c3 ?cell ?h
  ktr_unf
  intro C hC
  fin_run
  all_goals (simp [Ord.dat])
theorem no_name {n : Nat} {s : Str} : NO pv prog w (n + 1) (.tuple [dS "name", .str s]) ([.ref s]) := by
  intro μ
  refine' Spec.def1 (x1 := S "tree") ?ho ?hcd ?hb ?h1 ?c1 ?c2 ?c3 ?cell ?h
  ktr_unf
  intro C hC
  fin_run
  all_goals (simp [Ord.dat])
theorem no_call {n : Nat} {f : Str} {ts : List Dat} {la : List Ord} (ha : RO pv prog w n ts la) (h1 : la.length ≤ 10000) (h2 : ts.length ≤ 10000) : NO pv prog w (n + 1) (.tuple [dS "call", .str f, .list ts]) (la ++ [.call f ts.length true]) := by
  intro μ
  refine' Spec.def1 (x1 := S "tree") ?ho ?hcd ?hb ?h1 ?c1 ?c2 ?c3 ?cell ?h
  ktr_unf
  intro C hC
  fin_run
  all_goals (simp [Ord.dat])
theorem no_item {n : Nat} {o : Dat} {ts : List Dat} {la lb : List Ord} (ha : VO pv prog w n o la) (hb : RO pv prog w n ts lb) (h1 : la.length ≤ 10000) (h2 : lb.length ≤ 10000) (h3 : ts.length ≤ 10000) : NO pv prog w (n + 1) (.tuple [dS "item", o, .list ts]) (la ++ lb ++ [.item ts.length true]) := by
  intro μ
  refine' Spec.def1 (x1 := S "tree") ?ho ?hcd ?hb ?h1 ?c1 ?c2 ?c3 ?cell ?h
  ktr_unf
  intro C hC
  fin_run
  all_goals (simp [Ord.dat])
theorem no_dollar {n : Nat} {a : Dat} {la : List Ord} (ha : VO pv prog w n a la) (h1 : la.length ≤ 10000) : NO pv prog w (n + 1) (.tuple [dS "unary", dS "$", a]) (la ++ [.indirect]) := by
  intro μ
  refine' Spec.def1 (x1 := S "tree") ?ho ?hcd ?hb ?h1 ?c1 ?c2 ?c3 ?cell ?h
  ktr_unf
  intro C hC
  fin_run
  all_goals (simp [Ord.dat])
theorem no_kw {n : Nat} {s : Str} : NO pv prog w (n + 1) (.tuple [dS "unary", dS "&", .tuple [dS "name", .str s]]) ([.kw s]) := by
  intro μ
  refine' Spec.def1 (x1 := S "tree") ?ho ?hcd ?hb ?h1 ?c1 ?c2 ?c3 ?cell ?h
  ktr_unf
  intro C hC
  fin_run
  all_goals (simp [Ord.dat])
end
section
variable {pv : Program}
variable {prog : Program} {w : World}
theorem take_flat {α : Type} (l : List (List α)) (i : Nat) (x : List α) (h : l[i]? = some x) : (l.take (i + 1)).flatten = (l.take i).flatten ++ x := by
  rw [List.take_add_one, h]; simp
theorem ro_spec {n : Nat} {ts : List Dat} {oss : List (List Ord)} (hlen : oss.length = ts.length) (h : ∀ (i : Nat) t os, ts[i]? = some t → oss[i]? = some os → VO pv prog w n t os) (hz : ∀ os ∈ oss, os.length ≤ 10000) (hz2 : oss.flatten.length ≤ 10000) :
    RO pv prog w (n + 1) ts oss.flatten := by
  intro μ
  refine' Spec.def1 (x1 := S "trees") ?ho ?hcd ?hb ?h1 ?c1 ?c2 ?c3 ?cell ?h
  (case ho => k_is); (case hcd => k_is); (case hb => intros; rfl); (case h1 => rfl); (case c1 => rfl); (case c2 => rfl); (case c3 => rfl); (case cell => decide)
  intro C hC
  refine Ex.assignN EvN.nil fun a => ?_
  refine Ex.forG (fun _ => [(S "found", .r a), (S "trees", .d (.list ts))]) (fun i => (a, .l (((oss.take i).flatten).map Ord.dat)) :: μ) (fun i d => [(S "tree", .d d), (S "found", .r a), (S "trees", .d (.list ts))])
    (Ev.loc rfl rfl (by decide)) (fun _ _ e => e) (fun C' hC' _ i d hd φ => Tgt.name) (fun C' hC' _ i d hd φ => ?_) ?_ Quiet.name
  · have hi : i < ts.length := (List.getElem?_eq_some_iff.mp hd).1
    have ho : oss[i]? = some oss[i] := List.getElem?_eq_getElem (by omega)
    have hs := h i d _ hd ho
    have hm := hz oss[i] (List.getElem_mem _)
    refine Ex.expr (Ev.extend (Ev.loc rfl rfl (by decide)) .head (Ev.callP (by k_is) (by k_is) (EvL.cons (Ev.loc rfl rfl (by decide)) EvL.nil) hs (by omega)) .head ?_) ?_
    · rw [List.length_map, List.length_map]
      have : (oss.take i).flatten.length ≤ oss.flatten.length := by
        have e := congrArg (fun l => (List.flatten l).length) (List.take_append_drop i oss)
        simp only [List.flatten_append, List.length_append] at e
        omega
      omega
    · rw [← List.map_append, ← take_flat oss i _ ho]
      exact Ex.nilK ⟨rfl, rfl, trivial⟩
  · have e : oss.take ts.length = oss := by rw [← hlen, List.take_length]
    rw [e]
    exact Ex.retFreeze rfl
mutual
theorem vo_all : ∀ t : Vt, t.ok → t.sz ≤ 1000 → VO pv prog w (4 * t.sz) t.dat t.vo
  | .null, _, _ => by simp only [Vt.sz, Vt.dat, Vt.vo]; exact vo_null (n := 3)
  | .text s, _, _ => by simp only [Vt.sz, Vt.dat, Vt.vo]; exact vo_text (n := 3)
  | .whole i, _, _ => by simp only [Vt.sz, Vt.dat, Vt.vo]; exact vo_whole (n := 3)
  | .name s, _, _ => by simp only [Vt.sz, Vt.dat, Vt.vo]; exact vo_name (n := 3)
  | .join a b, hk, hz => by
    simp only [Vt.sz, Vt.dat, Vt.vo] at hz ⊢
    have ha := vo_all a hk.1 (by omega)
    have hb := vo_all b hk.2 (by omega)
    have la := a.vo_len; have lb := b.vo_len
    exact (vo_join (n := 4 * a.sz + 4 * b.sz) (ha.mono (by omega)) (hb.mono (by omega)) (by omega) (by omega)).mono (by omega)
  | .bin op a b, hk, hz => by
    simp only [Vt.sz, Vt.dat, Vt.vo, Vt.ok] at hk hz ⊢
    have ha := vo_all a hk.2.1 (by omega)
    have hb := vo_all b hk.2.2 (by omega)
    have la := a.vo_len; have lb := b.vo_len
    exact (vo_binary (bo_op (n := 4 * a.sz + 4 * b.sz) (ha.mono (by omega)) (hb.mono (by omega)) hk.1.2.1 hk.1.2.2 (by omega) (by omega))).mono (by omega)
  | .given op a b, hk, hz => by
    simp only [Vt.sz, Vt.dat, Vt.vo, Vt.ok] at hk hz ⊢
    have ha := vo_all a hk.2.1 (by omega)
    have hb := no_all b hk.2.2 (by omega)
    have la := a.vo_len; have lb := b.no_len
    rcases hk.1 with rfl | rfl
    · exact (vo_binary (bo_dot (n := 4 * a.sz + 4 * b.sz) (ha.mono (by omega)) (hb.mono (by omega)) (by omega) (by omega))).mono (by omega)
    · exact (vo_binary (bo_dollar (n := 4 * a.sz + 4 * b.sz) (ha.mono (by omega)) (hb.mono (by omega)) (by omega) (by omega))).mono (by omega)
  | .neg a, hk, hz => by
    simp only [Vt.sz, Vt.dat, Vt.vo, Vt.ok] at hk hz ⊢
    have ha := vo_all a hk (by omega)
    have la := a.vo_len
    exact (vo_unary (uo_neg ha (by omega))).mono (by omega)
  | .dollar a, hk, hz => by
    simp only [Vt.sz, Vt.dat, Vt.vo, Vt.ok] at hk hz ⊢
    have ha := vo_all a hk (by omega)
    have la := a.vo_len
    exact (vo_unary (uo_dollar ha (by omega))).mono (by omega)
  | .star a, hk, hz => by
    simp only [Vt.sz, Vt.dat, Vt.vo, Vt.ok] at hk hz ⊢
    exact (vo_unary (uo_star (n := 1))).mono (by omega)
  | .opt a, hk, hz => by
    simp only [Vt.sz, Vt.dat, Vt.vo, Vt.ok] at hk hz ⊢
    have ha := vo_all a hk (by omega)
    have la := a.vo_len
    exact (vo_unary (uo_opt ha (by omega))).mono (by omega)
  | .dot n, hk, hz => by
    simp only [Vt.sz, Vt.dat, Vt.vo, Vt.ok] at hk hz ⊢
    have ha := no_all n hk (by omega)
    have la := n.no_len
    exact (vo_unary (uo_dot ha (by omega))).mono (by omega)
  | .at n, hk, hz => by
    simp only [Vt.sz, Vt.dat, Vt.vo, Vt.ok] at hk hz ⊢
    have ha := no_all n hk (by omega)
    have la := n.no_len
    exact (vo_unary (uo_at ha (by omega))).mono (by omega)
  | .call f as, hk, hz => by
    simp only [Vt.sz, Vt.dat, Vt.vo, Vt.ok] at hk hz ⊢
    have ha := vl_all as hk.2 (by omega)
    have la := as.vl_len; have ln := as.len_le; have ld := as.dats_length
    rw [← ld]
    exact (vo_call ha (by omega) (by omega)).mono (by omega)
  | .item o ks, hk, hz => by
    simp only [Vt.sz, Vt.dat, Vt.vo, Vt.ok] at hk hz ⊢
    have ha := vl_all ks hk.2 (by omega)
    have hb := vo_all o hk.1 (by omega)
    have la := ks.vl_len; have ln := ks.len_le; have ld := ks.dats_length; have lo := o.vo_len
    rw [← ld]
    exact (vo_item (n := 4 * o.sz + 4 * ks.sz + 1) (hb.mono (by omega)) (ha.mono (by omega)) (by omega) (by omega) (by omega)).mono (by omega)
  | .kw s, hk, hz => by
    simp only [Vt.sz, Vt.dat, Vt.vo]
    exact (vo_unary (uo_kw (no_kw (n := 0)))).mono (by omega)
  | .not a as, hk, hz => by
    simp only [Vt.sz, Vt.dat, Vt.vo, Vt.ok] at hk hz ⊢
    have ha := vo_all a hk.1 (by omega)
    have hs := vl_all as hk.2 (by omega)
    have la := a.vo_len; have ls := as.vl_len; have ln := as.len_le; have ld := as.dats_length
    rw [← ld]
    have hc := vo_call (f := S "LOSES") hs (by omega) (by omega)
    have hj := vo_join (n := 4 * a.sz + 4 * as.sz + 2) (ha.mono (by omega)) (hc.mono (by omega)) (by omega) (by simp only [List.length_append, List.length_cons, List.length_nil]; omega)
    exact (vo_unary (uo_not hj (by simp only [List.length_append, List.length_cons, List.length_nil]; omega))).mono (by omega)
theorem no_all : ∀ t : Nt, t.ok → t.sz ≤ 1000 → NO pv prog w (4 * t.sz) t.dat t.no
  | .name s, _, _ => by simp only [Nt.sz, Nt.dat, Nt.no]; exact no_name (n := 3)
  | .kw s, _, _ => by simp only [Nt.sz, Nt.dat, Nt.no]; exact no_kw (n := 3)
  | .call f as, hk, hz => by
    simp only [Nt.sz, Nt.dat, Nt.no, Nt.ok] at hk hz ⊢
    have ha := vl_all as hk.2 (by omega)
    have la := as.vl_len; have ln := as.len_le; have ld := as.dats_length
    rw [← ld]
    exact (no_call ha (by omega) (by omega)).mono (by omega)
  | .item o ks, hk, hz => by
    simp only [Nt.sz, Nt.dat, Nt.no, Nt.ok] at hk hz ⊢
    have ha := vl_all ks hk.2 (by omega)
    have hb := vo_all o hk.1 (by omega)
    have la := ks.vl_len; have ln := ks.len_le; have ld := ks.dats_length; have lo := o.vo_len
    rw [← ld]
    exact (no_item (n := 4 * o.sz + 4 * ks.sz + 1) (hb.mono (by omega)) (ha.mono (by omega)) (by omega) (by omega) (by omega)).mono (by omega)
  | .dollar a, hk, hz => by
    simp only [Nt.sz, Nt.dat, Nt.no, Nt.ok] at hk hz ⊢
    have ha := vo_all a hk (by omega)
    have la := a.vo_len
    exact (no_dollar ha (by omega)).mono (by omega)
theorem vl_all (l : Vl) (hk : l.ok) (hz : l.sz ≤ 1000) : RO pv prog w (4 * l.sz + 1) l.dats l.vl := by
  obtain ⟨oss, h1, h2, h3, h4⟩ := vl_each l hk hz
  have hl := l.vl_len
  rw [← h2] at hl ⊢
  refine ro_spec h1 h3 (fun os ho => h4 os ho) (by omega)
theorem vl_each : ∀ l : Vl, l.ok → l.sz ≤ 1000 → ∃ oss : List (List Ord), oss.length = l.dats.length ∧ oss.flatten = l.vl ∧ (∀ (i : Nat) t os, l.dats[i]? = some t → oss[i]? = some os → VO pv prog w (4 * l.sz) t os) ∧ ∀ os ∈ oss, os.length ≤ 10000
  | .nil, _, _ => ⟨[], by simp [Vl.dats], by simp [Vl.vl], by simp, by simp⟩
  | .cons a l, hk, hz => by
    simp only [Vl.sz, Vl.dats, Vl.vl, Vl.ok] at hk hz ⊢
    obtain ⟨oss, h1, h2, h3, h4⟩ := vl_each l hk.2 (by omega)
    have ha := vo_all a hk.1 (by omega)
    have la := a.vo_len
    refine ⟨a.vo :: oss, by simp [h1], by simp [h2], ?_, ?_⟩
    · intro i t os e1 e2
      cases i with
      | zero =>
        simp only [List.getElem?_cons_zero, Option.some.injEq] at e1 e2
        subst e1; subst e2
        exact ha.mono (by omega)
      | succ i =>
        simp only [List.getElem?_cons_succ] at e1 e2
        exact (h3 i t os e1 e2).mono (by omega)
    · intro os ho
      rcases List.mem_cons.mp ho with rfl | ho
      · omega
      · exact h4 os ho
end
end
section
variable {pv : Program}
variable {prog : Program} {w : World}
abbrev WA (pv prog : Program) (w : World) (n : Nat) (t : Dat) (ds : List Dat) : Prop := SpecP prog w (KK w.params) pv n 362 [.d t] (.d (.list ds))
abbrev EN (pv prog : Program) (w : World) (n : Nat) (t : Dat) (b : Bool) (vs : List Dat) (ds : List Dat) : Prop := SpecP prog w (KK w.params) pv n 369 [.d t, .d (.bool b), .d (.list vs)] (.d (.list ds))
theorem wa_bin {n : Nat} {op : Str} {a b : Dat} {r : Bool} (hr : ([S ".", S "$"].any fun y => y == op) = r) : WA pv prog w (n + 1) (.tuple [dS "binary", .str op, a, b]) [.tuple [a, .bool false], .tuple [b, .bool r]] := by
  intro μ
  refine' Spec.def1 (x1 := S "tree") ?ho ?hcd ?hb ?h1 ?c1 ?c2 ?c3 ?cell ?h
  ktr_unf
  intro C hC
  fin_run
  all_goals (simpa [strsOf] using hr)
theorem wa_join {n : Nat} {a b : Dat} : WA pv prog w (n + 1) (.tuple [dS "join", a, b]) [.tuple [a, .bool false], .tuple [b, .bool false]] := by
  intro μ
  refine' Spec.def1 (x1 := S "tree") ?ho ?hcd ?hb ?h1 ?c1 ?c2 ?c3 ?cell ?h
  ktr_unf
  intro C hC
  fin_run
  all_goals (rfl)
theorem wa_un {n : Nat} {op : Str} {a : Dat} {r : Bool} (hr : ([S ".", S "@"].any fun y => y == op) = r) : WA pv prog w (n + 1) (.tuple [dS "unary", .str op, a]) [.tuple [a, .bool r]] := by
  intro μ
  refine' Spec.def1 (x1 := S "tree") ?ho ?hcd ?hb ?h1 ?c1 ?c2 ?c3 ?cell ?h
  ktr_unf
  intro C hC
  fin_run
  all_goals (simpa [strsOf] using hr)
theorem en_call {n : Nat} {f : Str} {b : Bool} {x : Dat} {vs : List Dat} : EN pv prog w (n + 1) (.tuple [dS "call", .str f, x]) b vs [.list [.tuple [dS "call", .list [.str f, .list vs, .bool b]]]] := by
  intro μ
  refine' Spec.def3 (x1 := S "tree") (x2 := S "as_name") (x3 := S "values") ?ho ?hcd ?hb ?h1 ?h2 ?h3 ?c1 ?c2 ?c3 ?cell ?h
  ktr_unf
  intro C hC
  fin_run
  all_goals (rfl)
theorem en_item {n : Nat} {b : Bool} {o x v : Dat} {vs : List Dat} (hz : vs.length ≤ 1000) : EN pv prog w (n + 1) (.tuple [dS "item", o, x]) b (v :: vs) [.list [.tuple [dS "item", .list [v, .list vs, .bool b]]]] := by
  intro μ
  refine' Spec.def3 (x1 := S "tree") (x2 := S "as_name") (x3 := S "values") ?ho ?hcd ?hb ?h1 ?h2 ?h3 ?c1 ?c2 ?c3 ?cell ?h
  ktr_unf
  intro C hC
  fin_run
  all_goals (rfl)
theorem en_join {n : Nat} {b : Bool} {x y : Dat} {vs : List Dat} : EN pv prog w (n + 1) (.tuple [dS "join", x, y]) b vs [.list [.tuple [dS "operator", .list [dS " ", .list vs]]]] := by
  intro μ
  refine' Spec.def3 (x1 := S "tree") (x2 := S "as_name") (x3 := S "values") ?ho ?hcd ?hb ?h1 ?h2 ?h3 ?c1 ?c2 ?c3 ?cell ?h
  ktr_unf
  intro C hC
  fin_run
  all_goals (rfl)
theorem en_given {n : Nat} {b : Bool} {op : Str} {x y : Dat} {vs : List Dat} (hop : ([S ".", S "$"].any fun y => y == op) = true) (hz : vs.length ≤ 1000) : EN pv prog w (n + 1) (.tuple [dS "binary", .str op, x, y]) b vs [.list [.tuple [dS "given", .list (.str op :: vs)]]] := by
  intro μ
  refine' Spec.def3 (x1 := S "tree") (x2 := S "as_name") (x3 := S "values") ?ho ?hcd ?hb ?h1 ?h2 ?h3 ?c1 ?c2 ?c3 ?cell ?h
  ktr_unf
  intro C hC
  fin_run
  all_goals (rfl)
theorem en_bin {n : Nat} {b : Bool} {op : Str} {x y : Dat} {vs : List Dat} (hop : ([S ".", S "$"].any fun y => y == op) = false) : EN pv prog w (n + 1) (.tuple [dS "binary", .str op, x, y]) b vs [.list [.tuple [dS "operator", .list [.str op, .list vs]]]] := by
  intro μ
  refine' Spec.def3 (x1 := S "tree") (x2 := S "as_name") (x3 := S "values") ?ho ?hcd ?hb ?h1 ?h2 ?h3 ?c1 ?c2 ?c3 ?cell ?h
  ktr_unf
  intro C hC
  fin_run
  all_goals (rfl)
theorem en_dolN {n : Nat} {x : Dat} {vs : List Dat} : EN pv prog w (n + 1) (.tuple [dS "unary", dS "$", x]) true vs [.list [.tuple [dS "indirect", .list vs]]] := by
  intro μ
  refine' Spec.def3 (x1 := S "tree") (x2 := S "as_name") (x3 := S "values") ?ho ?hcd ?hb ?h1 ?h2 ?h3 ?c1 ?c2 ?c3 ?cell ?h
  ktr_unf
  intro C hC
  fin_run
  all_goals (rfl)
theorem en_dolV {n : Nat} {x : Dat} {vs : List Dat} : EN pv prog w (n + 1) (.tuple [dS "unary", dS "$", x]) false vs [.list [.tuple [dS "indirect", .list vs]], .list [.tuple [dS "value", .list [.tuple [dS "indirect", .list vs]]]]] := by
  intro μ
  refine' Spec.def3 (x1 := S "tree") (x2 := S "as_name") (x3 := S "values") ?ho ?hcd ?hb ?h1 ?h2 ?h3 ?c1 ?c2 ?c3 ?cell ?h
  ktr_unf
  intro C hC
  fin_run
  all_goals (rfl)
theorem wa_call {n : Nat} {f : Str} {ts : List Dat} (hz : ts.length ≤ 1000) : WA pv prog w (n + 1) (.tuple [dS "call", .str f, .list ts]) (ts.map fun d => .tuple [d, .bool false]) := by
  intro μ
  refine' Spec.def1 (x1 := S "tree") ?ho ?hcd ?hb ?h1 ?c1 ?c2 ?c3 ?cell ?h
  ktr_unf
  intro C hC
  fin_run
  refine Ex.retE (Ev.compL (fun _ => μ) (fun i => .tuple [([] ++ ts).getD i .none, .bool false]) (by cell_call) (by show ([] ++ ts).length ≤ 1000000; simp only [List.nil_append]; omega) (fun i d hd φ => ?_) (closureFor_none (by decide)) (by decide) rfl (by decide) rfl) ?_
  · have e : ([] ++ ts).getD i .none = d := by rw [List.getD_eq_getElem?_getD, hd]; rfl
    rw [e]
    exact ElEv.pair rfl (fun _ => rfl)
  · rw [map_getD (fun d => Dat.tuple [d, .bool false])]; rfl
theorem wa_item {n : Nat} {o : Dat} {ts : List Dat} (hz : ts.length ≤ 1000) : WA pv prog w (n + 1) (.tuple [dS "item", o, .list ts]) ((o :: ts).map fun d => .tuple [d, .bool false]) := by
  intro μ
  refine' Spec.def1 (x1 := S "tree") ?ho ?hcd ?hb ?h1 ?c1 ?c2 ?c3 ?cell ?h
  ktr_unf
  intro C hC
  fin_run
  refine Ex.retE (Ev.compL (fun _ => μ) (fun i => .tuple [([o] ++ ts).getD i .none, .bool false]) (by cell_call) (by show ([o] ++ ts).length ≤ 1000000; simp only [List.length_append, List.length_cons, List.length_nil]; omega) (fun i d hd φ => ?_) (closureFor_none (by decide)) (by decide) rfl (by decide) rfl) ?_
  · have e : ([o] ++ ts).getD i .none = d := by rw [List.getD_eq_getElem?_getD, hd]; rfl
    rw [e]
    exact ElEv.pair rfl (fun _ => rfl)
  · rw [map_getD (fun d => Dat.tuple [d, .bool false])]; rfl
abbrev endsL (vs : List Dat) : List (Str × Dat) := [(S ".", .list []), (S "?", .list [.list [], .list [dS ""]]), (S "@", .list [.list [.tuple [dS "cursor", .list vs]]])]
theorem en_get {n : Nat} {op : Str} {x : Dat} {b : Bool} {vs ds : List Dat} (hop : (op == S "$") = false) (hr : (valueAtD (endsL vs) op).getD (.list [.list [.tuple [dS "operator", .list [.str op, .list vs]]]]) = .list ds) :
    EN pv prog w (n + 1) (.tuple [dS "unary", .str op, x]) b vs ds := by
  intro μ
  refine' Spec.def3 (x1 := S "tree") (x2 := S "as_name") (x3 := S "values") ?ho ?hcd ?hb ?h1 ?h2 ?h3 ?c1 ?c2 ?c3 ?cell ?h
  ktr_unf
  intro C hC
  fin_run
  refine Ex.ret ?_
  with_reducible refine' Ev.dictGet (enc := Dat.str) (a := op) (knd := strKind prog w) (L := endsL vs) ?ga ?gb ?gc ?gd ?ge ?gf ?gg
  (case ga => exact enc_str)
  (case gb =>
    with_reducible refine' Ev.dict (strKind prog w) Dat.str ?ha (endsL vs) ?hb ?hc ?hd ?he ?hf ?hg
    (case ha => exact enc_str)
    (case hb =>
      intro a o
      simp only [List.map_cons, List.map_nil]
      cell_call)
    (case hc => (show [S ".", S "?", S "@"].Nodup; decide))
    (case hd => rfl)
    (case he => rfl)
    (case hf => simp)
    (case hg => decide))
  (case gc => cell_call)
  (case gd => cell_call)
  (case ge => exact hr)
  (case gf => rfl)
  (case gg => rfl)
end
section
variable {pv : Program}
variable {prog : Program} {w : World}
abbrev ST (pv prog : Program) (w : World) (n : Nat) (t : Dat) (b : Bool) (u : List Dat) (ss : List (List Dat)) : Prop := SpecP prog w (KK w.params) pv n 374 [.d t, .d (.bool b), .d (.list u)] (.d (.list (ss.map Dat.list)))
structure Pt where
  t : Dat
  b : Bool
  S : List Dat → List (List Dat)
  v : Dat
def accP : List Pt → List Dat → List (List Dat)
  | [], _ => []
  | p :: ps, u => p.S u ++ accP ps (u ++ [p.v])
theorem accP_snoc (p : Pt) : ∀ (l : List Pt) (u : List Dat), accP (l ++ [p]) u = accP l u ++ p.S (u ++ l.map (·.v))
  | [], u => by simp [accP]
  | q :: l, u => by simp [accP, accP_snoc p l]
theorem accP_take {l : List Pt} {i : Nat} {p : Pt} (h : l[i]? = some p) (u : List Dat) : accP (l.take (i + 1)) u = accP (l.take i) u ++ p.S (u ++ (l.take i).map (·.v)) := by
  rw [List.take_add_one, h]; exact accP_snoc _ _ _
theorem take_map_v {l : List Pt} {i : Nat} {p : Pt} (h : l[i]? = some p) : (l.take (i + 1)).map (·.v) = (l.take i).map (·.v) ++ [p.v] := by
  rw [List.take_add_one, h]; simp
abbrev Pt.d (p : Pt) : Dat := .tuple [p.t, .bool p.b]
theorem st_null {n : Nat} {u : List Dat} {b : Bool} (hz : u.length ≤ 1000) : ST pv prog w (n + 1) (.tuple [dS "null"]) b u [u ++ [dS ""]] := by
  intro μ
  refine' Spec.def3c (x1 := S "tree") (x2 := S "as_name") (x3 := S "under") ?ho ?hcd ?hb ?h1 ?h2 ?h3 ?nd ?c1 ?c2 ?c3 ?h
  (case ho => k_is); (case hcd => k_is); (case hb => intros; rfl); (case h1 => rfl); (case h2 => rfl); (case h3 => rfl); (case nd => decide +kernel); (case c1 => rfl); (case c2 => rfl); (case c3 => rfl)
  intro C hC hcv
  have hcu : C.cv.lookup (Str.ofString "under") = some (.d (.list u)) := by rw [hcv]; rfl
  fin_run
  all_goals (simp)
theorem st_text {n : Nat} {u : List Dat} {b : Bool} {s : Str} (hz : u.length ≤ 1000) : ST pv prog w (n + 1) (.tuple [dS "text", .str s]) b u [u ++ [.str s]] := by
  intro μ
  refine' Spec.def3c (x1 := S "tree") (x2 := S "as_name") (x3 := S "under") ?ho ?hcd ?hb ?h1 ?h2 ?h3 ?nd ?c1 ?c2 ?c3 ?h
  (case ho => k_is); (case hcd => k_is); (case hb => intros; rfl); (case h1 => rfl); (case h2 => rfl); (case h3 => rfl); (case nd => decide +kernel); (case c1 => rfl); (case c2 => rfl); (case c3 => rfl)
  intro C hC hcv
  have hcu : C.cv.lookup (Str.ofString "under") = some (.d (.list u)) := by rw [hcv]; rfl
  fin_run
  all_goals (simp)
theorem st_whole {n : Nat} {u : List Dat} {b : Bool} {i : Int} (hz : u.length ≤ 1000) : ST pv prog w (n + 1) (.tuple [dS "whole", .int i]) b u [u ++ [.int i]] := by
  intro μ
  refine' Spec.def3c (x1 := S "tree") (x2 := S "as_name") (x3 := S "under") ?ho ?hcd ?hb ?h1 ?h2 ?h3 ?nd ?c1 ?c2 ?c3 ?h
  (case ho => k_is); (case hcd => k_is); (case hb => intros; rfl); (case h1 => rfl); (case h2 => rfl); (case h3 => rfl); (case nd => decide +kernel); (case c1 => rfl); (case c2 => rfl); (case c3 => rfl)
  intro C hC hcv
  have hcu : C.cv.lookup (Str.ofString "under") = some (.d (.list u)) := by rw [hcv]; rfl
  fin_run
  all_goals (simp)
theorem st_nameV {n : Nat} {u : List Dat} {s : Str} (hz : u.length ≤ 1000) : ST pv prog w (n + 1) (.tuple [dS "name", .str s]) false u [u ++ [.tuple [dS "read", .list [.str s]]]] := by
  intro μ
  refine' Spec.def3c (x1 := S "tree") (x2 := S "as_name") (x3 := S "under") ?ho ?hcd ?hb ?h1 ?h2 ?h3 ?nd ?c1 ?c2 ?c3 ?h
  (case ho => k_is); (case hcd => k_is); (case hb => intros; rfl); (case h1 => rfl); (case h2 => rfl); (case h3 => rfl); (case nd => decide +kernel); (case c1 => rfl); (case c2 => rfl); (case c3 => rfl)
  intro C hC hcv
  have hcu : C.cv.lookup (Str.ofString "under") = some (.d (.list u)) := by rw [hcv]; rfl
  fin_run
  all_goals (simp)
theorem st_nameN {n : Nat} {u : List Dat} {s : Str} (hz : u.length ≤ 1000) : ST pv prog w (n + 1) (.tuple [dS "name", .str s]) true u [u ++ [.tuple [dS "var", .list [.str s]]]] := by
  intro μ
  refine' Spec.def3c (x1 := S "tree") (x2 := S "as_name") (x3 := S "under") ?ho ?hcd ?hb ?h1 ?h2 ?h3 ?nd ?c1 ?c2 ?c3 ?h
  (case ho => k_is); (case hcd => k_is); (case hb => intros; rfl); (case h1 => rfl); (case h2 => rfl); (case h3 => rfl); (case nd => decide +kernel); (case c1 => rfl); (case c2 => rfl); (case c3 => rfl)
  intro C hC hcv
  have hcu : C.cv.lookup (Str.ofString "under") = some (.d (.list u)) := by rw [hcv]; rfl
  fin_run
  all_goals (simp)
theorem st_star {n : Nat} {u : List Dat} {a : Dat} {b : Bool} (hz : u.length ≤ 1000) : ST pv prog w (n + 1) (.tuple [dS "unary", dS "*", a]) b u [u ++ [.tuple [dS "delayed", .list [a]]]] := by
  intro μ
  refine' Spec.def3c (x1 := S "tree") (x2 := S "as_name") (x3 := S "under") ?ho ?hcd ?hb ?h1 ?h2 ?h3 ?nd ?c1 ?c2 ?c3 ?h
  (case ho => k_is); (case hcd => k_is); (case hb => intros; rfl); (case h1 => rfl); (case h2 => rfl); (case h3 => rfl); (case nd => decide +kernel); (case c1 => rfl); (case c2 => rfl); (case c3 => rfl)
  intro C hC hcv
  have hcu : C.cv.lookup (Str.ofString "under") = some (.d (.list u)) := by rw [hcv]; rfl
  fin_run
  all_goals (simp)
theorem st_kwV {n : Nat} {u : List Dat} {s : Str} (hz : u.length ≤ 1000) : ST pv prog w (n + 1) (.tuple [dS "unary", dS "&", .tuple [dS "name", .str s]]) false u [u ++ [kwD s], u ++ [valD (kwD s)]] := by
  intro μ
  refine' Spec.def3c (x1 := S "tree") (x2 := S "as_name") (x3 := S "under") ?ho ?hcd ?hb ?h1 ?h2 ?h3 ?nd ?c1 ?c2 ?c3 ?h
  (case ho => k_is); (case hcd => k_is); (case hb => intros; rfl); (case h1 => rfl); (case h2 => rfl); (case h3 => rfl); (case nd => decide +kernel); (case c1 => rfl); (case c2 => rfl); (case c3 => rfl)
  intro C hC hcv
  have hcu : C.cv.lookup (Str.ofString "under") = some (.d (.list u)) := by rw [hcv]; rfl
  fin_run
  all_goals (simp)
theorem st_kwN {n : Nat} {u : List Dat} {s : Str} (hz : u.length ≤ 1000) : ST pv prog w (n + 1) (.tuple [dS "unary", dS "&", .tuple [dS "name", .str s]]) true u [u ++ [kwD s]] := by
  intro μ
  refine' Spec.def3c (x1 := S "tree") (x2 := S "as_name") (x3 := S "under") ?ho ?hcd ?hb ?h1 ?h2 ?h3 ?nd ?c1 ?c2 ?c3 ?h
  (case ho => k_is); (case hcd => k_is); (case hb => intros; rfl); (case h1 => rfl); (case h2 => rfl); (case h3 => rfl); (case nd => decide +kernel); (case c1 => rfl); (case c2 => rfl); (case c3 => rfl)
  intro C hC hcv
  have hcu : C.cv.lookup (Str.ofString "under") = some (.d (.list u)) := by rw [hcv]; rfl
  fin_run
  all_goals (simp)
theorem datL {α β : Type} {f : α → β} {l : List α} {i : Nat} {d : β} (h : (l.map f)[i]? = some d) : ∃ p, l[i]? = some p ∧ d = f p := by
  rw [List.getElem?_map] at h
  cases e : l[i]? with
  | none => rw [e] at h; cases h
  | some p => rw [e] at h; cases h; exact ⟨p, rfl, rfl⟩
theorem st_gen {n : Nat} {kind : Str} {ds u : List Dat} {b : Bool} {ps : List Pt} {es : List (List Dat)} (h1 : ([S "null", S "text", S "whole"].any fun y => y == kind) = false) (h2 : (kind == Str.ofString "name") = false) (h3 : (kind == Str.ofString "unary") = false)
    (hw : WA pv prog w n (.tuple (.str kind :: ds)) (ps.map Pt.d))
    (hs : ∀ (i : Nat) p, ps[i]? = some p → ST pv prog w n p.t p.b (u ++ (ps.take i).map (·.v)) (p.S (u ++ (ps.take i).map (·.v))))
    (hl : ∀ p ∈ ps, ∀ u, ∃ l, p.S u = l ++ [u ++ [p.v]])
    (he : EN pv prog w n (.tuple (.str kind :: ds)) b (ps.map (·.v)) (es.map Dat.list))
    (hz : u.length ≤ 1000) (hp : ps.length ≤ 1000) (hes : es.length ≤ 1000) (hf : ∀ e ∈ es, e.length ≤ 1000) (hacc : ∀ i, (accP (ps.take i) u).length ≤ 100000) :
    ST pv prog w (n + 1) (.tuple (.str kind :: ds)) b u (accP ps u ++ es.map (u ++ ·)) := by
  intro μ
  refine' Spec.def3c (x1 := S "tree") (x2 := S "as_name") (x3 := S "under") ?ho ?hcd ?hb ?h1 ?h2 ?h3 ?nd ?c1 ?c2 ?c3 ?h
  (case ho => k_is); (case hcd => k_is); (case hb => intros; rfl); (case h1 => rfl); (case h2 => rfl); (case h3 => rfl); (case nd => decide +kernel); (case c1 => rfl); (case c2 => rfl); (case c3 => rfl)
  intro C hC hcv
  have hcu : C.cv.lookup (Str.ofString "under") = some (.d (.list u)) := by rw [hcv]; rfl
  fin_run
  refine Ex.forG (fun i => [(S "values", .d (.list ((ps.take i).map (·.v)))), (S "found", .d (.list ((([] : List (List Dat)) ++ accP (ps.take i) u).map Dat.list))), (S "is_not", .d (.bool false)), (S "parts", .d (.list (ps.map Pt.d))), (S "as_name", .d (.bool b)), (S "tree", .d (.tuple (.str kind :: ds)))]) (fun _ => μ)
    (fun i _ => (S "is_wanted", .d (.bool (ps.getD i ⟨.none, false, fun _ => [], .none⟩).b)) :: (S "part", .d (ps.getD i ⟨.none, false, fun _ => [], .none⟩).t) :: [(S "values", .d (.list ((ps.take i).map (·.v)))), (S "found", .d (.list ((([] : List (List Dat)) ++ accP (ps.take i) u).map Dat.list))), (S "is_not", .d (.bool false)), (S "parts", .d (.list (ps.map Pt.d))), (S "as_name", .d (.bool b)), (S "tree", .d (.tuple (.str kind :: ds)))])
    (Ev.loc rfl rfl (by decide)) (AllLk.use ⟨rfl, rfl, rfl, rfl, rfl, rfl, trivial⟩) (fun C' hC' hv' i d hd φ => ?_) (fun C' hC' hv' i d hd φ => ?_) ?_ Quiet.tup
  · obtain ⟨q, hq, rfl⟩ := datL hd
    have eq : ps.getD i ⟨.none, false, fun _ => [], .none⟩ = q := by rw [List.getD_eq_getElem?_getD, hq]; rfl
    rw [eq]
    exact Tgt.tup2
  · obtain ⟨q, hq, rfl⟩ := datL hd
    have eq : ps.getD i ⟨.none, false, fun _ => [], .none⟩ = q := by rw [List.getD_eq_getElem?_getD, hq]; rfl
    rw [eq]
    have hsi := hs i q hq
    have hA1 := hacc i
    have hA2 := hacc (i + 1)
    have eA := accP_take hq u
    have eV := take_map_v hq
    have hV : ((ps.take i).map (·.v)).length ≤ 1000 := by rw [List.length_map, List.length_take]; omega
    obtain ⟨l, el⟩ := hl q (List.mem_of_getElem? hq) (u ++ (ps.take i).map (·.v))
    have hcu' : C'.cv.lookup (Str.ofString "under") = some (.d (.list u)) := by rw [hv']; exact hcu
    rw [eA, List.length_append] at hA2
    show Ex prog w C' _ _ _ (.next [(S "values", .d (.list ((ps.take (i + 1)).map (·.v)))), (S "found", .d (.list ((([] : List (List Dat)) ++ accP (ps.take (i + 1)) u).map Dat.list))), (S "is_not", .d (.bool false)), (S "parts", .d (.list (ps.map Pt.d))), (S "as_name", .d (.bool b)), (S "tree", .d (.tuple (.str kind :: ds)))] (μ ++ φ))
    rw [eA, eV]
    generalize hvals : (ps.take i).map (·.v) = vals at *
    generalize hA : accP (ps.take i) u = A at *
    refine Ex.assign (Ev.conv (X := .d (.list ((([] : List (List Dat)) ++ (A ++ q.S (u ++ vals))).map Dat.list))) (Ev.addL (Ev.loc rfl rfl (by decide)) (Ev.callP (by k_is) (by k_is) (EvL.cons (Ev.loc rfl rfl (by decide)) (EvL.cons (Ev.loc rfl rfl (by decide)) (EvL.cons (Ev.addL (Ev.cell hcu' rfl (by decide)) (Ev.loc rfl rfl (by decide)) (by omega)) EvL.nil))) hsi (by omega)) (by simp only [List.length_map, List.length_append, List.length_cons, List.length_nil]; omega)) (by simp)) ?_
    refine Ex.assign (Ev.conv (X := .d (.list (vals ++ [q.v]))) (Ev.addL (Ev.loc rfl rfl (by decide)) (Ev.from_ (Ev.itemL (x := .list (u ++ vals ++ [q.v])) (Ev.loc rfl rfl (by decide)) (Ev.subI (Ev.len (Ev.loc rfl rfl (by decide)) (by k_is) rfl ?sz) Ev.int) ?h0 ?hx ?hi (by intro _ _; rfl)) (Ev.len (Ev.addL (Ev.cell hcu' rfl (by decide)) (Ev.loc rfl rfl (by decide)) (by omega)) (by k_is) rfl ?sz2) ?h02 ?hz2) ?sz3) ?fin) ?_
    case sz => simp only [List.length_map, List.length_append, List.length_cons, List.length_nil]; omega
    case h0 => rw [el]; simp only [List.length_map, List.length_append, List.length_cons, List.length_nil]; omega
    case hi => simp only [List.length_map, List.length_append, List.length_cons, List.length_nil]; omega
    case hx =>
      rw [el]
      have e1 : (([] : List (List Dat)) ++ (A ++ (l ++ [u ++ vals ++ [q.v]]))).map Dat.list = (([] : List (List Dat)) ++ A ++ l).map Dat.list ++ [.list (u ++ vals ++ [q.v])] := by simp
      rw [e1]
      have e2 : ((((([] : List (List Dat)) ++ A ++ l).map Dat.list ++ [Dat.list (u ++ vals ++ [q.v])]).length : Int) - 1).toNat = ((([] : List (List Dat)) ++ A ++ l).map Dat.list).length := by
        rw [List.length_append]; simp only [List.length_cons, List.length_nil]; omega
      rw [e2]
      simp
    case sz2 => simp only [List.length_append]; omega
    case h02 => omega
    case hz2 => simp only [List.length_append, List.length_cons, List.length_nil]; omega
    case sz3 =>
      simp only [List.length_append, List.length_cons, List.length_nil, List.length_drop]; omega
    case fin =>
      rw [Int.toNat_natCast, List.drop_left]
    exact Ex.nilK ⟨rfl, rfl, rfl, rfl, rfl, rfl, trivial⟩
  · rw [List.length_map, List.take_length]
    obtain ⟨c, oc, vc, hc1, hc2, hc3, hc4⟩ := C.hcv _ _ hcu
    refine Ex.if_skip (EvT.bool (Ev.loc rfl rfl (by decide)) (by intro _; rfl)) ?_
    have hA3 := hacc ps.length
    rw [List.take_length] at hA3
    refine Ex.retE (Ev.addL (Ev.loc rfl rfl (by decide)) (Ev.compL (cl := [(S "under", c)]) (xs := es.map Dat.list) (fun _ => μ) (fun i => .list (u ++ es.getD i [])) (by cell_call) (by rw [List.length_map]; omega) (fun i d hd φ => ?_) ?_ (by decide) rfl (by decide) rfl) ?_) ?_
    · obtain ⟨e, he', rfl⟩ := datL hd
      have eg : es.getD i [] = e := by rw [List.getD_eq_getElem?_getD, he']; rfl
      rw [eg]
      have hfe := hf e (List.mem_of_getElem? he')
      exact ElEv.addCell ⟨oc, vc, hc2, hc3, hc4⟩ rfl rfl (fun _ => rfl) (fun _ => rfl) (by omega)
    · simp [closureFor, cellOf, hc1]
    · simp only [List.length_map, List.length_append, List.length_cons, List.length_nil, List.length_range]; omega
    · have eM : (List.range (es.map Dat.list).length).map (fun i => Dat.list (u ++ es.getD i [])) = es.map fun e => Dat.list (u ++ e) := by
        rw [List.length_map]; exact map_getD (fun e => Dat.list (u ++ e)) es []
      rw [eM]
      simp
theorem st_un {n : Nat} {op : Str} {x : Dat} {u : List Dat} {b : Bool} {ps : List Pt} {es : List (List Dat)} (h1 : (op == Str.ofString "*") = false) (h2 : (op == Str.ofString "&") = false) (h3 : (op == Str.ofString "~") = false)
    (hw : WA pv prog w n (.tuple (dS "unary" :: .str op :: [x])) (ps.map Pt.d))
    (hs : ∀ (i : Nat) p, ps[i]? = some p → ST pv prog w n p.t p.b (u ++ (ps.take i).map (·.v)) (p.S (u ++ (ps.take i).map (·.v))))
    (hl : ∀ p ∈ ps, ∀ u, ∃ l, p.S u = l ++ [u ++ [p.v]])
    (he : EN pv prog w n (.tuple (dS "unary" :: .str op :: [x])) b (ps.map (·.v)) (es.map Dat.list))
    (hz : u.length ≤ 1000) (hp : ps.length ≤ 1000) (hes : es.length ≤ 1000) (hf : ∀ e ∈ es, e.length ≤ 1000) (hacc : ∀ i, (accP (ps.take i) u).length ≤ 100000) :
    ST pv prog w (n + 1) (.tuple (dS "unary" :: .str op :: [x])) b u (accP ps u ++ es.map (u ++ ·)) := by
  intro μ
  refine' Spec.def3c (x1 := S "tree") (x2 := S "as_name") (x3 := S "under") ?ho ?hcd ?hb ?h1 ?h2 ?h3 ?nd ?c1 ?c2 ?c3 ?h
  (case ho => k_is); (case hcd => k_is); (case hb => intros; rfl); (case h1 => rfl); (case h2 => rfl); (case h3 => rfl); (case nd => decide +kernel); (case c1 => rfl); (case c2 => rfl); (case c3 => rfl)
  intro C hC hcv
  have hcu : C.cv.lookup (Str.ofString "under") = some (.d (.list u)) := by rw [hcv]; rfl
  fin_run
  refine Ex.forG (fun i => [(S "values", .d (.list ((ps.take i).map (·.v)))), (S "found", .d (.list ((([] : List (List Dat)) ++ accP (ps.take i) u).map Dat.list))), (S "is_not", .d (.bool false)), (S "parts", .d (.list (ps.map Pt.d))), (S "as_name", .d (.bool b)), (S "tree", .d (.tuple (dS "unary" :: .str op :: [x])))]) (fun _ => μ)
    (fun i _ => (S "is_wanted", .d (.bool (ps.getD i ⟨.none, false, fun _ => [], .none⟩).b)) :: (S "part", .d (ps.getD i ⟨.none, false, fun _ => [], .none⟩).t) :: [(S "values", .d (.list ((ps.take i).map (·.v)))), (S "found", .d (.list ((([] : List (List Dat)) ++ accP (ps.take i) u).map Dat.list))), (S "is_not", .d (.bool false)), (S "parts", .d (.list (ps.map Pt.d))), (S "as_name", .d (.bool b)), (S "tree", .d (.tuple (dS "unary" :: .str op :: [x])))])
    (Ev.loc rfl rfl (by decide)) (AllLk.use ⟨rfl, rfl, rfl, rfl, rfl, rfl, trivial⟩) (fun C' hC' hv' i d hd φ => ?_) (fun C' hC' hv' i d hd φ => ?_) ?_ Quiet.tup
  · obtain ⟨q, hq, rfl⟩ := datL hd
    have eq : ps.getD i ⟨.none, false, fun _ => [], .none⟩ = q := by rw [List.getD_eq_getElem?_getD, hq]; rfl
    rw [eq]
    exact Tgt.tup2
  · obtain ⟨q, hq, rfl⟩ := datL hd
    have eq : ps.getD i ⟨.none, false, fun _ => [], .none⟩ = q := by rw [List.getD_eq_getElem?_getD, hq]; rfl
    rw [eq]
    have hsi := hs i q hq
    have hA1 := hacc i
    have hA2 := hacc (i + 1)
    have eA := accP_take hq u
    have eV := take_map_v hq
    have hV : ((ps.take i).map (·.v)).length ≤ 1000 := by rw [List.length_map, List.length_take]; omega
    obtain ⟨l, el⟩ := hl q (List.mem_of_getElem? hq) (u ++ (ps.take i).map (·.v))
    have hcu' : C'.cv.lookup (Str.ofString "under") = some (.d (.list u)) := by rw [hv']; exact hcu
    rw [eA, List.length_append] at hA2
    show Ex prog w C' _ _ _ (.next [(S "values", .d (.list ((ps.take (i + 1)).map (·.v)))), (S "found", .d (.list ((([] : List (List Dat)) ++ accP (ps.take (i + 1)) u).map Dat.list))), (S "is_not", .d (.bool false)), (S "parts", .d (.list (ps.map Pt.d))), (S "as_name", .d (.bool b)), (S "tree", .d (.tuple (dS "unary" :: .str op :: [x])))] (μ ++ φ))
    rw [eA, eV]
    generalize hvals : (ps.take i).map (·.v) = vals at *
    generalize hA : accP (ps.take i) u = A at *
    refine Ex.assign (Ev.conv (X := .d (.list ((([] : List (List Dat)) ++ (A ++ q.S (u ++ vals))).map Dat.list))) (Ev.addL (Ev.loc rfl rfl (by decide)) (Ev.callP (by k_is) (by k_is) (EvL.cons (Ev.loc rfl rfl (by decide)) (EvL.cons (Ev.loc rfl rfl (by decide)) (EvL.cons (Ev.addL (Ev.cell hcu' rfl (by decide)) (Ev.loc rfl rfl (by decide)) (by omega)) EvL.nil))) hsi (by omega)) (by simp only [List.length_map, List.length_append, List.length_cons, List.length_nil]; omega)) (by simp)) ?_
    refine Ex.assign (Ev.conv (X := .d (.list (vals ++ [q.v]))) (Ev.addL (Ev.loc rfl rfl (by decide)) (Ev.from_ (Ev.itemL (x := .list (u ++ vals ++ [q.v])) (Ev.loc rfl rfl (by decide)) (Ev.subI (Ev.len (Ev.loc rfl rfl (by decide)) (by k_is) rfl ?sz) Ev.int) ?h0 ?hx ?hi (by intro _ _; rfl)) (Ev.len (Ev.addL (Ev.cell hcu' rfl (by decide)) (Ev.loc rfl rfl (by decide)) (by omega)) (by k_is) rfl ?sz2) ?h02 ?hz2) ?sz3) ?fin) ?_
    case sz => simp only [List.length_map, List.length_append, List.length_cons, List.length_nil]; omega
    case h0 => rw [el]; simp only [List.length_map, List.length_append, List.length_cons, List.length_nil]; omega
    case hi => simp only [List.length_map, List.length_append, List.length_cons, List.length_nil]; omega
    case hx =>
      rw [el]
      have e1 : (([] : List (List Dat)) ++ (A ++ (l ++ [u ++ vals ++ [q.v]]))).map Dat.list = (([] : List (List Dat)) ++ A ++ l).map Dat.list ++ [.list (u ++ vals ++ [q.v])] := by simp
      rw [e1]
      have e2 : ((((([] : List (List Dat)) ++ A ++ l).map Dat.list ++ [Dat.list (u ++ vals ++ [q.v])]).length : Int) - 1).toNat = ((([] : List (List Dat)) ++ A ++ l).map Dat.list).length := by
        rw [List.length_append]; simp only [List.length_cons, List.length_nil]; omega
      rw [e2]
      simp
    case sz2 => simp only [List.length_append]; omega
    case h02 => omega
    case hz2 => simp only [List.length_append, List.length_cons, List.length_nil]; omega
    case sz3 =>
      simp only [List.length_append, List.length_cons, List.length_nil, List.length_drop]; omega
    case fin =>
      rw [Int.toNat_natCast, List.drop_left]
    exact Ex.nilK ⟨rfl, rfl, rfl, rfl, rfl, rfl, trivial⟩
  · rw [List.length_map, List.take_length]
    obtain ⟨c, oc, vc, hc1, hc2, hc3, hc4⟩ := C.hcv _ _ hcu
    refine Ex.if_skip (EvT.bool (Ev.loc rfl rfl (by decide)) (by intro _; rfl)) ?_
    have hA3 := hacc ps.length
    rw [List.take_length] at hA3
    refine Ex.retE (Ev.addL (Ev.loc rfl rfl (by decide)) (Ev.compL (cl := [(S "under", c)]) (xs := es.map Dat.list) (fun _ => μ) (fun i => .list (u ++ es.getD i [])) (by cell_call) (by rw [List.length_map]; omega) (fun i d hd φ => ?_) ?_ (by decide) rfl (by decide) rfl) ?_) ?_
    · obtain ⟨e, he', rfl⟩ := datL hd
      have eg : es.getD i [] = e := by rw [List.getD_eq_getElem?_getD, he']; rfl
      rw [eg]
      have hfe := hf e (List.mem_of_getElem? he')
      exact ElEv.addCell ⟨oc, vc, hc2, hc3, hc4⟩ rfl rfl (fun _ => rfl) (fun _ => rfl) (by omega)
    · simp [closureFor, cellOf, hc1]
    · simp only [List.length_map, List.length_append, List.length_cons, List.length_nil, List.length_range]; omega
    · have eM : (List.range (es.map Dat.list).length).map (fun i => Dat.list (u ++ es.getD i [])) = es.map fun e => Dat.list (u ++ e) := by
        rw [List.length_map]; exact map_getD (fun e => Dat.list (u ++ e)) es []
      rw [eM]
      simp
theorem st_not {n : Nat} {a lo args : Dat} {u : List Dat} {b : Bool} {p0 : Pt} {ps0 ps : List Pt} (hps : ps = p0 :: ps0) (ha : p0.d = .tuple [a, .bool false])
    (hw : WA pv prog w n (.tuple [dS "call", lo, args]) (ps0.map Pt.d))
    (hs : ∀ (i : Nat) p, ps[i]? = some p → ST pv prog w n p.t p.b (u ++ (ps.take i).map (·.v)) (p.S (u ++ (ps.take i).map (·.v))))
    (hl : ∀ p ∈ ps, ∀ u, ∃ l, p.S u = l ++ [u ++ [p.v]])
    (hz : u.length ≤ 1000) (hp : ps.length ≤ 1000) (hacc : ∀ i, (accP (ps.take i) u).length ≤ 100000) :
    ST pv prog w (n + 1) (.tuple [dS "unary", dS "~", .tuple [dS "join", a, .tuple [dS "call", lo, args]]]) b u ([u] ++ accP ps u ++ [u, u, u, u, u ++ [dS ""]]) := by
  intro μ
  refine' Spec.def3c (x1 := S "tree") (x2 := S "as_name") (x3 := S "under") ?ho ?hcd ?hb ?h1 ?h2 ?h3 ?nd ?c1 ?c2 ?c3 ?h
  (case ho => k_is); (case hcd => k_is); (case hb => intros; rfl); (case h1 => rfl); (case h2 => rfl); (case h3 => rfl); (case nd => decide +kernel); (case c1 => rfl); (case c2 => rfl); (case c3 => rfl)
  intro C hC hcv
  have hcu : C.cv.lookup (Str.ofString "under") = some (.d (.list u)) := by rw [hcv]; rfl
  have hp0 : ps0.length ≤ 1000 := by rw [hps, List.length_cons] at hp; omega
  fin_run
  have eP : [Dat.tuple [a, .bool false]] ++ ps0.map Pt.d = ps.map Pt.d := by rw [hps, List.map_cons, ha]; rfl
  rw [eP]
  refine Ex.forG (fun i => [(S "values", .d (.list ((ps.take i).map (·.v)))), (S "found", .d (.list (([u] ++ accP (ps.take i) u).map Dat.list))), (S "is_not", .d (.bool true)), (S "parts", .d (.list (ps.map Pt.d))), (S "as_name", .d (.bool b)), (S "tree", .d (.tuple [dS "unary", dS "~", .tuple [dS "join", a, .tuple [dS "call", lo, args]]]))]) (fun _ => μ)
    (fun i _ => (S "is_wanted", .d (.bool (ps.getD i ⟨.none, false, fun _ => [], .none⟩).b)) :: (S "part", .d (ps.getD i ⟨.none, false, fun _ => [], .none⟩).t) :: [(S "values", .d (.list ((ps.take i).map (·.v)))), (S "found", .d (.list (([u] ++ accP (ps.take i) u).map Dat.list))), (S "is_not", .d (.bool true)), (S "parts", .d (.list (ps.map Pt.d))), (S "as_name", .d (.bool b)), (S "tree", .d (.tuple [dS "unary", dS "~", .tuple [dS "join", a, .tuple [dS "call", lo, args]]]))])
    (Ev.loc rfl rfl (by decide)) (AllLk.use ⟨rfl, rfl, rfl, rfl, rfl, rfl, trivial⟩) (fun C' hC' hv' i d hd φ => ?_) (fun C' hC' hv' i d hd φ => ?_) ?_ Quiet.tup
  · obtain ⟨q, hq, rfl⟩ := datL hd
    have eq : ps.getD i ⟨.none, false, fun _ => [], .none⟩ = q := by rw [List.getD_eq_getElem?_getD, hq]; rfl
    rw [eq]
    exact Tgt.tup2
  · obtain ⟨q, hq, rfl⟩ := datL hd
    have eq : ps.getD i ⟨.none, false, fun _ => [], .none⟩ = q := by rw [List.getD_eq_getElem?_getD, hq]; rfl
    rw [eq]
    have hsi := hs i q hq
    have hA1 := hacc i
    have hA2 := hacc (i + 1)
    have eA := accP_take hq u
    have eV := take_map_v hq
    have hV : ((ps.take i).map (·.v)).length ≤ 1000 := by rw [List.length_map, List.length_take]; omega
    obtain ⟨l, el⟩ := hl q (List.mem_of_getElem? hq) (u ++ (ps.take i).map (·.v))
    have hcu' : C'.cv.lookup (Str.ofString "under") = some (.d (.list u)) := by rw [hv']; exact hcu
    rw [eA, List.length_append] at hA2
    show Ex prog w C' _ _ _ (.next [(S "values", .d (.list ((ps.take (i + 1)).map (·.v)))), (S "found", .d (.list (([u] ++ accP (ps.take (i + 1)) u).map Dat.list))), (S "is_not", .d (.bool true)), (S "parts", .d (.list (ps.map Pt.d))), (S "as_name", .d (.bool b)), (S "tree", .d (.tuple [dS "unary", dS "~", .tuple [dS "join", a, .tuple [dS "call", lo, args]]]))] (μ ++ φ))
    rw [eA, eV]
    generalize hvals : (ps.take i).map (·.v) = vals at *
    generalize hA : accP (ps.take i) u = A at *
    refine Ex.assign (Ev.conv (X := .d (.list (([u] ++ (A ++ q.S (u ++ vals))).map Dat.list))) (Ev.addL (Ev.loc rfl rfl (by decide)) (Ev.callP (by k_is) (by k_is) (EvL.cons (Ev.loc rfl rfl (by decide)) (EvL.cons (Ev.loc rfl rfl (by decide)) (EvL.cons (Ev.addL (Ev.cell hcu' rfl (by decide)) (Ev.loc rfl rfl (by decide)) (by omega)) EvL.nil))) hsi (by omega)) (by simp only [List.length_map, List.length_append, List.length_cons, List.length_nil]; omega)) (by simp)) ?_
    refine Ex.assign (Ev.conv (X := .d (.list (vals ++ [q.v]))) (Ev.addL (Ev.loc rfl rfl (by decide)) (Ev.from_ (Ev.itemL (x := .list (u ++ vals ++ [q.v])) (Ev.loc rfl rfl (by decide)) (Ev.subI (Ev.len (Ev.loc rfl rfl (by decide)) (by k_is) rfl ?sz) Ev.int) ?h0 ?hx ?hi (by intro _ _; rfl)) (Ev.len (Ev.addL (Ev.cell hcu' rfl (by decide)) (Ev.loc rfl rfl (by decide)) (by omega)) (by k_is) rfl ?sz2) ?h02 ?hz2) ?sz3) ?fin) ?_
    case sz => simp only [List.length_map, List.length_append, List.length_cons, List.length_nil]; omega
    case h0 => rw [el]; simp only [List.length_map, List.length_append, List.length_cons, List.length_nil]; omega
    case hi => simp only [List.length_map, List.length_append, List.length_cons, List.length_nil]; omega
    case hx =>
      rw [el]
      have e1 : ([u] ++ (A ++ (l ++ [u ++ vals ++ [q.v]]))).map Dat.list = ([u] ++ A ++ l).map Dat.list ++ [.list (u ++ vals ++ [q.v])] := by simp
      rw [e1]
      have e2 : (((([u] ++ A ++ l).map Dat.list ++ [Dat.list (u ++ vals ++ [q.v])]).length : Int) - 1).toNat = (([u] ++ A ++ l).map Dat.list).length := by
        rw [List.length_append]; simp only [List.length_cons, List.length_nil]; omega
      rw [e2]
      simp
    case sz2 => simp only [List.length_append]; omega
    case h02 => omega
    case hz2 => simp only [List.length_append, List.length_cons, List.length_nil]; omega
    case sz3 =>
      simp only [List.length_append, List.length_cons, List.length_nil, List.length_drop]; omega
    case fin =>
      rw [Int.toNat_natCast, List.drop_left]
    exact Ex.nilK ⟨rfl, rfl, rfl, rfl, rfl, rfl, trivial⟩
  · rw [List.length_map, List.take_length]
    have hA3 := hacc ps.length
    rw [List.take_length] at hA3
    refine Ex.if_ret (EvT.bool (Ev.loc rfl rfl (by decide)) (by intro _; rfl)) ?_
    refine Ex.retE (Ev.addL (Ev.loc rfl rfl (by decide)) (by cell_call) ?_) ?_
    · simp only [List.length_map, List.length_append, List.length_cons, List.length_nil]; omega
    · simp
end
section
variable {pv : Program}
variable {prog : Program} {w : World}
def Good (pv prog : Program) (w : World) (n : Nat) : List Pt → List Dat → Prop
  | [], _ => True
  | p :: ps, u => ST pv prog w n p.t p.b u (p.S u) ∧ Good pv prog w n ps (u ++ [p.v])
theorem Good.at {n : Nat} : ∀ {ps : List Pt} {u : List Dat}, Good pv prog w n ps u → ∀ (i : Nat) p, ps[i]? = some p → ST pv prog w n p.t p.b (u ++ (ps.take i).map (·.v)) (p.S (u ++ (ps.take i).map (·.v)))
  | q :: ps, u, h, 0, p, e => by
    simp only [List.getElem?_cons_zero, Option.some.injEq] at e; subst e
    simpa using h.1
  | q :: ps, u, h, i + 1, p, e => by
    have := Good.at h.2 i p e
    simpa using this
theorem SpecP.mono' {H : Frag} {view : Program} {n m f : Nat} {Xs : List V} {X : V} (h : SpecP prog w H view n f Xs X) (hm : n ≤ m) : SpecP prog w H view m f Xs X := fun μ => (h μ).mono hm
theorem Good.mono {n m : Nat} (hm : n ≤ m) : ∀ {ps : List Pt} {u : List Dat}, Good pv prog w n ps u → Good pv prog w m ps u
  | [], _, _ => trivial
  | _ :: _, _, h => ⟨h.1.mono' hm, Good.mono hm h.2⟩
theorem accP_take_le : ∀ (ps : List Pt) (u : List Dat) (i : Nat), (accP (ps.take i) u).length ≤ (accP ps u).length
  | [], u, i => by simp [accP]
  | p :: ps, u, 0 => by simp [accP]
  | p :: ps, u, i + 1 => by
    have := accP_take_le ps (u ++ [p.v]) i
    simp only [List.take_succ_cons, accP, List.length_append]
    omega
def Lst (ps : List Pt) : Prop := ∀ p ∈ ps, ∀ u, ∃ l, p.S u = l ++ [u ++ [p.v]]
theorem Lst.nil : Lst [] := fun _ h => by cases h
theorem Lst.cons {p : Pt} {ps : List Pt} (h : ∀ u, ∃ l, p.S u = l ++ [u ++ [p.v]]) (h' : Lst ps) : Lst (p :: ps) := fun q hq => by
  rcases List.mem_cons.mp hq with rfl | hq
  · exact h
  · exact h' q hq
def Vt.pt (t : Vt) : Pt := ⟨t.dat, false, t.st, t.fv⟩
def Nt.pt (t : Nt) : Pt := ⟨t.dat, true, t.st, t.fv⟩
def Vl.pts : Vl → List Pt
  | .nil => []
  | .cons a l => a.pt :: l.pts
theorem Vl.pts_d : ∀ l : Vl, l.pts.map Pt.d = l.dats.map fun d => .tuple [d, .bool false]
  | .nil => rfl
  | .cons a l => by simp only [Vl.pts, Vl.dats, List.map_cons, Vl.pts_d l]; rfl
theorem Vl.pts_v : ∀ l : Vl, l.pts.map (·.v) = l.fvs
  | .nil => rfl
  | .cons a l => by simp only [Vl.pts, Vl.fvs, List.map_cons, Vl.pts_v l]; rfl
theorem Vl.pts_acc : ∀ (l : Vl) (u : List Dat), accP l.pts u = l.st u
  | .nil, u => by simp [Vl.pts, accP, Vl.st]
  | .cons a l, u => by simp only [Vl.pts, Vl.st, accP, Vl.pts_acc l]; rfl
theorem Vl.pts_len : ∀ l : Vl, l.pts.length = l.len
  | .nil => rfl
  | .cons a l => by simp only [Vl.pts, Vl.len, List.length_cons, Vl.pts_len l]
theorem Vl.pts_lst : ∀ l : Vl, Lst l.pts
  | .nil => Lst.nil
  | .cons a l => Lst.cons a.st_last (Vl.pts_lst l)
theorem Vt.sz_pos (t : Vt) : 1 ≤ t.sz := by cases t <;> simp only [Vt.sz] <;> omega
theorem Nt.sz_pos (t : Nt) : 1 ≤ t.sz := by cases t <;> simp only [Nt.sz] <;> omega
theorem Vl.sz_pos (t : Vl) : 1 ≤ t.sz := by cases t <;> simp only [Vl.sz] <;> omega
theorem WA.mono {n m : Nat} {t : Dat} {ds : List Dat} (h : WA pv prog w n t ds) (hm : n ≤ m) : WA pv prog w m t ds := h.mono' hm
theorem EN.mono {n m : Nat} {t : Dat} {b : Bool} {vs ds : List Dat} (h : EN pv prog w n t b vs ds) (hm : n ≤ m) : EN pv prog w m t b vs ds := h.mono' hm
theorem sg {n : Nat} {kind : Str} {ds u : List Dat} {b : Bool} {ps : List Pt} {es ss : List (List Dat)} (h1 : ([S "null", S "text", S "whole"].any fun y => y == kind) = false) (h2 : (kind == Str.ofString "name") = false) (h3 : (kind == Str.ofString "unary") = false)
    (hw : WA pv prog w n (.tuple (.str kind :: ds)) (ps.map Pt.d)) (hs : Good pv prog w n ps u) (hl : Lst ps)
    (he : EN pv prog w n (.tuple (.str kind :: ds)) b (ps.map (·.v)) (es.map Dat.list))
    (hz : u.length ≤ 1000) (hp : ps.length ≤ 1000) (hes : es.length ≤ 1000) (hf : ∀ e ∈ es, e.length ≤ 1000) (hss : ss = accP ps u ++ es.map (u ++ ·)) (hacc : ss.length ≤ 100000) :
    ST pv prog w (n + 1) (.tuple (.str kind :: ds)) b u ss := by
  subst hss
  rw [List.length_append] at hacc
  exact st_gen h1 h2 h3 hw hs.at hl he hz hp hes hf (fun i => by have := accP_take_le ps u i; omega)
theorem su {n : Nat} {op : Str} {x : Dat} {u : List Dat} {b : Bool} {ps : List Pt} {es ss : List (List Dat)} (h1 : (op == Str.ofString "*") = false) (h2 : (op == Str.ofString "&") = false) (h3 : (op == Str.ofString "~") = false)
    (hw : WA pv prog w n (.tuple (dS "unary" :: .str op :: [x])) (ps.map Pt.d)) (hs : Good pv prog w n ps u) (hl : Lst ps)
    (he : EN pv prog w n (.tuple (dS "unary" :: .str op :: [x])) b (ps.map (·.v)) (es.map Dat.list))
    (hz : u.length ≤ 1000) (hp : ps.length ≤ 1000) (hes : es.length ≤ 1000) (hf : ∀ e ∈ es, e.length ≤ 1000) (hss : ss = accP ps u ++ es.map (u ++ ·)) (hacc : ss.length ≤ 100000) :
    ST pv prog w (n + 1) (.tuple (dS "unary" :: .str op :: [x])) b u ss := by
  subst hss
  rw [List.length_append] at hacc
  exact st_un h1 h2 h3 hw hs.at hl he hz hp hes hf (fun i => by have := accP_take_le ps u i; omega)
theorem one_le {e : List Dat} {es : List (List Dat)} (h : ∀ e ∈ es, e.length ≤ 1000) (he : e.length ≤ 1000) : ∀ x ∈ e :: es, x.length ≤ 1000 := fun x hx => by
  rcases List.mem_cons.mp hx with rfl | hx
  · exact he
  · exact h x hx
theorem none_le : ∀ x ∈ ([] : List (List Dat)), x.length ≤ 1000 := fun x hx => by cases hx
theorem any_false {a b op : Str} (h1 : (op == a) = false) (h2 : (op == b) = false) : ([a, b].any fun y => y == op) = false := by
  simp only [List.any_cons, List.any_nil, Bool.or_false, Bool.or_eq_false_iff]
  constructor
  · rw [beq_eq_false_iff_ne] at *; exact fun e => h1 e.symm
  · rw [beq_eq_false_iff_ne] at *; exact fun e => h2 e.symm
mutual
theorem st_all : ∀ (t : Vt) (u : List Dat), t.ok → u.length + t.sz ≤ 1000 → ST pv prog w (2 * t.sz) t.dat false u (t.st u)
  | .null, u, _, hz => by simp only [Vt.sz, Vt.dat, Vt.st] at hz ⊢; exact st_null (n := 1) (by omega)
  | .text s, u, _, hz => by simp only [Vt.sz, Vt.dat, Vt.st] at hz ⊢; exact st_text (n := 1) (by omega)
  | .whole i, u, _, hz => by simp only [Vt.sz, Vt.dat, Vt.st] at hz ⊢; exact st_whole (n := 1) (by omega)
  | .name s, u, _, hz => by simp only [Vt.sz, Vt.dat, Vt.st] at hz ⊢; exact st_nameV (n := 1) (by omega)
  | .kw s, u, _, hz => by simp only [Vt.sz, Vt.dat, Vt.st] at hz ⊢; exact st_kwV (n := 1) (by omega)
  | .star a, u, _, hz => by
    simp only [Vt.sz, Vt.dat, Vt.st] at hz ⊢
    exact SpecP.mono' (st_star (n := 1) (by omega)) (by omega)
  | .join a b, u, hk, hz => by
    simp only [Vt.sz, Vt.ok] at hk hz ⊢
    have la : (Vt.join a b).vo.length ≤ _ := Vt.vo_len _
    have ls := Vt.st_len (.join a b) u
    simp only [Vt.sz] at la
    have pa := a.sz_pos; have pb := b.sz_pos
    have ha := (st_all a u hk.1 (by omega)).mono' (m := 2 * (a.sz + b.sz)) (by omega)
    have hb := (st_all b (u ++ [a.fv]) hk.2 (by rw [List.length_append, List.length_cons, List.length_nil]; omega)).mono' (m := 2 * (a.sz + b.sz)) (by omega)
    refine SpecP.mono' (n := 2 * (a.sz + b.sz) + 1) (sg (ps := [a.pt, b.pt]) (es := [[opD (S " ") [a.fv, b.fv]]]) (by decide) (by decide) (by decide) ((wa_join (n := 0)).mono (by omega)) ⟨ha, hb, trivial⟩ (Lst.cons a.st_last (Lst.cons b.st_last Lst.nil)) (EN.mono (en_join (n := 0)) (by omega)) (by omega) (by simp) (by simp) (one_le none_le (by simp)) ?_ (by omega)) (by omega)
    simp [Vt.st, accP, Vt.pt]
  | .bin op a b, u, hk, hz => by
    simp only [Vt.sz, Vt.ok] at hk hz ⊢
    have la : (Vt.bin op a b).vo.length ≤ _ := Vt.vo_len _
    have ls := Vt.st_len (.bin op a b) u
    simp only [Vt.sz] at la
    have pa := a.sz_pos; have pb := b.sz_pos
    have ha := (st_all a u hk.2.1 (by omega)).mono' (m := 2 * (a.sz + b.sz)) (by omega)
    have hb := (st_all b (u ++ [a.fv]) hk.2.2 (by rw [List.length_append, List.length_cons, List.length_nil]; omega)).mono' (m := 2 * (a.sz + b.sz)) (by omega)
    have hop := any_false hk.1.2.1 hk.1.2.2
    refine SpecP.mono' (n := 2 * (a.sz + b.sz) + 1) (sg (ps := [a.pt, b.pt]) (es := [[opD op [a.fv, b.fv]]]) (by decide) (by decide) (by decide) (WA.mono (wa_bin (n := 0) hop) (by omega)) ⟨ha, hb, trivial⟩ (Lst.cons a.st_last (Lst.cons b.st_last Lst.nil)) (EN.mono (en_bin (n := 0) hop) (by omega)) (by omega) (by simp) (by simp) (one_le none_le (by simp)) ?_ (by omega)) (by omega)
    simp [Vt.st, accP, Vt.pt]
  | .given op a b, u, hk, hz => by
    simp only [Vt.sz, Vt.ok] at hk hz ⊢
    have la : (Vt.given op a b).vo.length ≤ _ := Vt.vo_len _
    have ls := Vt.st_len (.given op a b) u
    simp only [Vt.sz] at la
    have pa := a.sz_pos; have pb := b.sz_pos
    have ha := (st_all a u hk.2.1 (by omega)).mono' (m := 2 * (a.sz + b.sz)) (by omega)
    have hb := (stn_all b (u ++ [a.fv]) hk.2.2 (by rw [List.length_append, List.length_cons, List.length_nil]; omega)).mono' (m := 2 * (a.sz + b.sz)) (by omega)
    have hop : ([S ".", S "$"].any fun y => y == op) = true := by
      rcases hk.1 with rfl | rfl <;> decide
    refine SpecP.mono' (n := 2 * (a.sz + b.sz) + 1) (sg (ps := [a.pt, b.pt]) (es := [[givD op a.fv b.fv]]) (by decide) (by decide) (by decide) (WA.mono (wa_bin (n := 0) hop) (by omega)) ⟨ha, hb, trivial⟩ (Lst.cons a.st_last (Lst.cons b.st_last Lst.nil)) (EN.mono (en_given (n := 0) hop (by simp [Vt.pt, Nt.pt])) (by omega)) (by omega) (by simp [Vt.pt, Nt.pt]) (by simp) (one_le none_le (by simp)) ?_ (by omega)) (by omega)
    simp [Vt.st, accP, Vt.pt, Nt.pt]
  | .neg a, u, hk, hz => by
    simp only [Vt.sz, Vt.ok] at hk hz ⊢
    have la : (Vt.neg a).vo.length ≤ _ := Vt.vo_len _
    have ls := Vt.st_len (.neg a) u
    simp only [Vt.sz] at la
    have pa := a.sz_pos
    have ha := (st_all a u hk (by omega))
    refine SpecP.mono' (n := 2 * a.sz + 1) (su (ps := [a.pt]) (es := [[opD (S "-") [a.fv]]]) (by decide) (by decide) (by decide) (WA.mono (wa_un (n := 0) (r := false) (by decide)) (by omega)) ⟨ha, trivial⟩ (Lst.cons a.st_last Lst.nil) (EN.mono (en_get (n := 0) (by decide) rfl) (by omega)) (by omega) (by simp) (by simp) (one_le none_le (by simp)) ?_ (by omega)) (by omega)
    simp [Vt.st, accP, Vt.pt]
  | .dollar a, u, hk, hz => by
    simp only [Vt.sz, Vt.ok] at hk hz ⊢
    have la : (Vt.dollar a).vo.length ≤ _ := Vt.vo_len _
    have ls := Vt.st_len (.dollar a) u
    simp only [Vt.sz] at la
    have pa := a.sz_pos
    have ha := (st_all a u hk (by omega))
    refine SpecP.mono' (n := 2 * a.sz + 1) (su (ps := [a.pt]) (es := [[indD a.fv], [valD (indD a.fv)]]) (by decide) (by decide) (by decide) (WA.mono (wa_un (n := 0) (r := false) (by decide)) (by omega)) ⟨ha, trivial⟩ (Lst.cons a.st_last Lst.nil) (EN.mono (en_dolV (n := 0)) (by omega)) (by omega) (by simp) (by simp) (one_le (one_le none_le (by simp)) (by simp)) ?_ (by omega)) (by omega)
    simp [Vt.st, accP, Vt.pt]
  | .opt a, u, hk, hz => by
    simp only [Vt.sz, Vt.ok] at hk hz ⊢
    have la : (Vt.opt a).vo.length ≤ _ := Vt.vo_len _
    have ls := Vt.st_len (.opt a) u
    simp only [Vt.sz] at la
    have pa := a.sz_pos
    have ha := (st_all a u hk (by omega))
    refine SpecP.mono' (n := 2 * a.sz + 1) (su (ps := [a.pt]) (es := [[], [dS ""]]) (by decide) (by decide) (by decide) (WA.mono (wa_un (n := 0) (r := false) (by decide)) (by omega)) ⟨ha, trivial⟩ (Lst.cons a.st_last Lst.nil) (EN.mono (en_get (n := 0) (by decide) rfl) (by omega)) (by omega) (by simp) (by simp) (one_le (one_le none_le (by simp)) (by simp)) ?_ (by omega)) (by omega)
    simp [Vt.st, accP, Vt.pt]
  | .dot a, u, hk, hz => by
    simp only [Vt.sz, Vt.ok] at hk hz ⊢
    have la : (Vt.dot a).vo.length ≤ _ := Vt.vo_len _
    have ls := Vt.st_len (.dot a) u
    simp only [Vt.sz] at la
    have pa := a.sz_pos
    have ha := (stn_all a u hk (by omega))
    refine SpecP.mono' (n := 2 * a.sz + 1) (su (ps := [a.pt]) (es := []) (by decide) (by decide) (by decide) (WA.mono (wa_un (n := 0) (r := true) (by decide)) (by omega)) ⟨ha, trivial⟩ (Lst.cons a.st_last Lst.nil) (EN.mono (en_get (n := 0) (by decide) rfl) (by omega)) (by omega) (by simp) (by decide) none_le ?_ (by omega)) (by omega)
    simp [Vt.st, accP, Nt.pt]
  | .at a, u, hk, hz => by
    simp only [Vt.sz, Vt.ok] at hk hz ⊢
    have la : (Vt.at a).vo.length ≤ _ := Vt.vo_len _
    have ls := Vt.st_len (.at a) u
    simp only [Vt.sz] at la
    have pa := a.sz_pos
    have ha := (stn_all a u hk (by omega))
    refine SpecP.mono' (n := 2 * a.sz + 1) (su (ps := [a.pt]) (es := [[curD a.fv]]) (by decide) (by decide) (by decide) (WA.mono (wa_un (n := 0) (r := true) (by decide)) (by omega)) ⟨ha, trivial⟩ (Lst.cons a.st_last Lst.nil) (EN.mono (en_get (n := 0) (by decide) rfl) (by omega)) (by omega) (by simp) (by simp) (one_le none_le (by simp)) ?_ (by omega)) (by omega)
    simp [Vt.st, accP, Nt.pt]
  | .call f as, u, hk, hz => by
    simp only [Vt.sz, Vt.ok] at hk hz ⊢
    have la : (Vt.call f as).vo.length ≤ _ := Vt.vo_len _
    have ls := Vt.st_len (.call f as) u
    simp only [Vt.sz] at la
    have hl := sl_all as u hk.2 (by omega)
    have l1 := as.len_le; have l2 := as.pts_len; have l3 := as.dats_length; have l4 := as.sz_pos
    refine SpecP.mono' (n := 2 * as.sz + 1) (sg (ps := as.pts) (es := [[callD f as.fvs false]]) (by decide) (by decide) (by decide) (by rw [Vl.pts_d]; exact WA.mono (wa_call (n := 0) (by omega)) (by omega)) hl as.pts_lst (by rw [Vl.pts_v]; exact EN.mono (en_call (n := 0)) (by omega)) (by omega) (by omega) (by simp) (one_le none_le (by simp)) ?_ (by omega)) (by omega)
    simp [Vt.st, Vl.pts_acc]
  | .item o ks, u, hk, hz => by
    simp only [Vt.sz, Vt.ok] at hk hz ⊢
    have la : (Vt.item o ks).vo.length ≤ _ := Vt.vo_len _
    have ls := Vt.st_len (.item o ks) u
    simp only [Vt.sz] at la
    have pa := o.sz_pos
    have ho := (st_all o u hk.1 (by omega)).mono' (m := 2 * (o.sz + ks.sz)) (by omega)
    have hl := (sl_all ks (u ++ [o.fv]) hk.2 (by rw [List.length_append, List.length_cons, List.length_nil]; omega)).mono (m := 2 * (o.sz + ks.sz)) (by omega)
    have l1 := ks.len_le; have l2 := ks.pts_len; have l3 := ks.dats_length; have l5 := ks.fvs_length; have l4 := ks.sz_pos
    refine SpecP.mono' (n := 2 * (o.sz + ks.sz) + 1) (sg (ps := o.pt :: ks.pts) (es := [[itemD o.fv ks.fvs false]]) (by decide) (by decide) (by decide) (by rw [List.map_cons, Vl.pts_d]; exact WA.mono (wa_item (n := 0) (by omega)) (by omega)) ⟨ho, hl⟩ (Lst.cons o.st_last ks.pts_lst) (by rw [List.map_cons, Vl.pts_v]; exact EN.mono (en_item (n := 0) (by omega)) (by omega)) (by omega) (by rw [List.length_cons]; omega) (by simp) (one_le none_le (by simp)) ?_ (by omega)) (by omega)
    simp [Vt.st, accP, Vt.pt, Vl.pts_acc]
  | .not a as, u, hk, hz => by
    simp only [Vt.sz, Vt.ok] at hk hz ⊢
    have la : (Vt.not a as).vo.length ≤ _ := Vt.vo_len _
    have ls := Vt.st_len (.not a as) u
    simp only [Vt.sz] at la
    have pa := a.sz_pos
    have ho := (st_all a u hk.1 (by omega)).mono' (m := 2 * (a.sz + as.sz)) (by omega)
    have hl := (sl_all as (u ++ [a.fv]) hk.2 (by rw [List.length_append, List.length_cons, List.length_nil]; omega)).mono (m := 2 * (a.sz + as.sz)) (by omega)
    have l1 := as.len_le; have l2 := as.pts_len; have l3 := as.dats_length; have l4 := as.sz_pos
    have hacc : (accP (a.pt :: as.pts) u).length ≤ 100000 := by
      have e : Vt.st (.not a as) u = u :: accP (a.pt :: as.pts) u ++ [u, u, u, u, u ++ [dS ""]] := by simp [Vt.st, accP, Vt.pt, Vl.pts_acc]
      rw [e] at ls
      simp only [List.length_append, List.length_cons] at ls
      omega
    have := st_not (n := 2 * (a.sz + as.sz)) (u := u) (b := false) (a := a.dat) (lo := dS "LOSES") (args := .list as.dats) (p0 := a.pt) (ps0 := as.pts) rfl rfl (by rw [Vl.pts_d]; exact WA.mono (wa_call (n := 0) (by omega)) (by omega)) (Good.at (ps := a.pt :: as.pts) ⟨ho, hl⟩) (Lst.cons a.st_last as.pts_lst) (by omega) (by rw [List.length_cons]; omega) (fun i => by have := accP_take_le (a.pt :: as.pts) u i; omega)
    have e : [u] ++ accP (a.pt :: as.pts) u ++ [u, u, u, u, u ++ [dS ""]] = Vt.st (.not a as) u := by simp [Vt.st, accP, Vt.pt, Vl.pts_acc]
    rw [e] at this
    exact SpecP.mono' this (by omega)
theorem stn_all : ∀ (t : Nt) (u : List Dat), t.ok → u.length + t.sz ≤ 1000 → ST pv prog w (2 * t.sz) t.dat true u (t.st u)
  | .name s, u, _, hz => by simp only [Nt.sz, Nt.dat, Nt.st] at hz ⊢; exact st_nameN (n := 1) (by omega)
  | .kw s, u, _, hz => by simp only [Nt.sz, Nt.dat, Nt.st] at hz ⊢; exact st_kwN (n := 1) (by omega)
  | .dollar a, u, hk, hz => by
    simp only [Nt.sz, Nt.ok] at hk hz ⊢
    have la : (Nt.dollar a).no.length ≤ _ := Nt.no_len _
    have ls := Nt.st_len (.dollar a) u
    simp only [Nt.sz] at la
    have pa := a.sz_pos
    have ha := (st_all a u hk (by omega))
    refine SpecP.mono' (n := 2 * a.sz + 1) (su (ps := [a.pt]) (es := [[indD a.fv]]) (by decide) (by decide) (by decide) (WA.mono (wa_un (n := 0) (r := false) (by decide)) (by omega)) ⟨ha, trivial⟩ (Lst.cons a.st_last Lst.nil) (EN.mono (en_dolN (n := 0)) (by omega)) (by omega) (by simp) (by simp) (one_le none_le (by simp)) ?_ (by omega)) (by omega)
    simp [Nt.st, accP, Vt.pt]
  | .call f as, u, hk, hz => by
    simp only [Nt.sz, Nt.ok] at hk hz ⊢
    have la : (Nt.call f as).no.length ≤ _ := Nt.no_len _
    have ls := Nt.st_len (.call f as) u
    simp only [Nt.sz] at la
    have hl := sl_all as u hk.2 (by omega)
    have l1 := as.len_le; have l2 := as.pts_len; have l3 := as.dats_length; have l4 := as.sz_pos
    refine SpecP.mono' (n := 2 * as.sz + 1) (sg (ps := as.pts) (es := [[callD f as.fvs true]]) (by decide) (by decide) (by decide) (by rw [Vl.pts_d]; exact WA.mono (wa_call (n := 0) (by omega)) (by omega)) hl as.pts_lst (by rw [Vl.pts_v]; exact EN.mono (en_call (n := 0)) (by omega)) (by omega) (by omega) (by simp) (one_le none_le (by simp)) ?_ (by omega)) (by omega)
    simp [Nt.st, Vl.pts_acc]
  | .item o ks, u, hk, hz => by
    simp only [Nt.sz, Nt.ok] at hk hz ⊢
    have la : (Nt.item o ks).no.length ≤ _ := Nt.no_len _
    have ls := Nt.st_len (.item o ks) u
    simp only [Nt.sz] at la
    have pa := o.sz_pos
    have ho := (st_all o u hk.1 (by omega)).mono' (m := 2 * (o.sz + ks.sz)) (by omega)
    have hl := (sl_all ks (u ++ [o.fv]) hk.2 (by rw [List.length_append, List.length_cons, List.length_nil]; omega)).mono (m := 2 * (o.sz + ks.sz)) (by omega)
    have l1 := ks.len_le; have l2 := ks.pts_len; have l3 := ks.dats_length; have l5 := ks.fvs_length; have l4 := ks.sz_pos
    refine SpecP.mono' (n := 2 * (o.sz + ks.sz) + 1) (sg (ps := o.pt :: ks.pts) (es := [[itemD o.fv ks.fvs true]]) (by decide) (by decide) (by decide) (by rw [List.map_cons, Vl.pts_d]; exact WA.mono (wa_item (n := 0) (by omega)) (by omega)) ⟨ho, hl⟩ (Lst.cons o.st_last ks.pts_lst) (by rw [List.map_cons, Vl.pts_v]; exact EN.mono (en_item (n := 0) (by omega)) (by omega)) (by omega) (by rw [List.length_cons]; omega) (by simp) (one_le none_le (by simp)) ?_ (by omega)) (by omega)
    simp [Nt.st, accP, Vt.pt, Vl.pts_acc]
theorem sl_all : ∀ (l : Vl) (u : List Dat), l.ok → u.length + l.sz ≤ 1000 → Good pv prog w (2 * l.sz) l.pts u
  | .nil, _, _, _ => trivial
  | .cons a l, u, hk, hz => by
    simp only [Vl.sz, Vl.ok] at hk hz ⊢
    have pa := a.sz_pos
    refine ⟨(st_all a u hk.1 (by omega)).mono' (by omega), (sl_all l (u ++ [a.fv]) hk.2 ?_).mono (by omega)⟩
    rw [List.length_append, List.length_cons, List.length_nil]; omega
end
end
section
variable {pv : Program}
section gen
variable {K : Frag} {p : Program} {fi : Fi} {prog : Program} {w : World}
variable {C : Cx K p fi} {σ σ' σ₀ σ₁ σ₂ : List (Str × V)} {μ μ' μ₁ μ₂ μ₃ φ φ' : Mu} {pos px py p1 p2 p3 : Pos} {ts : List Value} {Ts : List V} {s : Shared} {O : Out} {X X' : V} {x y : Str} {rest : List Stmt}
theorem MAll.getH {imm : Led} {l : Led} {L : Mu} (h : MAll imm l L) {a : Addr} (hm : (a, Mo.hooks) ∈ L) : ∃ ad es n, HD es ∧ (a, instObj 250 ad) ∈ l ∧ (ad, dictOf es n) ∈ l := by
  induction h with
  | nil => cases hm
  | cons hx _ ih =>
    rcases List.mem_cons.mp hm with e | hm
    · cases e; cases hx
    · obtain ⟨ad, es, n, h1, h2, h3⟩ := ih hm; exact ⟨ad, es, n, h1, .tail _ h2, .tail _ h3⟩
  | work _ _ _ _ ih =>
    rcases List.mem_cons.mp hm with e | hm
    · cases e
    · obtain ⟨ad, es, n, h1, h2, h3⟩ := ih hm; exact ⟨ad, es, n, h1, .tail _ (.tail _ (.tail _ (.tail _ h2))), .tail _ (.tail _ (.tail _ (.tail _ h3)))⟩
  | @hooks b ad es n l L h1 _ ih =>
    rcases List.mem_cons.mp hm with e | hm
    · cases e; exact ⟨ad, es, n, h1, .head _, .tail _ (.head _)⟩
    · obtain ⟨ad, es, n, h1, h2, h3⟩ := ih hm; exact ⟨ad, es, n, h1, .tail _ (.tail _ h2), .tail _ (.tail _ h3)⟩
theorem Ev.attrH {o : Expr} {a : Addr} {at' : Option Value} (ho : Ev prog w C σ μ o (.r a) μ₁) (hm : (a, Mo.hooks) ∈ μ₁)
    (hg : plainGet K 250 (Str.ofString "replies") = true) (hh : hasDictIn K 250 = true) (ha : findIn K (.ref 250) (Str.ofString "replies") = some at') (hn : noGet K at' = true)
    (he : eval (.Attribute o (Str.ofString "replies") pos) C.env = (do
      let r ← eval o C.env
      standAt pos.atName
      let q ← holding [r] (getAttr r (Str.ofString "replies") true)
      letTemporaryGo o r q
      pure q) := by rfl) : Ev prog w C σ μ (.Attribute o (Str.ofString "replies") pos) (.r 357) μ₁ := by
  intro m ts Ts s Q E S k
  refine Attribute_any_ (ho _ _ _ _ _ _ S fun u s1 S1 => ?_) he
  obtain ⟨imm, μr, S1⟩ := S1
  obtain ⟨hu, S2⟩ := S1.pop
  obtain rfl : u = .ref a := hu
  obtain ⟨ad, es, n, hD, h1, h2⟩ := S2.ma.getH hm
  cases hD
  exact get_own S2.fr C.hX (InstAt.of_news S2.nw (List.mem_append.mpr (.inl h1)) (List.mem_append.mpr (.inl h2))) hg hh ha hn rfl rfl (k _ _ ⟨imm, μr, (S2.toks rfl).push rfl⟩)
theorem InstV.hooks {name : Str} {a : Addr} (hm : (a, Mo.hooks) ∈ μ) (hl : ∀ es, HD es → getL name es = some none) : InstV 250 name μ (.r a) := by
  intro imm μr v h hv
  obtain rfl : v = .ref a := hv
  obtain ⟨ad, es, n, hD, h1, h2⟩ := h.getH hm
  exact ⟨a, ad, es, n, rfl, List.mem_append.mpr (.inl h1), List.mem_append.mpr (.inl h2), hl es hD⟩
theorem InstV.work {name : Str} {a : Addr} {stk gs : List Dat} (hl : ∀ es al ag, WD es al ag → getL name es = some none) : InstV 103 name ((a, .work stk gs) :: μ) (.r a) := by
  intro imm μr v h hv
  obtain rfl : v = .ref a := hv
  cases h with
  | cons h _ => cases h
  | work hW _ _ _ => exact ⟨a, _, _, _, rfl, List.mem_append.mpr (.inl (.head _)), List.mem_append.mpr (.inl (.tail _ (.head _))), hl _ _ _ hW⟩
theorem EvN.conv {e : Expr} {z z' : Mo} (h : EvN prog w C σ μ e z μ₁) (hz : z = z') : EvN prog w C σ μ e z' μ₁ := hz ▸ h
theorem Ev.callLoc {f : Addr} {e : Expr} {es : List Expr} {Xs : List V} {n : Nat} (hl : σ.lookup x = some (.r f)) (hf : keepIn K (.ref f) = true)
    (hL : EvL prog w C σ μ (e :: es) Xs μ₁) (hS : Spec prog w K p n f Xs μ₁ X μ₂) (hn : n ≤ C.room) (hx : fi.cs.names.lookup x = some .local := by rfl) (hd : (x == ("__debug__" : Str)) = false := by decide)
    (he : starEach (e :: es) C.env = (false, eval e C.env) :: starEach es C.env := by rfl) (hp : ∀ pos, (backTo pos (starEach es C.env)).any (·.1) = false := by intro _; rfl) :
    Ev prog w C σ μ (.Call (.Name x px) (e :: es) [] pos) X μ₂ := by
  intro m ts Ts s Q E S k
  refine Call_Name rfl ?_
  obtain ⟨imm, μr, S'⟩ := id S
  obtain ⟨v, hv, hV⟩ := S'.lo x _ hl
  obtain rfl : v = .ref f := hV
  refine nameX_L S'.fr hv ?_ C.hk hx hd
  refine callWith_K C.hX hf (hL _ _ _ _ _ _ _ S fun vs s' hl S1 => ⟨?_, ?_⟩) he (hp _)
  · obtain ⟨imm1, μr1, S1'⟩ := S1
    exact C.hX.keeps S1'.fr.keep
  · exact hS _ _ _ _ _ _ _ _ _ _ hn hl S1 k
end gen
variable {prog : Program} {w : World} {φ : Mu} {a h : Addr} {stk gs : List Dat}
abbrev SP (pv prog : Program) (w : World) (n : Nat) (f : Addr) (Xs : List V) (μ : Mu) (X : V) (μ' : Mu) : Prop := Spec prog w (KK w.params) pv n f Xs μ X μ'
theorem isf {x : Dat} (hx : plainDat x = true) : SpecP prog w (KK w.params) pv 1 65 [.d x] (.d (.bool false)) := by
  intro μ
  refine' Spec.def1 (x1 := S "value") ?ho ?hcd ?hb ?h1 ?c1 ?c2 ?c3 ?cell ?h
  ktr_unf
  intro C hC
  refine Ex.ret (Ev.isNot (Ev.loc rfl rfl (by decide)) hx (by k_is) rfl (by k_is) (by k_not) (by k_not) (by k_not))
theorem push_ok {x : Dat} (hx : plainDat x = true) (hz : stk.length ≤ 1000000) : SP pv prog w 2 86 [.r a, .d x] ((a, .work stk gs) :: φ) (.d (.bool true)) ((a, .work (stk ++ [x]) gs) :: φ) := by
  refine' Spec.def2 (x1 := S "self") (x2 := S "value") ?ho ?hcd ?hb ?h1 ?h2 ?c1 ?c2 ?c3 ?cell ?h
  ktr_unf
  intro C hC
  refine Ex.if_skip (EvT.orF (EvT.isNone (Ev.loc rfl rfl (by decide)) (none_of_dat (by intro e; subst e; cases hx))) (EvT.orF (EvT.bool (Ev.callP (by k_is) (by k_is) (EvL.cons (Ev.loc rfl rfl (by decide)) EvL.nil) (isf hx) (by omega))) EvT.or0)) ?_
  refine Ex.expr (Ev.opn fun ad al ag es n hW => ?_) (Ex.ret Ev.bool)
  cases hW
  exact Ev.append (Ev.attr (c := 103) (Ev.loc rfl rfl (by decide)) (.head _) (.tail _ (.head _)) (by k_is) (by k_is) (by k_is) (by k_is) rfl rfl (fun _ => rfl)) (.tail (.tail .head)) (Ev.loc rfl rfl (by decide)) (.tail (.tail .head)) hz
theorem push_none : SP pv prog w 2 86 [.r a, .d .none] ((a, .work stk gs) :: φ) (.d (.bool false)) ((a, .work stk gs) :: φ) := by
  refine' Spec.def2 (x1 := S "self") (x2 := S "value") ?ho ?hcd ?hb ?h1 ?h2 ?c1 ?c2 ?c3 ?cell ?h
  ktr_unf
  intro C hC
  exact Ex.if_ret (EvT.orT (EvT.isNone (Ev.loc rfl rfl (by decide)) none_of_none)) (Ex.ret Ev.bool)
theorem pop_ok {x : Dat} (hz : stk.length ≤ 1000000) : SP pv prog w 1 93 [.r a] ((a, .work (stk ++ [x]) gs) :: φ) (.d x) ((a, .work stk gs) :: φ) := by
  refine' Spec.def1 (x1 := S "self") ?ho ?hcd ?hb ?h1 ?c1 ?c2 ?c3 ?cell ?h
  ktr_unf
  intro C hC
  refine Ex.ret (Ev.opn fun ad al ag es n hW => ?_)
  cases hW
  exact Ev.pop (Ev.attr (c := 103) (Ev.loc rfl rfl (by decide)) (.head _) (.tail _ (.head _)) (by k_is) (by k_is) (by k_is) (by k_is) rfl rfl (fun _ => rfl)) (.tail (.tail .head)) hz
theorem take_ok {xs : List Dat} {k : Int} (hk : k = xs.length) (hz : stk.length + xs.length ≤ 1000000) : SP pv prog w 1 100 [.r a, .d (.int k)] ((a, .work (stk ++ xs) gs) :: φ) (.d (.list xs)) ((a, .work stk gs) :: φ) := by
  refine' Spec.def2 (x1 := S "self") (x2 := S "many") ?ho ?hcd ?hb ?h1 ?h2 ?c1 ?c2 ?c3 ?cell ?h
  ktr_unf
  intro C hC
  have hl : (stk ++ xs).length = stk.length + xs.length := List.length_append
  have e1 : ((stk ++ xs).length : Int) - k = stk.length := by omega
  refine Ex.assign (X := .d (.int stk.length)) (Ev.conv (Ev.subI (Ev.opn (stk' := stk ++ xs) (gs' := gs) (φ' := φ) fun ad al ag es n hW => ?_) (Ev.loc rfl rfl (by decide))) (by rw [e1])) ?_
  · cases hW
    exact Ev.lenM (Ev.attr (c := 103) (Ev.loc rfl rfl (by decide)) (.head _) (.tail _ (.head _)) (by k_is) (by k_is) (by k_is) (by k_is) rfl rfl (fun _ => rfl)) (.tail (.tail .head)) (by k_is) rfl (by omega)
  refine Ex.assign (X := .d (.list xs)) (Ev.opn (stk' := stk ++ xs) (gs' := gs) (φ' := φ) fun ad al ag es n hW => ?_) ?_
  · cases hW
    refine Ev.conv (Ev.fromM (Ev.attr (c := 103) (Ev.loc rfl rfl (by decide)) (.head _) (.tail _ (.head _)) (by k_is) (by k_is) (by k_is) (by k_is) rfl rfl (fun _ => rfl)) (Ev.loc rfl rfl (by decide)) (.tail (.tail .head)) (by omega) (by omega)) ?_
    rw [Int.toNat_natCast, List.drop_left]
  refine Ex.setStk (stk1 := stk ++ xs) (gs1 := gs) (φ' := φ) (xs := stk) ?_ (fun μ => Ev.loc rfl rfl (by decide)) (by k_is) (by k_is) (by k_is) (by k_is) (Ex.ret (Ev.loc rfl rfl (by decide)))
  refine EvN.opn rfl fun ad al ag es n hW => ?_
  cases hW
  refine EvN.conv (EvN.uptoM (Ev.attr (c := 103) (Ev.loc rfl rfl (by decide)) (.head _) (.tail _ (.head _)) (by k_is) (by k_is) (by k_is) (by k_is) rfl rfl (fun _ => rfl)) (Ev.loc rfl rfl (by decide)) (.tail (.tail .head)) (by omega) (by omega)) ?_
  rw [Int.toNat_natCast, List.take_left]
end
section
variable {pv : Program}
variable {prog : Program} {w : World} {φ μ : Mu} {a h : Addr} {stk gs : List Dat}
abbrev ANS (pv prog : Program) (w : World) (word : Str) (parts : List Dat) (r : Dat) : Prop := SpecP prog w (KK w.params) pv 1 357 [.d (.str word), .d (.list parts)] (.d r)
theorem ans_tup {word : Str} {parts : List Dat} (hw : (word == S "call") = false) : ANS pv prog w word parts (.tuple [.str word, .list parts]) := by
  intro μ
  refine' Spec.def2 (x1 := S "word") (x2 := S "parts") ?ho ?hcd ?hb ?h1 ?h2 ?c1 ?c2 ?c3 ?cell ?h
  ktr_unf
  intro C hC
  fin_run
  all_goals rfl
theorem ans_call {f : Str} {vs : List Dat} {b : Bool} (hf : (f == S "LOSES") = false) : ANS pv prog w (S "call") [.str f, .list vs, .bool b] (callD f vs b) := by
  intro μ
  refine' Spec.def2 (x1 := S "word") (x2 := S "parts") ?ho ?hcd ?hb ?h1 ?h2 ?c1 ?c2 ?c3 ?cell ?h
  ktr_unf
  intro C hC
  fin_run
  all_goals rfl
theorem ans_lose {vs : List Dat} {b : Bool} : ANS pv prog w (S "call") [dS "LOSES", .list vs, .bool b] .none := by
  intro μ
  refine' Spec.def2 (x1 := S "word") (x2 := S "parts") ?ho ?hcd ?hb ?h1 ?h2 ?c1 ?c2 ?c3 ?cell ?h
  ktr_unf
  intro C hC
  fin_run
  all_goals rfl
theorem ask_ok {word : Str} {parts : List Dat} {r : Dat} (hm : (h, Mo.hooks) ∈ μ) (hA : ANS pv prog w word parts r) : SP pv prog w 2 128 [.r h, .d (.str word), .d (.list parts)] μ (.d r) μ := by
  refine' Spec.def3 (x1 := S "self") (x2 := S "word") (x3 := S "parts") ?ho ?hcd ?hb ?h1 ?h2 ?h3 ?c1 ?c2 ?c3 ?cell ?h
  ktr_unf
  intro C hC
  refine Ex.assign (Ev.attrH (Ev.loc rfl rfl (by decide)) hm (by k_is) (by k_is) (by k_is) (by k_is)) ?_
  exact Ex.ret (Ev.callLoc rfl (by k_is) (EvL.cons (Ev.loc rfl rfl (by decide)) (EvL.cons (Ev.loc rfl rfl (by decide)) EvL.nil)) (hA _) (by omega))
local macro_rules | `(tactic| cell_call) => `(tactic| ((with_reducible refine' Ev.meth (c := 250) (f := 128) ?a ?b ?c ?d ?e ?f ?g ?hh ?i ?j ?k ?l); (case j => rfl); (case k => rfl); (case l => (intro _; rfl)); (case a => cell_call); (case b => exact InstV.hooks (by assumption) (by intro es h; cases h; rfl)); (case c => k_is); (case d => k_is); (case e => k_is); (case f => k_is); (case g => cell_call); (case hh => exact ask_ok (by assumption) (by assumption)); (case i => omega)))
theorem hk_var {x r : Dat} (hm : (h, Mo.hooks) ∈ μ) (hA : ANS pv prog w (S "read") [x] r) : SP pv prog w 3 135 [.r h, .d x] μ (.d r) μ := by
  refine' Spec.def2 (x1 := S "self") (x2 := S "name") ?ho ?hcd ?hb ?h1 ?h2 ?c1 ?c2 ?c3 ?cell ?h
  ktr_unf
  intro C hC
  refine Ex.ret ?_
  cell_call
theorem hk_name {x : Dat} {kd : Str} {r : Dat} (hm : (h, Mo.hooks) ∈ μ) (hA : ANS pv prog w kd [x] r) : SP pv prog w 3 142 [.r h, .d (.str kd), .d x] μ (.d r) μ := by
  refine' Spec.def3 (x1 := S "self") (x2 := S "kind") (x3 := S "name") ?ho ?hcd ?hb ?h1 ?h2 ?h3 ?c1 ?c2 ?c3 ?cell ?h
  ktr_unf
  intro C hC
  refine Ex.ret ?_
  cell_call
theorem hk_ind {x r : Dat} (hm : (h, Mo.hooks) ∈ μ) (hA : ANS pv prog w (S "indirect") [x] r) : SP pv prog w 3 149 [.r h, .d x] μ (.d r) μ := by
  refine' Spec.def2 (x1 := S "self") (x2 := S "value") ?ho ?hcd ?hb ?h1 ?h2 ?c1 ?c2 ?c3 ?cell ?h
  ktr_unf
  intro C hC
  refine Ex.ret ?_
  cell_call
theorem hk_val {x r : Dat} (hm : (h, Mo.hooks) ∈ μ) (hA : ANS pv prog w (S "value") [x] r) : SP pv prog w 3 156 [.r h, .d x] μ (.d r) μ := by
  refine' Spec.def2 (x1 := S "self") (x2 := S "ref") ?ho ?hcd ?hb ?h1 ?h2 ?c1 ?c2 ?c3 ?cell ?h
  ktr_unf
  intro C hC
  refine Ex.ret ?_
  cell_call
theorem hk_call {x y z r : Dat} (hm : (h, Mo.hooks) ∈ μ) (hA : ANS pv prog w (S "call") [x, y, z] r) : SP pv prog w 3 163 [.r h, .d x, .d y, .d z] μ (.d r) μ := by
  refine' Spec.def4 (x1 := S "self") (x2 := S "name") (x3 := S "args") (x4 := S "wants_name") ?ho ?hcd ?hb ?h1 ?h2 ?h3 ?h4 ?c1 ?c2 ?c3 ?cell ?h
  ktr_unf
  intro C hC
  refine Ex.ret ?_
  cell_call
theorem hk_item {x y z r : Dat} (hm : (h, Mo.hooks) ∈ μ) (hA : ANS pv prog w (S "item") [x, y, z] r) : SP pv prog w 3 170 [.r h, .d x, .d y, .d z] μ (.d r) μ := by
  refine' Spec.def4 (x1 := S "self") (x2 := S "owner") (x3 := S "keys") (x4 := S "wants_name") ?ho ?hcd ?hb ?h1 ?h2 ?h3 ?h4 ?c1 ?c2 ?c3 ?cell ?h
  ktr_unf
  intro C hC
  refine Ex.ret ?_
  cell_call
theorem hk_op {x y r : Dat} (hm : (h, Mo.hooks) ∈ μ) (hA : ANS pv prog w (S "operator") [x, y] r) : SP pv prog w 3 177 [.r h, .d x, .d y] μ (.d r) μ := by
  refine' Spec.def3 (x1 := S "self") (x2 := S "op") (x3 := S "args") ?ho ?hcd ?hb ?h1 ?h2 ?h3 ?c1 ?c2 ?c3 ?cell ?h
  ktr_unf
  intro C hC
  refine Ex.ret ?_
  cell_call
theorem hk_del {x r : Dat} (hm : (h, Mo.hooks) ∈ μ) (hA : ANS pv prog w (S "delayed") [x] r) : SP pv prog w 3 184 [.r h, .d x] μ (.d r) μ := by
  refine' Spec.def2 (x1 := S "self") (x2 := S "tree") ?ho ?hcd ?hb ?h1 ?h2 ?c1 ?c2 ?c3 ?cell ?h
  ktr_unf
  intro C hC
  refine Ex.ret ?_
  cell_call
theorem hk_giv {x y z r : Dat} (hm : (h, Mo.hooks) ∈ μ) (hA : ANS pv prog w (S "given") [x, y, z] r) : SP pv prog w 3 191 [.r h, .d x, .d y, .d z] μ (.d r) μ := by
  refine' Spec.def4 (x1 := S "self") (x2 := S "op") (x3 := S "value") (x4 := S "ref") ?ho ?hcd ?hb ?h1 ?h2 ?h3 ?h4 ?c1 ?c2 ?c3 ?cell ?h
  ktr_unf
  intro C hC
  refine Ex.ret ?_
  cell_call
theorem hk_cur {x r : Dat} (hm : (h, Mo.hooks) ∈ μ) (hA : ANS pv prog w (S "cursor") [x] r) : SP pv prog w 3 198 [.r h, .d x] μ (.d r) μ := by
  refine' Spec.def2 (x1 := S "self") (x2 := S "ref") ?ho ?hcd ?hb ?h1 ?h2 ?c1 ?c2 ?c3 ?cell ?h
  ktr_unf
  intro C hC
  refine Ex.ret ?_
  cell_call
end
section
local macro_rules | `(tactic| cell_call) => `(tactic| ((with_reducible refine' Ev.meth (c := 103) ?a ?b ?c ?d ?e ?f ?g ?hh ?i ?j ?k ?l); (case j => rfl); (case k => rfl); (case l => (intro _; rfl)); (case a => cell_call); (case b => ((with_reducible refine' InstV.work ?_); (intro es al ag h; cases h; rfl))); (case c => k_is); (case d => k_is); (case e => k_is); (case f => k_is); (case g => cell_call); (case hh => first | exact push_ok (by first | rfl | assumption) (by omega) | exact take_ok (by first | rfl | assumption) (by (try simp only [List.length_append, List.length_cons, List.length_nil]); omega) | exact push_none); (case i => omega)))
local macro_rules | `(tactic| cell_call) => `(tactic| ((with_reducible refine' Ev.meth0 (c := 103) ?a ?b ?c ?d ?e ?f ?hh ?i ?j); (case j => rfl); (case a => cell_call); (case b => ((with_reducible refine' InstV.work ?_); (intro es al ag h; cases h; rfl))); (case c => k_is); (case d => k_is); (case e => k_is); (case f => k_is); (case hh => exact pop_ok (by (try simp only [List.length_append, List.length_cons, List.length_nil]); omega)); (case i => omega)))
local macro_rules | `(tactic| cell_call) => `(tactic| ((with_reducible refine' Ev.meth (c := 250) ?a ?b ?c ?d ?e ?f ?g ?hh ?i ?j ?k ?l); (case j => rfl); (case k => rfl); (case l => (intro _; rfl)); (case a => cell_call); (case b => ((with_reducible refine' InstV.hooks ?hm ?_); (case hm => first | with_reducible assumption | exact List.Mem.tail _ (by assumption)); (intro es h; cases h; rfl))); (case c => k_is); (case d => k_is); (case e => k_is); (case f => k_is); (case g => cell_call); (case hh => first | exact hk_var (List.Mem.tail _ (by assumption)) (by assumption) | exact hk_name (List.Mem.tail _ (by assumption)) (by assumption) | exact hk_ind (List.Mem.tail _ (by assumption)) (by assumption) | exact hk_val (List.Mem.tail _ (by assumption)) (by assumption) | exact hk_call (List.Mem.tail _ (by assumption)) (by assumption) | exact hk_item (List.Mem.tail _ (by assumption)) (by assumption) | exact hk_op (List.Mem.tail _ (by assumption)) (by assumption) | exact hk_del (List.Mem.tail _ (by assumption)) (by assumption) | exact hk_giv (List.Mem.tail _ (by assumption)) (by assumption) | exact hk_cur (List.Mem.tail _ (by assumption)) (by assumption)); (case i => omega)))
section
variable {pv : Program}
variable {prog : Program} {w : World} {φ μ : Mu} {a h : Addr} {stk gs : List Dat}
abbrev DO (pv prog : Program) (w : World) (a h : Addr) (φ : Mu) (o : Ord) (s1 g1 : List Dat) (b : Bool) (s2 g2 : List Dat) : Prop := SP pv prog w 5 268 [.r a, .d o.dat, .r h] ((a, .work s1 g1) :: φ) (.d (.bool b)) ((a, .work s2 g2) :: φ)
theorem do_push {d : Dat} (hd' : plainDat d = true) (hz : stk.length ≤ 100000) : DO pv prog w a h φ (.push d) stk gs true (stk ++ [d]) gs := by
  refine' Spec.def3 (x1 := S "work") (x2 := S "order") (x3 := S "hooks") ?ho ?hcd ?hb ?h1 ?h2 ?h3 ?c1 ?c2 ?c3 ?cell ?h
  ktr_unf
  intro C hC
  fin_run
  all_goals rfl
theorem do_var {x : Str} (hm : (h, Mo.hooks) ∈ φ) (hz : stk.length ≤ 100000) : DO pv prog w a h φ (.var x) stk gs true (stk ++ [.tuple [dS "read", .list [.str x]]]) gs := by
  have hA := ans_tup (pv := pv) (prog := prog) (w := w) (word := S "read") (parts := [.str x]) (by decide)
  refine' Spec.def3 (x1 := S "work") (x2 := S "order") (x3 := S "hooks") ?ho ?hcd ?hb ?h1 ?h2 ?h3 ?c1 ?c2 ?c3 ?cell ?h
  ktr_unf
  intro C hC
  fin_run
  all_goals rfl
theorem do_ref {x : Str} (hm : (h, Mo.hooks) ∈ φ) (hz : stk.length ≤ 100000) : DO pv prog w a h φ (.ref x) stk gs true (stk ++ [.tuple [dS "var", .list [.str x]]]) gs := by
  have hA := ans_tup (pv := pv) (prog := prog) (w := w) (word := S "var") (parts := [.str x]) (by decide)
  refine' Spec.def3 (x1 := S "work") (x2 := S "order") (x3 := S "hooks") ?ho ?hcd ?hb ?h1 ?h2 ?h3 ?c1 ?c2 ?c3 ?cell ?h
  ktr_unf
  intro C hC
  fin_run
  all_goals rfl
theorem do_kw {x : Str} (hm : (h, Mo.hooks) ∈ φ) (hz : stk.length ≤ 100000) : DO pv prog w a h φ (.kw x) stk gs true (stk ++ [kwD x]) gs := by
  have hA := ans_tup (pv := pv) (prog := prog) (w := w) (word := S "keyword") (parts := [.str x]) (by decide)
  refine' Spec.def3 (x1 := S "work") (x2 := S "order") (x3 := S "hooks") ?ho ?hcd ?hb ?h1 ?h2 ?h3 ?c1 ?c2 ?c3 ?cell ?h
  ktr_unf
  intro C hC
  fin_run
  all_goals rfl
theorem do_value {v : Dat} (hm : (h, Mo.hooks) ∈ φ) (hz : stk.length ≤ 100000) : DO pv prog w a h φ .value (stk ++ [v]) gs true (stk ++ [valD v]) gs := by
  have hA := ans_tup (pv := pv) (prog := prog) (w := w) (word := S "value") (parts := [v]) (by decide)
  refine' Spec.def3 (x1 := S "work") (x2 := S "order") (x3 := S "hooks") ?ho ?hcd ?hb ?h1 ?h2 ?h3 ?c1 ?c2 ?c3 ?cell ?h
  ktr_unf
  intro C hC
  fin_run
  all_goals rfl
theorem do_ind {v : Dat} (hm : (h, Mo.hooks) ∈ φ) (hz : stk.length ≤ 100000) : DO pv prog w a h φ .indirect (stk ++ [v]) gs true (stk ++ [indD v]) gs := by
  have hA := ans_tup (pv := pv) (prog := prog) (w := w) (word := S "indirect") (parts := [v]) (by decide)
  refine' Spec.def3 (x1 := S "work") (x2 := S "order") (x3 := S "hooks") ?ho ?hcd ?hb ?h1 ?h2 ?h3 ?c1 ?c2 ?c3 ?cell ?h
  ktr_unf
  intro C hC
  fin_run
  all_goals rfl
theorem do_call {f : Str} {vs : List Dat} {n : Nat} {b : Bool} (hm : (h, Mo.hooks) ∈ φ) (hf : (f == S "LOSES") = false) (hn : (n : Int) = vs.length) (hv : vs.length ≤ 100000) (hz : stk.length ≤ 100000) : DO pv prog w a h φ (.call f n b) (stk ++ vs) gs true (stk ++ [callD f vs b]) gs := by
  have hA := ans_call (pv := pv) (prog := prog) (w := w) (vs := vs) (b := b) hf
  refine' Spec.def3 (x1 := S "work") (x2 := S "order") (x3 := S "hooks") ?ho ?hcd ?hb ?h1 ?h2 ?h3 ?c1 ?c2 ?c3 ?cell ?h
  ktr_unf
  intro C hC
  fin_run
  all_goals rfl
theorem do_lose {vs : List Dat} {n : Nat} {b : Bool} (hm : (h, Mo.hooks) ∈ φ) (hn : (n : Int) = vs.length) (hv : vs.length ≤ 100000) (hz : stk.length ≤ 100000) : DO pv prog w a h φ (.call (S "LOSES") n b) (stk ++ vs) gs false stk gs := by
  have hA := ans_lose (pv := pv) (prog := prog) (w := w) (vs := vs) (b := b)
  refine' Spec.def3 (x1 := S "work") (x2 := S "order") (x3 := S "hooks") ?ho ?hcd ?hb ?h1 ?h2 ?h3 ?c1 ?c2 ?c3 ?cell ?h
  ktr_unf
  intro C hC
  fin_run
  all_goals rfl
theorem do_item {v : Dat} {vs : List Dat} {n : Nat} {b : Bool} (hm : (h, Mo.hooks) ∈ φ) (hn : (n : Int) = vs.length) (hv : vs.length ≤ 100000) (hz : stk.length ≤ 100000) : DO pv prog w a h φ (.item n b) ((stk ++ [v]) ++ vs) gs true (stk ++ [itemD v vs b]) gs := by
  have hA := ans_tup (pv := pv) (prog := prog) (w := w) (word := S "item") (parts := [v, .list vs, .bool b]) (by decide)
  refine' Spec.def3 (x1 := S "work") (x2 := S "order") (x3 := S "hooks") ?ho ?hcd ?hb ?h1 ?h2 ?h3 ?c1 ?c2 ?c3 ?cell ?h
  ktr_unf
  intro C hC
  fin_run
  all_goals rfl
theorem do_un {v : Dat} {op : Str} (hm : (h, Mo.hooks) ∈ φ) (hz : stk.length ≤ 100000) : DO pv prog w a h φ (.unary op) (stk ++ [v]) gs true (stk ++ [opD op [v]]) gs := by
  have hA := ans_tup (pv := pv) (prog := prog) (w := w) (word := S "operator") (parts := [.str op, .list [v]]) (by decide)
  refine' Spec.def3 (x1 := S "work") (x2 := S "order") (x3 := S "hooks") ?ho ?hcd ?hb ?h1 ?h2 ?h3 ?c1 ?c2 ?c3 ?cell ?h
  ktr_unf
  intro C hC
  fin_run
  all_goals rfl
theorem do_bin {v u : Dat} {op : Str} (hm : (h, Mo.hooks) ∈ φ) (hz : stk.length ≤ 100000) : DO pv prog w a h φ (.binary op) (stk ++ [v, u]) gs true (stk ++ [opD op [v, u]]) gs := by
  have hA := ans_tup (pv := pv) (prog := prog) (w := w) (word := S "operator") (parts := [.str op, .list [v, u]]) (by decide)
  refine' Spec.def3 (x1 := S "work") (x2 := S "order") (x3 := S "hooks") ?ho ?hcd ?hb ?h1 ?h2 ?h3 ?c1 ?c2 ?c3 ?cell ?h
  ktr_unf
  intro C hC
  fin_run
  all_goals rfl
theorem do_join {v u : Dat} (hm : (h, Mo.hooks) ∈ φ) (hz : stk.length ≤ 100000) : DO pv prog w a h φ .join (stk ++ [v, u]) gs true (stk ++ [opD (S " ") [v, u]]) gs := by
  have hA := ans_tup (pv := pv) (prog := prog) (w := w) (word := S "operator") (parts := [dS " ", .list [v, u]]) (by decide)
  refine' Spec.def3 (x1 := S "work") (x2 := S "order") (x3 := S "hooks") ?ho ?hcd ?hb ?h1 ?h2 ?h3 ?c1 ?c2 ?c3 ?cell ?h
  ktr_unf
  intro C hC
  fin_run
  all_goals rfl
theorem dp_del {d : Dat} (hm : (h, Mo.hooks) ∈ φ) (hz : stk.length ≤ 100000) : SP pv prog w 4 275 [.r a, .d (Ord.delayed d).dat, .r h] ((a, .work stk gs) :: φ) (.d (.bool true)) ((a, .work (stk ++ [.tuple [dS "delayed", .list [d]]]) gs) :: φ) := by
  have hA := ans_tup (pv := pv) (prog := prog) (w := w) (word := S "delayed") (parts := [d]) (by decide)
  refine' Spec.def3 (x1 := S "work") (x2 := S "order") (x3 := S "hooks") ?ho ?hcd ?hb ?h1 ?h2 ?h3 ?c1 ?c2 ?c3 ?cell ?h
  ktr_unf
  intro C hC
  fin_run
  all_goals rfl
theorem dp_cur {v : Dat} (hm : (h, Mo.hooks) ∈ φ) (hz : stk.length ≤ 100000) : SP pv prog w 4 275 [.r a, .d Ord.cursor.dat, .r h] ((a, .work (stk ++ [v]) gs) :: φ) (.d (.bool true)) ((a, .work (stk ++ [curD v]) gs) :: φ) := by
  have hA := ans_tup (pv := pv) (prog := prog) (w := w) (word := S "cursor") (parts := [v]) (by decide)
  refine' Spec.def3 (x1 := S "work") (x2 := S "order") (x3 := S "hooks") ?ho ?hcd ?hb ?h1 ?h2 ?h3 ?c1 ?c2 ?c3 ?cell ?h
  ktr_unf
  intro C hC
  fin_run
  all_goals rfl
theorem dp_giv {v r : Dat} {op : Str} (hm : (h, Mo.hooks) ∈ φ) (hz : stk.length ≤ 100000) : SP pv prog w 4 275 [.r a, .d (Ord.given op).dat, .r h] ((a, .work ((stk ++ [v]) ++ [r]) gs) :: φ) (.d (.bool true)) ((a, .work (stk ++ [givD op v r]) gs) :: φ) := by
  have hA := ans_tup (pv := pv) (prog := prog) (w := w) (word := S "given") (parts := [.str op, v, r]) (by decide)
  refine' Spec.def3 (x1 := S "work") (x2 := S "order") (x3 := S "hooks") ?ho ?hcd ?hb ?h1 ?h2 ?h3 ?c1 ?c2 ?c3 ?cell ?h
  ktr_unf
  intro C hC
  fin_run
  all_goals rfl
end
section
variable {pv : Program}
variable {prog : Program} {w : World} {φ μ : Mu} {a h : Addr} {stk gs : List Dat}
section gen
variable {K : Frag} {p : Program} {fi : Fi} {prog : Program} {w : World} {C : Cx K p fi} {σ : List (Str × V)} {μ μ₁ μ₂ : Mu} {pos : Pos}
theorem Ev.neS {a b : Expr} {x y : Str} {r : Bool} (h1 : Ev prog w C σ μ a (.d (.str x)) μ₁) (h2 : Ev prog w C σ μ₁ b (.d (.str y)) μ₂) (hr : (x != y) = r)
    (hm : behindInMarks .NotEq b = false := by rfl) : Ev prog w C σ μ (.Compare a [.NotEq] [b] pos) (.d (.bool r)) μ₂ := by
  intro m ts Ts s Q E S k
  refine wpAny_Compare1 (h1 _ _ _ _ _ _ S fun va s1 S1 => h2 _ _ _ _ _ _ S1 fun vb s2 S2 => ?_) hm
  obtain ⟨imm, μr, S2⟩ := S2
  obtain ⟨hb, S3⟩ := S2.pop
  obtain ⟨ha, S4⟩ := S3.pop
  obtain ⟨ta, rfl⟩ := dat_str ha
  obtain ⟨tb, rfl⟩ := dat_str hb
  exact ne_str (hr ▸ k _ _ ⟨imm, μr, S4.push (.bool _)⟩)
theorem Ex.ifT {σ₂ : List (Str × V)} {O : Out} {rest : List Stmt} {t : Expr} {b o : List Stmt} (ht : EvT prog w C σ μ t true μ₁) (hb : Ex prog w C σ μ₁ b (.next σ₂ μ₂)) (hr : Ex prog w C σ₂ μ₂ rest O) : Ex prog w C σ μ (.If t b o pos :: rest) O := Ex.if_next (c := true) ht hb hr
theorem Ex.ifF {σ₂ : List (Str × V)} {O : Out} {rest : List Stmt} {t : Expr} {b o : List Stmt} (ht : EvT prog w C σ μ t false μ₁) (hb : Ex prog w C σ μ₁ o (.next σ₂ μ₂)) (hr : Ex prog w C σ₂ μ₂ rest O) : Ex prog w C σ μ (.If t b o pos :: rest) O := Ex.if_next (c := false) ht hb hr
end gen
theorem ot_ungd {g : Dat} (hz : gs.length ≤ 100000) : SP pv prog w 4 289 [.r a, .d Ord.unguard.dat, .r h] ((a, .work stk (gs ++ [g])) :: φ) (.d (.bool true)) ((a, .work stk gs) :: φ) := by
  refine' Spec.def3 (x1 := S "work") (x2 := S "order") (x3 := S "hooks") ?ho ?hcd ?hb ?h1 ?h2 ?h3 ?c1 ?c2 ?c3 ?cell ?h
  ktr_unf
  intro C hC
  refine Ex.assign (X := .d (dS "UNGUARD")) (by cell_call) ?_
  refine Ex.ifT (σ₂ := [(S "word", .d (dS "UNGUARD")), (S "hooks", .r h), (S "order", .d Ord.unguard.dat), (S "work", .r a)]) (μ₂ := (a, .work stk gs) :: φ) (by cell_call) ?_ (Ex.ret (Ev.neS (Ev.loc rfl rfl (by decide)) Ev.str rfl))
  refine (Ex.exprA (X := .d g) (μ₁ := (a, .work stk gs) :: φ) (Ev.opn (stk' := stk) (gs' := gs) (φ' := φ) fun ad al ag es n hW => by
    cases hW
    exact Ev.pop (Ev.attr (c := 103) (Ev.loc rfl rfl (by decide)) (.head _) (.tail _ (.head _)) (by k_is) (by k_is) (by k_is) (by k_is) rfl rfl (fun _ => rfl)) (.tail (.tail (.tail .head))) (by omega)) (Ex.nil fun _ _ e => e))
theorem ot_drop {v : Dat} (hz : stk.length ≤ 100000) : SP pv prog w 4 289 [.r a, .d Ord.drop.dat, .r h] ((a, .work (stk ++ [v]) gs) :: φ) (.d (.bool true)) ((a, .work stk gs) :: φ) := by
  refine' Spec.def3 (x1 := S "work") (x2 := S "order") (x3 := S "hooks") ?ho ?hcd ?hb ?h1 ?h2 ?h3 ?c1 ?c2 ?c3 ?cell ?h
  ktr_unf
  intro C hC
  fin_run
  exact Ex.if_next (c := false) (by cell_call) (Ex.if_next (c := true) (by cell_call) (Ex.exprA (X := .d v) (μ₁ := (a, .work stk gs) :: φ) (by cell_call) (Ex.nil fun _ _ e => e)) (Ex.nil fun _ _ e => e)) (Ex.ret (Ev.neS (Ev.loc rfl rfl (by decide)) Ev.str rfl))
theorem ot_fail : SP pv prog w 4 289 [.r a, .d Ord.fail.dat, .r h] μ (.d (.bool false)) μ := by
  refine' Spec.def3 (x1 := S "work") (x2 := S "order") (x3 := S "hooks") ?ho ?hcd ?hb ?h1 ?h2 ?h3 ?c1 ?c2 ?c3 ?cell ?h
  ktr_unf
  intro C hC
  fin_run
  exact Ex.if_next (c := false) (by cell_call) (Ex.if_next (c := false) (by cell_call) (Ex.if_next (c := false) (by cell_call) (Ex.if_next (c := false) (by cell_call) (Ex.if_next (c := false) (by cell_call) (Ex.if_skip (by cell_call) (Ex.nil fun _ _ e => e)) (Ex.nil fun _ _ e => e)) (Ex.nil fun _ _ e => e)) (Ex.nil fun _ _ e => e)) (Ex.nil fun _ _ e => e)) (Ex.ret (Ev.neS (Ev.loc rfl rfl (by decide)) Ev.str rfl))
theorem do_del {d : Dat} (hm : (h, Mo.hooks) ∈ φ) (hz : stk.length ≤ 100000) : DO pv prog w a h φ (.delayed d) stk gs true (stk ++ [.tuple [dS "delayed", .list [d]]]) gs := by
  refine' Spec.def3 (x1 := S "work") (x2 := S "order") (x3 := S "hooks") ?ho ?hcd ?hb ?h1 ?h2 ?h3 ?c1 ?c2 ?c3 ?cell ?h
  ktr_unf
  intro C hC
  fin_run
  exact Ex.ret (Ev.call (by k_is) (by k_is) (EvL.cons (Ev.loc rfl rfl (by decide)) (EvL.cons (Ev.loc rfl rfl (by decide)) (EvL.cons (Ev.loc rfl rfl (by decide)) EvL.nil))) (dp_del hm hz) (by omega))
theorem do_cur {v : Dat} (hm : (h, Mo.hooks) ∈ φ) (hz : stk.length ≤ 100000) : DO pv prog w a h φ .cursor (stk ++ [v]) gs true (stk ++ [curD v]) gs := by
  refine' Spec.def3 (x1 := S "work") (x2 := S "order") (x3 := S "hooks") ?ho ?hcd ?hb ?h1 ?h2 ?h3 ?c1 ?c2 ?c3 ?cell ?h
  ktr_unf
  intro C hC
  fin_run
  exact Ex.ret (Ev.call (by k_is) (by k_is) (EvL.cons (Ev.loc rfl rfl (by decide)) (EvL.cons (Ev.loc rfl rfl (by decide)) (EvL.cons (Ev.loc rfl rfl (by decide)) EvL.nil))) (dp_cur hm hz) (by omega))
theorem do_giv {v r : Dat} {op : Str} (hm : (h, Mo.hooks) ∈ φ) (hz : stk.length ≤ 100000) : DO pv prog w a h φ (.given op) ((stk ++ [v]) ++ [r]) gs true (stk ++ [givD op v r]) gs := by
  refine' Spec.def3 (x1 := S "work") (x2 := S "order") (x3 := S "hooks") ?ho ?hcd ?hb ?h1 ?h2 ?h3 ?c1 ?c2 ?c3 ?cell ?h
  ktr_unf
  intro C hC
  fin_run
  exact Ex.ret (Ev.call (by k_is) (by k_is) (EvL.cons (Ev.loc rfl rfl (by decide)) (EvL.cons (Ev.loc rfl rfl (by decide)) (EvL.cons (Ev.loc rfl rfl (by decide)) EvL.nil))) (dp_giv hm hz) (by omega))
theorem do_ungd {g : Dat} (hz : gs.length ≤ 100000) : DO pv prog w a h φ .unguard stk (gs ++ [g]) true stk gs := by
  refine' Spec.def3 (x1 := S "work") (x2 := S "order") (x3 := S "hooks") ?ho ?hcd ?hb ?h1 ?h2 ?h3 ?c1 ?c2 ?c3 ?cell ?h
  ktr_unf
  intro C hC
  fin_run
  exact Ex.ret (Ev.call (by k_is) (by k_is) (EvL.cons (Ev.loc rfl rfl (by decide)) (EvL.cons (Ev.loc rfl rfl (by decide)) (EvL.cons (Ev.loc rfl rfl (by decide)) EvL.nil))) (ot_ungd hz) (by omega))
theorem do_drop {v : Dat} (hz : stk.length ≤ 100000) : DO pv prog w a h φ .drop (stk ++ [v]) gs true stk gs := by
  refine' Spec.def3 (x1 := S "work") (x2 := S "order") (x3 := S "hooks") ?ho ?hcd ?hb ?h1 ?h2 ?h3 ?c1 ?c2 ?c3 ?cell ?h
  ktr_unf
  intro C hC
  fin_run
  exact Ex.ret (Ev.call (by k_is) (by k_is) (EvL.cons (Ev.loc rfl rfl (by decide)) (EvL.cons (Ev.loc rfl rfl (by decide)) (EvL.cons (Ev.loc rfl rfl (by decide)) EvL.nil))) (ot_drop hz) (by omega))
theorem do_fail   : DO pv prog w a h φ .fail stk gs false stk gs := by
  refine' Spec.def3 (x1 := S "work") (x2 := S "order") (x3 := S "hooks") ?ho ?hcd ?hb ?h1 ?h2 ?h3 ?c1 ?c2 ?c3 ?cell ?h
  ktr_unf
  intro C hC
  fin_run
  exact Ex.ret (Ev.call (by k_is) (by k_is) (EvL.cons (Ev.loc rfl rfl (by decide)) (EvL.cons (Ev.loc rfl rfl (by decide)) (EvL.cons (Ev.loc rfl rfl (by decide)) EvL.nil))) (ot_fail) (by omega))
end
section
variable {pv : Program}
section gen
variable {K : Frag} {p : Program} {fi : Fi} {prog : Program} {w : World}
variable {C : Cx K p fi} {σ σ' σ₀ σ₁ σ₂ : List (Str × V)} {μ μ' μ₁ μ₂ μ₃ φ φ' : Mu} {pos px py p1 p2 p3 : Pos} {ts : List Value} {Ts : List V} {s : Shared} {O : Out} {X X' : V} {x y : Str} {rest : List Stmt}
theorem WhE.stopW {t : Expr} {b : List Stmt} (ht : EvT prog w C σ μ t false μ₁) (h0 : ∀ y Y, σ₂.lookup y = some Y → σ.lookup y = some Y) : WhE prog w C σ μ t b (.next σ₂ μ₁) := by
  intro ts Ts s Q S k n
  obtain ⟨m, S⟩ := S.stM
  refine whl_turn (k := n) PassesOwn.never (ht _ _ _ _ _ _ S fun s' S' => WhlIf.no rfl (wpAny_execs_nil (k _ _ ⟨rfl, S'.st.toNil (fun _ _ l y Y e => l y Y (h0 y Y e)) fun _ h => h⟩)))
theorem Ex.augI {e : Expr} {i j : Int} (hl : σ.lookup x = some (.d (.int i))) (he : Ev prog w C σ μ e (.d (.int j)) μ₁) (hr : Ex prog w C ((x, .d (.int (i + j))) :: σ) μ₁ rest O) (hx : fi.cs.names.lookup x = some .local := by rfl) :
    Ex prog w C σ μ (.AugAssign (.Name x px) .Add e pos :: rest) O := by
  intro ts Ts s Q E S k
  obtain ⟨m, S⟩ := S.stM
  obtain ⟨imm, μr, S'⟩ := id S
  obtain ⟨v, hv, hV⟩ := S'.lo x _ hl
  obtain ⟨t, rfl⟩ := dat_int hV
  refine wpAny_execs_cons (wpAny_AugAssign_Name (wpAny_loadName_local C.hk hx S'.fr.ns hv (he _ _ _ _ _ _ S fun u s1 S1 => ?_)))
  obtain ⟨imm1, μr1, S1⟩ := S1
  obtain ⟨hu, S2⟩ := S1.pop
  obtain ⟨t', rfl⟩ := dat_int hu
  refine wpAny_iadd_int ?_
  have S3 := S2.toks (h' := s1.heap) (tk := s1.toks + 1) rfl
  exact storeX_L S3.fr S3.nw (fun h' F N => hr _ _ _ _ _ ⟨_, imm1, μr1, S3.store (X := .d (.int (i + j))) (.int _ _) F N⟩ k) C.hk hx
section
variable {f : Addr} {name qual : Str} {params : Arguments} {body : List Stmt} {scope : Scope} {dV kV doc pm cdv ct oc : Value} {an od : Option Addr} {osl : Array (Option Value)} {n : Nat} {X1 X2 X3 : V} {x1 x2 x3 : Str} {m : Str → Option Value} {v1 v2 v3 : Value} {R : Result → Shared → Prop}
theorem CodeB1 (ho : K.lookup f = some ⟨oc, od, .func (fnOf name qual params body scope dV kV doc pm an cdv ct), osl⟩) (hcd : codeIn K cdv qual = true)
    (hb : ∀ v1, bindArgs (fnOf name qual params body scope dV kV doc pm an cdv ct) ⟨[v1], []⟩ = pure [(x1, v1)]) (h1 : scope.names.lookup x1 = some .local)
    (hco : scope.isCoroutine = false) (hgen : scope.isGenerator = false) (hk : scope.kind = .function) (hcell : ∀ x ∈ scope.names, x.2 ≠ .cell)
    (h : ∀ (C : Cx K p ⟨qual, scope, f, cdv⟩), C.room = n → Ex prog w C [(x1, X1)] μ body (.next σ₁ μ')) (hroom : n + 1 ≤ C.room) (S : StM C σ μ (v1 :: ts) (X1 :: Ts) m s)
    (k : ∀ s', StM C σ μ' ts Ts m s' → R (.ok (.ret .none)) s') : codeAny (model prog w) C.A (.call (.ref f) ⟨[v1], []⟩) R s := by
  refine CodeB (Xs := [X1]) (vs := [v1]) _ ho hcd (fun s vs imm hv => ?_) hco hgen hk hcell h hroom rfl S k
  cases hv with
  | cons a r =>
    cases r
    refine ⟨_, BindsTo.of_eq (hb _), ?_, .cons a .nil⟩
    intro y hy
    simp only [List.mem_cons, List.not_mem_nil, or_false] at hy
    subst hy; exact h1
theorem CodeB3 (ho : K.lookup f = some ⟨oc, od, .func (fnOf name qual params body scope dV kV doc pm an cdv ct), osl⟩) (hcd : codeIn K cdv qual = true)
    (hb : ∀ v1 v2 v3, bindArgs (fnOf name qual params body scope dV kV doc pm an cdv ct) ⟨[v1, v2, v3], []⟩ = pure [(x1, v1), (x2, v2), (x3, v3)]) (h1 : scope.names.lookup x1 = some .local) (h2 : scope.names.lookup x2 = some .local) (h3 : scope.names.lookup x3 = some .local)
    (hco : scope.isCoroutine = false) (hgen : scope.isGenerator = false) (hk : scope.kind = .function) (hcell : ∀ x ∈ scope.names, x.2 ≠ .cell)
    (h : ∀ (C : Cx K p ⟨qual, scope, f, cdv⟩), C.room = n → Ex prog w C [(x3, X3), (x2, X2), (x1, X1)] μ body (.next σ₁ μ')) (hroom : n + 1 ≤ C.room) (S : StM C σ μ (v1 :: v2 :: v3 :: ts) (X1 :: X2 :: X3 :: Ts) m s)
    (k : ∀ s', StM C σ μ' ts Ts m s' → R (.ok (.ret .none)) s') : codeAny (model prog w) C.A (.call (.ref f) ⟨[v1, v2, v3], []⟩) R s := by
  refine CodeB (Xs := [X1, X2, X3]) (vs := [v1, v2, v3]) _ ho hcd (fun s vs imm hv => ?_) hco hgen hk hcell h hroom rfl S k
  cases hv with
  | cons a r =>
    cases r with
    | cons b r =>
      cases r with
      | cons c r =>
        cases r
        refine ⟨_, BindsTo.of_eq (hb _ _ _), ?_, .cons c (.cons b (.cons a .nil))⟩
        intro y hy
        simp only [List.mem_cons, List.not_mem_nil, or_false] at hy
        rcases hy with rfl | rfl | rfl
        · exact h1
        · exact h2
        · exact h3
end
end gen
variable {prog : Program} {w : World} {φ μ : Mu} {a h : Addr} {stk gs : List Dat}
theorem val_none {v : Value} (hv : ∃ imm, VIn imm v (.d .none)) : v = .none := let ⟨_, h⟩ := hv; dat_none h
theorem mk_work {fi : Fi} {C : Cx (KK w.params) pv fi} {σ : List (Str × V)} {px pos : Pos} (hr : 2 ≤ C.room) (hx : fi.cs.names.lookup (S "Work") = some .globalImplicit := by rfl) : EvN prog w C σ μ (.Call (.Name (S "Work") px) [] [] pos) (.work [] []) μ := by
  refine EvN.make0 (c := 103) (fI := 79) (by k_is) (by k_is) (by k_is) (by k_is) (by k_is) (fun C' a ad σ m ts Ts s R hC' SS k => ?_) (by omega) hx (by decide)
  refine' CodeB1 (n := 0) (x1 := S "self") (σ₁ := []) (μ' := (a, .work [] []) :: μ) ?ho ?hcd ?hb ?h1 ?c1 ?c2 ?c3 ?cell ?h ?hroom SS k
  (case ho => k_is); (case hcd => k_is); (case hb => intros; rfl); (case h1 => rfl); (case c1 => rfl); (case c2 => rfl); (case c3 => rfl); (case cell => decide); (case hroom => omega)
  intro C hC
  refine Ex.setN (c := 103) (ad := ad) (es := []) (n := 0) (f := fun d' => (a, .o (instObj 103 ad)) :: (ad, .o d') :: μ) EvN.nil (fun _ => Ev.loc rfl rfl (by decide)) (.head _) (fun d' => .tail .head) (by k_is) (by k_is) (by k_is) (by k_is) rfl (fun _ _ _ => Nat.le_of_ble_eq_true rfl) (fun b1 h1 t1 => ?_)
  refine Ex.setN (c := 103) (ad := ad) (f := fun d' => (b1, .l []) :: (a, .o (instObj 103 ad)) :: (ad, .o d') :: μ) EvN.nil (fun _ => Ev.loc rfl rfl (by decide)) (.tail _ (.head _)) (fun d' => .tail (.tail .head)) (by k_is) (by k_is) (by k_is) (by k_is) rfl (fun _ _ _ => Nat.le_of_ble_eq_true rfl) (fun b2 h2 t2 => ?_)
  refine Ex.setA (c := 103) (ad := ad) (X := .d .none) (f := fun d' => (b2, .l []) :: (b1, .l []) :: (a, .o (instObj 103 ad)) :: (ad, .o d') :: μ) Ev.none (Ev.loc rfl rfl (by decide)) (.tail _ (.tail _ (.head _))) (fun d' => .tail (.tail (.tail .head))) (by k_is) (by k_is) (by k_is) (by k_is) rfl (fun _ _ _ => Nat.le_of_ble_eq_true rfl) (fun h3 t3 v3 hv3 => ?_)
  obtain rfl := val_none hv3
  refine Ex.setA (c := 103) (ad := ad) (X := .d .none) (f := fun d' => (b2, .l []) :: (b1, .l []) :: (a, .o (instObj 103 ad)) :: (ad, .o d') :: μ) Ev.none (Ev.loc rfl rfl (by decide)) (.tail _ (.tail _ (.head _))) (fun d' => .tail (.tail (.tail .head))) (by k_is) (by k_is) (by k_is) (by k_is) rfl (fun _ _ _ => Nat.le_of_ble_eq_true rfl) (fun h4 t4 v4 hv4 => ?_)
  obtain rfl := val_none hv4
  refine Ex.nilC fun ts Ts s SS => ?_
  obtain ⟨m, imm, μr, SS⟩ := SS
  obtain ⟨μr', SS⟩ := SS.mkW .mk
  exact ⟨m, imm, μr', ⟨SS.fr, SS.nw, SS.ap, SS.nd, SS.ma, SS.im, (fun _ _ e => by cases e), SS.tm, SS.sm⟩⟩
end
section
variable {pv : Program}
section gen
variable {K : Frag} {p : Program} {fi : Fi} {prog : Program} {w : World}
variable {C : Cx K p fi} {σ σ' σ₀ σ₁ σ₂ : List (Str × V)} {μ μ' μ₁ μ₂ μ₃ φ φ' : Mu} {pos px py p1 p2 p3 : Pos} {ts : List Value} {Ts : List V} {s : Shared} {O : Out} {X X' : V} {x y : Str} {rest : List Stmt}
theorem wh_run {os : List Ord} {σI : Nat → List (Str × V)} {M : List Dat → List Dat → Mu} {t : Expr} {b : List Stmt}
    (hstop : ∀ i s g, os.length ≤ i → EvT prog w C (σI i) (M s g) t false (M s g)) (hgo : ∀ i s g, i < os.length → EvT prog w C (σI i) (M s g) t true (M s g))
    (h0 : ∀ i y Y, σ₂.lookup y = some Y → (σI i).lookup y = some Y)
    (hok : ∀ i o s1 g1 s2 g2, os[i]? = some o → Step o s1 g1 s2 g2 → s1.length ≤ 50000 → g1.length ≤ 50000 → i < os.length → Ex prog w C (σI i) (M s1 g1) b (.next (σI (i + 1)) (M s2 g2)))
    (hguard : ∀ i k s g, os[i]? = some (.guard k) → s.length ≤ 50000 → g.length ≤ 50000 → i < os.length → Ex prog w C (σI i) (M s g) b (.next (σI (i + 1)) (M s (g ++ [gD (i + k) s.length]))))
    (hback : ∀ i o j ht s1 s2 g, os[i]? = some o → StepF o s1 s2 → s1.length ≤ 50000 → g.length ≤ 50000 → ht ≤ s2.length → i < os.length → Ex prog w C (σI i) (M s1 (g ++ [gD j ht])) b (.next (σI j) (M (s2.take ht) g)))
    {i : Nat} {stk gs fs fg : List Dat} (hr : Run os i stk gs fs fg) : WhE prog w C (σI i) (M stk gs) t b (.next σ₂ (M fs fg)) := by
  induction hr with
  | stop h => exact WhE.stopW (hstop _ _ _ h) (h0 _)
  | ok ho hS e1 e2 l1 l2 _ ih =>
    subst e1; subst e2
    have hi := (List.getElem?_eq_some_iff.mp ho).1
    exact WhE.turn (hgo _ _ _ hi) (hok _ _ _ _ _ _ ho hS l1 l2 hi) ih
  | guard ho l1 l2 _ ih =>
    have hi := (List.getElem?_eq_some_iff.mp ho).1
    exact WhE.turn (hgo _ _ _ hi) (hguard _ _ _ _ ho l1 l2 hi) ih
  | back ho hS l1 l2 l3 _ ih =>
    have hi := (List.getElem?_eq_some_iff.mp ho).1
    exact WhE.turn (hgo _ _ _ hi) (hback _ _ _ _ _ _ _ ho hS l1 l2 l3 hi) ih
theorem SpecN.def2 {f : Addr} {name qual : Str} {params : Arguments} {body : List Stmt} {scope : Scope} {dV kV doc pm cdv ct oc : Value} {an od : Option Addr} {osl : Array (Option Value)} {n : Nat} {X1 X2 : V} {x1 x2 : Str} {z : Mo}
    (ho : K.lookup f = some ⟨oc, od, .func (fnOf name qual params body scope dV kV doc pm an cdv ct), osl⟩) (hcd : codeIn K cdv qual = true)
    (hb : ∀ v1 v2, bindArgs (fnOf name qual params body scope dV kV doc pm an cdv ct) ⟨[v1, v2], []⟩ = pure [(x1, v1), (x2, v2)]) (h1 : scope.names.lookup x1 = some .local) (h2 : scope.names.lookup x2 = some .local)
    (hco : scope.isCoroutine = false) (hgen : scope.isGenerator = false) (hk : scope.kind = .function) (hcell : ∀ x ∈ scope.names, x.2 ≠ .cell)
    (h : ∀ (C : Cx K p ⟨qual, scope, f, cdv⟩), C.room = n → Ex prog w C [(x2, X2), (x1, X1)] μ body (.retN z μ')) : SpecN prog w K p (n + 1) f [X1, X2] μ z μ' := by
  refine SpecN.of_body _ ho hcd (fun s vs imm hv => ?_) hco hgen hk hcell h
  cases hv with
  | cons a r =>
    cases r with
    | cons b r =>
      cases r
      refine ⟨_, BindsTo.of_eq (hb _ _), ?_, .cons b (.cons a .nil)⟩
      intro y hy
      simp only [List.mem_cons, List.not_mem_nil, or_false] at hy
      rcases hy with rfl | rfl
      · exact h1
      · exact h2
end gen
def Ord.tag : Ord → Str
  | .push _ => S "PUSH"
  | .var _ => S "VAR"
  | .ref _ => S "REF"
  | .kw _ => S "KEYWORD"
  | .value => S "VALUE"
  | .indirect => S "INDIRECT"
  | .call _ _ _ => S "CALL"
  | .item _ _ => S "ITEM"
  | .unary _ => S "UNARY"
  | .binary _ => S "BINARY"
  | .join => S "JOIN"
  | .delayed _ => S "DELAYED"
  | .given _ => S "GIVEN"
  | .cursor => S "CURSOR"
  | .guard _ => S "GUARD"
  | .unguard => S "UNGUARD"
  | .fail => S "FAIL"
  | .drop => S "DROP"
theorem Ord.dat_eq (o : Ord) : ∃ r, o.dat = .tuple (.str o.tag :: r) := by cases o <;> exact ⟨_, rfl⟩
theorem Step.tag {o : Ord} {s1 g1 s2 g2 : List Dat} (h : Step o s1 g1 s2 g2) : (o.tag == S "GUARD") = false := by cases h <;> rfl
theorem StepF.tag {o : Ord} {s1 s2 : List Dat} (h : StepF o s1 s2) : (o.tag == S "GUARD") = false := by cases h <;> rfl
theorem StepF.len {o : Ord} {s1 s2 : List Dat} (h : StepF o s1 s2) : s2.length ≤ s1.length := by
  cases h with
  | lose _ _ => rw [List.length_append]; omega
  | fail => exact Nat.le_refl _
variable {prog : Program} {w : World} {φ μ : Mu} {a h : Addr} {stk gs : List Dat}
theorem do_step {o : Ord} {s1 g1 s2 g2 : List Dat} (hS : Step o s1 g1 s2 g2) (hm : (h, Mo.hooks) ∈ φ) (h1 : s1.length ≤ 50000) (h2 : g1.length ≤ 50000) : DO pv prog w a h φ o s1 g1 true s2 g2 := by
  cases hS
  all_goals (try simp only [List.length_append, List.length_cons, List.length_nil] at h1)
  all_goals (try simp only [List.length_append, List.length_cons, List.length_nil] at h2)
  case push hd => exact do_push hd (by omega)
  case var => exact do_var hm (by omega)
  case ref => exact do_ref hm (by omega)
  case kw => exact do_kw hm (by omega)
  case value => exact do_value hm (by omega)
  case indirect => exact do_ind hm (by omega)
  case call hf hn hv => exact do_call hm hf (by omega) hv (by omega)
  case item hn hv => exact do_item hm (by omega) hv (by omega)
  case unary => exact do_un hm (by omega)
  case binary => exact do_bin hm (by omega)
  case join => exact do_join hm (by omega)
  case delayed => exact do_del hm (by omega)
  case given => exact do_giv hm (by omega)
  case cursor => exact do_cur hm (by omega)
  case unguard => exact do_ungd (by omega)
  case drop => exact do_drop (by omega)
theorem do_stepF {o : Ord} {s1 s2 : List Dat} (hS : StepF o s1 s2) (hm : (h, Mo.hooks) ∈ φ) (h1 : s1.length ≤ 50000) : DO pv prog w a h φ o s1 gs false s2 gs := by
  cases hS
  all_goals (try simp only [List.length_append, List.length_cons, List.length_nil] at h1)
  case lose hn hv => exact do_lose hm (by omega) hv (by omega)
  case fail => exact do_fail
abbrev σR (os : List Ord) (b h : Addr) (i : Nat) : List (Str × V) := [(S "work", .r b), (S "at", .d (.int i)), (S "hooks", .r h), (S "orders", .d (.list (os.map Ord.dat)))]
theorem run_row {os : List Ord} {fs fg : List Dat} (hl : os.length ≤ 10000) (hr : Run os 0 [] [] fs fg) : SpecN prog w (KK w.params) pv 7 261 [.d (.list (os.map Ord.dat)), .r h] ((h, .hooks) :: φ) (.work fs fg) ((h, .hooks) :: φ) := by
  refine' SpecN.def2 (x1 := S "orders") (x2 := S "hooks") ?ho ?hcd ?hb ?h1 ?h2 ?c1 ?c2 ?c3 ?cell ?h
  ktr_unf
  intro C hC
  refine Ex.assign2N (db := .int 0) (mk_work (by omega)) (fun _ => Ev.int) (fun b => ?_)
  refine Ex.whileN (σ₂ := [(S "work", .r b)]) (μ₂ := (b, .work fs fg) :: (h, .hooks) :: φ) ?_ (Ex.retNm rfl)
  have hL : (os.map Ord.dat).length = os.length := List.length_map ..
  refine wh_run (σ₂ := [(S "work", .r b)]) (σI := σR os b h) (M := fun s g => (b, .work s g) :: (h, .hooks) :: φ) (fun i s g hi => ?_) (fun i s g hi => ?_) (fun i => AllLk.use ⟨rfl, trivial⟩) (fun i o s1 g1 s2 g2 ho hS l1 l2 hi => ?_) (fun i k s g ho l1 l2 hi => ?_) (fun i o j ht s1 s2 g ho hS l1 l2 l3 hi => ?_) hr
  · exact EvT.ltI (Ev.loc rfl rfl (by decide)) (Ev.len (Ev.loc rfl rfl (by decide)) (by k_is) rfl (by omega)) (by rw [hL]; exact decide_eq_false (by omega))
  · exact EvT.ltI (Ev.loc rfl rfl (by decide)) (Ev.len (Ev.loc rfl rfl (by decide)) (by k_is) rfl (by omega)) (by rw [hL]; exact decide_eq_true (by omega))
  · have hx : (os.map Ord.dat)[((i : Nat) : Int).toNat]? = some o.dat := by rw [Int.toNat_natCast, List.getElem?_map, ho]; rfl
    obtain ⟨r, er⟩ := o.dat_eq
    refine Ex.assign (X := .d o.dat) (Ev.itemL (x := o.dat) (Ev.loc rfl rfl (by decide)) (Ev.loc rfl rfl (by decide)) (by omega) hx (by omega) (fun _ _ => rfl)) ?_
    refine Ex.ifF (EvT.eqS (Ev.itemT (Ev.conv (Ev.loc rfl rfl (by decide)) (by rw [er])) Ev.int (by decide) rfl (by decide) (fun _ _ => rfl)) Ev.str hS.tag) ?_ (Ex.nil fun _ _ e => e)
    refine Ex.ifT (EvT.bool (Ev.call (by k_is) (by k_is) (EvL.cons (Ev.loc rfl rfl (by decide)) (EvL.cons (Ev.loc rfl rfl (by decide)) (EvL.cons (Ev.loc rfl rfl (by decide)) EvL.nil))) (do_step hS (.head _) l1 l2) (by omega))) ?_ (Ex.nil fun _ _ e => e)
    exact Ex.augI rfl Ev.int (Ex.nilK ⟨rfl, rfl, rfl, rfl, trivial⟩)
  · have hx : (os.map Ord.dat)[((i : Nat) : Int).toNat]? = some (Ord.guard k).dat := by rw [Int.toNat_natCast, List.getElem?_map, ho]; rfl
    refine Ex.assign (X := .d (Ord.guard k).dat) (Ev.itemL (x := (Ord.guard k).dat) (Ev.loc rfl rfl (by decide)) (Ev.loc rfl rfl (by decide)) (by omega) hx (by omega) (fun _ _ => rfl)) ?_
    refine Ex.ifT (EvT.eqS (Ev.itemT (Ev.loc rfl rfl (by decide)) Ev.int (by decide) rfl (by decide) (fun _ _ => rfl)) Ev.str (by decide)) ?_ (Ex.nil fun _ _ e => e)
    refine Ex.expr (Ev.opn (stk' := s) (gs' := g ++ [gD (i + k) s.length]) (φ' := (h, .hooks) :: φ) fun ad al ag es n hW => ?_) (Ex.augI rfl Ev.int (Ex.nilK ⟨rfl, rfl, rfl, rfl, trivial⟩))
    cases hW
    refine Ev.append (Ev.attr (c := 103) (Ev.loc rfl rfl (by decide)) (.head _) (.tail _ (.head _)) (by k_is) (by k_is) (by k_is) (by k_is) rfl rfl (fun _ => rfl)) (.tail (.tail (.tail .head))) (Ev.tup (EvD.cons (Ev.addI (Ev.loc rfl rfl (by decide)) (Ev.itemT (Ev.loc rfl rfl (by decide)) Ev.int (by decide) rfl (by decide) (fun _ _ => rfl))) (EvD.cons (Ev.lenM (Ev.attr (c := 103) (Ev.loc rfl rfl (by decide)) (.head _) (.tail _ (.head _)) (by k_is) (by k_is) (by k_is) (by k_is) rfl rfl (fun _ => rfl)) (.tail (.tail .head)) (by k_is) rfl (by omega)) EvD.nil)) (by exact Nat.le_of_ble_eq_true rfl)) (.tail (.tail (.tail .head))) (by omega)
  · have hx : (os.map Ord.dat)[((i : Nat) : Int).toNat]? = some o.dat := by rw [Int.toNat_natCast, List.getElem?_map, ho]; rfl
    obtain ⟨r, er⟩ := o.dat_eq
    have hlg : (g ++ [gD j ht]).length = g.length + 1 := by rw [List.length_append]; rfl
    refine Ex.assign (X := .d o.dat) (Ev.itemL (x := o.dat) (Ev.loc rfl rfl (by decide)) (Ev.loc rfl rfl (by decide)) (by omega) hx (by omega) (fun _ _ => rfl)) ?_
    refine Ex.ifF (EvT.eqS (Ev.itemT (Ev.conv (Ev.loc rfl rfl (by decide)) (by rw [er])) Ev.int (by decide) rfl (by decide) (fun _ _ => rfl)) Ev.str hS.tag) ?_ (Ex.nil fun _ _ e => e)
    refine Ex.ifF (EvT.bool (Ev.call (by k_is) (by k_is) (EvL.cons (Ev.loc rfl rfl (by decide)) (EvL.cons (Ev.loc rfl rfl (by decide)) (EvL.cons (Ev.loc rfl rfl (by decide)) EvL.nil))) (do_stepF hS (.head _) l1) (by omega))) ?_ (Ex.nil fun _ _ e => e)
    refine Ex.ifT (EvT.gtI (x := ((g ++ [gD j ht]).length : Int)) (Ev.opn (stk' := s2) (gs' := g ++ [gD j ht]) (φ' := (h, .hooks) :: φ) fun ad al ag es n hW => ?_) Ev.int (decide_eq_true (by omega))) ?_ (Ex.nil fun _ _ e => e)
    · cases hW
      exact Ev.lenM (Ev.attr (c := 103) (Ev.loc rfl rfl (by decide)) (.head _) (.tail _ (.head _)) (by k_is) (by k_is) (by k_is) (by k_is) rfl rfl (fun _ => rfl)) (.tail (.tail (.tail .head))) (by k_is) rfl (by omega)
    refine Ex.unpack2 (da := .int j) (db := .int ht) (μ₁ := (b, .work s2 g) :: (h, .hooks) :: φ) (Ev.opn (stk' := s2) (gs' := g) (φ' := (h, .hooks) :: φ) fun ad al ag es n hW => ?_) ?_
    · cases hW
      exact Ev.pop (Ev.attr (c := 103) (Ev.loc rfl rfl (by decide)) (.head _) (.tail _ (.head _)) (by k_is) (by k_is) (by k_is) (by k_is) rfl rfl (fun _ => rfl)) (.tail (.tail (.tail .head))) (by omega)
    refine Ex.setStk (stk1 := s2) (gs1 := g) (φ' := (h, .hooks) :: φ) (xs := s2.take ht) ?_ (fun μ => (Ev.loc rfl rfl (by decide))) (by k_is) (by k_is) (by k_is) (by k_is) (Ex.nilK ⟨rfl, rfl, rfl, rfl, trivial⟩)
    refine EvN.opn rfl fun ad al ag es n hW => ?_
    cases hW
    exact EvN.conv (EvN.uptoM (Ev.attr (c := 103) (Ev.loc rfl rfl (by decide)) (.head _) (.tail _ (.head _)) (by k_is) (by k_is) (by k_is) (by k_is) rfl rfl (fun _ => rfl)) (Ev.loc rfl rfl (by decide)) (.tail (.tail .head)) (by omega) (by have := hS.len; omega)) (by rw [Int.toNat_natCast])
end
section
variable {pv : Program}
section gen
variable {K : Frag} {p : Program} {fi : Fi} {prog : Program} {w : World}
variable {C : Cx K p fi} {σ σ' σ₀ σ₁ σ₂ : List (Str × V)} {μ μ' μ₁ μ₂ μ₃ φ φ' : Mu} {pos px py p1 p2 p3 : Pos} {ts : List Value} {Ts : List V} {s : Shared} {O : Out} {X X' : V} {x y : Str} {rest : List Stmt}
def refSm : Sm := ⟨fun _ v => ∃ a, v = .ref a, fun _ h => h⟩
theorem Ev.dict0 : Ev prog w C σ μ (.Dict [] [] pos) (.sem refSm) μ := by
  rintro m ts Ts s Q E ⟨imm, μr, S⟩ k
  refine newDict_K S.fr S.nw C.hT.nolimit (fun d h' o F N l1 _ _ _ _ _ => ?_)
  exact k _ _ ⟨_, _, (S.grow (tk := s.toks) F N (fun q hq => Nat.ne_of_lt (l1 q (List.mem_append.mpr (.inl hq))))).push ⟨d, rfl⟩⟩
end gen
variable {prog : Program} {w : World} {φ μ : Mu} {a h : Addr} {stk gs : List Dat}
theorem mk_hooks {fi : Fi} {C : Cx (KK w.params) pv fi} {σ : List (Str × V)} {px pos p1 p2 : Pos} (hr : 2 ≤ C.room) (hx : fi.cs.names.lookup (S "GivenHooks") = some .globalImplicit := by rfl) (hy : fi.cs.names.lookup (S "_law_answer") = some .globalImplicit := by rfl)
    (he : starEach [.Name (S "_law_answer") p1, .Dict [] [] p2] C.env = (false, eval (.Name (S "_law_answer") p1) C.env) :: starEach [.Dict [] [] p2] C.env := by rfl) : EvN prog w C σ μ (.Call (.Name (S "GivenHooks") px) [.Name (S "_law_answer") p1, .Dict [] [] p2] [] pos) .hooks μ := by
  refine EvN.make (n := 0) (c := 250) (fI := 121) (Xs := [.r 357, .sem refSm]) (by k_is) (by k_is) (by k_is) (by k_is) (by k_is) (EvL.cons (Ev.glob (by k_is) hy (by decide)) (EvL.cons Ev.dict0 EvL.nil)) (fun C' a ad σ m ts Ts vs s R hC' hl SS k => ?_) (by omega) hx (by decide)
  obtain ⟨v2, v3, rfl⟩ : ∃ v2 v3, vs = [v2, v3] := by
    match vs, hl with
    | [v2, v3], _ => exact ⟨v2, v3, rfl⟩
  refine' CodeB3 (n := 0) (x1 := S "self") (x2 := S "replies") (x3 := S "labels") (σ₁ := []) (μ' := (a, .hooks) :: μ) ?ho ?hcd ?hb ?h1 ?h2 ?h3 ?c1 ?c2 ?c3 ?cell ?h ?hroom SS k
  (case ho => k_is); (case hcd => k_is); (case hb => intros; rfl); (case h1 => rfl); (case h2 => rfl); (case h3 => rfl); (case c1 => rfl); (case c2 => rfl); (case c3 => rfl); (case cell => decide); (case hroom => omega)
  intro C hC
  refine Ex.setA (c := 250) (ad := ad) (X := .r 357) (es := []) (n := 0) (f := fun d' => (a, .o (instObj 250 ad)) :: (ad, .o d') :: μ) (Ev.loc rfl rfl (by decide)) (Ev.loc rfl rfl (by decide)) (.head _) (fun d' => .tail .head) (by k_is) (by k_is) (by k_is) (by k_is) rfl (fun _ _ _ => Nat.le_of_ble_eq_true rfl) (fun h1 t1 v1 hv1 => ?_)
  obtain rfl : v1 = .ref 357 := let ⟨_, h⟩ := hv1; h
  refine Ex.setA (c := 250) (ad := ad) (X := .sem refSm) (f := fun d' => (a, .o (instObj 250 ad)) :: (ad, .o d') :: μ) (Ev.loc rfl rfl (by decide)) (Ev.loc rfl rfl (by decide)) (.head _) (fun d' => .tail .head) (by k_is) (by k_is) (by k_is) (by k_is) rfl (fun _ _ _ => Nat.le_of_ble_eq_true rfl) (fun h2 t2 v2 hv2 => ?_)
  refine Ex.setN (c := 250) (ad := ad) (f := fun d' => (a, .o (instObj 250 ad)) :: (ad, .o d') :: μ) EvN.nil (fun _ => Ev.loc rfl rfl (by decide)) (.head _) (fun d' => .tail .head) (by k_is) (by k_is) (by k_is) (by k_is) rfl (fun _ _ _ => Nat.le_of_ble_eq_true rfl) (fun b3 h3 t3 => ?_)
  refine Ex.nilC fun ts Ts s SS => ?_
  obtain ⟨m, imm, μr, SS⟩ := SS
  obtain ⟨μr', SS⟩ := SS.mkH .mk
  exact ⟨m, imm, μr', ⟨SS.fr, SS.nw, SS.ap, SS.nd, SS.ma, SS.im, (fun _ _ e => by cases e), SS.tm, SS.sm⟩⟩
end
end
section
variable {pv : Program}
variable {prog : Program} {w : World} {φ μ : Mu} {a : Addr}
abbrev SQ (pv prog : Program) (w : World) (n : Nat) (f : Addr) (Xs : List V) (μ : Mu) (X : V) (μ' : Mu) : Prop := Spec prog w (KK w.params) pv n f Xs μ X μ'
abbrev dI (n : Nat) : Dat := .int n
abbrev CL (a : Addr) (c : List Nat) (φ : Mu) : Mu := (a, .l (c.map dI)) :: φ
def Small (c : List Nat) : Prop := c.length ≤ 1000
theorem Small.pick {c : List Nat} {m : Nat} (h : Small c) : Small (pick c m).2 := by
  cases c with
  | nil => exact h
  | cons n r => exact Nat.le_trans (Nat.le_succ _) h
theorem Small.mkL {f : List Nat → Vt × List Nat} (hf : ∀ c, Small c → Small (f c).2) : ∀ (n : Nat) {c : List Nat}, Small c → Small (Mine.mkL f n c).2
  | 0, _, h => h
  | n + 1, _, h => Small.mkL hf n (hf _ h)
theorem pk_ok {c : List Nat} {m : Nat} (hm : 0 < m) (hz : Small c) : SQ pv prog w 1 331 [.r a, .d (.int m)] (CL a c φ) (.d (.int (pick c m).1)) (CL a (pick c m).2 φ) := by
  refine' Spec.def2 (x1 := S "cells") (x2 := S "many") ?ho ?hcd ?hb ?h1 ?h2 ?c1 ?c2 ?c3 ?cell ?h
  ktr_unf
  intro C hC
  cases c with
  | nil => exact Ex.ret (Ev.ifexpF (EvT.gtI (Ev.lenM (xs := []) (Ev.loc rfl rfl (by decide)) .head (by k_is) rfl (by decide)) Ev.int (by decide)) Ev.int)
  | cons n r =>
    have hz' : r.length + 1 ≤ 1000 := hz
    refine Ex.retE (Ev.ifexpT (EvT.gtI (Ev.lenM (xs := dI n :: r.map dI) (Ev.loc rfl rfl (by decide)) .head (by k_is) rfl ?_) Ev.int ?_) (Ev.modI (Ev.pop0 (y := dI n) (xs := r.map dI) (Ev.loc rfl rfl (by decide)) .head ?_) (Ev.loc rfl rfl (by decide)) (by omega))) ?_
    · simp only [List.length_cons, List.length_map]; omega
    · refine decide_eq_true ?_
      simp only [List.length_cons, List.length_map]; omega
    · simp only [List.length_map]; omega
    · show V.d (.int (Int.fmod n m)) = V.d (.int ((n % m : Nat) : Int))
      rw [Int.fmod_eq_emod_of_nonneg _ (by omega)]; rfl
theorem mkL_snd (f : List Nat → Vt × List Nat) : ∀ (i : Nat) (c : List Nat), (mkL f (i + 1) c).2 = (f (mkL f i c).2).2
  | 0, _ => rfl
  | i + 1, c => by
    show (mkL f (i + 1) (f c).2).2 = _
    rw [mkL_snd f i (f c).2]; rfl
theorem mkL_dats (f : List Nat → Vt × List Nat) : ∀ (n : Nat) (c : List Nat), (mkL f n c).1.dats = (List.range n).map fun i => (f (mkL f i c).2).1.dat
  | 0, _ => by simp [mkL, Vl.dats]
  | n + 1, c => by
    show ((f c).1.dat :: (mkL f n (f c).2).1.dats) = _
    rw [mkL_dats f n (f c).2, List.range_succ_eq_map, List.map_cons, List.map_map]
    rfl
abbrev TR (pv prog : Program) (w : World) (k : Nat) (a : Addr) (d : Nat) : Prop := ∀ c φ, Small c → SQ pv prog w k 350 [.r a, .d (.int d)] (CL a c φ) (.d (mkT d c).1.dat) (CL a (mkT d c).2 φ)
abbrev NR (pv prog : Program) (w : World) (k : Nat) (a : Addr) (d : Nat) : Prop := ∀ c φ, Small c → SQ pv prog w k 343 [.r a, .d (.int d)] (CL a c φ) (.d (mkN d c).1.dat) (CL a (mkN d c).2 φ)
theorem ts_ok {k d n : Nat} {c : List Nat} (hT : TR pv prog w k a d) (hs : ∀ c, Small c → Small (mkT d c).2) (hz : Small c) (hn : n ≤ 1000) : SQ pv prog w (k + 1) 336 [.r a, .d (.int d), .d (.int n)] (CL a c φ) (.d (.list (mkL (mkT d) n c).1.dats)) (CL a (mkL (mkT d) n c).2 φ) := by
  refine' Spec.def3k (x1 := S "cells") (x2 := S "deep") (x3 := S "many") ?ho ?hcd ?hb ?h1 ?h2 ?h3 ?h12 ?nd ?c1 ?c2 ?c3 ?h
  (case ho => k_is); (case hcd => k_is); (case hb => intros; rfl); (case h1 => rfl); (case h2 => rfl); (case h3 => rfl); (case h12 => decide); (case nd => decide +kernel); (case c1 => rfl); (case c2 => rfl); (case c3 => rfl)
  intro C hC hcv
  have hc1 : C.cv.lookup (S "cells") = some (.r a) := by rw [hcv]; rfl
  have hc2 : C.cv.lookup (S "deep") = some (.d (.int d)) := by rw [hcv]; rfl
  obtain ⟨a1, o1, v1, k1, k2, k3, k4⟩ := C.hcv _ _ hc1
  obtain ⟨a2, o2, v2, j1, j2, j3, j4⟩ := C.hcv _ _ hc2
  refine Ex.retE (Ev.compR (n := n) (cl := [(S "deep", a2), (S "cells", a1)]) (fun i => CL a (mkL (mkT d) i c).2 φ) (fun i => (mkT d (mkL (mkT d) i c).2).1.dat) (Ev.loc rfl rfl (by decide)) (by omega) (by k_is) rfl (fun i hi ψ => ?_) ?_ (by decide) rfl (by decide) rfl) ?_
  · refine ElEv.call2 (by k_is) (by k_is) ⟨o1, v1, k2, k3, k4⟩ rfl ⟨o2, v2, j2, j3, j4⟩ rfl rfl (fun _ => rfl) (fun _ => rfl) (fun _ => rfl) ?_ (by omega : k ≤ C.room)
    rw [mkL_snd]
    exact hT _ (φ ++ ψ) (Small.mkL hs i hz)
  · simp [closureFor, cellOf, k1, j1]
  · rw [mkL_dats]
end
section
local macro_rules | `(tactic| cell_call) => `(tactic| ((with_reducible refine' Ev.call ?a ?b ?c ?d ?e ?f ?g ?h ?i); (case a => k_is); (case b => k_is); (case c => cell_call); (case d => first | exact pk_ok (by decide) (by assumption) | exact (by assumption : ∀ c φ, Small c → _) _ _ (by assumption)); (case e => omega); (case f => rfl); (case g => decide); (case h => rfl); (case i => (intro _; rfl))))
section
variable {pv : Program}
section gen
variable {K : Frag} {p : Program} {fi : Fi} {prog : Program} {w : World}
variable {C : Cx K p fi} {σ : List (Str × V)} {μ μ' μ₁ μ₂ μ₃ : Mu} {pos : Pos}
theorem Ev.strNat {a b : Expr} {st : Str} {i : Nat} (h1 : Ev prog w C σ μ a (.d (.str st)) μ₁) (h2 : Ev prog w C σ μ₁ b (.d (.int i)) μ₂) (hi : i < st.length) (hz : st.length ≤ 100)
    (hs : ∀ o i, subscripted b false o i = operate [o, i] (getItem o i)) : Ev prog w C σ μ (.Subscript a b pos) (.d (.str ⟨#[st.cps.getD i 0]⟩)) μ₂ := by
  refine Ev.strAt h1 h2 ?_ ?_ hs
  · have e1 : ¬ ((i : Int) < -(2 ^ 63 : Int)) := by omega
    have e2 : ¬ ((i : Int) ≥ 2 ^ 63) := by omega
    simp only [decide_eq_false e1, decide_eq_false e2, Bool.or_false]
  · have e : seqIndex? (i : Int) st.length = some i := by
      unfold seqIndex?
      have e1 : ¬ ((i : Int) < 0) := by omega
      simp [e1, hi]
    rw [e]
    have hi' : i < st.cps.size := hi
    simp [Array.getD, hi']
end gen
variable {prog : Program} {w : World} {φ μ : Mu} {a : Addr}
theorem nm0 {c : List Nat} (hz : Small c) : SQ pv prog w 3 343 [.r a, .d (.int (0 : Nat))] (CL a c φ) (.d (mkN 0 c).1.dat) (CL a (mkN 0 c).2 φ) := by
  have hp := pick_lt c (m := 3) (by decide)
  refine' Spec.def2 (x1 := S "cells") (x2 := S "deep") ?ho ?hcd ?hb ?h1 ?h2 ?c1 ?c2 ?c3 ?cell ?h
  ktr_unf
  intro C hC
  refine Ex.assign (X := .d (.int 0)) (by cell_call) ?_
  refine Ex.if_ret (by cell_call) (Ex.retE (Ev.tup (EvD.cons Ev.str (EvD.cons (Ev.strNat Ev.str (by cell_call) hp (by decide) (fun _ _ => rfl)) EvD.nil)) (Nat.le_of_ble_eq_true rfl)) ?_)
  simp only [mkN, Nt.dat]; rfl
abbrev TR' (pv prog : Program) (w : World) (k : Nat) (a : Addr) (d : Nat) : Prop := ∀ c φ, Small c → SQ pv prog w k 350 [.r a, .d (.int (((d + 1 : Nat) : Int) - 1))] (CL a c φ) (.d (mkT d c).1.dat) (CL a (mkT d c).2 φ)
abbrev NR' (pv prog : Program) (w : World) (k : Nat) (a : Addr) (d : Nat) : Prop := ∀ c φ, Small c → SQ pv prog w k 343 [.r a, .d (.int (((d + 1 : Nat) : Int) - 1))] (CL a c φ) (.d (mkN d c).1.dat) (CL a (mkN d c).2 φ)
abbrev LR' (pv prog : Program) (w : World) (k : Nat) (a : Addr) (d n : Nat) (nv : Int) : Prop := ∀ c φ, Small c → SQ pv prog w k 336 [.r a, .d (.int (((d + 1 : Nat) : Int) - 1)), .d (.int nv)] (CL a c φ) (.d (.list (mkL (mkT d) n c).1.dats)) (CL a (mkL (mkT d) n c).2 φ)
theorem TR.up {k d : Nat} (h : TR pv prog w k a d) : TR' pv prog w k a d := by
  have e : ((d + 1 : Nat) : Int) - 1 = d := by omega
  intro c φ hc; rw [e]; exact h c φ hc
theorem NR.up {k d : Nat} (h : NR pv prog w k a d) : NR' pv prog w k a d := by
  have e : ((d + 1 : Nat) : Int) - 1 = d := by omega
  intro c φ hc; rw [e]; exact h c φ hc
theorem TR.list {k d n : Nat} {nv : Int} (h : TR pv prog w k a d) (hs : ∀ c, Small c → Small (mkT d c).2) (hn : n ≤ 1000) (hv : nv = n) : LR' pv prog w (k + 1) a d n nv := by
  have e : ((d + 1 : Nat) : Int) - 1 = d := by omega
  intro c φ hc; rw [e, hv]; exact ts_ok h hs hc hn
theorem nmS {k d : Nat} {c : List Nat} (h : TR pv prog w k a d) (hs : ∀ c, Small c → Small (mkT d c).2) (hz : Small c) : SQ pv prog w (k + 3) 343 [.r a, .d (.int (d + 1 : Nat))] (CL a c φ) (.d (mkN (d + 1) c).1.dat) (CL a (mkN (d + 1) c).2 φ) := by
  have hT := h.up
  have hdp : decide ((0 : Int) < ((d + 1 : Nat) : Int)) = true := decide_eq_true (by omega)
  have hp := pick_lt c (m := 5) (by decide)
  have hz1 : Small (pick c 5).2 := hz.pick
  refine' Spec.def2 (x1 := S "cells") (x2 := S "deep") ?ho ?hcd ?hb ?h1 ?h2 ?c1 ?c2 ?c3 ?cell ?h
  ktr_unf
  intro C hC
  refine Ex.assign (X := .d (.int (pick c 5).1)) (by cell_call) ?_
  rw [mkN]
  generalize hf : pick c 5 = pc at *
  obtain ⟨f, c1⟩ := pc
  dsimp only at hp hz1 ⊢
  have hf5 : f = 0 ∨ f = 1 ∨ f = 2 ∨ f = 3 ∨ f = 4 := by omega
  have hp3 := pick_lt c1 (m := 3) (by decide)
  have hz2 : Small (pick c1 3).2 := hz1.pick
  have hz3 : Small (mkT d c1).2 := hs _ hz1
  have hL := h.list hs (n := (pick c1 3).1) (nv := (pick c1 3).1) (by omega) rfl
  have hL1 := h.list hs (n := 1) (nv := 1) (by omega) rfl
  rcases hf5 with rfl | rfl | rfl | rfl | rfl
  · refine Ex.if_ret (by cell_call) (Ex.retE (Ev.tup (EvD.cons Ev.str (EvD.cons (Ev.strNat Ev.str (by cell_call) hp3 (by decide) (fun _ _ => rfl)) EvD.nil)) (Nat.le_of_ble_eq_true rfl)) ?_)
    simp [Nt.dat, charAt]
  · fin_run
    refine Ex.retE (Ev.tup (EvD.cons Ev.str (EvD.cons Ev.str (EvD.cons (Ev.call (by k_is) (by k_is) (EvL.cons (Ev.loc rfl rfl (by decide)) (EvL.cons (Ev.subI (Ev.loc rfl rfl (by decide)) Ev.int) (EvL.cons (Ev.call (by k_is) (by k_is) (EvL.cons (Ev.loc rfl rfl (by decide)) (EvL.cons Ev.int EvL.nil)) (pk_ok (by decide) hz1) (by omega)) EvL.nil))) (hL _ _ hz2) (by omega)) EvD.nil))) (Nat.le_of_ble_eq_true rfl)) ?_
    simp [Nt.dat]
  · fin_run
    refine Ex.retE (Ev.tup (EvD.cons Ev.str (EvD.cons (Ev.call (by k_is) (by k_is) (EvL.cons (Ev.loc rfl rfl (by decide)) (EvL.cons (Ev.subI (Ev.loc rfl rfl (by decide)) Ev.int) EvL.nil)) (hT _ _ hz1) (by omega)) (EvD.cons (Ev.call (by k_is) (by k_is) (EvL.cons (Ev.loc rfl rfl (by decide)) (EvL.cons (Ev.subI (Ev.loc rfl rfl (by decide)) Ev.int) (EvL.cons Ev.int EvL.nil))) (hL1 _ _ hz3) (by omega)) EvD.nil))) (Nat.le_of_ble_eq_true rfl)) ?_
    simp [Nt.dat]
  · fin_run
    refine Ex.retE (Ev.ifexpT (by cell_call) (Ev.tup (EvD.cons Ev.str (EvD.cons Ev.str (EvD.cons (Ev.call (by k_is) (by k_is) (EvL.cons (Ev.loc rfl rfl (by decide)) (EvL.cons (Ev.subI (Ev.loc rfl rfl (by decide)) Ev.int) EvL.nil)) (hT _ _ hz1) (by omega)) EvD.nil))) (Nat.le_of_ble_eq_true rfl))) ?_
    simp [Nt.dat]
  · fin_run
    refine Ex.retE (Ev.ifexpF (EvT.eqI (Ev.loc rfl rfl (by decide)) Ev.int (by decide)) (Ev.tup (EvD.cons Ev.str (EvD.cons Ev.str (EvD.cons (Ev.tup (EvD.cons Ev.str (EvD.cons Ev.str EvD.nil)) (Nat.le_of_ble_eq_true rfl)) EvD.nil))) (Nat.le_of_ble_eq_true rfl))) ?_
    simp [Nt.dat]
end
section
set_option maxHeartbeats 4000000
variable {pv : Program}
abbrev opsL : List (Int × Dat) := [(7, dS "-"), (8, dS "$"), (10, dS "*"), (11, dS "?")]
variable {prog : Program} {w : World} {φ μ : Mu} {a : Addr}
theorem tr0 {c : List Nat} (hz : Small c) : SQ pv prog w 3 350 [.r a, .d (.int (0 : Nat))] (CL a c φ) (.d (mkT 0 c).1.dat) (CL a (mkT 0 c).2 φ) := by
  have hp := pick_lt c (m := 4) (by decide)
  have hz1 : Small (pick c 4).2 := hz.pick
  refine' Spec.def2 (x1 := S "cells") (x2 := S "deep") ?ho ?hcd ?hb ?h1 ?h2 ?c1 ?c2 ?c3 ?cell ?h
  ktr_unf
  intro C hC
  refine Ex.assign (X := .d (.int (pick c 4).1)) (Ev.call (by k_is) (by k_is) (EvL.cons (Ev.loc rfl rfl (by decide)) (EvL.cons (Ev.ifexpF (EvT.gtI (Ev.loc rfl rfl (by decide)) Ev.int (by decide)) Ev.int) EvL.nil)) (pk_ok (m := 4) (by decide) hz) (by omega)) ?_
  rw [mkT]
  generalize hf : pick c 4 = pc at *
  obtain ⟨f, c1⟩ := pc
  dsimp only at hp hz1 ⊢
  have hp4 := pick_lt c1 (m := 4) (by decide)
  refine Ex.if_ret (EvT.ltI (Ev.loc rfl rfl (by decide)) Ev.int (decide_eq_true (by omega))) ?_
  refine Ex.assign (X := .d (.int (pick c1 4).1)) (Ev.call (by k_is) (by k_is) (EvL.cons (Ev.loc rfl rfl (by decide)) (EvL.cons Ev.int EvL.nil)) (pk_ok (by decide) hz1) (by omega)) ?_
  have hf4 : f = 0 ∨ f = 1 ∨ f = 2 ∨ f = 3 := by omega
  rcases hf4 with rfl | rfl | rfl | rfl
  all_goals
    refine Ex.retE (Ev.itemL (Ev.list (EvD.cons (Ev.tup (EvD.cons Ev.str (EvD.cons (Ev.strNat Ev.str (Ev.loc rfl rfl (by decide)) hp4 (by decide) (fun _ _ => rfl)) EvD.nil)) (Nat.le_of_ble_eq_true rfl)) (EvD.cons (Ev.tup (EvD.cons Ev.str (EvD.cons (Ev.strNat Ev.str (Ev.loc rfl rfl (by decide)) hp4 (by decide) (fun _ _ => rfl)) EvD.nil)) (Nat.le_of_ble_eq_true rfl)) (EvD.cons (Ev.tup (EvD.cons Ev.str (EvD.cons (Ev.loc rfl rfl (by decide)) EvD.nil)) (Nat.le_of_ble_eq_true rfl)) (EvD.cons (Ev.tup (EvD.cons Ev.str EvD.nil) (Nat.le_of_ble_eq_true rfl)) EvD.nil)))) (Nat.le_of_ble_eq_true rfl)) (Ev.loc rfl rfl (by decide)) (by decide) rfl (by decide) (fun _ _ => rfl)) ?_
    simp [leaf, Vt.dat, charAt]
theorem trl {d k f : Nat} {c c1 : List Nat} (hz : Small c) (hf : pick c 16 = (f, c1)) (hlt : f < 4) : SQ pv prog w (k + 4) 350 [.r a, .d (.int (d + 1 : Nat))] (CL a c φ) (.d (mkT (d + 1) c).1.dat) (CL a (mkT (d + 1) c).2 φ) := by
  have hdp : decide ((0 : Int) < ((d + 1 : Nat) : Int)) = true := decide_eq_true (by omega)
  have hz1 : Small c1 := by have := hz.pick (m := 16); rw [hf] at this; exact this
  refine' Spec.def2 (x1 := S "cells") (x2 := S "deep") ?ho ?hcd ?hb ?h1 ?h2 ?c1 ?c2 ?c3 ?cell ?h
  ktr_unf
  intro C hC
  refine Ex.assign (X := .d (.int (f : Nat))) (Ev.conv (Ev.call (by k_is) (by k_is) (EvL.cons (Ev.loc rfl rfl (by decide)) (EvL.cons (Ev.ifexpT (EvT.gtI (Ev.loc rfl rfl (by decide)) Ev.int hdp) Ev.int) EvL.nil)) (pk_ok (m := 16) (by decide) hz) (by omega)) (by rw [hf])) ?_
  rw [mkT, hf]
  dsimp only
  rw [if_pos hlt]
  have hp4 := pick_lt c1 (m := 4) (by decide)
  refine Ex.if_ret (EvT.ltI (Ev.loc rfl rfl (by decide)) Ev.int (decide_eq_true (by omega))) ?_
  refine Ex.assign (X := .d (.int (pick c1 4).1)) (Ev.call (by k_is) (by k_is) (EvL.cons (Ev.loc rfl rfl (by decide)) (EvL.cons Ev.int EvL.nil)) (pk_ok (by decide) hz1) (by omega)) ?_
  have hf4 : f = 0 ∨ f = 1 ∨ f = 2 ∨ f = 3 := by omega
  rcases hf4 with rfl | rfl | rfl | rfl
  all_goals
    refine Ex.retE (Ev.itemL (Ev.list (EvD.cons (Ev.tup (EvD.cons Ev.str (EvD.cons (Ev.strNat Ev.str (Ev.loc rfl rfl (by decide)) hp4 (by decide) (fun _ _ => rfl)) EvD.nil)) (Nat.le_of_ble_eq_true rfl)) (EvD.cons (Ev.tup (EvD.cons Ev.str (EvD.cons (Ev.strNat Ev.str (Ev.loc rfl rfl (by decide)) hp4 (by decide) (fun _ _ => rfl)) EvD.nil)) (Nat.le_of_ble_eq_true rfl)) (EvD.cons (Ev.tup (EvD.cons Ev.str (EvD.cons (Ev.loc rfl rfl (by decide)) EvD.nil)) (Nat.le_of_ble_eq_true rfl)) (EvD.cons (Ev.tup (EvD.cons Ev.str EvD.nil) (Nat.le_of_ble_eq_true rfl)) EvD.nil)))) (Nat.le_of_ble_eq_true rfl)) (Ev.loc rfl rfl (by decide)) (by decide) rfl (by decide) (fun _ _ => rfl)) ?_
    simp [leaf, Vt.dat, charAt]
theorem trf4 {k d : Nat} {c c1 : List Nat} (h : TR pv prog w k a d) (hN : NR pv prog w (k + 3) a d) (hs : ∀ c, Small c → Small (mkT d c).2) (hz : Small c) (hf : pick c 16 = (4, c1)) : SQ pv prog w (k + 4) 350 [.r a, .d (.int (d + 1 : Nat))] (CL a c φ) (.d (mkT (d + 1) c).1.dat) (CL a (mkT (d + 1) c).2 φ) := by
  have hT := h.up
  have hN := hN.up
  have hdp : decide ((0 : Int) < ((d + 1 : Nat) : Int)) = true := decide_eq_true (by omega)
  have hz1 : Small c1 := by have := hz.pick (m := 16); rw [hf] at this; exact this
  refine' Spec.def2 (x1 := S "cells") (x2 := S "deep") ?ho ?hcd ?hb ?h1 ?h2 ?c1 ?c2 ?c3 ?cell ?h
  ktr_unf
  intro C hC
  refine Ex.assign (X := .d (.int (4 : Nat))) (Ev.conv (Ev.call (by k_is) (by k_is) (EvL.cons (Ev.loc rfl rfl (by decide)) (EvL.cons (Ev.ifexpT (EvT.gtI (Ev.loc rfl rfl (by decide)) Ev.int hdp) Ev.int) EvL.nil)) (pk_ok (m := 16) (by decide) hz) (by omega)) (by rw [hf])) ?_
  rw [mkT, hf]
  dsimp only
  refine Ex.if_skip (by cell_call) ?_
  refine Ex.if_ret (by cell_call) ?_
  refine Ex.retE (Ev.tup (EvD.cons Ev.str (EvD.cons (Ev.call (by k_is) (by k_is) (EvL.cons (Ev.loc rfl rfl (by decide)) (EvL.cons (Ev.subI (Ev.loc rfl rfl (by decide)) Ev.int) EvL.nil)) (hT _ _ hz1) (by omega)) (EvD.cons (Ev.call (by k_is) (by k_is) (EvL.cons (Ev.loc rfl rfl (by decide)) (EvL.cons (Ev.subI (Ev.loc rfl rfl (by decide)) Ev.int) EvL.nil)) (hT _ _ (hs _ hz1)) (by omega)) EvD.nil))) (Nat.le_of_ble_eq_true rfl)) ?_
  simp [Vt.dat]
theorem trf5 {k d : Nat} {c c1 : List Nat} (h : TR pv prog w k a d) (hN : NR pv prog w (k + 3) a d) (hs : ∀ c, Small c → Small (mkT d c).2) (hz : Small c) (hf : pick c 16 = (5, c1)) : SQ pv prog w (k + 4) 350 [.r a, .d (.int (d + 1 : Nat))] (CL a c φ) (.d (mkT (d + 1) c).1.dat) (CL a (mkT (d + 1) c).2 φ) := by
  have hT := h.up
  have hN := hN.up
  have hdp : decide ((0 : Int) < ((d + 1 : Nat) : Int)) = true := decide_eq_true (by omega)
  have hz1 : Small c1 := by have := hz.pick (m := 16); rw [hf] at this; exact this
  have ho : (pick c1 4).1 = 0 ∨ (pick c1 4).1 = 1 ∨ (pick c1 4).1 = 2 ∨ (pick c1 4).1 = 3 := by have := pick_lt c1 (m := 4) (by decide); omega
  refine' Spec.def2 (x1 := S "cells") (x2 := S "deep") ?ho ?hcd ?hb ?h1 ?h2 ?c1 ?c2 ?c3 ?cell ?h
  ktr_unf
  intro C hC
  refine Ex.assign (X := .d (.int (5 : Nat))) (Ev.conv (Ev.call (by k_is) (by k_is) (EvL.cons (Ev.loc rfl rfl (by decide)) (EvL.cons (Ev.ifexpT (EvT.gtI (Ev.loc rfl rfl (by decide)) Ev.int hdp) Ev.int) EvL.nil)) (pk_ok (m := 16) (by decide) hz) (by omega)) (by rw [hf])) ?_
  rw [mkT, hf]
  dsimp only
  refine Ex.if_skip (by cell_call) ?_
  refine Ex.if_skip (by cell_call) ?_
  refine Ex.if_ret (by cell_call) ?_
  refine Ex.assign (X := .d (.str (opAt (pick c1 4).1))) (μ₁ := CL a (pick c1 4).2 φ) ?op ?_
  case op =>
    rcases ho with ho | ho | ho | ho
    all_goals
      exact Ev.conv (Ev.itemL (Ev.list (EvD.cons Ev.str (EvD.cons Ev.str (EvD.cons Ev.str (EvD.cons Ev.str EvD.nil)))) (Nat.le_of_ble_eq_true rfl)) (Ev.conv (Ev.call (by k_is) (by k_is) (EvL.cons (Ev.loc rfl rfl (by decide)) (EvL.cons Ev.int EvL.nil)) (pk_ok (by decide) hz1) (by omega)) (by rw [ho])) (by decide) rfl (by decide) (fun _ _ => rfl)) (by rw [ho]; rfl)
  refine Ex.retE (Ev.tup (EvD.cons Ev.str (EvD.cons (Ev.loc rfl rfl (by decide)) (EvD.cons (Ev.call (by k_is) (by k_is) (EvL.cons (Ev.loc rfl rfl (by decide)) (EvL.cons (Ev.subI (Ev.loc rfl rfl (by decide)) Ev.int) EvL.nil)) (hT _ _ hz1.pick) (by omega)) (EvD.cons (Ev.call (by k_is) (by k_is) (EvL.cons (Ev.loc rfl rfl (by decide)) (EvL.cons (Ev.subI (Ev.loc rfl rfl (by decide)) Ev.int) EvL.nil)) (hT _ _ (hs _ hz1.pick)) (by omega)) EvD.nil)))) (Nat.le_of_ble_eq_true rfl)) ?_
  simp [Vt.dat]
theorem trf6 {k d : Nat} {c c1 : List Nat} (h : TR pv prog w k a d) (hN : NR pv prog w (k + 3) a d) (hs : ∀ c, Small c → Small (mkT d c).2) (hz : Small c) (hf : pick c 16 = (6, c1)) : SQ pv prog w (k + 4) 350 [.r a, .d (.int (d + 1 : Nat))] (CL a c φ) (.d (mkT (d + 1) c).1.dat) (CL a (mkT (d + 1) c).2 φ) := by
  have hT := h.up
  have hN := hN.up
  have hdp : decide ((0 : Int) < ((d + 1 : Nat) : Int)) = true := decide_eq_true (by omega)
  have hz1 : Small c1 := by have := hz.pick (m := 16); rw [hf] at this; exact this
  have hp2 := pick_lt c1 (m := 2) (by decide)
  refine' Spec.def2 (x1 := S "cells") (x2 := S "deep") ?ho ?hcd ?hb ?h1 ?h2 ?c1 ?c2 ?c3 ?cell ?h
  ktr_unf
  intro C hC
  refine Ex.assign (X := .d (.int (6 : Nat))) (Ev.conv (Ev.call (by k_is) (by k_is) (EvL.cons (Ev.loc rfl rfl (by decide)) (EvL.cons (Ev.ifexpT (EvT.gtI (Ev.loc rfl rfl (by decide)) Ev.int hdp) Ev.int) EvL.nil)) (pk_ok (m := 16) (by decide) hz) (by omega)) (by rw [hf])) ?_
  rw [mkT, hf]
  dsimp only
  refine Ex.if_skip (by cell_call) ?_
  refine Ex.if_skip (by cell_call) ?_
  refine Ex.if_skip (by cell_call) ?_
  refine Ex.if_ret (by cell_call) ?_
  refine Ex.retE (Ev.tup (EvD.cons Ev.str (EvD.cons (Ev.strNat Ev.str (Ev.call (by k_is) (by k_is) (EvL.cons (Ev.loc rfl rfl (by decide)) (EvL.cons Ev.int EvL.nil)) (pk_ok (by decide) hz1) (by omega)) hp2 (by decide) (fun _ _ => rfl)) (EvD.cons (Ev.call (by k_is) (by k_is) (EvL.cons (Ev.loc rfl rfl (by decide)) (EvL.cons (Ev.subI (Ev.loc rfl rfl (by decide)) Ev.int) EvL.nil)) (hT _ _ hz1.pick) (by omega)) (EvD.cons (Ev.call (by k_is) (by k_is) (EvL.cons (Ev.loc rfl rfl (by decide)) (EvL.cons (Ev.subI (Ev.loc rfl rfl (by decide)) Ev.int) EvL.nil)) (hN _ _ (hs _ hz1.pick)) (by omega)) EvD.nil)))) (Nat.le_of_ble_eq_true rfl)) ?_
  simp [Vt.dat, charAt]
theorem trf7 {k d : Nat} {c c1 : List Nat} (h : TR pv prog w k a d) (hN : NR pv prog w (k + 3) a d) (hs : ∀ c, Small c → Small (mkT d c).2) (hz : Small c) (hf : pick c 16 = (7, c1)) : SQ pv prog w (k + 4) 350 [.r a, .d (.int (d + 1 : Nat))] (CL a c φ) (.d (mkT (d + 1) c).1.dat) (CL a (mkT (d + 1) c).2 φ) := by
  have hT := h.up
  have hN := hN.up
  have hdp : decide ((0 : Int) < ((d + 1 : Nat) : Int)) = true := decide_eq_true (by omega)
  have hz1 : Small c1 := by have := hz.pick (m := 16); rw [hf] at this; exact this
  refine' Spec.def2 (x1 := S "cells") (x2 := S "deep") ?ho ?hcd ?hb ?h1 ?h2 ?c1 ?c2 ?c3 ?cell ?h
  ktr_unf
  intro C hC
  refine Ex.assign (X := .d (.int (7 : Nat))) (Ev.conv (Ev.call (by k_is) (by k_is) (EvL.cons (Ev.loc rfl rfl (by decide)) (EvL.cons (Ev.ifexpT (EvT.gtI (Ev.loc rfl rfl (by decide)) Ev.int hdp) Ev.int) EvL.nil)) (pk_ok (m := 16) (by decide) hz) (by omega)) (by rw [hf])) ?_
  rw [mkT, hf]
  dsimp only
  refine Ex.if_skip (by cell_call) ?_
  refine Ex.if_skip (by cell_call) ?_
  refine Ex.if_skip (by cell_call) ?_
  refine Ex.if_skip (by cell_call) ?_
  refine Ex.if_ret (by cell_call) ?_
  rw [if_neg (show ¬ ((7 : Nat) < 4) by decide), if_neg (show ¬ ((7 : Nat) = 4) by decide), if_neg (show ¬ ((7 : Nat) = 5) by decide), if_neg (show ¬ ((7 : Nat) = 6) by decide), if_pos rfl]
  with_reducible refine' Ex.retE ?ev ?_
  (case ev =>
    with_reducible refine' Ev.tup ?es ?le
    (case es =>
      with_reducible refine' EvD.cons ?e1 ?e2 ?e3
      (case e1 => exact Ev.str)
      (case e2 =>
        with_reducible refine' EvD.cons ?e4 ?e5 ?e6
        (case e4 =>
          with_reducible refine' Ev.dictItem (enc := Dat.int) (a := 7) (knd := intKind prog w) (L := opsL) ?ga ?gb ?gc ?gd ?ge
          (case ga => exact enc_int)
          (case gb =>
            with_reducible refine' Ev.dict (intKind prog w) Dat.int ?ha opsL ?hb ?hc ?hd ?he ?hf ?hg
            (case ha => exact enc_int)
            (case hb =>
              intro a o
              simp only [List.map_cons, List.map_nil]
              cell_call)
            (case hc => (show [(7 : Int), 8, 10, 11].Nodup; decide))
            (case hd => rfl)
            (case he => rfl)
            (case hf => simp)
            (case hg => decide))
          (case gc => exact (Ev.loc rfl rfl (by decide)))
          (case gd => rfl)
          (case ge => exact fun _ _ => rfl))
        (case e5 => exact EvD.cons (Ev.call (by k_is) (by k_is) (EvL.cons (Ev.loc rfl rfl (by decide)) (EvL.cons (Ev.subI (Ev.loc rfl rfl (by decide)) Ev.int) EvL.nil)) (hT _ _ hz1) (by omega)) EvD.nil)
        (case e6 => rfl))
      (case e3 => rfl))
    (case le => exact (Nat.le_of_ble_eq_true rfl)))
  simp [Vt.dat]
theorem trf8 {k d : Nat} {c c1 : List Nat} (h : TR pv prog w k a d) (hN : NR pv prog w (k + 3) a d) (hs : ∀ c, Small c → Small (mkT d c).2) (hz : Small c) (hf : pick c 16 = (8, c1)) : SQ pv prog w (k + 4) 350 [.r a, .d (.int (d + 1 : Nat))] (CL a c φ) (.d (mkT (d + 1) c).1.dat) (CL a (mkT (d + 1) c).2 φ) := by
  have hT := h.up
  have hN := hN.up
  have hdp : decide ((0 : Int) < ((d + 1 : Nat) : Int)) = true := decide_eq_true (by omega)
  have hz1 : Small c1 := by have := hz.pick (m := 16); rw [hf] at this; exact this
  refine' Spec.def2 (x1 := S "cells") (x2 := S "deep") ?ho ?hcd ?hb ?h1 ?h2 ?c1 ?c2 ?c3 ?cell ?h
  ktr_unf
  intro C hC
  refine Ex.assign (X := .d (.int (8 : Nat))) (Ev.conv (Ev.call (by k_is) (by k_is) (EvL.cons (Ev.loc rfl rfl (by decide)) (EvL.cons (Ev.ifexpT (EvT.gtI (Ev.loc rfl rfl (by decide)) Ev.int hdp) Ev.int) EvL.nil)) (pk_ok (m := 16) (by decide) hz) (by omega)) (by rw [hf])) ?_
  rw [mkT, hf]
  dsimp only
  refine Ex.if_skip (by cell_call) ?_
  refine Ex.if_skip (by cell_call) ?_
  refine Ex.if_skip (by cell_call) ?_
  refine Ex.if_skip (by cell_call) ?_
  refine Ex.if_ret (by cell_call) ?_
  rw [if_neg (show ¬ ((8 : Nat) < 4) by decide), if_neg (show ¬ ((8 : Nat) = 4) by decide), if_neg (show ¬ ((8 : Nat) = 5) by decide), if_neg (show ¬ ((8 : Nat) = 6) by decide), if_neg (show ¬ ((8 : Nat) = 7) by decide), if_pos rfl]
  with_reducible refine' Ex.retE ?ev ?_
  (case ev =>
    with_reducible refine' Ev.tup ?es ?le
    (case es =>
      with_reducible refine' EvD.cons ?e1 ?e2 ?e3
      (case e1 => exact Ev.str)
      (case e2 =>
        with_reducible refine' EvD.cons ?e4 ?e5 ?e6
        (case e4 =>
          with_reducible refine' Ev.dictItem (enc := Dat.int) (a := 8) (knd := intKind prog w) (L := opsL) ?ga ?gb ?gc ?gd ?ge
          (case ga => exact enc_int)
          (case gb =>
            with_reducible refine' Ev.dict (intKind prog w) Dat.int ?ha opsL ?hb ?hc ?hd ?he ?hf ?hg
            (case ha => exact enc_int)
            (case hb =>
              intro a o
              simp only [List.map_cons, List.map_nil]
              cell_call)
            (case hc => (show [(7 : Int), 8, 10, 11].Nodup; decide))
            (case hd => rfl)
            (case he => rfl)
            (case hf => simp)
            (case hg => decide))
          (case gc => exact (Ev.loc rfl rfl (by decide)))
          (case gd => rfl)
          (case ge => exact fun _ _ => rfl))
        (case e5 => exact EvD.cons (Ev.call (by k_is) (by k_is) (EvL.cons (Ev.loc rfl rfl (by decide)) (EvL.cons (Ev.subI (Ev.loc rfl rfl (by decide)) Ev.int) EvL.nil)) (hT _ _ hz1) (by omega)) EvD.nil)
        (case e6 => rfl))
      (case e3 => rfl))
    (case le => exact (Nat.le_of_ble_eq_true rfl)))
  simp [Vt.dat]
theorem trf10 {k d : Nat} {c c1 : List Nat} (h : TR pv prog w k a d) (hN : NR pv prog w (k + 3) a d) (hs : ∀ c, Small c → Small (mkT d c).2) (hz : Small c) (hf : pick c 16 = (10, c1)) : SQ pv prog w (k + 4) 350 [.r a, .d (.int (d + 1 : Nat))] (CL a c φ) (.d (mkT (d + 1) c).1.dat) (CL a (mkT (d + 1) c).2 φ) := by
  have hT := h.up
  have hN := hN.up
  have hdp : decide ((0 : Int) < ((d + 1 : Nat) : Int)) = true := decide_eq_true (by omega)
  have hz1 : Small c1 := by have := hz.pick (m := 16); rw [hf] at this; exact this
  refine' Spec.def2 (x1 := S "cells") (x2 := S "deep") ?ho ?hcd ?hb ?h1 ?h2 ?c1 ?c2 ?c3 ?cell ?h
  ktr_unf
  intro C hC
  refine Ex.assign (X := .d (.int (10 : Nat))) (Ev.conv (Ev.call (by k_is) (by k_is) (EvL.cons (Ev.loc rfl rfl (by decide)) (EvL.cons (Ev.ifexpT (EvT.gtI (Ev.loc rfl rfl (by decide)) Ev.int hdp) Ev.int) EvL.nil)) (pk_ok (m := 16) (by decide) hz) (by omega)) (by rw [hf])) ?_
  rw [mkT, hf]
  dsimp only
  refine Ex.if_skip (by cell_call) ?_
  refine Ex.if_skip (by cell_call) ?_
  refine Ex.if_skip (by cell_call) ?_
  refine Ex.if_skip (by cell_call) ?_
  refine Ex.if_ret (by cell_call) ?_
  rw [if_neg (show ¬ ((10 : Nat) < 4) by decide), if_neg (show ¬ ((10 : Nat) = 4) by decide), if_neg (show ¬ ((10 : Nat) = 5) by decide), if_neg (show ¬ ((10 : Nat) = 6) by decide), if_neg (show ¬ ((10 : Nat) = 7) by decide), if_neg (show ¬ ((10 : Nat) = 8) by decide), if_pos rfl]
  with_reducible refine' Ex.retE ?ev ?_
  (case ev =>
    with_reducible refine' Ev.tup ?es ?le
    (case es =>
      with_reducible refine' EvD.cons ?e1 ?e2 ?e3
      (case e1 => exact Ev.str)
      (case e2 =>
        with_reducible refine' EvD.cons ?e4 ?e5 ?e6
        (case e4 =>
          with_reducible refine' Ev.dictItem (enc := Dat.int) (a := 10) (knd := intKind prog w) (L := opsL) ?ga ?gb ?gc ?gd ?ge
          (case ga => exact enc_int)
          (case gb =>
            with_reducible refine' Ev.dict (intKind prog w) Dat.int ?ha opsL ?hb ?hc ?hd ?he ?hf ?hg
            (case ha => exact enc_int)
            (case hb =>
              intro a o
              simp only [List.map_cons, List.map_nil]
              cell_call)
            (case hc => (show [(7 : Int), 8, 10, 11].Nodup; decide))
            (case hd => rfl)
            (case he => rfl)
            (case hf => simp)
            (case hg => decide))
          (case gc => exact (Ev.loc rfl rfl (by decide)))
          (case gd => rfl)
          (case ge => exact fun _ _ => rfl))
        (case e5 => exact EvD.cons (Ev.call (by k_is) (by k_is) (EvL.cons (Ev.loc rfl rfl (by decide)) (EvL.cons (Ev.subI (Ev.loc rfl rfl (by decide)) Ev.int) EvL.nil)) (hT _ _ hz1) (by omega)) EvD.nil)
        (case e6 => rfl))
      (case e3 => rfl))
    (case le => exact (Nat.le_of_ble_eq_true rfl)))
  simp [Vt.dat]
theorem trf11 {k d : Nat} {c c1 : List Nat} (h : TR pv prog w k a d) (hN : NR pv prog w (k + 3) a d) (hs : ∀ c, Small c → Small (mkT d c).2) (hz : Small c) (hf : pick c 16 = (11, c1)) : SQ pv prog w (k + 4) 350 [.r a, .d (.int (d + 1 : Nat))] (CL a c φ) (.d (mkT (d + 1) c).1.dat) (CL a (mkT (d + 1) c).2 φ) := by
  have hT := h.up
  have hN := hN.up
  have hdp : decide ((0 : Int) < ((d + 1 : Nat) : Int)) = true := decide_eq_true (by omega)
  have hz1 : Small c1 := by have := hz.pick (m := 16); rw [hf] at this; exact this
  refine' Spec.def2 (x1 := S "cells") (x2 := S "deep") ?ho ?hcd ?hb ?h1 ?h2 ?c1 ?c2 ?c3 ?cell ?h
  ktr_unf
  intro C hC
  refine Ex.assign (X := .d (.int (11 : Nat))) (Ev.conv (Ev.call (by k_is) (by k_is) (EvL.cons (Ev.loc rfl rfl (by decide)) (EvL.cons (Ev.ifexpT (EvT.gtI (Ev.loc rfl rfl (by decide)) Ev.int hdp) Ev.int) EvL.nil)) (pk_ok (m := 16) (by decide) hz) (by omega)) (by rw [hf])) ?_
  rw [mkT, hf]
  dsimp only
  refine Ex.if_skip (by cell_call) ?_
  refine Ex.if_skip (by cell_call) ?_
  refine Ex.if_skip (by cell_call) ?_
  refine Ex.if_skip (by cell_call) ?_
  refine Ex.if_ret (by cell_call) ?_
  rw [if_neg (show ¬ ((11 : Nat) < 4) by decide), if_neg (show ¬ ((11 : Nat) = 4) by decide), if_neg (show ¬ ((11 : Nat) = 5) by decide), if_neg (show ¬ ((11 : Nat) = 6) by decide), if_neg (show ¬ ((11 : Nat) = 7) by decide), if_neg (show ¬ ((11 : Nat) = 8) by decide), if_neg (show ¬ ((11 : Nat) = 10) by decide), if_pos rfl]
  with_reducible refine' Ex.retE ?ev ?_
  (case ev =>
    with_reducible refine' Ev.tup ?es ?le
    (case es =>
      with_reducible refine' EvD.cons ?e1 ?e2 ?e3
      (case e1 => exact Ev.str)
      (case e2 =>
        with_reducible refine' EvD.cons ?e4 ?e5 ?e6
        (case e4 =>
          with_reducible refine' Ev.dictItem (enc := Dat.int) (a := 11) (knd := intKind prog w) (L := opsL) ?ga ?gb ?gc ?gd ?ge
          (case ga => exact enc_int)
          (case gb =>
            with_reducible refine' Ev.dict (intKind prog w) Dat.int ?ha opsL ?hb ?hc ?hd ?he ?hf ?hg
            (case ha => exact enc_int)
            (case hb =>
              intro a o
              simp only [List.map_cons, List.map_nil]
              cell_call)
            (case hc => (show [(7 : Int), 8, 10, 11].Nodup; decide))
            (case hd => rfl)
            (case he => rfl)
            (case hf => simp)
            (case hg => decide))
          (case gc => exact (Ev.loc rfl rfl (by decide)))
          (case gd => rfl)
          (case ge => exact fun _ _ => rfl))
        (case e5 => exact EvD.cons (Ev.call (by k_is) (by k_is) (EvL.cons (Ev.loc rfl rfl (by decide)) (EvL.cons (Ev.subI (Ev.loc rfl rfl (by decide)) Ev.int) EvL.nil)) (hT _ _ hz1) (by omega)) EvD.nil)
        (case e6 => rfl))
      (case e3 => rfl))
    (case le => exact (Nat.le_of_ble_eq_true rfl)))
  simp [Vt.dat]
theorem trf9 {k d : Nat} {c c1 : List Nat} (h : TR pv prog w k a d) (hN : NR pv prog w (k + 3) a d) (hs : ∀ c, Small c → Small (mkT d c).2) (hz : Small c) (hf : pick c 16 = (9, c1)) : SQ pv prog w (k + 4) 350 [.r a, .d (.int (d + 1 : Nat))] (CL a c φ) (.d (mkT (d + 1) c).1.dat) (CL a (mkT (d + 1) c).2 φ) := by
  have hT := h.up
  have hN := hN.up
  have hdp : decide ((0 : Int) < ((d + 1 : Nat) : Int)) = true := decide_eq_true (by omega)
  have hz1 : Small c1 := by have := hz.pick (m := 16); rw [hf] at this; exact this
  have hp2 := pick_lt c1 (m := 2) (by decide)
  have ho : (pick c1 2).1 = 0 ∨ (pick c1 2).1 = 1 := by omega
  refine' Spec.def2 (x1 := S "cells") (x2 := S "deep") ?ho ?hcd ?hb ?h1 ?h2 ?c1 ?c2 ?c3 ?cell ?h
  ktr_unf
  intro C hC
  refine Ex.assign (X := .d (.int (9 : Nat))) (Ev.conv (Ev.call (by k_is) (by k_is) (EvL.cons (Ev.loc rfl rfl (by decide)) (EvL.cons (Ev.ifexpT (EvT.gtI (Ev.loc rfl rfl (by decide)) Ev.int hdp) Ev.int) EvL.nil)) (pk_ok (m := 16) (by decide) hz) (by omega)) (by rw [hf])) ?_
  rw [mkT, hf]
  dsimp only
  refine Ex.if_skip (by cell_call) ?_
  refine Ex.if_skip (by cell_call) ?_
  refine Ex.if_skip (by cell_call) ?_
  refine Ex.if_skip (by cell_call) ?_
  refine Ex.if_skip (by cell_call) ?_
  refine Ex.if_ret (by cell_call) ?_
  refine Ex.retE (Ev.tup (EvD.cons Ev.str (EvD.cons (Ev.strNat Ev.str (Ev.call (by k_is) (by k_is) (EvL.cons (Ev.loc rfl rfl (by decide)) (EvL.cons Ev.int EvL.nil)) (pk_ok (by decide) hz1) (by omega)) hp2 (by decide) (fun _ _ => rfl)) (EvD.cons (Ev.call (by k_is) (by k_is) (EvL.cons (Ev.loc rfl rfl (by decide)) (EvL.cons (Ev.subI (Ev.loc rfl rfl (by decide)) Ev.int) EvL.nil)) (hN _ _ hz1.pick) (by omega)) EvD.nil))) (Nat.le_of_ble_eq_true rfl)) ?_
  rcases ho with ho | ho
  all_goals (rw [ho]; simp [Vt.dat]; rfl)
theorem trf12 {k d : Nat} {c c1 : List Nat} (h : TR pv prog w k a d) (hN : NR pv prog w (k + 3) a d) (hs : ∀ c, Small c → Small (mkT d c).2) (hz : Small c) (hf : pick c 16 = (12, c1)) : SQ pv prog w (k + 4) 350 [.r a, .d (.int (d + 1 : Nat))] (CL a c φ) (.d (mkT (d + 1) c).1.dat) (CL a (mkT (d + 1) c).2 φ) := by
  have hT := h.up
  have hN := hN.up
  have hdp : decide ((0 : Int) < ((d + 1 : Nat) : Int)) = true := decide_eq_true (by omega)
  have hz1 : Small c1 := by have := hz.pick (m := 16); rw [hf] at this; exact this
  have hL := h.list hs (n := (pick c1 3).1) (nv := (pick c1 3).1) (by have := pick_lt c1 (m := 3) (by decide); omega) rfl
  refine' Spec.def2 (x1 := S "cells") (x2 := S "deep") ?ho ?hcd ?hb ?h1 ?h2 ?c1 ?c2 ?c3 ?cell ?h
  ktr_unf
  intro C hC
  refine Ex.assign (X := .d (.int (12 : Nat))) (Ev.conv (Ev.call (by k_is) (by k_is) (EvL.cons (Ev.loc rfl rfl (by decide)) (EvL.cons (Ev.ifexpT (EvT.gtI (Ev.loc rfl rfl (by decide)) Ev.int hdp) Ev.int) EvL.nil)) (pk_ok (m := 16) (by decide) hz) (by omega)) (by rw [hf])) ?_
  rw [mkT, hf]
  dsimp only
  refine Ex.if_skip (by cell_call) ?_
  refine Ex.if_skip (by cell_call) ?_
  refine Ex.if_skip (by cell_call) ?_
  refine Ex.if_skip (by cell_call) ?_
  refine Ex.if_skip (by cell_call) ?_
  refine Ex.if_skip (by cell_call) ?_
  refine Ex.if_ret (by cell_call) ?_
  refine Ex.retE (Ev.tup (EvD.cons Ev.str (EvD.cons Ev.str (EvD.cons (Ev.call (by k_is) (by k_is) (EvL.cons (Ev.loc rfl rfl (by decide)) (EvL.cons (Ev.subI (Ev.loc rfl rfl (by decide)) Ev.int) (EvL.cons (Ev.call (by k_is) (by k_is) (EvL.cons (Ev.loc rfl rfl (by decide)) (EvL.cons Ev.int EvL.nil)) (pk_ok (by decide) hz1) (by omega)) EvL.nil))) (hL _ _ hz1.pick) (by omega)) EvD.nil))) (Nat.le_of_ble_eq_true rfl)) ?_
  simp [Vt.dat]
theorem trf13 {k d : Nat} {c c1 : List Nat} (h : TR pv prog w k a d) (hN : NR pv prog w (k + 3) a d) (hs : ∀ c, Small c → Small (mkT d c).2) (hz : Small c) (hf : pick c 16 = (13, c1)) : SQ pv prog w (k + 4) 350 [.r a, .d (.int (d + 1 : Nat))] (CL a c φ) (.d (mkT (d + 1) c).1.dat) (CL a (mkT (d + 1) c).2 φ) := by
  have hT := h.up
  have hN := hN.up
  have hdp : decide ((0 : Int) < ((d + 1 : Nat) : Int)) = true := decide_eq_true (by omega)
  have hz1 : Small c1 := by have := hz.pick (m := 16); rw [hf] at this; exact this
  have hL := h.list hs (n := 1 + (pick c1 2).1) (nv := 1 + ((pick c1 2).1 : Int)) (by have := pick_lt c1 (m := 2) (by decide); omega) (by omega)
  refine' Spec.def2 (x1 := S "cells") (x2 := S "deep") ?ho ?hcd ?hb ?h1 ?h2 ?c1 ?c2 ?c3 ?cell ?h
  ktr_unf
  intro C hC
  refine Ex.assign (X := .d (.int (13 : Nat))) (Ev.conv (Ev.call (by k_is) (by k_is) (EvL.cons (Ev.loc rfl rfl (by decide)) (EvL.cons (Ev.ifexpT (EvT.gtI (Ev.loc rfl rfl (by decide)) Ev.int hdp) Ev.int) EvL.nil)) (pk_ok (m := 16) (by decide) hz) (by omega)) (by rw [hf])) ?_
  rw [mkT, hf]
  dsimp only
  refine Ex.if_skip (by cell_call) ?_
  refine Ex.if_skip (by cell_call) ?_
  refine Ex.if_skip (by cell_call) ?_
  refine Ex.if_skip (by cell_call) ?_
  refine Ex.if_skip (by cell_call) ?_
  refine Ex.if_skip (by cell_call) ?_
  refine Ex.if_skip (by cell_call) ?_
  refine Ex.if_ret (by cell_call) ?_
  refine Ex.assign (X := .d (.int (1 + ((pick c1 2).1 : Int)))) (Ev.addI Ev.int (Ev.call (by k_is) (by k_is) (EvL.cons (Ev.loc rfl rfl (by decide)) (EvL.cons Ev.int EvL.nil)) (pk_ok (by decide) hz1) (by omega))) ?_
  refine Ex.retE (Ev.tup (EvD.cons Ev.str (EvD.cons (Ev.call (by k_is) (by k_is) (EvL.cons (Ev.loc rfl rfl (by decide)) (EvL.cons (Ev.subI (Ev.loc rfl rfl (by decide)) Ev.int) EvL.nil)) (hT _ _ hz1.pick) (by omega)) (EvD.cons (Ev.call (by k_is) (by k_is) (EvL.cons (Ev.loc rfl rfl (by decide)) (EvL.cons (Ev.subI (Ev.loc rfl rfl (by decide)) Ev.int) (EvL.cons (Ev.loc rfl rfl (by decide)) EvL.nil))) (hL _ _ (hs _ hz1.pick)) (by omega)) EvD.nil))) (Nat.le_of_ble_eq_true rfl)) ?_
  simp [Vt.dat]
theorem trf14 {k d : Nat} {c c1 : List Nat} (h : TR pv prog w k a d) (hN : NR pv prog w (k + 3) a d) (hs : ∀ c, Small c → Small (mkT d c).2) (hz : Small c) (hf : pick c 16 = (14, c1)) : SQ pv prog w (k + 4) 350 [.r a, .d (.int (d + 1 : Nat))] (CL a c φ) (.d (mkT (d + 1) c).1.dat) (CL a (mkT (d + 1) c).2 φ) := by
  have hT := h.up
  have hN := hN.up
  have hdp : decide ((0 : Int) < ((d + 1 : Nat) : Int)) = true := decide_eq_true (by omega)
  have hz1 : Small c1 := by have := hz.pick (m := 16); rw [hf] at this; exact this
  refine' Spec.def2 (x1 := S "cells") (x2 := S "deep") ?ho ?hcd ?hb ?h1 ?h2 ?c1 ?c2 ?c3 ?cell ?h
  ktr_unf
  intro C hC
  refine Ex.assign (X := .d (.int (14 : Nat))) (Ev.conv (Ev.call (by k_is) (by k_is) (EvL.cons (Ev.loc rfl rfl (by decide)) (EvL.cons (Ev.ifexpT (EvT.gtI (Ev.loc rfl rfl (by decide)) Ev.int hdp) Ev.int) EvL.nil)) (pk_ok (m := 16) (by decide) hz) (by omega)) (by rw [hf])) ?_
  rw [mkT, hf]
  dsimp only
  refine Ex.if_skip (by cell_call) ?_
  refine Ex.if_skip (by cell_call) ?_
  refine Ex.if_skip (by cell_call) ?_
  refine Ex.if_skip (by cell_call) ?_
  refine Ex.if_skip (by cell_call) ?_
  refine Ex.if_skip (by cell_call) ?_
  refine Ex.if_skip (by cell_call) ?_
  refine Ex.if_skip (by cell_call) ?_
  refine Ex.if_ret (by cell_call) ?_
  refine Ex.retE (Ev.tup (EvD.cons Ev.str (EvD.cons Ev.str (EvD.cons (Ev.tup (EvD.cons Ev.str (EvD.cons Ev.str EvD.nil)) (Nat.le_of_ble_eq_true rfl)) EvD.nil))) (Nat.le_of_ble_eq_true rfl)) ?_
  simp [Vt.dat]
theorem trf15 {k d : Nat} {c c1 : List Nat} (h : TR pv prog w k a d) (hN : NR pv prog w (k + 3) a d) (hs : ∀ c, Small c → Small (mkT d c).2) (hz : Small c) (hf : pick c 16 = (15, c1)) : SQ pv prog w (k + 4) 350 [.r a, .d (.int (d + 1 : Nat))] (CL a c φ) (.d (mkT (d + 1) c).1.dat) (CL a (mkT (d + 1) c).2 φ) := by
  have hT := h.up
  have hN := hN.up
  have hdp : decide ((0 : Int) < ((d + 1 : Nat) : Int)) = true := decide_eq_true (by omega)
  have hz1 : Small c1 := by have := hz.pick (m := 16); rw [hf] at this; exact this
  have hL := h.list hs (n := (pick (mkT d c1).2 3).1) (nv := (pick (mkT d c1).2 3).1) (by have := pick_lt (mkT d c1).2 (m := 3) (by decide); omega) rfl
  refine' Spec.def2 (x1 := S "cells") (x2 := S "deep") ?ho ?hcd ?hb ?h1 ?h2 ?c1 ?c2 ?c3 ?cell ?h
  ktr_unf
  intro C hC
  refine Ex.assign (X := .d (.int (15 : Nat))) (Ev.conv (Ev.call (by k_is) (by k_is) (EvL.cons (Ev.loc rfl rfl (by decide)) (EvL.cons (Ev.ifexpT (EvT.gtI (Ev.loc rfl rfl (by decide)) Ev.int hdp) Ev.int) EvL.nil)) (pk_ok (m := 16) (by decide) hz) (by omega)) (by rw [hf])) ?_
  rw [mkT, hf]
  dsimp only
  refine Ex.if_skip (by cell_call) ?_
  refine Ex.if_skip (by cell_call) ?_
  refine Ex.if_skip (by cell_call) ?_
  refine Ex.if_skip (by cell_call) ?_
  refine Ex.if_skip (by cell_call) ?_
  refine Ex.if_skip (by cell_call) ?_
  refine Ex.if_skip (by cell_call) ?_
  refine Ex.if_skip (by cell_call) ?_
  refine Ex.if_skip (by cell_call) ?_
  refine Ex.assign (X := .d (mkT d c1).1.dat) (Ev.call (by k_is) (by k_is) (EvL.cons (Ev.loc rfl rfl (by decide)) (EvL.cons (Ev.subI (Ev.loc rfl rfl (by decide)) Ev.int) EvL.nil)) (hT _ _ hz1) (by omega)) ?_
  refine Ex.retE (Ev.tup (EvD.cons Ev.str (EvD.cons Ev.str (EvD.cons (Ev.tup (EvD.cons Ev.str (EvD.cons (Ev.loc rfl rfl (by decide)) (EvD.cons (Ev.tup (EvD.cons Ev.str (EvD.cons Ev.str (EvD.cons (Ev.call (by k_is) (by k_is) (EvL.cons (Ev.loc rfl rfl (by decide)) (EvL.cons (Ev.subI (Ev.loc rfl rfl (by decide)) Ev.int) (EvL.cons (Ev.call (by k_is) (by k_is) (EvL.cons (Ev.loc rfl rfl (by decide)) (EvL.cons Ev.int EvL.nil)) (pk_ok (by decide) (hs _ hz1)) (by omega)) EvL.nil))) (hL _ _ (hs _ hz1).pick) (by omega)) EvD.nil))) (Nat.le_of_ble_eq_true rfl)) EvD.nil))) (Nat.le_of_ble_eq_true rfl)) EvD.nil))) (Nat.le_of_ble_eq_true rfl)) ?_
  simp [Vt.dat]
end
end
section
variable {pv : Program}
theorem leaf_small {f : Nat} {c : List Nat} (h : Small c) : Small (leaf f c).2 := h.pick
theorem strOk_charAt3 {i : Nat} (hi : i < 3) : PyData.strOk (charAt "ABC" i) = true := by
  have : i = 0 ∨ i = 1 ∨ i = 2 := by omega
  rcases this with rfl | rfl | rfl <;> decide +kernel
theorem leaf_ok {f : Nat} {c : List Nat} : (leaf f c).1.ok ∧ (leaf f c).1.sz = 1 := by
  have hp := pick_lt c (m := 4) (by decide)
  unfold leaf
  dsimp only
  generalize (pick c 4).1 = i at *
  split
  · have : i = 0 ∨ i = 1 ∨ i = 2 ∨ i = 3 := by omega
    simp only [Vt.ok, Vt.sz]
    rcases this with rfl | rfl | rfl | rfl <;> exact ⟨by decide +kernel, trivial⟩
  split
  · have : i = 0 ∨ i = 1 ∨ i = 2 ∨ i = 3 := by omega
    simp only [Vt.ok, Vt.sz]
    rcases this with rfl | rfl | rfl | rfl <;> exact ⟨by decide +kernel, trivial⟩
  split
  · exact ⟨by simp [Vt.ok], by simp [Vt.sz]⟩
  · exact ⟨by simp [Vt.ok], by simp [Vt.sz]⟩
theorem mkL_small {f : List Nat → Vt × List Nat} (hf : ∀ c, Small c → Small (f c).2) {n : Nat} {c : List Nat} (h : Small c) : Small (Mine.mkL f n c).2 := Small.mkL hf n h
theorem mkL_ok {f : List Nat → Vt × List Nat} {B : Nat} (hf : ∀ c, (f c).1.ok ∧ (f c).1.sz ≤ B) : ∀ (n : Nat) (c : List Nat), (mkL f n c).1.ok ∧ (mkL f n c).1.sz ≤ 1 + n * (1 + B)
  | 0, _ => ⟨by simp [mkL, Vl.ok], by simp [mkL, Vl.sz]⟩
  | n + 1, c => by
    have h1 := hf c
    have h2 := mkL_ok hf n (f c).2
    simp only [mkL, Vl.ok, Vl.sz]
    refine ⟨⟨h1.1, h2.1⟩, ?_⟩
    have e : (n + 1) * (1 + B) = n * (1 + B) + (1 + B) := by rw [Nat.add_mul]; omega
    rw [e]; omega
theorem mkL_sz {f : List Nat → Vt × List Nat} {B n : Nat} (hf : ∀ c, (f c).1.ok ∧ (f c).1.sz ≤ B) (hn : n < 3) (c : List Nat) : (mkL f n c).1.sz ≤ 1 + 2 * (1 + B) := by
  refine Nat.le_trans (mkL_ok hf n c).2 ?_
  have := Nat.mul_le_mul_right (1 + B) (show n ≤ 2 by omega)
  omega
theorem mk_small : ∀ d : Nat, (∀ c, Small c → Small (mkT d c).2) ∧ (∀ c, Small c → Small (mkN d c).2)
  | 0 => ⟨fun c h => by rw [mkT]; exact leaf_small h.pick, fun c h => by rw [mkN]; exact h.pick⟩
  | d + 1 => by
    obtain ⟨hs, hn⟩ := mk_small d
    refine ⟨fun c h => ?_, fun c h => ?_⟩
    · rw [mkT]
      dsimp only
      have h1 : Small (pick c 16).2 := h.pick
      generalize (pick c 16).2 = c1 at h1
      generalize (pick c 16).1 = f
      by_cases h0 : f < 4
      · rw [if_pos h0]; first | exact leaf_small h1 | exact hs _ h1 | exact hs _ (hs _ h1) | exact hs _ (hs _ h1.pick) | exact hn _ (hs _ h1.pick) | exact hn _ h1.pick | exact mkL_small hs h1.pick | exact mkL_small hs (hs _ h1.pick) | exact h1
      rw [if_neg h0]; clear h0
      by_cases h0 : f = 4
      · rw [if_pos h0]; first | exact leaf_small h1 | exact hs _ h1 | exact hs _ (hs _ h1) | exact hs _ (hs _ h1.pick) | exact hn _ (hs _ h1.pick) | exact hn _ h1.pick | exact mkL_small hs h1.pick | exact mkL_small hs (hs _ h1.pick) | exact h1
      rw [if_neg h0]; clear h0
      by_cases h0 : f = 5
      · rw [if_pos h0]; first | exact leaf_small h1 | exact hs _ h1 | exact hs _ (hs _ h1) | exact hs _ (hs _ h1.pick) | exact hn _ (hs _ h1.pick) | exact hn _ h1.pick | exact mkL_small hs h1.pick | exact mkL_small hs (hs _ h1.pick) | exact h1
      rw [if_neg h0]; clear h0
      by_cases h0 : f = 6
      · rw [if_pos h0]; first | exact leaf_small h1 | exact hs _ h1 | exact hs _ (hs _ h1) | exact hs _ (hs _ h1.pick) | exact hn _ (hs _ h1.pick) | exact hn _ h1.pick | exact mkL_small hs h1.pick | exact mkL_small hs (hs _ h1.pick) | exact h1
      rw [if_neg h0]; clear h0
      by_cases h0 : f = 7
      · rw [if_pos h0]; first | exact leaf_small h1 | exact hs _ h1 | exact hs _ (hs _ h1) | exact hs _ (hs _ h1.pick) | exact hn _ (hs _ h1.pick) | exact hn _ h1.pick | exact mkL_small hs h1.pick | exact mkL_small hs (hs _ h1.pick) | exact h1
      rw [if_neg h0]; clear h0
      by_cases h0 : f = 8
      · rw [if_pos h0]; first | exact leaf_small h1 | exact hs _ h1 | exact hs _ (hs _ h1) | exact hs _ (hs _ h1.pick) | exact hn _ (hs _ h1.pick) | exact hn _ h1.pick | exact mkL_small hs h1.pick | exact mkL_small hs (hs _ h1.pick) | exact h1
      rw [if_neg h0]; clear h0
      by_cases h0 : f = 10
      · rw [if_pos h0]; first | exact leaf_small h1 | exact hs _ h1 | exact hs _ (hs _ h1) | exact hs _ (hs _ h1.pick) | exact hn _ (hs _ h1.pick) | exact hn _ h1.pick | exact mkL_small hs h1.pick | exact mkL_small hs (hs _ h1.pick) | exact h1
      rw [if_neg h0]; clear h0
      by_cases h0 : f = 11
      · rw [if_pos h0]; first | exact leaf_small h1 | exact hs _ h1 | exact hs _ (hs _ h1) | exact hs _ (hs _ h1.pick) | exact hn _ (hs _ h1.pick) | exact hn _ h1.pick | exact mkL_small hs h1.pick | exact mkL_small hs (hs _ h1.pick) | exact h1
      rw [if_neg h0]; clear h0
      by_cases h0 : f = 9
      · rw [if_pos h0]; first | exact leaf_small h1 | exact hs _ h1 | exact hs _ (hs _ h1) | exact hs _ (hs _ h1.pick) | exact hn _ (hs _ h1.pick) | exact hn _ h1.pick | exact mkL_small hs h1.pick | exact mkL_small hs (hs _ h1.pick) | exact h1
      rw [if_neg h0]; clear h0
      by_cases h0 : f = 12
      · rw [if_pos h0]; first | exact leaf_small h1 | exact hs _ h1 | exact hs _ (hs _ h1) | exact hs _ (hs _ h1.pick) | exact hn _ (hs _ h1.pick) | exact hn _ h1.pick | exact mkL_small hs h1.pick | exact mkL_small hs (hs _ h1.pick) | exact h1
      rw [if_neg h0]; clear h0
      by_cases h0 : f = 13
      · rw [if_pos h0]; first | exact leaf_small h1 | exact hs _ h1 | exact hs _ (hs _ h1) | exact hs _ (hs _ h1.pick) | exact hn _ (hs _ h1.pick) | exact hn _ h1.pick | exact mkL_small hs h1.pick | exact mkL_small hs (hs _ h1.pick) | exact h1
      rw [if_neg h0]; clear h0
      by_cases h0 : f = 14
      · rw [if_pos h0]; first | exact leaf_small h1 | exact hs _ h1 | exact hs _ (hs _ h1) | exact hs _ (hs _ h1.pick) | exact hn _ (hs _ h1.pick) | exact hn _ h1.pick | exact mkL_small hs h1.pick | exact mkL_small hs (hs _ h1.pick) | exact h1
      rw [if_neg h0]; clear h0
      exact mkL_small hs (hs _ h1).pick
    · rw [mkN]
      dsimp only
      have h1 : Small (pick c 5).2 := h.pick
      generalize (pick c 5).2 = c1 at h1
      generalize (pick c 5).1 = f
      by_cases h0 : f = 0
      · rw [if_pos h0]; exact h1.pick
      rw [if_neg h0]; clear h0
      by_cases h0 : f = 1
      · rw [if_pos h0]; exact mkL_small hs h1.pick
      rw [if_neg h0]; clear h0
      by_cases h0 : f = 2
      · rw [if_pos h0]; exact mkL_small hs (hs _ h1)
      rw [if_neg h0]; clear h0
      by_cases h0 : f = 3
      · rw [if_pos h0]; exact hs _ h1
      rw [if_neg h0]; exact h1
theorem opAt_ok (i : Nat) : PyData.strOk (opAt i) = true ∧ (opAt i == S ".") = false ∧ (opAt i == S "$") = false := by
  unfold opAt
  split
  · decide +kernel
  split
  · decide +kernel
  split
  · decide +kernel
  · decide +kernel
theorem given_ok {i : Nat} (hi : i < 2) : charAt ".$" i = S "." ∨ charAt ".$" i = S "$" := by
  have : i = 0 ∨ i = 1 := by omega
  rcases this with rfl | rfl
  · left; rfl
  · right; rfl
theorem mkT_ok {d B : Nat} (hT : ∀ c, (mkT d c).1.ok ∧ (mkT d c).1.sz ≤ B) (hN : ∀ c, (mkN d c).1.ok ∧ (mkN d c).1.sz ≤ B) (c : List Nat) : (mkT (d + 1) c).1.ok ∧ (mkT (d + 1) c).1.sz ≤ 6 + 3 * B := by
  rw [mkT]
  dsimp only
  generalize (pick c 16).2 = c1
  generalize (pick c 16).1 = f
  by_cases h0 : f < 4
  · rw [if_pos h0]
    exact ⟨leaf_ok.1, by rw [leaf_ok.2]; omega⟩
  rw [if_neg h0]; clear h0
  by_cases h0 : f = 4
  · rw [if_pos h0]
    have a := hT c1; have b := hT (mkT d c1).2
    simp only [Vt.ok, Vt.sz]; exact ⟨⟨a.1, b.1⟩, by omega⟩
  rw [if_neg h0]; clear h0
  by_cases h0 : f = 5
  · rw [if_pos h0]
    have a := hT (pick c1 4).2; have b := hT (mkT d (pick c1 4).2).2
    simp only [Vt.ok, Vt.sz]; exact ⟨⟨opAt_ok _, a.1, b.1⟩, by omega⟩
  rw [if_neg h0]; clear h0
  by_cases h0 : f = 6
  · rw [if_pos h0]
    have a := hT (pick c1 2).2; have b := hN (mkT d (pick c1 2).2).2
    simp only [Vt.ok, Vt.sz]; exact ⟨⟨given_ok (pick_lt c1 (by decide)), a.1, b.1⟩, by omega⟩
  rw [if_neg h0]; clear h0
  by_cases h0 : f = 7
  · rw [if_pos h0]
    have a := hT c1
    simp only [Vt.ok, Vt.sz]; exact ⟨a.1, by omega⟩
  rw [if_neg h0]; clear h0
  by_cases h0 : f = 8
  · rw [if_pos h0]
    have a := hT c1
    simp only [Vt.ok, Vt.sz]; exact ⟨a.1, by omega⟩
  rw [if_neg h0]; clear h0
  by_cases h0 : f = 10
  · rw [if_pos h0]
    have a := hT c1
    simp only [Vt.ok, Vt.sz]; exact ⟨a.1, by omega⟩
  rw [if_neg h0]; clear h0
  by_cases h0 : f = 11
  · rw [if_pos h0]
    have a := hT c1
    simp only [Vt.ok, Vt.sz]; exact ⟨a.1, by omega⟩
  rw [if_neg h0]; clear h0
  by_cases h0 : f = 9
  · rw [if_pos h0]
    have a := hN (pick c1 2).2
    dsimp only
    split
    · simp only [Vt.ok, Vt.sz]; exact ⟨a.1, by omega⟩
    · simp only [Vt.ok, Vt.sz]; exact ⟨a.1, by omega⟩
  rw [if_neg h0]; clear h0
  by_cases h0 : f = 12
  · rw [if_pos h0]
    have a := mkL_ok hT (pick c1 3).1 (pick c1 3).2
    have b := mkL_sz hT (pick_lt c1 (m := 3) (by decide)) (pick c1 3).2
    simp only [Vt.ok, Vt.sz]; exact ⟨⟨⟨by decide +kernel, by decide +kernel⟩, a.1⟩, by omega⟩
  rw [if_neg h0]; clear h0
  by_cases h0 : f = 13
  · rw [if_pos h0]
    have o := hT (pick c1 2).2
    have hp := pick_lt c1 (m := 2) (by decide)
    have a := mkL_ok hT (1 + (pick c1 2).1) (mkT d (pick c1 2).2).2
    have b := mkL_sz hT (show 1 + (pick c1 2).1 < 3 by omega) (mkT d (pick c1 2).2).2
    simp only [Vt.ok, Vt.sz]; exact ⟨⟨o.1, a.1⟩, by omega⟩
  rw [if_neg h0]; clear h0
  by_cases h0 : f = 14
  · rw [if_pos h0]
    simp only [Vt.ok, Vt.sz]; exact ⟨by decide +kernel, by omega⟩
  rw [if_neg h0]; clear h0
  · have o := hT c1
    have a := mkL_ok hT (pick (mkT d c1).2 3).1 (pick (mkT d c1).2 3).2
    have b := mkL_sz hT (pick_lt (mkT d c1).2 (m := 3) (by decide)) (pick (mkT d c1).2 3).2
    simp only [Vt.ok, Vt.sz]; exact ⟨⟨o.1, a.1⟩, by omega⟩
theorem mkN_ok {d B : Nat} (hT : ∀ c, (mkT d c).1.ok ∧ (mkT d c).1.sz ≤ B) (c : List Nat) : (mkN (d + 1) c).1.ok ∧ (mkN (d + 1) c).1.sz ≤ 6 + 3 * B := by
  rw [mkN]
  dsimp only
  generalize (pick c 5).2 = c1
  generalize (pick c 5).1 = f
  by_cases h0 : f = 0
  · rw [if_pos h0]
    simp only [Nt.ok, Nt.sz]; exact ⟨strOk_charAt3 (pick_lt c1 (by decide)), by omega⟩
  rw [if_neg h0]; clear h0
  by_cases h0 : f = 1
  · rw [if_pos h0]
    have a := mkL_ok hT (pick c1 3).1 (pick c1 3).2
    have b := mkL_sz hT (pick_lt c1 (m := 3) (by decide)) (pick c1 3).2
    simp only [Nt.ok, Nt.sz]; exact ⟨⟨⟨by decide +kernel, by decide +kernel⟩, a.1⟩, by omega⟩
  rw [if_neg h0]; clear h0
  by_cases h0 : f = 2
  · rw [if_pos h0]
    have o := hT c1
    have a := mkL_ok hT 1 (mkT d c1).2
    have b := mkL_sz hT (show 1 < 3 by decide) (mkT d c1).2
    simp only [Nt.ok, Nt.sz]; exact ⟨⟨o.1, a.1⟩, by omega⟩
  rw [if_neg h0]; clear h0
  by_cases h0 : f = 3
  · rw [if_pos h0]
    have o := hT c1
    simp only [Nt.ok, Nt.sz]; exact ⟨o.1, by omega⟩
  rw [if_neg h0]; clear h0
  · simp only [Nt.ok, Nt.sz]; exact ⟨by decide +kernel, by omega⟩
def szB : Nat → Nat
  | 0 => 1
  | d + 1 => 6 + 3 * szB d
theorem mk_ok : ∀ d : Nat, (∀ c, (mkT d c).1.ok ∧ (mkT d c).1.sz ≤ szB d) ∧ (∀ c, (mkN d c).1.ok ∧ (mkN d c).1.sz ≤ szB d)
  | 0 => ⟨fun c => by rw [mkT]; exact ⟨leaf_ok.1, by rw [leaf_ok.2]; exact Nat.le_refl _⟩, fun c => by rw [mkN]; simp only [Nt.ok, Nt.sz]; exact ⟨strOk_charAt3 (pick_lt c (by decide)), Nat.le_refl _⟩⟩
  | d + 1 => by
    obtain ⟨hT, hN⟩ := mk_ok d
    exact ⟨mkT_ok hT hN, mkN_ok hT⟩
theorem mk3_ok (c : List Nat) : (mkT 3 c).1.ok ∧ (mkT 3 c).1.sz ≤ 105 := (mk_ok 3).1 c
variable {prog : Program} {w : World} {φ μ : Mu} {a : Addr}
theorem tr_all : ∀ d : Nat, TR pv prog w (3 + 4 * d) a d ∧ NR pv prog w (3 + 4 * d) a d
  | 0 => ⟨fun c φ h => tr0 h, fun c φ h => nm0 h⟩
  | d + 1 => by
    obtain ⟨hT, hN⟩ := tr_all d
    have hs := (mk_small d).1
    have e : 3 + 4 * (d + 1) = (3 + 4 * d) + 4 := by omega
    have hT' : ∀ c φ, Small c → SQ pv prog w ((3 + 4 * d) + 4) 350 [.r a, .d (.int (d + 1 : Nat))] (CL a c φ) (.d (mkT (d + 1) c).1.dat) (CL a (mkT (d + 1) c).2 φ) := by
      intro c φ h
      have hp := pick_lt c (m := 16) (by decide)
      have hN' : NR pv prog w ((3 + 4 * d) + 3) a d := fun c φ h => (hN c φ h).mono (by omega)
      generalize hf : pick c 16 = pc at hp
      obtain ⟨f, c1⟩ := pc
      dsimp only at hp
      have hc : f < 4 ∨ f = 4 ∨ f = 5 ∨ f = 6 ∨ f = 7 ∨ f = 8 ∨ f = 9 ∨ f = 10 ∨ f = 11 ∨ f = 12 ∨ f = 13 ∨ f = 14 ∨ f = 15 := by omega
      rcases hc with hc | rfl | rfl | rfl | rfl | rfl | rfl | rfl | rfl | rfl | rfl | rfl | rfl
      · exact trl h hf hc
      · exact trf4 hT hN' hs h hf
      · exact trf5 hT hN' hs h hf
      · exact trf6 hT hN' hs h hf
      · exact trf7 hT hN' hs h hf
      · exact trf8 hT hN' hs h hf
      · exact trf9 hT hN' hs h hf
      · exact trf10 hT hN' hs h hf
      · exact trf11 hT hN' hs h hf
      · exact trf12 hT hN' hs h hf
      · exact trf13 hT hN' hs h hf
      · exact trf14 hT hN' hs h hf
      · exact trf15 hT hN' hs h hf
    rw [e]
    exact ⟨hT', fun c φ h => (nmS hT hs h).mono (by omega)⟩
theorem tree3 {c : List Nat} (h : Small c) : SQ pv prog w 15 350 [.r a, .d (.int 3)] (CL a c φ) (.d (mkT 3 c).1.dat) (CL a (mkT 3 c).2 φ) := (tr_all 3).1 c φ h
end
section
section gen
variable {K : Frag} {p : Program} {fi : Fi} {prog : Program} {w : World}
variable {C : Cx K p fi} {σ σ' σ₁ σ₂ : List (Str × V)} {μ μ' μ₁ μ₂ μ₃ : Mu} {pos px pz p1 p2 p3 p4 p5 : Pos} {ts : List Value} {Ts : List V} {s : Shared} {O : Out} {X X1 : V} {x z : Str} {rest : List Stmt}
theorem he_const {c : Const} {k : Nat} {es : List Expr} {env : Env} : starEach (Expr.Constant c k p1 :: es) env = (false, eval (Expr.Constant c k p1) env) :: starEach es env := rfl
theorem EvD.int {i : Int} {k : Nat} {es : List Expr} {xs : List Dat} (h : EvD prog w C σ μ es xs μ₁) : EvD prog w C σ μ (.Constant (.int i) k p1 :: es) (.int i :: xs) μ₁ := EvD.cons Ev.int h he_const
theorem Ev.uptoScr' {a b : Expr} {ps : Pos} {ad : Addr} {vs : List Value} {is : List Int} {i : Int} (hL : C.h₀.IsList ad vs.toArray) (hI : IntsAre vs is) (h1 : Ev prog w C σ μ a (.r ad) μ₁) (h2 : Ev prog w C σ μ₁ b (.d (.int i)) μ₂) (h0 : 0 ≤ i) (hz : is.length ≤ 16777216) :
    Ev prog w C σ μ (.Subscript a (.Slice Option.none (some b) Option.none ps) pos) (.d (.list ((is.take i.toNat).map Dat.int))) μ₂ := by
  rw [List.map_take]; exact Ev.uptoScr hL hI h1 h2 h0 hz
theorem Ev.absL {iter : Expr} {scope : Scope} {is : List Int} (h1 : Ev prog w C σ μ iter (.d (.list (is.map Dat.int))) μ) (hz : is.length ≤ 1000000) (hga : nsIn K mainGlobals ("abs" : Str) = some Option.none) (hba : bootBuiltins ("abs" : Str) = some (.builtin "abs")) (hgi : nsIn K mainGlobals ("int" : Str) = some Option.none) (hbi : bootBuiltins ("int" : Str) = some (.type "int"))
    (hclos : closureFor scope C.env = pure []) (hcell : ∀ y ∈ scope.names, y.2 ≠ .cell) (hkind : scope.kind = .function)
    (hnames : ∀ y ∈ scope.names, y.2 = .local → scope.names.lookup y.1 = some .local) (hx : scope.names.lookup x = some .local)
    (hx2 : ∀ Cc, (compEnvC scope [] Cc C.env).kindOf x = some .local) (hya : ∀ Cc, (compEnvC scope [] Cc C.env).kindOf ("abs" : Str) = some .globalImplicit) (hyi : ∀ Cc, (compEnvC scope [] Cc C.env).kindOf ("int" : Str) = some .globalImplicit) (hd : (x == ("__debug__" : Str)) = false := by decide)
    (hs : ∀ x, foldedSetIterable iter C.env x = pure x := by intro _; rfl) :
    Ev prog w C σ μ (.ListComp (.Call (.Name ("abs" : Str) p1) [.Call (.Name ("int" : Str) p2) [.Name x p3] [] p4] [] p5) [⟨.Name x px, iter, [], 0⟩] scope pos) (.d (.list (is.map fun i => Dat.int i.natAbs))) μ := by
  have h := Ev.compL (pos := pos) (px := px) (elt := .Call (.Name ("abs" : Str) p1) [.Call (.Name ("int" : Str) p2) [.Name x p3] [] p4] [] p5) (x := x) (cl := []) (fun _ => μ) (fun i => Dat.int (is.getD i 0).natAbs) h1 (by rw [List.length_map]; exact hz) (fun i d hd' φ => ?_) hclos hcell hkind hnames hx hs
  · rw [List.length_map, map_getD (fun i => Dat.int (Int.natAbs i)) is 0] at h
    exact h
  · rw [List.getElem?_map] at hd'
    obtain ⟨n, hn, rfl⟩ := Option.map_eq_some_iff.mp hd'
    have e : is.getD i 0 = n := by rw [List.getD_eq_getElem?_getD, hn]; rfl
    show ElEv prog w C σ (μ ++ φ) _ x scope [] (.int n) (.int (is.getD i 0).natAbs) (μ ++ φ)
    rw [e]
    exact ElEv.absInt hga hba hgi hbi hkind hx2 hya hyi hd
end gen
def usual : List Nat := [5, 0, 4, 8, 0, 0, 12, 2, 0, 1, 1, 0, 13, 0, 0, 2, 15, 1, 3, 1, 2, 3, 0, 0, 0, 0, 0, 0, 0, 0]
def cellsOf (is : List Int) : List Nat := (is.take 30).map Int.natAbs ++ usual.drop (is.take 30).length
theorem cells_small (is : List Int) : Small (cellsOf is) := by
  have h1 : (is.take 30).length ≤ 30 := List.length_take_le _ _
  have h2 : (usual.drop (is.take 30).length).length ≤ 30 := by rw [List.length_drop]; exact Nat.le_trans (Nat.sub_le _ _) (by decide)
  show (cellsOf is).length ≤ 1000
  rw [cellsOf, List.length_append, List.length_map]; omega
theorem cells_dat (is : List Int) : ((is.take 30).map fun i => Dat.int i.natAbs) ++ (usual.map dI).drop (is.take 30).length = (cellsOf is).map dI := by
  rw [cellsOf, List.map_append, List.map_map, List.map_drop]; rfl
end
theorem enter_law {K : Frag} {p : Program} {prog : Program} {w : World} {cn : Str} {cs : Scope} {L a : Addr} {ccd : Value} {base h₀ : Heap} {loose : List Str} {mean : ExcName → Option Value} {mg mb m : Str → Option Value} {body : List Stmt} {Q : Flow → Shared → Prop} {E : Value → Shared → Prop} {s : Shared} {sc : Addr} {xs : Str}
    (hX : K.In h₀) (hB : Below callerA base [] h₀) (hT : Top p loose mean mg mb h₀) (hk : cs.kind = .function) (F : Fr h₀ L s.heap m) (N : News h₀ L s.heap []) (hm : m xs = some (.ref sc))
    (h : ∀ C : Cx K p ⟨cn, cs, a, ccd⟩, C.room = 600 → C.h₀ = h₀ → Ex prog w C [(xs, .r sc)] [] body (.ret (.d (.bool true)) []))
    (k : ∀ m' h' tk, Fr h₀ L h' m' → Q (.ret (.bool true)) { s with heap := h', toks := tk }) :
    wpAny (model prog w) (callerA.deeper (envOf cn cs L a ccd)) (execs body (envOf cn cs L a ccd)) Q E s := by
  let C : Cx K p ⟨cn, cs, a, ccd⟩ := { room := 600, dp := 302, un := 7, gd := some [], L := L, cl := [], outer := [], A₀ := callerA, base := base, h₀ := h₀, loose := loose, mean := mean, mg := mg, mb := mb, imm₀ := [], s₀ := s, cv := [], hcv := (fun _ _ e => by cases e), hB := hB, hX := hX, hT := hT, hk := hk, hd := by decide, hu := by decide }
  refine h C rfl rfl [] [] s Q E ⟨m, [], [], ⟨F, N, (fun _ h => by cases h), List.nodup_nil, .nil, (fun _ h => by cases h), ?_, .nil, rfl⟩⟩ ?_
  · intro x X e
    by_cases hx : x = xs
    · subst hx
      simp at e; subst e
      exact ⟨_, hm, rfl⟩
    · have : (x == xs) = false := by simpa using hx
      rw [List.lookup_cons, this] at e
      cases e
  · rintro f s' ⟨v, rfl, m', imm', μr', S'⟩
    have hv := S'.pop.1
    obtain rfl : v = .bool true := by
      have hv : DatIn imm' v (.bool true) := hv
      cases hv; rfl
    rw [S'.sm]
    exact k m' _ _ S'.fr
def law_holds.tw8441880690091102137 : Nat := 0
def law_holds.tw1099259369241382048 : Nat := 0
def law_holds.tw11463670642173560981 : Nat := 0
def law_holds.tw1341266762083198811 : Nat := 0
def law_holds.tw11803358882649189518 : Nat := 0
def law_holds.tw2903333896348957400 : Nat := 0
def law_holds.tw15191720212996534143 : Nat := 0
def law_holds.tw18326849912455186884 : Nat := 0
def law_holds.tw881140697980615281 : Nat := 0
def law_holds.tw1258919526383655059 : Nat := 0
def law_holds.tw11027446948787134436 : Nat := 0
def law_holds.tw14497384708736915567 : Nat := 0
def law_holds.tw14051398506283589457 : Nat := 0
def law_holds.tw16947615914383616782 : Nat := 0
def law_holds.tw3927331946688356228 : Nat := 0
def law_holds.tw3912811242725288453 : Nat := 0
def law_holds.tw3046938939346580660 : Nat := 0
def law_holds.tw7604666192120794032 : Nat := 0
def law_holds.tw11625900857008200698 : Nat := 0
def law_holds.tw15472126771306010800 : Nat := 0
def law_holds.tw918494026989942156 : Nat := 0
def law_holds.tw7120836010843673076 : Nat := 0
def law_holds.tw15333956030411951890 : Nat := 0
def law_holds.tw14774650325386425613 : Nat := 0
def law_holds.tw1172607208729018732 : Nat := 0
def law_holds.tw14892801356780361778 : Nat := 0
def law_holds.tw17974257514489008736 : Nat := 0
def law_holds.tw2602977815382960713 : Nat := 0
def law_holds.tw1819975233463548508 : Nat := 0
def law_holds.tw4515466672771955728 : Nat := 0
def law_holds.tw6869992995446874880 : Nat := 0
def law_holds.tw15274831704391544125 : Nat := 0
def law_holds.tw1332809893879233157 : Nat := 0
def law_holds.tw8549365171731915398 : Nat := 0
def law_holds.tw7404543985812422374 : Nat := 0
def law_holds.tw5212653520564569363 : Nat := 0
def law_holds.tw15150646450996357022 : Nat := 0
def law_holds.tw10983241140555628109 : Nat := 0
def law_holds.tw5950301352895977177 : Nat := 0
def law_holds.tw2644310842459337959 : Nat := 0
def law_holds.tw4030767218360268280 : Nat := 0
def law_holds.tw11633083819707477107 : Nat := 0
def law_holds.tw10264638600885302300 : Nat := 0
def law_holds.tw15448297888555860652 : Nat := 0
def law_holds.tw18269650602155537469 : Nat := 0
def law_holds.tw5681604512368388349 : Nat := 0
def law_holds.tw8570087061310353148 : Nat := 0
def law_holds.tw10108825076125807744 : Nat := 0
def law_holds.tw8285764192309689115 : Nat := 0
def law_holds.tw2143268655074302082 : Nat := 0
def law_holds.tw13983371404066579822 : Nat := 0
def law_holds.tw15162217921772873613 : Nat := 0
def law_holds.tw2856731137302751260 : Nat := 0
def law_holds.tw10958410103948607464 : Nat := 0
def law_holds.tw17028624522117568015 : Nat := 0
def law_holds.tw12835091436910803158 : Nat := 0
def law_holds.tw13250372474279835810 : Nat := 0
def law_holds.tw16805829885119392726 : Nat := 0
def law_holds.tw8785698371604719795 : Nat := 0
def law_holds.tw5731563423909890137 : Nat := 0
def law_holds.tw8312341600987523519 : Nat := 0
def law_holds.tw13028658284911697911 : Nat := 0
def law_holds.tw14789792462180790578 : Nat := 0
def law_holds.tw5640673133297012132 : Nat := 0
def law_holds.tw14385925486924208373 : Nat := 0
def law_holds.tw12419048959643632839 : Nat := 0
def law_holds.tw18340598423539479173 : Nat := 0
def law_holds.tw10812634152524527747 : Nat := 0
def law_holds.tw3186734533307500241 : Nat := 0
def law_holds.tw8040771413219435098 : Nat := 0
def law_holds.tw2322801206320994539 : Nat := 0
def law_holds.tw16978406815995349258 : Nat := 0
def law_holds.tw10486713781251687710 : Nat := 0
def law_holds.tw12977093529070104392 : Nat := 0
def law_holds.tw6265907326580845545 : Nat := 0
def law_holds.tw10465528174321978529 : Nat := 0
def law_holds.tw17253903310271361901 : Nat := 0
def law_holds.tw1767730674963353768 : Nat := 0
def law_holds.tw4889031023730116350 : Nat := 0
def law_holds.tw11484002064277903863 : Nat := 0
def law_holds.tw5455921660152230842 : Nat := 0
def law_holds.tw1989176631692091739 : Nat := 0
def law_holds.tw12831907817818079685 : Nat := 0
def law_holds.tw17713402740875732926 : Nat := 0
def law_holds.tw15802469936163623734 : Nat := 0
def law_holds.tw4464252984393422682 : Nat := 0
def law_holds.tw6667284449218939238 : Nat := 0
def law_holds.tw2695550118857162214 : Nat := 0
def law_holds.tw6896717019858035522 : Nat := 0
def law_holds.tw6881874429007886204 : Nat := 0
def law_holds.tw2124134355350193313 : Nat := 0
def law_holds.tw13780023080261437657 : Nat := 0
def law_holds.tw11946022803392826334 : Nat := 0
def law_holds.tw1928719863018725356 : Nat := 0
def law_holds.tw3682559726232862161 : Nat := 0
def law_holds.tw10027879121665395642 : Nat := 0
def law_holds.tw13766487248619392586 : Nat := 0
def law_holds.tw10350734228115807855 : Nat := 0
def law_holds.tw9069877914133315304 : Nat := 0
def law_holds.tw7497986649931050792 : Nat := 0
def law_holds.tw17923851452625207687 : Nat := 0
def law_holds.tw9889521400790421688 : Nat := 0
def law_holds.tw8481075993509181622 : Nat := 0
def law_holds.tw13190703287169160282 : Nat := 0
def law_holds.tw8191475993861738794 : Nat := 0
def law_holds.tw2006301483956418059 : Nat := 0
def law_holds.tw13956741780833797525 : Nat := 0
def law_holds.tw16098122237329998606 : Nat := 0
def law_holds.tw8330938851228082562 : Nat := 0
def law_holds.tw10566571302883470556 : Nat := 0
def law_holds.tw9529696498207198238 : Nat := 0
def law_holds.tw9184033795430018204 : Nat := 0
def law_holds.tw4370086069003782432 : Nat := 0
def law_holds.tw2643271747718453845 : Nat := 0
def law_holds.tw18430954121086234272 : Nat := 0
def law_holds.tw3910120701321347557 : Nat := 0
def law_holds.tw3494445600050047599 : Nat := 0
def law_holds.tw18254337876149969668 : Nat := 0
def law_holds.tw5451054884063135654 : Nat := 0
def law_holds.tw11133525997344109421 : Nat := 0
def law_holds.tw6723812968561706957 : Nat := 0
def law_holds.tw7408472829698581751 : Nat := 0
def law_holds.tw16461882675039125421 : Nat := 0
def law_holds.tw6727219029552735585 : Nat := 0
def law_holds.tw10024239376800412576 : Nat := 0
def law_holds.tw15293083901398250104 : Nat := 0
def law_holds.tw12687621791434340054 : Nat := 0
def law_holds.tw12115171985352901274 : Nat := 0
def law_holds.tw10188763426450519768 : Nat := 0
def law_holds.tw15883345262158282383 : Nat := 0
def law_holds.tw2078624436916829710 : Nat := 0
def law_holds.tw11846676642670509255 : Nat := 0
def law_holds.tw10516828495840041881 : Nat := 0
def law_holds.tw13280740594461564331 : Nat := 0
def law_holds.tw12780804625047726367 : Nat := 0
def law_holds.tw2557128651999224082 : Nat := 0
def law_holds.tw15617896438947887921 : Nat := 0
def law_holds.tw498061464947678834 : Nat := 0
def law_holds.tw576407869801174206 : Nat := 0
def law_holds.tw14390095281932903014 : Nat := 0
def law_holds.tw10368410895845634921 : Nat := 0
def law_holds.tw9682718004065560343 : Nat := 0
def law_holds.tw18388893480867403737 : Nat := 0
def law_holds.tw12296726922439171297 : Nat := 0
def law_holds.tw2558664710541493025 : Nat := 0
def law_holds.tw17274716441693411508 : Nat := 0
def law_holds.tw10726639523019406850 : Nat := 0
def law_holds.tw8720880381367431298 : Nat := 0
def law_holds.tw3850404396616230974 : Nat := 0
def law_holds.tw9992725586745946429 : Nat := 0
def law_holds.tw2503670479209048990 : Nat := 0
def law_holds.tw3956099054510807996 : Nat := 0
def law_holds.tw17470365217354309832 : Nat := 0
def law_holds.tw926570990666696690 : Nat := 0
def law_holds.tw18135211599370774712 : Nat := 0
def law_holds.tw519298541982818421 : Nat := 0
def law_holds.tw15014403891855920072 : Nat := 0
def law_holds.tw784011647948385275 : Nat := 0
def law_holds.tw7769649832755249146 : Nat := 0
def law_holds.tw9255152265573255198 : Nat := 0
def law_holds.tw18234560199702728603 : Nat := 0
def law_holds.tw12134408205421670959 : Nat := 0
def law_holds.tw8984712037535005518 : Nat := 0
def law_holds.tw15806970514647361693 : Nat := 0
def law_holds.tw13709617746848070560 : Nat := 0
def law_holds.tw1670043908289496885 : Nat := 0
def law_holds.tw2387193687640843687 : Nat := 0
def law_holds.tw8909828626151137519 : Nat := 0
def law_holds.tw7696488724909661519 : Nat := 0
def law_holds.tw5112083995522966620 : Nat := 0
def law_holds.tw2175471002772951711 : Nat := 0
def law_holds.tw10362271348294423435 : Nat := 0
def law_holds.tw2486844867134693189 : Nat := 0
def law_holds.tw5907203647135998699 : Nat := 0
def law_holds.tw10028117763298573888 : Nat := 0
def law_holds.tw1905533677188600702 : Nat := 0
def law_holds.tw6861490101519172755 : Nat := 0
def law_holds.tw1973129929022764952 : Nat := 0
def law_holds.tw9168033884955339765 : Nat := 0
def law_holds.tw8553002610548859549 : Nat := 0
def law_holds.tw12116493165278983582 : Nat := 0
def law_holds.tw11881114122080957857 : Nat := 0
def law_holds.tw16873799427995575018 : Nat := 0
def law_holds.tw3756308257209627903 : Nat := 0
def law_holds.tw11100686419730198450 : Nat := 0
def law_holds.tw14822640431511872941 : Nat := 0
def law_holds.tw8970147916757833333 : Nat := 0
def law_holds.tw6776455111828631412 : Nat := 0
def law_holds.tw15527639110640922598 : Nat := 0
def law_holds.tw7407239408455114201 : Nat := 0
def law_holds.tw11182679623053108816 : Nat := 0
def law_holds.tw12626328134170644701 : Nat := 0
def law_holds.tw1689763614830377041 : Nat := 0
def law_holds.tw981846192996546977 : Nat := 0
def law_holds.tw11544315989524547432 : Nat := 0
def law_holds.tw1035469204868569938 : Nat := 0
def law_holds.tw14883556706271630602 : Nat := 0
def law_holds.tw10609929442622069884 : Nat := 0
def law_holds.tw1784627337472249616 : Nat := 0
def law_holds.tw5858263632927829637 : Nat := 0
def law_holds.tw14988988175077273356 : Nat := 0
def law_holds.tw11781800970755023335 : Nat := 0
def law_holds.tw17180001009569633970 : Nat := 0
def law_holds.tw2578278018795888234 : Nat := 0
def law_holds.tw12303009252429188658 : Nat := 0
def law_holds.tw5274592661964301406 : Nat := 0
def law_holds.tw13402424001964919149 : Nat := 0
def law_holds.tw4524032621918665186 : Nat := 0
def law_holds.tw8386679336120195906 : Nat := 0
def law_holds.tw3330567562994000038 : Nat := 0
def law_holds.tw10301956948240465243 : Nat := 0
def law_holds.tw6159533029260741167 : Nat := 0
def law_holds.tw15352839923633478061 : Nat := 0
def law_holds.tw10876394233666535175 : Nat := 0
def law_holds.tw1724926542741425601 : Nat := 0
def law_holds.tw11764581739189218997 : Nat := 0
def law_holds.tw3390839446522356110 : Nat := 0
def law_holds.tw11966672015165255308 : Nat := 0
def law_holds.tw6911747868599837429 : Nat := 0
def law_holds.tw6860709855171689206 : Nat := 0
def law_holds.tw15006436103509636135 : Nat := 0
def law_holds.tw575232530192455986 : Nat := 0
def law_holds.tw3253568177066640346 : Nat := 0
def law_holds.tw13281950902743806629 : Nat := 0
def law_holds.tw9207643191828677137 : Nat := 0
def law_holds.tw2075624079617657780 : Nat := 0
def law_holds.tw7566432030715092817 : Nat := 0
def law_holds.tw11924911360389889469 : Nat := 0
def law_holds.tw11126432536435168541 : Nat := 0
def law_holds.tw179590077315354965 : Nat := 0
def law_holds.tw14872900085578418628 : Nat := 0
def law_holds.tw2136269947727277649 : Nat := 0
def law_holds.tw8854015012368427407 : Nat := 0
def law_holds.tw8369274380968253667 : Nat := 0
def law_holds.tw3959601488294255719 : Nat := 0
def law_holds.tw17255088995462705879 : Nat := 0
def law_holds.tw2090888555730037645 : Nat := 0
def law_holds.tw745255978533919091 : Nat := 0
def law_holds.tw6719018230134327050 : Nat := 0
def law_holds.tw10242277825702978295 : Nat := 0
def law_holds.tw5989267464594152519 : Nat := 0
def law_holds.tw13190408463805328480 : Nat := 0
def law_holds.tw3426384778480675251 : Nat := 0
def law_holds.tw3307954989432871184 : Nat := 0
def law_holds.tw8514742172934523775 : Nat := 0
def law_holds.tw13431030151845061361 : Nat := 0
def law_holds.tw16106779387088534511 : Nat := 0
def law_holds.tw14545874151571354728 : Nat := 0
def law_holds.tw3033269912633744064 : Nat := 0
def law_holds.tw6317479115527610633 : Nat := 0
def law_holds.tw602461330855297101 : Nat := 0
def law_holds.tw16470317323979864763 : Nat := 0
def law_holds.tw11426015686315989412 : Nat := 0
def law_holds.tw4614512636035447770 : Nat := 0
def law_holds.tw11677100312832694166 : Nat := 0
def law_holds.tw5920216800500632969 : Nat := 0
def law_holds.tw3896150654470677357 : Nat := 0
def law_holds.tw7019463264422422977 : Nat := 0
def law_holds.tw12622292602297523153 : Nat := 0
def law_holds.tw13397297893571687751 : Nat := 0
def law_holds.tw3366817510852727610 : Nat := 0
def law_holds.tw8857742495270377987 : Nat := 0
def law_holds.tw9849722394096787677 : Nat := 0
def law_holds.tw12149405283708829123 : Nat := 0
def law_holds.tw10442559174759676424 : Nat := 0
def law_holds.tw3005452535816212104 : Nat := 0
def law_holds.tw15607887362523206001 : Nat := 0
def law_holds.tw17253691774821329096 : Nat := 0
def law_holds.tw8417186165934385351 : Nat := 0
def law_holds.tw4593294709026258786 : Nat := 0
def law_holds.tw16760957895259694429 : Nat := 0
def law_holds.tw16190678330180157336 : Nat := 0
def law_holds.tw2295933128562542503 : Nat := 0
def law_holds.tw14746732674962391887 : Nat := 0
def law_holds.tw2882485010973397480 : Nat := 0
def law_holds.tw4916342969005030805 : Nat := 0
def law_holds.tw3136910860242942599 : Nat := 0
def law_holds.tw9552830710289189752 : Nat := 0
def law_holds.tw16099233806120587224 : Nat := 0
def law_holds.tw3850334171643177529 : Nat := 0
def law_holds.tw12889673554181485818 : Nat := 0
def law_holds.tw2102315897755806987 : Nat := 0
def law_holds.tw1285599515219305098 : Nat := 0
def law_holds.tw3253820488102484341 : Nat := 0
def law_holds.tw3742325753681652743 : Nat := 0
def law_holds.tw1550374771381668074 : Nat := 0
def law_holds.tw14828999820898988419 : Nat := 0
def law_holds.tw4329158554759489670 : Nat := 0
def law_holds.tw4037582482628031876 : Nat := 0
def law_holds.tw676263390381983339 : Nat := 0
def law_holds.tw5364902710198789758 : Nat := 0
def law_holds.tw12456547296908542839 : Nat := 0
def law_holds.tw10093380194815717143 : Nat := 0
def law_holds.tw3756957479349018193 : Nat := 0
def law_holds.tw9013377322688217293 : Nat := 0
def law_holds.tw631266038723830076 : Nat := 0
def law_holds.tw7185456241796803578 : Nat := 0
def law_holds.tw1096898596823417342 : Nat := 0
def law_holds.tw3234938669768167354 : Nat := 0
def law_holds.tw724200737284857819 : Nat := 0
def law_holds.tw3979707639553702691 : Nat := 0
def law_holds.tw14596297492920191028 : Nat := 0
def law_holds.tw11098625913536864229 : Nat := 0
def law_holds.tw14354538779393863138 : Nat := 0
def law_holds.tw907578622648922086 : Nat := 0
def law_holds.tw1335265377702380343 : Nat := 0
def law_holds.tw59864651932915081 : Nat := 0
def law_holds.tw7221428835167493151 : Nat := 0
def law_holds.tw8984152853971343422 : Nat := 0
def law_holds.tw14377833709258309704 : Nat := 0
def law_holds.tw7336637973963217214 : Nat := 0
def law_holds.tw16720094985154256693 : Nat := 0
def law_holds.tw12342728606916771844 : Nat := 0
def law_holds.tw9288214680346807717 : Nat := 0
def law_holds.tw1685627985566243432 : Nat := 0
def law_holds.tw3955097671198598788 : Nat := 0
def law_holds.tw1385162719727133579 : Nat := 0
def law_holds.tw15694993059591697976 : Nat := 0
def law_holds.tw10296202853966499060 : Nat := 0
def law_holds.tw7495221243884187115 : Nat := 0
def law_holds.tw8652346329174877282 : Nat := 0
def law_holds.tw2152083551845799040 : Nat := 0
def law_holds.tw11347954631545130290 : Nat := 0
def law_holds.tw17237755526102222789 : Nat := 0
def law_holds.tw13301187468288870568 : Nat := 0
def law_holds.tw17993387198741990920 : Nat := 0
def law_holds.tw447027507633508388 : Nat := 0
def law_holds.tw14991590004735058009 : Nat := 0
def law_holds.tw7820799176418779761 : Nat := 0
def law_holds.tw6333624483447246961 : Nat := 0
def law_holds.tw13536078969547264968 : Nat := 0
def law_holds.tw10841264019214440115 : Nat := 0
def law_holds.tw7636989558263936852 : Nat := 0
def law_holds.tw14531881819706719225 : Nat := 0
def law_holds.tw13182730311906835528 : Nat := 0
def law_holds.tw11977050620070087417 : Nat := 0
def law_holds.tw4503035019201841076 : Nat := 0
def law_holds.tw3776956092104397036 : Nat := 0
def law_holds.tw8266603773606604290 : Nat := 0
def law_holds.tw13531627063480126996 : Nat := 0
def law_holds.tw900637438159641495 : Nat := 0
def law_holds.tw2842810181116790245 : Nat := 0
def law_holds.tw11690447701083486646 : Nat := 0
def law_holds.tw11097158420108258118 : Nat := 0
def law_holds.tw14571795756577361901 : Nat := 0
def law_holds.tw7263927829009736852 : Nat := 0
def law_holds.tw15661869461025623997 : Nat := 0
def law_holds.tw11609493526922420660 : Nat := 0
def law_holds.tw10007947361888340627 : Nat := 0
def law_holds.tw12476058986133298565 : Nat := 0
def law_holds.tw718173064312146323 : Nat := 0
def law_holds.tw8249079356659094474 : Nat := 0
def law_holds.tw16893121556090616931 : Nat := 0
def law_holds.tw4146061822495498468 : Nat := 0
def law_holds.tw11404014056486942332 : Nat := 0
def law_holds.tw11289095316329951393 : Nat := 0
def law_holds.tw7356724547972884604 : Nat := 0
def law_holds.tw15609566024721092083 : Nat := 0
def law_holds.tw14646867148444618371 : Nat := 0
def law_holds.tw18203989763732354715 : Nat := 0
def law_holds.tw10817052189556005596 : Nat := 0
def law_holds.tw13220211186989608806 : Nat := 0
def law_holds.tw16406091861079842607 : Nat := 0
def law_holds.tw10666784280354678857 : Nat := 0
def law_holds.tw18090433342136740992 : Nat := 0
def law_holds.tw16563099163409725306 : Nat := 0
def law_holds.tw2887050238494874643 : Nat := 0
def law_holds.tw6414236842205186250 : Nat := 0
def law_holds.tw12732824653754844360 : Nat := 0
def law_holds.tw16883458599210261866 : Nat := 0
def law_holds.tw14160533322030094474 : Nat := 0
def law_holds.tw8176227357466254829 : Nat := 0
def law_holds.tw3943428198234077543 : Nat := 0
def law_holds.tw1909877003179415225 : Nat := 0
def law_holds.tw455179833554555240 : Nat := 0
def law_holds.tw7311554392007033315 : Nat := 0
def law_holds.tw9875236377963488844 : Nat := 0
def law_holds.tw13800757232730249582 : Nat := 0
def law_holds.tw15272395603832836080 : Nat := 0
def law_holds.tw14925382992726071281 : Nat := 0
def law_holds.tw2043166853727251185 : Nat := 0
def law_holds.tw4072507727158212662 : Nat := 0
def law_holds.tw14289194402921355359 : Nat := 0
def law_holds.tw4781243967656130014 : Nat := 0
def law_holds.tw6564709946809587534 : Nat := 0
def law_holds.tw7089819591129360890 : Nat := 0
def law_holds.tw1791086108937442324 : Nat := 0
def law_holds.tw15154110283740273250 : Nat := 0
def law_holds.tw1186782194237197914 : Nat := 0
def law_holds.tw699380112222796084 : Nat := 0
def law_holds.tw7910590604623066228 : Nat := 0
def law_holds.tw9606376775287448836 : Nat := 0
def law_holds.tw15297231500560381522 : Nat := 0
def law_holds.tw4008084134468147086 : Nat := 0
def law_holds.tw16381176275627223697 : Nat := 0
def law_holds.tw13392613628428298086 : Nat := 0
def law_holds.tw14997073306097389879 : Nat := 0
def law_holds.tw17598101756349436640 : Nat := 0
def law_holds.tw11097350217990362986 : Nat := 0
def law_holds.tw16935243356766158856 : Nat := 0
def law_holds.tw15452448965706171373 : Nat := 0
def law_holds.tw2055734563569237896 : Nat := 0
def law_holds.tw6765152471904792315 : Nat := 0
def law_holds.tw14335913921861858828 : Nat := 0
def law_holds.tw2446358144275080391 : Nat := 0
def law_holds.tw4323815956820902445 : Nat := 0
def law_holds.tw8835965917227929528 : Nat := 0
def law_holds.tw9317688335297629284 : Nat := 0
def law_holds.tw445335354869643106 : Nat := 0
def law_holds.tw18249637531494128599 : Nat := 0
def law_holds.tw1496123403401453975 : Nat := 0
def law_holds.tw15140378357190847165 : Nat := 0
def law_holds.tw8763168800255643514 : Nat := 0
def law_holds.tw18221428039690301666 : Nat := 0
def law_holds.tw10968802771074238664 : Nat := 0
def law_holds.tw8957123355933967898 : Nat := 0
def law_holds.tw6934448944433832347 : Nat := 0
set_option Elab.async true in
set_option maxRecDepth 100000 in
set_option maxHeartbeats 8000000 in
theorem law_holds : PySem.Challenge.rw_sj0192_01.Holds := by
  w_on
  o_law
  o_head (kHook KK [2, 3, 15, 17, 18, 20, 21, 22, 25, 30, 31, 32, 34, 35, 37, 38, 39, 40, 41, 42, 52, 53, 54, 55, 56, 59, 61, 62, 64, 65, 73, 75, 76, 78, 79, 80, 82, 83, 85, 86, 87, 89, 90, 92, 93, 94, 96, 97, 99, 100, 101, 102, 103, 104, 105, 115, 117, 118, 120, 121, 122, 124, 125, 127, 128, 129, 131, 132, 134, 135, 136, 138, 139, 141, 142, 143, 145, 146, 148, 149, 150, 152, 153, 155, 156, 157, 159, 160, 162, 163, 164, 166, 167, 169, 170, 171, 173, 174, 176, 177, 178, 180, 181, 183, 184, 185, 187, 188, 190, 191, 192, 194, 195, 197, 198, 199, 201, 202, 204, 205, 206, 208, 209, 211, 212, 213, 215, 216, 218, 219, 220, 222, 223, 225, 226, 227, 229, 230, 232, 233, 234, 236, 237, 239, 240, 241, 243, 244, 246, 247, 248, 249, 250, 251, 252, 255, 257, 258, 260, 261, 262, 264, 265, 267, 268, 269, 271, 272, 274, 275, 276, 278, 279, 281, 282, 283, 285, 286, 288, 289, 290, 292, 293, 295, 296, 297, 299, 300, 302, 303, 304, 306, 307, 309, 310, 311, 313, 314, 316, 317, 318, 320, 321, 323, 324, 325, 327, 328, 330, 331, 332, 335, 336, 337, 339, 340, 342, 343, 344, 346, 347, 349, 350, 351, 353, 354, 356, 357, 358, 361, 362, 363, 365, 366, 368, 369, 370, 373, 374, 375] (fun _ => by kernel_rfl))
  (case hw => w_witness2)
  k_go0
  rename Below _ _ _ _ => hB
  rename Fr _ _ _ _ => hF
  rename News _ _ _ _ => hN
  rename Frag.In _ _ => hX
  rename Top _ _ _ _ _ _ => hT
  rename Heap.IsList _ _ _ => hL
  rename IntsAre _ _ => hI
  rename List Int => scr
  rename ¬ _ < _ => hlen
  dsimp only
  refine' enter_law ?q1 ?q2 ?q3 ?q6 ?q4 ?q5 ?q7 ?q8 ?q9
  case q1 => exact hX
  case q2 => exact hB
  case q3 => exact hT
  case q4 => exact hF
  case q5 => exact hN
  case q6 => rfl
  case q7 => exact (rfl : List.lookup (Str.ofString "script") _ = _)
  case q9 =>
    intro m' h' tk F'
    wrow_close
  case q8 =>
    intro C hr hC
    rw [← hC] at hL
    with_reducible refine' Ex.assign ?s1a ?s1b ?s1c ?s1d
    (case s1c => rfl)
    (case s1d => rfl)
    (case s1a => with_reducible exact Ev.list (EvD.int (EvD.int (EvD.int (EvD.int (EvD.int (EvD.int (EvD.int (EvD.int (EvD.int (EvD.int (EvD.int (EvD.int (EvD.int (EvD.int (EvD.int (EvD.int (EvD.int (EvD.int (EvD.int (EvD.int (EvD.int (EvD.int (EvD.int (EvD.int (EvD.int (EvD.int (EvD.int (EvD.int (EvD.int (EvD.int (EvD.nil))))))))))))))))))))))))))))))) (Nat.le_of_ble_eq_true rfl))
    change Ex _ _ _ [(_, V.d (.list (usual.map dI))), _] _ _ _
    with_reducible refine' Ex.assignN ?s2a ?s2b ?s2c ?s2d
    (case s2c => rfl)
    (case s2d => rfl)
    (case s2a =>
      refine' EvN.conv (EvN.addL ?s2e ?s2f ?s2g) (congrArg Mo.l (cells_dat scr))
      (case s2g => (simp only [List.length_map, List.length_take, List.length_drop]; have : usual.length = 30 := rfl; omega))
      (case s2e =>
        with_reducible refine' Ev.absL ?t1 ?t2 ?t3 ?t4 ?t5 ?t6 ?t7 ?t8 ?t9 ?t10 ?t11 ?t12 ?t13 ?t14 ?t15 ?t16
        (case t1 =>
          refine' Ev.uptoScr' (i := 30) hL hI ?u1 ?u2 ?u3 ?u4
          (case u1 => exact (Ev.loc rfl rfl (by decide)))
          (case u2 => exact Ev.int)
          (case u3 => decide)
          (case u4 => omega))
        (case t2 => (rw [List.length_take]; omega))
        (case t3 => k_is)
        (case t4 => decide +kernel)
        (case t5 => k_is)
        (case t6 => decide +kernel)
        (case t7 => exact closureFor_none (by decide))
        (case t8 => decide)
        (case t9 => rfl)
        (case t10 => decide)
        (case t11 => rfl)
        (case t12 => intro _; rfl)
        (case t13 => intro _; rfl)
        (case t14 => intro _; rfl)
        (case t15 => decide)
        (case t16 => intro _; rfl))
      (case s2f =>
        refine' Ev.conv (Ev.from_ (xs := usual.map dI) ?v1 ?v2 ?v3 ?v4) ?v5
        (case v1 => exact (Ev.loc rfl rfl (by decide)))
        (case v2 =>
          refine' Ev.len (xs := (scr.take 30).map Dat.int) ?v6 ?v7 ?v8 ?v9 ?v10 ?v11
          (case v6 =>
            refine' Ev.uptoScr' (i := 30) hL hI ?u1 ?u2 ?u3 ?u4
            (case u1 => exact (Ev.loc rfl rfl (by decide)))
            (case u2 => exact Ev.int)
            (case u3 => decide)
            (case u4 => omega))
          (case v7 => k_is)
          (case v8 => rfl)
          (case v9 => (rw [List.length_map, List.length_take]; omega))
          (case v10 => rfl)
          (case v11 => rfl))
        (case v3 => omega)
        (case v4 => decide)
        (case v5 => rw [Int.toNat_natCast, List.length_map])))
    intro a
    have hz := cells_small scr
    have hk := mk3_ok (cellsOf scr)
    with_reducible refine' Ex.assign ?s3a ?s3b ?s3c ?s3d
    (case s3c => rfl)
    (case s3d => rfl)
    (case s3a => exact Ev.call (by k_is) (by k_is) (EvL.cons (Ev.loc rfl rfl (by decide)) (EvL.cons Ev.int EvL.nil)) (tree3 hz) (by omega))
    refine Ex.weak ?_
    generalize mkT 3 (cellsOf scr) = tc at hk
    obtain ⟨t, c'⟩ := tc
    dsimp only at hk ⊢
    obtain ⟨hok, hsz⟩ := hk
    have hlen2 := t.st_len []
    have hvl := t.vo_len
    have hdk := Vt.st_dk (N := 630) t [] hok (by omega) AD.nil
    with_reducible refine' Ex.assign2 (da := .list (t.vo.map Ord.dat)) (db := .list ((t.st []).map Dat.list)) ?s4a ?s4b ?s4c ?s4d ?s4e ?s4f
    (case s4c => rfl)
    (case s4d => rfl)
    (case s4e => rfl)
    (case s4f => rfl)
    (case s4a => exact Ev.tup (EvD.cons (Ev.callP (by k_is) (by k_is) (EvL.cons (Ev.loc rfl rfl (by decide)) EvL.nil) (vo_all t hok (by omega)) (by omega)) (EvD.cons (Ev.callP (by k_is) (by k_is) (EvL.cons (Ev.loc rfl rfl (by decide)) (EvL.cons Ev.bool (EvL.cons (Ev.list EvD.nil (Nat.le_of_ble_eq_true rfl)) EvL.nil))) (st_all t [] hok (by simp; omega)) (by omega)) EvD.nil)) (Nat.le_of_ble_eq_true rfl))
    have hl1 : (t.vo.map Ord.dat).length = t.vo.length := List.length_map ..
    have hl2 : ((t.st []).map Dat.list).length = t.vo.length := by rw [List.length_map, hlen2]
    with_reducible refine' Ex.if_skip ?s5a ?s5b
    (case s5a =>
      refine' EvT.neI (Ev.len (Ev.loc rfl rfl (by decide)) ?a1 ?a2 ?a3 ?a4 ?a5) (Ev.len (Ev.loc rfl rfl (by decide)) ?b1 ?b2 ?b3 ?b4 ?b5) ?c1 ?c2
      (case a1 => k_is)
      (case a2 => rfl)
      (case a3 => omega)
      (case a4 => rfl)
      (case a5 => rfl)
      (case b1 => k_is)
      (case b2 => rfl)
      (case b3 => omega)
      (case b4 => rfl)
      (case b5 => rfl)
      (case c1 => (rw [hl1, hl2]; exact bne_self_eq_false _))
      (case c2 => rfl))
    with_reducible refine' Ex.forR (a := 1) (n := t.vo.length) (fun _ => [(Str.ofString "orders", V.d (.list (t.vo.map Ord.dat))), (Str.ofString "due", V.d (.list ((t.st []).map Dat.list)))]) (fun _ => []) ?f1 ?f2 ?f3 ?f4 ?f5 ?f6 ?f7 ?f8 ?f9 ?f10 ?f11 ?f12 ?f13
    (case f1 =>
      refine' EvL.cons Ev.int (EvL.cons (Ev.conv (Ev.addI (Ev.len (Ev.loc rfl rfl (by decide)) ?a1 ?a2 ?a3 ?a4 ?a5) Ev.int) ?a6) EvL.nil)
      (case a1 => k_is)
      (case a2 => rfl)
      (case a3 => omega)
      (case a4 => rfl)
      (case a5 => rfl)
      (case a6 => (rw [hl1, Int.add_comm])))
    (case f2 => exact AllLk.use ⟨rfl, rfl, trivial⟩)
    (case f3 => omega)
    (case f4 => decide)
    (case f5 => k_is)
    (case f6 => decide +kernel)
    (case f8 => exact Ex.retE Ev.bool rfl)
    (case f9 => rfl)
    (case f10 => rfl)
    (case f11 => rfl)
    (case f12 => rfl)
    (case f13 => intro _; rfl)
    (case f7 =>
      intro C' hr' hcv' i hi φ
      have hr2 : C'.room = 600 := by omega
      have hi2 : i < (t.st []).length := by omega
      have hs : (t.st [])[i]? = some (t.st [])[i] := List.getElem?_eq_getElem hi2
      generalize (t.st [])[i] = sx at hs
      have hdx : AD 630 sx := hdk sx (List.mem_of_getElem? hs)
      obtain ⟨fg, hrun⟩ := run_all hok (by omega) hs
      show Ex _ _ C' _ φ _ _
      with_reducible refine' Ex.assignRun (X1 := .d (.list ((t.vo.take (i + 1)).map Ord.dat))) (y := .hooks) (zf := .work sx fg) (n := 7) ?g1 ?g2 ?g3 ?g4 ?g5 ?g6 ?g7 ?g8 ?g9 ?g10 ?g11 ?g12 ?g13 ?g14
      (case g1 => k_is)
      (case g2 => k_is)
      (case g3 =>
        refine' Ev.conv (Ev.upto (Ev.loc rfl rfl (by decide)) (Ev.loc rfl rfl (by decide)) ?h1 ?h2) ?h3
        (case h1 => omega)
        (case h2 => omega)
        (case h3 => rw [show (1 + (i : Int)).toNat = i + 1 by omega, List.map_take]))
      (case g4 => exact mk_hooks (by omega))
      (case g5 => exact fun h => run_row (by rw [List.length_take]; omega) hrun)
      (case g6 => omega)
      (case g8 => rfl)
      (case g9 => rfl)
      (case g10 => intro _; rfl)
      (case g11 => rfl)
      (case g12 => rfl)
      (case g13 => rfl)
      (case g14 => decide)
      (case g7 =>
        intro h b
        with_reducible refine' Ex.if_skip ?i1 ?i2
        (case i1 =>
          refine' EvT.orF (EvT.isNone (Ev.loc rfl rfl (by decide)) none_of_ref) (EvT.orF (EvT.opn ?i3) EvT.or0)
          (case i3 =>
            intro ad al ag es n hW
            cases hW
            refine' EvT.neL (al := al) (xs := sx) (Ev.attr (c := 103) (Ev.loc rfl rfl (by decide)) (.head _) (.tail _ (.head _)) (by k_is) (by k_is) (by k_is) (by k_is) rfl rfl (fun _ => rfl)) (Ev.itemL (Ev.loc rfl rfl (by decide)) (Ev.subI (Ev.loc rfl rfl (by decide)) Ev.int) ?j1 ?j2 ?j3 ?j4) (.tail (.tail .head)) hdx (by decide) (by omega)
            (case j1 => omega)
            (case j2 => (rw [show (1 + (i : Int) - 1).toNat = i by omega, List.getElem?_map, hs]; rfl))
            (case j3 => omega)
            (case j4 => exact fun _ _ => rfl)))
        (case i2 => exact Ex.weak (Ex.weak (Ex.nil (AllLk.use ⟨rfl, rfl, trivial⟩))))))
end Mine
theorem PySem.Challenge.cw_sj0192_01_holds : PySem.Challenge.rw_sj0192_01.Holds := by
  exact Mine.law_holds
