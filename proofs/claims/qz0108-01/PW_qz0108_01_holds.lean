import PyProof.Rows.All
import Wide.All
import OpenK.AllK
import Wide.FinOn
import PyProof.InstStoreFacts
import Lean
import PySem.Challenge.RW_qz0108_01
open PySem PySem.W PyProof.Rows
set_option Elab.async false
namespace Mine
theorem tp.tw10006630310816116886 : True := trivial
theorem tp.tw10063012446102478954 : True := trivial
theorem tp.tw10095473068838349090 : True := trivial
theorem tp.tw10121278833098065265 : True := trivial
theorem tp.tw10154891896482305565 : True := trivial
theorem tp.tw1016038747017101701 : True := trivial
theorem tp.tw10167008198498006110 : True := trivial
theorem tp.tw10207780537892288854 : True := trivial
theorem tp.tw102130741175938178 : True := trivial
theorem tp.tw10241151479481959351 : True := trivial
theorem tp.tw10262482281489786128 : True := trivial
theorem tp.tw10288546652412808606 : True := trivial
theorem tp.tw10292037747678013896 : True := trivial
theorem tp.tw10383144411789570046 : True := trivial
theorem tp.tw10384651581153548967 : True := trivial
theorem tp.tw10391446934448972832 : True := trivial
theorem tp.tw10437007958910736840 : True := trivial
theorem tp.tw1053567803691139722 : True := trivial
theorem tp.tw10722098986915630918 : True := trivial
theorem tp.tw10725053528018123949 : True := trivial
theorem tp.tw10732102238438215629 : True := trivial
theorem tp.tw10737283895960061487 : True := trivial
theorem tp.tw10800033588152766731 : True := trivial
theorem tp.tw10801144574336002041 : True := trivial
theorem tp.tw1080962837898570791 : True := trivial
theorem tp.tw10815079340473251198 : True := trivial
theorem tp.tw109004379266946367 : True := trivial
theorem tp.tw10924270123171629781 : True := trivial
theorem tp.tw10954529859704175880 : True := trivial
theorem tp.tw11006199458503214315 : True := trivial
theorem tp.tw11018607057359448419 : True := trivial
theorem tp.tw11038974686208934443 : True := trivial
theorem tp.tw11047374495315751659 : True := trivial
theorem tp.tw11075428741142979302 : True := trivial
theorem tp.tw11093120308983734822 : True := trivial
theorem tp.tw11155735738578033125 : True := trivial
theorem tp.tw11209360713232920177 : True := trivial
theorem tp.tw11221793554041720152 : True := trivial
theorem tp.tw11244781286078910275 : True := trivial
theorem tp.tw11358203576121281191 : True := trivial
theorem tp.tw11382516589009853321 : True := trivial
theorem tp.tw11507433848936143976 : True := trivial
theorem tp.tw11508800121070917586 : True := trivial
theorem tp.tw11563197241461851082 : True := trivial
theorem tp.tw11625883873302812828 : True := trivial
theorem tp.tw1171312496416939900 : True := trivial
theorem tp.tw11722128359568166625 : True := trivial
theorem tp.tw11759844544543736830 : True := trivial
theorem tp.tw11838206306888276241 : True := trivial
theorem tp.tw11841768073555451808 : True := trivial
theorem tp.tw11846774545433113402 : True := trivial
theorem tp.tw11891361699665132935 : True := trivial
theorem tp.tw11908514519770868359 : True := trivial
theorem tp.tw11948077163878369014 : True := trivial
theorem tp.tw11981095126448930202 : True := trivial
theorem tp.tw12054478585010982611 : True := trivial
theorem tp.tw12056505014253453996 : True := trivial
theorem tp.tw12117265670748373064 : True := trivial
theorem tp.tw1213540890521395959 : True := trivial
theorem tp.tw12159039011257979540 : True := trivial
theorem tp.tw12163111171410702487 : True := trivial
theorem tp.tw12206109900469063072 : True := trivial
theorem tp.tw12218321747577827100 : True := trivial
theorem tp.tw12230949473440388060 : True := trivial
theorem tp.tw12233070020051233954 : True := trivial
theorem tp.tw12235017994857366058 : True := trivial
theorem tp.tw12248693248118381219 : True := trivial
theorem tp.tw122492788138827916 : True := trivial
theorem tp.tw12332373851003626101 : True := trivial
theorem tp.tw12333221471357898854 : True := trivial
theorem tp.tw12347799045536920436 : True := trivial
theorem tp.tw12351241795456465351 : True := trivial
theorem tp.tw12374144830428501747 : True := trivial
theorem tp.tw12405326639651123513 : True := trivial
theorem tp.tw12409513649957789947 : True := trivial
theorem tp.tw12447118314463115199 : True := trivial
theorem tp.tw12461700342877511755 : True := trivial
theorem tp.tw12518185440606789241 : True := trivial
theorem tp.tw12522338610922431911 : True := trivial
theorem tp.tw12543726634282463203 : True := trivial
theorem tp.tw12543810494224969204 : True := trivial
theorem tp.tw12601893304548024699 : True := trivial
theorem tp.tw1262903755573649926 : True := trivial
theorem tp.tw12637011684682751376 : True := trivial
theorem tp.tw1264262773088744381 : True := trivial
theorem tp.tw12654283514270639054 : True := trivial
theorem tp.tw12675345571143566858 : True := trivial
theorem tp.tw12723153865915688727 : True := trivial
theorem tp.tw12729811389240209109 : True := trivial
theorem tp.tw12734150572825553498 : True := trivial
theorem tp.tw12748668485299416611 : True := trivial
theorem tp.tw12825375661249178606 : True := trivial
theorem tp.tw12826068885416655912 : True := trivial
theorem tp.tw12840702300479068457 : True := trivial
theorem tp.tw12928674831070017374 : True := trivial
theorem tp.tw12947068221946690333 : True := trivial
theorem tp.tw1294894164678488506 : True := trivial
theorem tp.tw12960329603737256287 : True := trivial
theorem tp.tw12997539543953965348 : True := trivial
theorem tp.tw12999704975566131620 : True := trivial
theorem tp.tw1308252664913523542 : True := trivial
theorem tp.tw13093050873604426646 : True := trivial
theorem tp.tw13139769621157725903 : True := trivial
theorem tp.tw1322145664568954853 : True := trivial
theorem tp.tw13241031177880487135 : True := trivial
theorem tp.tw13246698857025456204 : True := trivial
theorem tp.tw132984736882554793 : True := trivial
theorem tp.tw1330147322229387530 : True := trivial
theorem tp.tw13305468605054801235 : True := trivial
theorem tp.tw13313062783745005431 : True := trivial
theorem tp.tw1342439786281562638 : True := trivial
theorem tp.tw13480929589055290721 : True := trivial
theorem tp.tw13516658199705074107 : True := trivial
theorem tp.tw13519524964895987673 : True := trivial
theorem tp.tw13529998564357105708 : True := trivial
theorem tp.tw13554734359160875994 : True := trivial
theorem tp.tw13556375668796318312 : True := trivial
theorem tp.tw13571362388392661141 : True := trivial
theorem tp.tw13572374079618604457 : True := trivial
theorem tp.tw13588043323657452464 : True := trivial
theorem tp.tw1360168778418468468 : True := trivial
theorem tp.tw13641998941197673699 : True := trivial
theorem tp.tw13685616932265647049 : True := trivial
theorem tp.tw13707466793755808569 : True := trivial
theorem tp.tw13733012053237307553 : True := trivial
theorem tp.tw13735097893571545572 : True := trivial
theorem tp.tw13735653896197860380 : True := trivial
theorem tp.tw13765830338001528240 : True := trivial
theorem tp.tw13775681924800814292 : True := trivial
theorem tp.tw13841234761942431091 : True := trivial
theorem tp.tw13849612526979288284 : True := trivial
theorem tp.tw13909140706853683235 : True := trivial
theorem tp.tw13931649298875751049 : True := trivial
theorem tp.tw14016704807106624929 : True := trivial
theorem tp.tw14018206881853074187 : True := trivial
theorem tp.tw14018517679841624541 : True := trivial
theorem tp.tw14164511931750017382 : True := trivial
theorem tp.tw1418432409608677930 : True := trivial
theorem tp.tw141890647715535544 : True := trivial
theorem tp.tw14293741897124547395 : True := trivial
theorem tp.tw14296334966726151230 : True := trivial
theorem tp.tw14351913763698320131 : True := trivial
theorem tp.tw14370734987926210242 : True := trivial
theorem tp.tw14389830011108631749 : True := trivial
theorem tp.tw14421324700025847649 : True := trivial
theorem tp.tw14421669843105489260 : True := trivial
theorem tp.tw14447262590883542017 : True := trivial
theorem tp.tw14471510695824831698 : True := trivial
theorem tp.tw14595402347146620383 : True := trivial
theorem tp.tw14604784657687595074 : True := trivial
theorem tp.tw14614790377430155972 : True := trivial
theorem tp.tw14638624839952267891 : True := trivial
theorem tp.tw1471396341990780214 : True := trivial
theorem tp.tw14716034578153444510 : True := trivial
theorem tp.tw1474940593366571438 : True := trivial
theorem tp.tw14752290583577805358 : True := trivial
theorem tp.tw14763355115672934044 : True := trivial
theorem tp.tw14804171661709543999 : True := trivial
theorem tp.tw14810348925176498042 : True := trivial
theorem tp.tw1486762554277952454 : True := trivial
theorem tp.tw14890506351838280074 : True := trivial
theorem tp.tw14915869033792187665 : True := trivial
theorem tp.tw14959521462445159178 : True := trivial
theorem tp.tw15040668005356183454 : True := trivial
theorem tp.tw15044995430581292525 : True := trivial
theorem tp.tw15060503711954665448 : True := trivial
theorem tp.tw15076902174669958742 : True := trivial
theorem tp.tw1508658939034153487 : True := trivial
theorem tp.tw15114291110790888788 : True := trivial
theorem tp.tw15164234878814475791 : True := trivial
theorem tp.tw1520472350538420096 : True := trivial
theorem tp.tw15208338741801138843 : True := trivial
theorem tp.tw1522750073301546644 : True := trivial
theorem tp.tw15298577542514013267 : True := trivial
theorem tp.tw15351996808115737109 : True := trivial
theorem tp.tw15363586540661096194 : True := trivial
theorem tp.tw15465798319869472150 : True := trivial
theorem tp.tw15477677623634836410 : True := trivial
theorem tp.tw15530132786643315865 : True := trivial
theorem tp.tw15543335549339145917 : True := trivial
theorem tp.tw15593742165405786217 : True := trivial
theorem tp.tw15632207555729087834 : True := trivial
theorem tp.tw15636320367815762481 : True := trivial
theorem tp.tw15650758618452117822 : True := trivial
theorem tp.tw1571452446509388657 : True := trivial
theorem tp.tw1572747401113618913 : True := trivial
theorem tp.tw15929232465225812582 : True := trivial
theorem tp.tw15935223764465587101 : True := trivial
theorem tp.tw15978242153351140405 : True := trivial
theorem tp.tw16000033044400926175 : True := trivial
theorem tp.tw16043584085863185983 : True := trivial
theorem tp.tw16088309845891466178 : True := trivial
theorem tp.tw16088768787397608382 : True := trivial
theorem tp.tw16111177671534166222 : True := trivial
theorem tp.tw16151096176959366545 : True := trivial
theorem tp.tw1622098245010754426 : True := trivial
theorem tp.tw16229752382525801431 : True := trivial
theorem tp.tw1627923832121977240 : True := trivial
theorem tp.tw16345948745062678004 : True := trivial
theorem tp.tw16349539217503402377 : True := trivial
theorem tp.tw1635120589601112900 : True := trivial
theorem tp.tw16366896000282808803 : True := trivial
theorem tp.tw16406327326893756289 : True := trivial
theorem tp.tw16470540674026323512 : True := trivial
theorem tp.tw16557650570190716896 : True := trivial
theorem tp.tw1660762444232898965 : True := trivial
theorem tp.tw16632701483356285548 : True := trivial
theorem tp.tw16653434221038998436 : True := trivial
theorem tp.tw16744544868885697493 : True := trivial
theorem tp.tw1689308526297991241 : True := trivial
theorem tp.tw16915997822497925693 : True := trivial
theorem tp.tw16921382614058289544 : True := trivial
theorem tp.tw16945709566221796770 : True := trivial
theorem tp.tw16949965061430877637 : True := trivial
theorem tp.tw17000432943774161991 : True := trivial
theorem tp.tw17028976290223391279 : True := trivial
theorem tp.tw17067036020085207173 : True := trivial
theorem tp.tw17097790073350013932 : True := trivial
theorem tp.tw17104048362603395556 : True := trivial
theorem tp.tw17112291981571015473 : True := trivial
theorem tp.tw17168211794820471201 : True := trivial
theorem tp.tw17259885465665535410 : True := trivial
theorem tp.tw1726717709589851678 : True := trivial
theorem tp.tw17336538003301571908 : True := trivial
theorem tp.tw17351071616676201193 : True := trivial
theorem tp.tw17382908605155362285 : True := trivial
theorem tp.tw17400354510381860158 : True := trivial
theorem tp.tw17400956335672899007 : True := trivial
theorem tp.tw1746293876595200490 : True := trivial
theorem tp.tw17512429406844345124 : True := trivial
theorem tp.tw17610032871189769566 : True := trivial
theorem tp.tw17610609489958495223 : True := trivial
theorem tp.tw17646333457743424076 : True := trivial
theorem tp.tw176993095813156434 : True := trivial
theorem tp.tw17702252925764482752 : True := trivial
theorem tp.tw17746502909551706939 : True := trivial
theorem tp.tw17799596767698462774 : True := trivial
theorem tp.tw17860999081194551155 : True := trivial
theorem tp.tw17868402564162109820 : True := trivial
theorem tp.tw1788503231861448717 : True := trivial
theorem tp.tw17897222828180168650 : True := trivial
theorem tp.tw17939831081541558320 : True := trivial
theorem tp.tw17942224029170990034 : True := trivial
theorem tp.tw17958469660383238162 : True := trivial
theorem tp.tw17994144215144852457 : True := trivial
theorem tp.tw18015958479021998103 : True := trivial
theorem tp.tw18055064956763875712 : True := trivial
theorem tp.tw18128892281198538325 : True := trivial
theorem tp.tw18133431937068570656 : True := trivial
theorem tp.tw18152941455475440132 : True := trivial
theorem tp.tw18160843986251536209 : True := trivial
theorem tp.tw18202361273426171615 : True := trivial
theorem tp.tw18209768029210488781 : True := trivial
theorem tp.tw18230740463980242077 : True := trivial
theorem tp.tw18237602984031089211 : True := trivial
theorem tp.tw18238947242148794047 : True := trivial
theorem tp.tw18250555633774870391 : True := trivial
theorem tp.tw18263486568786353056 : True := trivial
theorem tp.tw18272692063075894893 : True := trivial
theorem tp.tw18286934332661174418 : True := trivial
theorem tp.tw18345941158259898057 : True := trivial
theorem tp.tw18348948995959021602 : True := trivial
theorem tp.tw18401672676070745057 : True := trivial
theorem tp.tw18425554079925519432 : True := trivial
theorem tp.tw18436326277746044589 : True := trivial
theorem tp.tw1880153485260191931 : True := trivial
theorem tp.tw1897794005259063019 : True := trivial
theorem tp.tw1925271598026149113 : True := trivial
theorem tp.tw1971805423259686477 : True := trivial
theorem tp.tw2010940850997046366 : True := trivial
theorem tp.tw2018934993120893174 : True := trivial
theorem tp.tw2060574783817600446 : True := trivial
theorem tp.tw2074656010185694263 : True := trivial
theorem tp.tw2133830382564008130 : True := trivial
theorem tp.tw2189804733033229312 : True := trivial
theorem tp.tw220383298678001277 : True := trivial
theorem tp.tw2228190421733256565 : True := trivial
theorem tp.tw2322188696972661289 : True := trivial
theorem tp.tw2364769283487040494 : True := trivial
theorem tp.tw236690928008140014 : True := trivial
theorem tp.tw2377451530707603664 : True := trivial
theorem tp.tw2405049648210225821 : True := trivial
theorem tp.tw2414085638374248916 : True := trivial
theorem tp.tw2424818383795155706 : True := trivial
theorem tp.tw2506050385237969109 : True := trivial
theorem tp.tw2507586992212316350 : True := trivial
theorem tp.tw2508845739993734359 : True := trivial
theorem tp.tw2546851794364405352 : True := trivial
theorem tp.tw2591026432575966957 : True := trivial
theorem tp.tw2612661068014147792 : True := trivial
theorem tp.tw2638790098681147745 : True := trivial
theorem tp.tw2702526889973141973 : True := trivial
theorem tp.tw2714652278277844476 : True := trivial
theorem tp.tw2756776163215919437 : True := trivial
theorem tp.tw2769348541099359186 : True := trivial
theorem tp.tw2770328905243280227 : True := trivial
theorem tp.tw2850236553453179940 : True := trivial
theorem tp.tw2883081411421922425 : True := trivial
theorem tp.tw2884275811569565000 : True := trivial
theorem tp.tw2902839753945462520 : True := trivial
theorem tp.tw2961272095203566247 : True := trivial
theorem tp.tw2990769129759417328 : True := trivial
theorem tp.tw2992150595479406491 : True := trivial
theorem tp.tw3002162462738186308 : True := trivial
theorem tp.tw3015390400927476748 : True := trivial
theorem tp.tw3065823347686989206 : True := trivial
theorem tp.tw3107116102949002015 : True := trivial
theorem tp.tw3120770329480431077 : True := trivial
theorem tp.tw3134672075777501922 : True := trivial
theorem tp.tw3235065954642557243 : True := trivial
theorem tp.tw3246525071819933975 : True := trivial
theorem tp.tw3338469584863840613 : True := trivial
theorem tp.tw3411076503695704268 : True := trivial
theorem tp.tw3435570871874044062 : True := trivial
theorem tp.tw3463315757568587980 : True := trivial
theorem tp.tw3465633852926283413 : True := trivial
theorem tp.tw3485019743704341302 : True := trivial
theorem tp.tw3523518311679191225 : True := trivial
theorem tp.tw3624988417550758316 : True := trivial
theorem tp.tw363824167958200641 : True := trivial
theorem tp.tw3716518032974720834 : True := trivial
theorem tp.tw3744957435561424367 : True := trivial
theorem tp.tw3808646785032836191 : True := trivial
theorem tp.tw3814452325470680436 : True := trivial
theorem tp.tw3861992882935298574 : True := trivial
theorem tp.tw3875625084218027160 : True := trivial
theorem tp.tw3930095785379198064 : True := trivial
theorem tp.tw4036853624491243916 : True := trivial
theorem tp.tw4053777875032431403 : True := trivial
theorem tp.tw4075407499874633969 : True := trivial
theorem tp.tw4175580047352068211 : True := trivial
theorem tp.tw4190251550777620568 : True := trivial
theorem tp.tw4288030331618887270 : True := trivial
theorem tp.tw4308930696284537115 : True := trivial
theorem tp.tw4360915469096194319 : True := trivial
theorem tp.tw4368744906098211869 : True := trivial
theorem tp.tw436986257641889619 : True := trivial
theorem tp.tw4382836358532731371 : True := trivial
theorem tp.tw4433445100142142876 : True := trivial
theorem tp.tw4458283721314185560 : True := trivial
theorem tp.tw4512696098655895628 : True := trivial
theorem tp.tw4579399981655669522 : True := trivial
theorem tp.tw4583574857428407853 : True := trivial
theorem tp.tw4586135255268824311 : True := trivial
theorem tp.tw459587139517638806 : True := trivial
theorem tp.tw4601336344116861027 : True := trivial
theorem tp.tw4602842088879471675 : True := trivial
theorem tp.tw4617538627530288245 : True := trivial
theorem tp.tw4643914042774808482 : True := trivial
theorem tp.tw4650028189818777389 : True := trivial
theorem tp.tw4692721330221765363 : True := trivial
theorem tp.tw4711810949476513158 : True := trivial
theorem tp.tw4728159035486174198 : True := trivial
theorem tp.tw485925387487148040 : True := trivial
theorem tp.tw4879073913824603116 : True := trivial
theorem tp.tw4883916800494756804 : True := trivial
theorem tp.tw4905363101166002596 : True := trivial
theorem tp.tw4936136984172042331 : True := trivial
theorem tp.tw4942810443771768243 : True := trivial
theorem tp.tw4961302806170943632 : True := trivial
theorem tp.tw4974349537790681880 : True := trivial
theorem tp.tw4981546662109310232 : True := trivial
theorem tp.tw498235275933568324 : True := trivial
theorem tp.tw4984461809882059764 : True := trivial
theorem tp.tw4997663776095787395 : True := trivial
theorem tp.tw5089368349182014226 : True := trivial
theorem tp.tw5112771374028043034 : True := trivial
theorem tp.tw5116868016207045514 : True := trivial
theorem tp.tw5192167382960175472 : True := trivial
theorem tp.tw5260849879473474672 : True := trivial
theorem tp.tw5261026891566010 : True := trivial
theorem tp.tw5274142881334129904 : True := trivial
theorem tp.tw5313822887218260711 : True := trivial
theorem tp.tw5351636455144948942 : True := trivial
theorem tp.tw539661014228192921 : True := trivial
theorem tp.tw540775762317075267 : True := trivial
theorem tp.tw5422454504050683295 : True := trivial
theorem tp.tw5526393474150210243 : True := trivial
theorem tp.tw5545616467520185303 : True := trivial
theorem tp.tw5548588584175319900 : True := trivial
theorem tp.tw5648078626762393226 : True := trivial
theorem tp.tw5652138727079925932 : True := trivial
theorem tp.tw5698319740201002851 : True := trivial
theorem tp.tw5755313886493595828 : True := trivial
theorem tp.tw576963399325778125 : True := trivial
theorem tp.tw5777221968190616914 : True := trivial
theorem tp.tw5779901743257249788 : True := trivial
theorem tp.tw5803305724428435470 : True := trivial
theorem tp.tw5832554936544243161 : True := trivial
theorem tp.tw5835640844264328511 : True := trivial
theorem tp.tw5905442902808527941 : True := trivial
theorem tp.tw5935374593733030120 : True := trivial
theorem tp.tw5967760538126395710 : True := trivial
theorem tp.tw6057272162165695134 : True := trivial
theorem tp.tw6083057723268821313 : True := trivial
theorem tp.tw6094514428626895032 : True := trivial
theorem tp.tw6170285288675809713 : True := trivial
theorem tp.tw6177574235223216136 : True := trivial
theorem tp.tw6207825764345216581 : True := trivial
theorem tp.tw623258675468196178 : True := trivial
theorem tp.tw6236288961216785047 : True := trivial
theorem tp.tw6278227103145530025 : True := trivial
theorem tp.tw6288330832017899863 : True := trivial
theorem tp.tw6365134890528122810 : True := trivial
theorem tp.tw6413342893088910568 : True := trivial
theorem tp.tw646855706342769627 : True := trivial
theorem tp.tw6509683885878536698 : True := trivial
theorem tp.tw6533884947768022883 : True := trivial
theorem tp.tw6539872289338386225 : True := trivial
theorem tp.tw6615334453458146694 : True := trivial
theorem tp.tw6630369795205225529 : True := trivial
theorem tp.tw6633682176067240499 : True := trivial
theorem tp.tw6709271703902506587 : True := trivial
theorem tp.tw6713736952778473263 : True := trivial
theorem tp.tw6776268248258806170 : True := trivial
theorem tp.tw6804952710494993034 : True := trivial
theorem tp.tw6829022987664789331 : True := trivial
theorem tp.tw6854986815825904056 : True := trivial
theorem tp.tw6861838244387040174 : True := trivial
theorem tp.tw6879640192798528897 : True := trivial
theorem tp.tw688660504424573884 : True := trivial
theorem tp.tw6896178295840979302 : True := trivial
theorem tp.tw690324294504126954 : True := trivial
theorem tp.tw6946106160186324650 : True := trivial
theorem tp.tw6948328594872420814 : True := trivial
theorem tp.tw6971717418573472062 : True := trivial
theorem tp.tw6987777521839982660 : True := trivial
theorem tp.tw7009924172733855961 : True := trivial
theorem tp.tw7047715575695610013 : True := trivial
theorem tp.tw7066325514889499199 : True := trivial
theorem tp.tw7071464831598782978 : True := trivial
theorem tp.tw7072532314059669672 : True := trivial
theorem tp.tw7182332165630559272 : True := trivial
theorem tp.tw7256048077776917920 : True := trivial
theorem tp.tw725751685364241113 : True := trivial
theorem tp.tw7265144815903567550 : True := trivial
theorem tp.tw7277764768219999132 : True := trivial
theorem tp.tw7287681512996056603 : True := trivial
theorem tp.tw7316383412983184401 : True := trivial
theorem tp.tw7335076883799860509 : True := trivial
theorem tp.tw738141076266377612 : True := trivial
theorem tp.tw7398572899215641170 : True := trivial
theorem tp.tw7451417745186716296 : True := trivial
theorem tp.tw7485138106796591276 : True := trivial
theorem tp.tw7486845965199299969 : True := trivial
theorem tp.tw7522718578320496259 : True := trivial
theorem tp.tw7528267406007145182 : True := trivial
theorem tp.tw7550535114290455474 : True := trivial
theorem tp.tw7586152923578994090 : True := trivial
theorem tp.tw7609693335883055425 : True := trivial
theorem tp.tw7629356672833847840 : True := trivial
theorem tp.tw7668418952612679349 : True := trivial
theorem tp.tw7707562358786731753 : True := trivial
theorem tp.tw7773489826214622704 : True := trivial
theorem tp.tw7806405270453871913 : True := trivial
theorem tp.tw781185963007503819 : True := trivial
theorem tp.tw7840715730747069192 : True := trivial
theorem tp.tw7873846826773069190 : True := trivial
theorem tp.tw7887248083031877978 : True := trivial
theorem tp.tw7945829257470481591 : True := trivial
theorem tp.tw795573512717369579 : True := trivial
theorem tp.tw8007603762290388658 : True := trivial
theorem tp.tw801553090432510455 : True := trivial
theorem tp.tw8018025153022105153 : True := trivial
theorem tp.tw8071699591853245550 : True := trivial
theorem tp.tw8130141797292043956 : True := trivial
theorem tp.tw8181160868032890008 : True := trivial
theorem tp.tw8199457092681372862 : True := trivial
theorem tp.tw821920021684774838 : True := trivial
theorem tp.tw8332443155269700070 : True := trivial
theorem tp.tw8355315564966135070 : True := trivial
theorem tp.tw8422367410285673579 : True := trivial
theorem tp.tw8429090732959273775 : True := trivial
theorem tp.tw8430364124474711035 : True := trivial
theorem tp.tw8444692409145656855 : True := trivial
theorem tp.tw8448907067990327338 : True := trivial
theorem tp.tw8486627239237984614 : True := trivial
theorem tp.tw8507902937204041256 : True := trivial
theorem tp.tw8540888590161400164 : True := trivial
theorem tp.tw8594109562053413471 : True := trivial
theorem tp.tw8659864775757109222 : True := trivial
theorem tp.tw8706145366254497406 : True := trivial
theorem tp.tw8710034324763379901 : True := trivial
theorem tp.tw8710855858938118803 : True := trivial
theorem tp.tw871301821093378959 : True := trivial
theorem tp.tw8735145911068175897 : True := trivial
theorem tp.tw8740597438033606615 : True := trivial
theorem tp.tw8778219573733138406 : True := trivial
theorem tp.tw8817040039034854313 : True := trivial
theorem tp.tw8819986773230986613 : True := trivial
theorem tp.tw8918073919872814477 : True := trivial
theorem tp.tw8925817761657283968 : True := trivial
theorem tp.tw8966213589738070562 : True := trivial
theorem tp.tw9002268159804506452 : True := trivial
theorem tp.tw9053098668627112736 : True := trivial
theorem tp.tw9111559163609505745 : True := trivial
theorem tp.tw9132958995742605967 : True := trivial
theorem tp.tw9138087259061009228 : True := trivial
theorem tp.tw9164150152736533135 : True := trivial
theorem tp.tw9274258800712454099 : True := trivial
theorem tp.tw928811688339723666 : True := trivial
theorem tp.tw9313085858860838060 : True := trivial
theorem tp.tw9325167655444129467 : True := trivial
theorem tp.tw9359048946085359932 : True := trivial
theorem tp.tw9374357601988860172 : True := trivial
theorem tp.tw938697579616490085 : True := trivial
theorem tp.tw947581042339756859 : True := trivial
theorem tp.tw9500864345235600715 : True := trivial
theorem tp.tw9501351187276183970 : True := trivial
theorem tp.tw9522036485047040093 : True := trivial
theorem tp.tw9534861201722748859 : True := trivial
theorem tp.tw9596409572877545133 : True := trivial
theorem tp.tw9596535924103012262 : True := trivial
theorem tp.tw9599388961422223688 : True := trivial
theorem tp.tw9613623520580675796 : True := trivial
theorem tp.tw9630159714699413190 : True := trivial
theorem tp.tw9671243493984392777 : True := trivial
theorem tp.tw9681361018406974545 : True := trivial
theorem tp.tw9695743237546840201 : True := trivial
theorem tp.tw9696340497073890011 : True := trivial
theorem tp.tw9721784854441162060 : True := trivial
theorem tp.tw9772075320255456712 : True := trivial
theorem tp.tw9827341535574051384 : True := trivial
theorem tp.tw9865902003761222725 : True := trivial
theorem tp.tw9926412018636676486 : True := trivial
theorem tp.tw9927518370994567826 : True := trivial
theorem tp.tw9980796531523644130 : True := trivial
theorem held {H : Prop} (_ : True) (_ : H) : True := trivial
set_option Elab.async true in
set_option maxRecDepth 100000 in
set_option maxHeartbeats 0 in
theorem tp : True := by
  refine' (?k : True → True) ?x
  case x =>
    clear tp
    refine' held (H := PySem.Challenge.rw_qz0108_01.Holds) (trivial : (fun (_ : _) => True) ?w) ?e
    w_on; o_law
    as_aux_lemma =>
      k_head; (case hw => w_witness2)
      exact ?w
  case k => exact fun _ => trivial
end Mine
open PySem PySem.W PySem.Calls PyProof.Rows
set_option maxRecDepth 100000
namespace Mine
theorem tp_stands : tp.heap_1_39 = tp.heap_1_39 := rfl
/-- the text's signs from place n on -/
def At (T : Str) (n : Nat) (W : List Nat) : Prop := T.cps.toList.drop n = W
theorem At.next {T : Str} {n : Nat} {c : Nat} {r : List Nat} (h : At T n (c :: r)) : At T (n + 1) r := by
  unfold At at h ⊢
  rw [← List.drop_drop, h]; rfl
theorem At.skip {T : Str} {n : Nat} {V r : List Nat} (h : At T n (V ++ r)) : At T (n + V.length) r := by
  unfold At at h ⊢
  rw [← List.drop_drop, h]; simp
theorem At.len {T : Str} {n : Nat} {c : Nat} {r : List Nat} (h : At T n (c :: r)) : T.length = n + (r.length + 1) := by
  unfold At at h
  have := congrArg List.length h
  rw [List.length_drop, List.length_cons] at this
  have e : T.cps.toList.length = T.length := by simp [Str.length]
  omega
theorem At.get {T : Str} {n k c : Nat} {W : List Nat} (h : At T n W) (hk : W[k]? = some c) : T.cps[n + k]? = some c := by
  unfold At at h
  subst h
  rw [List.getElem?_drop] at hk
  simpa using hk
theorem At.item {T : Str} {n k c : Nat} {W : List Nat} {i : Int} (h : At T n W) (hk : W[k]? = some c) (hi : i = (n : Int) + (k : Int)) : Txt.item T i = ⟨#[c]⟩ := by
  refine item_meets (by omega) ?_
  rw [show i.toNat = n + k from by omega]
  exact h.get hk
theorem At.lt {T : Str} {n k c : Nat} {W : List Nat} (h : At T n W) (hk : W[k]? = some c) : n + k < T.length := by
  have := h.get hk
  obtain ⟨hlt, _⟩ := Array.getElem?_eq_some_iff.mp this
  exact hlt
theorem slice_eq {T : Str} {i j : Int} {a b : Nat} (hi : i = (a : Int)) (hj : j = (b : Int)) (hab : a ≤ b) (hb : b ≤ T.length) : Txt.slice T (some i) (some j) = ⟨((T.cps.toList.drop a).take (b - a)).toArray⟩ := by
  subst hi; subst hj
  have e : T.cps.toList.length = T.length := by simp [Str.length]
  have := beq_iff_eq.mp (slice_closes (x := T) (i := (a : Int)) (j := (b : Int)) ⟨by omega, by omega, by omega⟩)
  rw [this]
  simp only [Int.toNat_natCast, Str.mk.injEq]
  congr 2
  omega
theorem slice_eq_to {T : Str} {j : Int} {b : Nat} (hj : j = (b : Int)) (hb : b ≤ T.length) : Txt.slice T none (some j) = ⟨(T.cps.toList.take b).toArray⟩ := by
  subst hj
  have e : T.cps.toList.length = T.length := by simp [Str.length]
  have := beq_iff_eq.mp (slice_closes_to (x := T) (j := (b : Int)) ⟨by omega, by omega⟩)
  rw [this]
  simp
theorem At.slice {T : Str} {n k l : Nat} {W V : List Nat} {i j : Int} (h : At T n W) (hi : i = (n : Int) + (k : Int)) (hj : j = (n : Int) + (k : Int) + (l : Int)) (hV : (W.drop k).take l = V) (hl : n + k + l ≤ T.length) :
    Txt.slice T (some i) (some j) = ⟨V.toArray⟩ := by
  rw [slice_eq (a := n + k) (b := n + k + l) (by omega) (by omega) (by omega) hl, ← hV]
  unfold At at h
  subst h
  rw [List.drop_drop]
  congr 3
  omega
/-- the sign ahead of place n -/
def Ahead (T : Str) (n : Nat) (c : Nat) : Prop := 0 < n ∧ T.cps.toList[n - 1]? = some c
theorem Ahead.slice {T : Str} {n c : Nat} {i j : Int} (h : Ahead T n c) (hi : i = (n : Int) - 1) (hj : j = (n : Int)) : Txt.slice T (some i) (some j) = ⟨#[c]⟩ := by
  obtain ⟨h0, h1⟩ := h
  obtain ⟨hlt, he⟩ := List.getElem?_eq_some_iff.mp h1
  have e : T.cps.toList.length = T.length := by simp [Str.length]
  rw [slice_eq (a := n - 1) (b := n) (by omega) (by omega) (by omega) (by omega)]
  rw [show n - (n - 1) = 1 from by omega, List.drop_eq_getElem_cons hlt, he]
  rfl
section
variable {prog : Program} {w : World} {A : Around} {E : Value → Shared → Prop} {s : Shared} {value slice : PySem.Expr} {T : Str} {t u ui uj : Tok} {n k l c d : Nat} {W V r : List Nat} {i j : Int} {h₀ : Heap} {L : Addr} {m : Str → Option Value} {news : List (Addr × Obj)} {Q : Value → Shared → Prop}
theorem item_at (h : At T n W) (hk : W[k]? = some c) (hi : i = (n : Int) + (k : Int)) (hT : T.length ≤ 10000) (q : Q (.str ⟨#[c]⟩ s.toks) { s with toks := s.toks + 1 })
    (hs : subscripted slice false (.str T t) (.int i u) = operate [.str T t, .int i u] (getItem (.str T t) (.int i u)) := by with_unfolding_all rfl)
    (ht : ∀ r, letTemporaryGo value (.str T t) r = pure () := by intro _; with_unfolding_all rfl) :
    wpAny (model prog w) A (subscriptTail value slice (.str T t) (.int i u)) Q E s := by
  have hlt := h.lt hk
  refine item_str (fitsSsize_of (N := 9223372036854775808) (by omega) (by omega) (Int.le_refl _)) (by omega) (by omega) (fun _ => ?_) hs ht
  rw [h.item hk hi]; exact q
theorem slice_at (F : Fr h₀ L s.heap m) (N : News h₀ L s.heap news) (h : At T n W) (hi : i = (n : Int) + (k : Int)) (hj : j = (n : Int) + (k : Int) + (l : Int)) (hV : (W.drop k).take l = V) (hl : n + k + l ≤ T.length) (hT : T.length ≤ 10000)
    (q : ∀ h' t' k', Fr h₀ L h' m → News h₀ L h' news → Q (.str ⟨V.toArray⟩ t') { s with heap := h', toks := k' })
    (hs : subscripted slice false (.str T t) (.ref s.heap.objs.size) = operate [.ref s.heap.objs.size, .str T t] (getItem (.str T t) (.ref s.heap.objs.size)) := by with_unfolding_all rfl)
    (ht : ∀ r, letTemporaryGo value (.str T t) r = pure () := by intro _; with_unfolding_all rfl) :
    wpAny (model prog w) A (subscriptTail value slice (.str T t) (.ref s.heap.objs.size)) Q E { s with heap := s.heap.push { cls := .type "slice", data := .fields #[.int i ui, .int j uj, .none] } } := by
  refine slice_strN_ss F N (fun h' t' k' F' N' => ?_) hs ht (by rw [sizeLine_eq]; omega)
  rw [h.slice hi hj hV hl]; exact q h' t' k' F' N'
theorem slice_01 (F : Fr h₀ L s.heap m) (N : News h₀ L s.heap news) (h : At T n (c :: r)) (hi : i = (n : Int)) (hj : j = (n : Int) + 1) (hT : T.length ≤ 10000)
    (q : ∀ h' t' k', Fr h₀ L h' m → News h₀ L h' news → Q (.str ⟨#[c]⟩ t') { s with heap := h', toks := k' })
    (hs : subscripted slice false (.str T t) (.ref s.heap.objs.size) = operate [.ref s.heap.objs.size, .str T t] (getItem (.str T t) (.ref s.heap.objs.size)) := by with_unfolding_all rfl)
    (ht : ∀ r, letTemporaryGo value (.str T t) r = pure () := by intro _; with_unfolding_all rfl) :
    wpAny (model prog w) A (subscriptTail value slice (.str T t) (.ref s.heap.objs.size)) Q E { s with heap := s.heap.push { cls := .type "slice", data := .fields #[.int i ui, .int j uj, .none] } } := by
  have hl := h.len
  exact slice_at (k := 0) (l := 1) (V := [c]) F N h (by omega) (by omega) (by rfl) (by omega) hT q hs ht
theorem slice_02 (F : Fr h₀ L s.heap m) (N : News h₀ L s.heap news) (h : At T n (c :: d :: r)) (hi : i = (n : Int)) (hj : j = (n : Int) + 2) (hT : T.length ≤ 10000)
    (q : ∀ h' t' k', Fr h₀ L h' m → News h₀ L h' news → Q (.str ⟨#[c, d]⟩ t') { s with heap := h', toks := k' })
    (hs : subscripted slice false (.str T t) (.ref s.heap.objs.size) = operate [.ref s.heap.objs.size, .str T t] (getItem (.str T t) (.ref s.heap.objs.size)) := by with_unfolding_all rfl)
    (ht : ∀ r, letTemporaryGo value (.str T t) r = pure () := by intro _; with_unfolding_all rfl) :
    wpAny (model prog w) A (subscriptTail value slice (.str T t) (.ref s.heap.objs.size)) Q E { s with heap := s.heap.push { cls := .type "slice", data := .fields #[.int i ui, .int j uj, .none] } } := by
  have hl := h.len
  simp only [List.length_cons] at hl
  exact slice_at (k := 0) (l := 2) (V := [c, d]) F N h (by omega) (by omega) (by rfl) (by omega) hT q hs ht
theorem slice_ahead (F : Fr h₀ L s.heap m) (N : News h₀ L s.heap news) (h : Ahead T n c) (hi : i = (n : Int) - 1) (hj : j = (n : Int)) (hT : T.length ≤ 10000)
    (q : ∀ h' t' k', Fr h₀ L h' m → News h₀ L h' news → Q (.str ⟨#[c]⟩ t') { s with heap := h', toks := k' })
    (hs : subscripted slice false (.str T t) (.ref s.heap.objs.size) = operate [.ref s.heap.objs.size, .str T t] (getItem (.str T t) (.ref s.heap.objs.size)) := by with_unfolding_all rfl)
    (ht : ∀ r, letTemporaryGo value (.str T t) r = pure () := by intro _; with_unfolding_all rfl) :
    wpAny (model prog w) A (subscriptTail value slice (.str T t) (.ref s.heap.objs.size)) Q E { s with heap := s.heap.push { cls := .type "slice", data := .fields #[.int i ui, .int j uj, .none] } } := by
  refine slice_strN_ss F N (fun h' t' k' F' N' => ?_) hs ht (by rw [sizeLine_eq]; omega)
  rw [h.slice hi hj]; exact q h' t' k' F' N'
theorem eq_is {x y : Str} {b : Bool} (h : (x.cps.toList == y.cps.toList) = b) (q : Q (.bool b) s) : wpAny (model prog w) A (compareOp .Eq (.str x t) (.str y u)) Q E s := by
  refine P.eq_str ?_
  rw [h]; exact q
theorem ne_is {x y : Str} {b : Bool} (h : (x.cps.toList != y.cps.toList) = b) (q : Q (.bool b) s) : wpAny (model prog w) A (compareOp .NotEq (.str x t) (.str y u)) Q E s := by
  refine P.ne_str ?_
  rw [h]; exact q
theorem in_is {x : Str} {b : Bool} (h : decide (c ∈ x.cps.toList) = b) (q : Q (.bool b) s) : wpAny (model prog w) A (compareOp .In (.str ⟨#[c]⟩ t) (.str x u)) Q E s := by
  refine P.in_str ?_
  rw [StrLaws.found_one, h]; exact q
theorem notin_is {x : Str} {b : Bool} (h : (!decide (c ∈ x.cps.toList)) = b) (q : Q (.bool b) s) : wpAny (model prog w) A (compareOp .NotIn (.str ⟨#[c]⟩ t) (.str x u)) Q E s := by
  refine P.notIn_str ?_
  rw [StrLaws.found_one, h]; exact q
end
theorem beq_head {c d : Nat} {l r : List Nat} (h : c ≠ d) : ((c :: l) == (d :: r)) = false := by simp [h]
theorem bne_head {c d : Nat} {l r : List Nat} (h : c ≠ d) : ((c :: l) != (d :: r)) = true := by simp [bne, h]
theorem lower_digit {d : Nat} (h : d < 10) : Txt.lower ⟨#[48 + d]⟩ = ⟨#[48 + d]⟩ := by
  have : ∀ d : Fin 10, Txt.lower ⟨#[48 + d.val]⟩ = ⟨#[48 + d.val]⟩ := by decide +kernel
  exact this ⟨d, h⟩
theorem in_digits {d : Nat} (h : d < 10) : decide ((48 + d) ∈ (Str.ofString "0123456789").cps.toList) = true := by
  have : ∀ d : Fin 10, decide ((48 + d.val) ∈ (Str.ofString "0123456789").cps.toList) = true := by decide +kernel
  exact this ⟨d, h⟩
theorem in_digits_us {d : Nat} (h : d < 10) : decide ((48 + d) ∈ (Str.ofString "0123456789" ++ Str.ofString "_").cps.toList) = true := by
  have : ∀ d : Fin 10, decide ((48 + d.val) ∈ (Str.ofString "0123456789" ++ Str.ofString "_").cps.toList) = true := by decide +kernel
  exact this ⟨d, h⟩
theorem lower_semi : Txt.lower ⟨#[59]⟩ = ⟨#[59]⟩ := by decide +kernel
theorem one_fits (c : Nat) {x : Str} (h : x = ⟨#[c]⟩) : Builtin.Str.tooLong x.length = false := by subst h; exact of_decide_eq_true rfl
theorem find_digit {d : Nat} (h : d < 10) : Txt.find (Str.ofString "0123456789abcdef") ⟨#[48 + d]⟩ = (d : Int) := by
  have : ∀ d : Fin 10, Txt.find (Str.ofString "0123456789abcdef") ⟨#[48 + d.val]⟩ = ((d.val : Nat) : Int) := by decide +kernel
  exact this ⟨d, h⟩
theorem range_small {a b : Int} (h1 : 0 ≤ a) (h2 : a ≤ b) (h3 : b ≤ 20000) : Builtin.Range.small a b 1 = true :=
  small_one (by omega) (by omega) (by omega) (by omega)
theorem range_len {a b : Int} {n : Nat} (h : b = a + (n : Int)) : Builtin.Range.rangeSize a b 1 = (n : Int) := by
  rw [rangeSize_nat]; omega
section
variable {prog : Program} {w : World} {A : Around} {E : Value → Shared → Prop} {s : Shared} {t u : Tok} {x y : Str} {c : Nat} {k : Int} {Q : Value → Shared → Prop}
theorem lower_one (e : Txt.lower ⟨#[c]⟩ = ⟨#[c]⟩) (h : ∀ t' k, Q (.str ⟨#[c]⟩ t') { s with toks := k }) : wpAny (model prog w) A (call (.builtin "str.lower") [.str ⟨#[c]⟩ t]) Q E s :=
  KXw.lower e (one_fits c e) h
theorem find_is (e : Txt.find x y = k) (h : ∀ t' j, Q (.int k t') { s with toks := j }) : wpAny (model prog w) A (call (.builtin "str.find") [.str x t, .str y u]) Q E s := KXw.find e h
theorem unr_same {h₀ : Heap} {L I : Addr} {it : Obj} {rest : (Str → Option Value) → List (Addr × Obj) → Prop} {s₁ : Shared} {h' : Heap} {tk : Nat} {m' : Str → Option Value} {news : List (Addr × Obj)} (F : Fr h₀ L h' m') (N : News h₀ L h' ((I, it) :: news))
    (lt : ∀ p ∈ news, p.1 < I) (r : rest m' news) : UnrEnd h₀ L s₁ I it rest { s₁ with heap := h', toks := tk } :=
  UnrEnd.intro F N news (fun _ h => h) (fun p hp => Nat.ne_of_lt (lt p hp)) r
end
theorem bne_nil {c : Nat} {l : List Nat} : ((c :: l) != []) = true := rfl
theorem beq_nil {c : Nat} {l : List Nat} : ((c :: l) == []) = false := rfl
section
variable {prog : Program} {w : World} {A : Around} {E : Value → Shared → Prop} {s : Shared} {env : Env} {h₀ : Heap} {x : Str} {body : List Stmt} {Q : Flow → Shared → Prop}
def TupEnd (h₀ : Heap) (L : Addr) (x : Str) (m₀ : Str → Option Value) (J : Prop) (all : List (Addr × Obj)) (s₁ s₂ : Shared) : Prop :=
  ∃ h' tk m', s₂ = { s₁ with heap := h', toks := tk } ∧ Fr h₀ L h' m' ∧ News h₀ L h' all ∧ (∀ z, z ≠ x → m' z = m₀ z) ∧ J
def TupPost (h₀ : Heap) (L : Addr) (x : Str) (m₀ : Str → Option Value) (J : Prop) (all : List (Addr × Obj)) (s₁ : Shared) (Q : Flow → Shared → Prop) (f : Flow) (s₂ : Shared) : Prop :=
  match f with
  | .ret v => Q (.ret v) s₂
  | .brk => Q .next s₂
  | _ => TupEnd h₀ L x m₀ J all s₁ s₂
theorem TupEnd.intro {L : Addr} {J : Prop} {m₀ m' : Str → Option Value} {all : List (Addr × Obj)} {s₁ : Shared} {h' : Heap} {tk : Nat} (F : Fr h₀ L h' m') (N : News h₀ L h' all) (hm : ∀ z, z ≠ x → m' z = m₀ z)
    (hj : J) : TupEnd h₀ L x m₀ J all s₁ { s₁ with heap := h', toks := tk } := ⟨h', tk, m', rfl, F, N, hm, hj⟩
theorem iter_tup {l : Addr} {vs : List Value} {m₀ : Str → Option Value} {news : List (Addr × Obj)} (J : Nat → Prop)
    (hh : A.handled = none) (hl : h₀.IsTuple l vs.toArray) (F : Fr h₀ env.locals s.heap m₀) (N : News h₀ env.locals s.heap news) (hj : J 0)
    (turn : ∀ i v h tk own, vs[i]? = some v → J i → Fr h₀ env.locals h (fun y => if y = x then some v else m₀ y) → News h₀ env.locals h (own ++ news) →
      wpAny (model prog w) A (execs body env) (TupPost h₀ env.locals x m₀ (J (i + 1)) (own ++ news) { s with heap := h, toks := tk } Q) E { s with heap := h, toks := tk })
    (done : ∀ m₁ h tk, J vs.length → (∀ z, z ≠ x → m₁ z = m₀ z) → Fr h₀ env.locals h m₁ → News h₀ env.locals h news → Q .next { s with heap := h, toks := tk }) :
    wpAny (model prog w) A (pyIter (.ref l)) (fun it s₂ => LoopAtV prog w A h₀ env x body Q E it s₂) E s := by
  have hls : s.heap.IsTuple l vs.toArray := hl.at fun o e => F.keep l o e
  obtain ⟨ol, hol, _⟩ := id hl
  have hlt : l < h₀.objs.size := Heap.lt_size hol
  have hne : l ≠ s.heap.objs.size := Nat.ne_of_lt (Nat.lt_trans (Nat.lt_of_lt_of_le hlt F.above) F.ns.lt)
  refine wpAny_pyIter_tuple hls ?_
  have W := Walks.tuple (prog := prog) (w := w) hh s.heap.objs.size l hne vs.toArray
  let J' : Nat → (Str → Option Value) → List (Addr × Obj) → Prop := fun i m₁ news₁ => news₁ = news ∧ (∀ z, z ≠ x → m₁ z = m₀ z) ∧ J i
  refine ⟨_, _, _, vs.toArray.size, _, _, m₀, news, J', rfl, W, ?_, ?_, ?_, ⟨⟨_, Heap.get?_push_size _ rfl, rfl, rfl⟩, hls.at fun o e => Heap.get?_push_of_some _ e⟩, F.push _, (fun p hp => ⟨Heap.get?_push_of_some _ (N p hp).1, (N p hp).2⟩), ⟨rfl, fun _ _ => rfl, hj⟩, ?_, ?_⟩
  · intro hm
    rcases List.mem_cons.mp hm with e | hm
    · exact absurd F.ns.lt (e ▸ Nat.lt_irrefl _)
    · exact absurd (Nat.lt_of_lt_of_le hlt F.above) ((List.mem_singleton.mp hm) ▸ Nat.lt_irrefl _)
  · intro b hb
    rw [List.mem_singleton.mp hb]
    exact next_is_new F
  · intro p hp hI
    exact absurd (Heap.lt_size (N p hp).1) ((List.mem_singleton.mp hI) ▸ Nat.lt_irrefl _)
  · rintro i v m₁ news₁ s₁ own ⟨hh', tk', rfl⟩ hin hP ⟨rfl, hm₁, hJ⟩ hoff _ _ _ _ F₁ N₁
    have hv : vs[i]? = some v := by simpa using hP
    have e : (fun y => if y = x then some v else m₁ y) = fun y => if y = x then some v else m₀ y := by
      funext y
      by_cases h1 : y = x
      · simp [h1]
      · simp only [if_neg h1]; exact hm₁ y h1
    rw [e] at F₁
    refine wpAny_mono (turn i v hh' tk' own hv hJ F₁ N₁) (fun f s₂ p => ?_) fun _ _ e => e
    have fin : TupEnd h₀ env.locals x m₀ (J (i + 1)) (own ++ news₁) { s with heap := hh', toks := tk' } s₂ → LoopStepU h₀ env.locals [s.heap.objs.size] own (J' (i + 1)) { s with heap := hh', toks := tk' } .next s₂ := by
      rintro ⟨h', tk, m', e, F', N', hm, hj⟩
      exact ⟨rfl, h', tk, m', news₁, e, F', N', hoff, rfl, hm, hj⟩
    cases f with
    | ret v => exact .ret p
    | brk => exact .brk p
    | next => exact .next (fin p)
    | cont => exact .cont (fin p)
  · rintro h' tk m' news' F' N' _ ⟨rfl, hm, hJ⟩
    have hJ' : J vs.length := by simpa using hJ
    exact done m' h' tk hJ' hm F' N'
end
/-- the texts that stand in a list of values -/
def textsIn : List Value → List Str
  | .str S _ :: r => S :: textsIn r
  | _ => []
theorem texts_at : ∀ {vs : List Value} {l : List Str}, textsIn vs = l → vs.length = l.length → ∀ {k : Nat} {v : Value}, vs[k]? = some v → ∃ S t, l[k]? = some S ∧ v = .str S t
  | [], _, _, _, _, _, h => by simp at h
  | u :: r, l, e, hl, k, v, h => by
    cases u with
    | str S t =>
      subst e
      cases k with
      | zero =>
        simp at h
        exact ⟨S, t, by simp [textsIn], h.symm⟩
      | succ k =>
        have h' : r[k]? = some v := by simpa using h
        obtain ⟨S', t', a, b⟩ := texts_at (vs := r) rfl (by simpa [textsIn] using hl) h'
        exact ⟨S', t', by simpa [textsIn] using a, b⟩
    | _ => subst e; simp [textsIn] at hl
theorem tup_ret {h₀ : Heap} {L : Addr} {x : Str} {m₀ : Str → Option Value} {J : Prop} {all : List (Addr × Obj)} {s₁ s₂ : Shared} {Q : Flow → Shared → Prop} {v : Value} (h : Q (.ret v) s₂) : TupPost h₀ L x m₀ J all s₁ Q (.ret v) s₂ := h
theorem tup_next {h₀ : Heap} {L : Addr} {x : Str} {m₀ m' : Str → Option Value} {J : Prop} {all : List (Addr × Obj)} {s₁ : Shared} {Q : Flow → Shared → Prop} {h' : Heap} {tk : Nat} (F : Fr h₀ L h' m') (N : News h₀ L h' all) (hm : ∀ z, z ≠ x → m' z = m₀ z)
    (hj : J) : TupPost h₀ L x m₀ J all s₁ Q .next { s₁ with heap := h', toks := tk } := TupEnd.intro F N hm hj
theorem fr_off {h₀ h : Heap} {L : Addr} {x : Str} {m₀ m₁ : Str → Option Value} (F : Fr h₀ L h m₁) (hm : ∀ z, z ≠ x → m₁ z = m₀ z) : Fr h₀ L h (fun y => if y = x then m₁ y else m₀ y) := by
  have e : (fun y => if y = x then m₁ y else m₀ y) = m₁ := by
    funext y
    by_cases h1 : y = x
    · simp [h1]
    · simp only [if_neg h1]; exact (hm y h1).symm
  rw [e]; exact F
theorem all_lt_succ {P : Nat → Prop} {k : Nat} (h : ∀ j, j < k → P j) (hk : P k) : ∀ j, j < k + 1 → P j := fun j hj => by
  rcases Nat.lt_or_eq_of_le (Nat.le_of_lt_succ hj) with h1 | h1
  · exact h j h1
  · subst h1; exact hk
theorem At.getD {T : Str} {n k c : Nat} {W : List Nat} (h : At T n W) (hk : W[k]? = some c) : T.cps.getD (n + k) 0 = c := by
  have := h.get hk
  simp [Array.getD_eq_getD_getElem?, this]
theorem remark_nl {T : Str} {n : Nat} {r : List Nat} {i : Int} (h : At T n (35 :: 32 :: 36 :: 41 :: 32 :: 39 :: 10 :: r)) (hi : i = (n : Int)) : Txt.find3 T (Str.ofString "\n") i = i + 6 := by
  have hl := h.len
  simp only [List.length_cons] at hl
  have e : Str.ofString "\n" = ⟨#[10]⟩ := by decide +kernel
  have hf : fromIndex T.length i = n := by
    unfold fromIndex
    subst hi
    first | omega | (split <;> omega) | (simp; omega)
  have g0 : T.cps.getD n 0 = 35 := h.getD (k := 0) rfl
  have g1 := h.getD (k := 1) rfl
  have g2 := h.getD (k := 2) rfl
  have g3 := h.getD (k := 3) rfl
  have g4 := h.getD (k := 4) rfl
  have g5 := h.getD (k := 5) rfl
  have g6 := h.getD (k := 6) rfl
  rw [e]
  rcases StrLaws.find3_spec T 10 i with ⟨_, hn⟩ | ⟨k, hk, h1, h2, h3, h4⟩
  · rw [hf] at hn
    exact absurd g6 (hn _ (by omega) (by omega))
  · rw [hf] at h1 h4
    rw [hk]
    have : k = n + 6 := by
      rcases Nat.lt_trichotomy k (n + 6) with q | q | q
      · have : k = n ∨ k = n + 1 ∨ k = n + 2 ∨ k = n + 3 ∨ k = n + 4 ∨ k = n + 5 := by omega
        rcases this with rfl | rfl | rfl | rfl | rfl | rfl
        · rw [g0] at h3; cases h3
        · rw [g1] at h3; cases h3
        · rw [g2] at h3; cases h3
        · rw [g3] at h3; cases h3
        · rw [g4] at h3; cases h3
        · rw [g5] at h3; cases h3
      · exact q
      · exact absurd g6 (h4 _ (by omega) q)
    omega
theorem in_lit {prog : Program} {w : World} {A : Around} {E : Value → Shared → Prop} {s : Shared} {t u : Tok} {x y : Str} {Q : Value → Shared → Prop} (b : Bool) (c : Nat) (hx : x = ⟨#[c]⟩) (h : decide (c ∈ y.cps.toList) = b) (q : Q (.bool b) s) :
    wpAny (model prog w) A (compareOp .In (.str x t) (.str y u)) Q E s := by
  subst hx; exact in_is h q
theorem in_lits {prog : Program} {w : World} {A : Around} {E : Value → Shared → Prop} {s : Shared} {t u : Tok} {x y : Str} {Q : Value → Shared → Prop} (b : Bool) (h : (!(Builtin.Str.occurrences y x 0 y.length 1).isEmpty) = b) (q : Q (.bool b) s) :
    wpAny (model prog w) A (compareOp .In (.str x t) (.str y u)) Q E s := P.in_str (by rw [h]; exact q)
theorem find3_is {prog : Program} {w : World} {A : Around} {E : Value → Shared → Prop} {s : Shared} {t u v : Tok} {x y : Str} {i k : Int} {Q : Value → Shared → Prop} (e : Txt.find3 x y i = k) (h : ∀ t' j, Q (.int k t') { s with toks := j }) :
    wpAny (model prog w) A (call (.builtin "str.find") [.str x t, .str y u, .int i v]) Q E s := SC.find3 (by rw [e]; exact h _ _)
abbrev RT := Heap → Addr → (Str → Option Value) → List (Addr × Obj) → Shared → (Value → Shared → Prop) → (Value → Shared → Prop) → Prop
abbrev Con (w : World) (mean : ExcName → Option Value) (mg mb : Str → Option Value) (k : Nat) (f : Addr) (vs : List Value) (Ret : RT) : Prop :=
  ∀ (dp un : Nat) (gd : Option (List Code)) (cn : Str) (cs : Scope) (a : Addr) (ccd : Value) (cl : List (Str × Addr)) (outer : List Env) (A₀ : Around) (base h₀ : Heap) (L : Addr) (m : Str → Option Value) (news : List (Addr × Obj)) (s : Shared) (Q E : Value → Shared → Prop),
    Below A₀ base outer h₀ → Fr h₀ L s.heap m → (tp.heap_1_39 w.params).In h₀ → News h₀ L s.heap news → Top tp.view_1_40 (looseW tp.view_1_40 [Str.ofString "WORD_SIGNS", Str.ofString "CLOSERS", Str.ofString "FLAGS_OF"]) mean mg mb h₀ → cs.kind = .function →
    dp + k < recursionLimit → un + 8 * k < cLine → Ret h₀ L m news s Q E →
    wpAny (model PySem.Challenge.rw_qz0108_01.row.prog w) (ktrTop dp un gd cn cs L a ccd cl outer) (call (.ref f) vs) Q E s
theorem con_use {w : World} {mean : ExcName → Option Value} {mg mb : Str → Option Value} {k : Nat} {f : Addr} {vs : List Value} {Ret : RT} (C : Con w mean mg mb k f vs Ret)
    {dp un : Nat} {gd : Option (List Code)} {cn : Str} {cs : Scope} {a : Addr} {ccd : Value} {cl : List (Str × Addr)} {outer : List Env} {A₀ : Around} {base h₀ : Heap} {L : Addr} {m : Str → Option Value} {news : List (Addr × Obj)} {s : Shared} {Q E : Value → Shared → Prop}
    (B : Below A₀ base outer h₀) (F : Fr h₀ L s.heap m) (X : (tp.heap_1_39 w.params).In h₀) (N : News h₀ L s.heap news) (P : Top tp.view_1_40 (looseW tp.view_1_40 [Str.ofString "WORD_SIGNS", Str.ofString "CLOSERS", Str.ofString "FLAGS_OF"]) mean mg mb h₀) (K : cs.kind = .function)
    (D : dp + k < recursionLimit) (U : un + 8 * k < cLine) (ret : Ret h₀ L m news s Q E) :
    wpAny (model PySem.Challenge.rw_qz0108_01.row.prog w) (ktrTop dp un gd cn cs L a ccd cl outer) (call (.ref f) vs) Q E s := C _ _ _ _ _ _ _ _ _ _ _ _ _ _ _ _ _ _ B F X N P K D U ret
/-- a call of a def that changes nothing, gives R, wants k frames -/
abbrev Pure (w : World) (mean : ExcName → Option Value) (mg mb : Str → Option Value) (k : Nat) (f : Addr) (vs : List Value) (R : Tok → Value) : Prop :=
  Con w mean mg mb k f vs fun h₀ L m news s Q _ => ∀ (t : Tok) (h' : Heap) (tk' : Nat), Fr h₀ L h' m → News h₀ L h' news → Q (R t) { s with heap := h', toks := tk' }
theorem s_colons : Str.ofString "::" = ⟨#[58, 58]⟩ := by decide +kernel
theorem s_hash : Str.ofString "#" = ⟨#[35]⟩ := by decide +kernel
theorem s_dollar : Str.ofString "$" = ⟨#[36]⟩ := by decide +kernel
theorem s_at : Str.ofString "@" = ⟨#[64]⟩ := by decide +kernel
theorem s_brace : Str.ofString "{" = ⟨#[123]⟩ := by decide +kernel
theorem s_eq : Str.ofString "=" = ⟨#[61]⟩ := by decide +kernel
theorem s_empty : Str.ofString "" = ⟨#[]⟩ := by decide +kernel
theorem s_dot : Str.ofString "." = ⟨#[46]⟩ := by decide +kernel
theorem s_e : Str.ofString "e" = ⟨#[101]⟩ := by decide +kernel
theorem s_E : Str.ofString "E" = ⟨#[69]⟩ := by decide +kernel
theorem s_sq : Str.ofString "'" = ⟨#[39]⟩ := by decide +kernel
theorem s_dq : Str.ofString "\"" = ⟨#[34]⟩ := by decide +kernel
theorem s_us : Str.ofString "_" = ⟨#[95]⟩ := by decide +kernel
theorem s_nl : Str.ofString "\n" = ⟨#[10]⟩ := by decide +kernel
theorem s_starts : Str.ofString "ABCDEFGHIJKLMNOPQRSTUVWXYZabcdefghijklmnopqrstuvwxyz_" = ⟨#[65, 66, 67, 68, 69, 70, 71, 72, 73, 74, 75, 76, 77, 78, 79, 80, 81, 82, 83, 84, 85, 86, 87, 88, 89, 90, 97, 98, 99, 100, 101, 102, 103, 104, 105, 106, 107, 108, 109, 110, 111, 112, 113, 114, 115, 116, 117, 118, 119, 120, 121, 122, 95]⟩ := by decide +kernel
/-- not a sign that opens a word -/
def NoWord (c : Nat) : Prop := c ∉ (Str.ofString "ABCDEFGHIJKLMNOPQRSTUVWXYZabcdefghijklmnopqrstuvwxyz_").cps.toList
theorem NoWord.dec {c : Nat} (h : NoWord c) : decide (c ∈ (Str.ofString "ABCDEFGHIJKLMNOPQRSTUVWXYZabcdefghijklmnopqrstuvwxyz_").cps.toList) = false := decide_eq_false h
abbrev lexDict (w : World) (T : Str) (i : Int) (jx hx : Addr) (k1 k2 k3 k4 tT ti : Tok) : Obj :=
  dictOf [{ hash := PyData.keyHash w.params (Str.ofString "text"), key := .str (Str.ofString "text") k1, val := .str T tT },
    { hash := PyData.keyHash w.params (Str.ofString "at"), key := .str (Str.ofString "at") k2, val := .int i ti },
    { hash := PyData.keyHash w.params (Str.ofString "jumps"), key := .str (Str.ofString "jumps") k3, val := .ref jx },
    { hash := PyData.keyHash w.params (Str.ofString "heres"), key := .str (Str.ofString "heres") k4, val := .ref hx }] 4
abbrev LexSt (w : World) (T : Str) (i : Int) (lx dx jx hx : Addr) (oj : Obj) (k1 k2 k3 k4 tT ti : Tok) (rest : List (Addr × Obj)) : List (Addr × Obj) :=
  (jx, oj) :: (lx, instObj 460 dx) :: (dx, lexDict w T i jx hx k1 k2 k3 k4 tT ti) :: rest
abbrev MRT := Heap → Addr → (Str → Option Value) → Addr → (Int → Tok → List (Addr × Obj)) → Shared → (Value → Shared → Prop) → (Value → Shared → Prop) → Prop
/-- a call of a method of the lexer that stands at i -/
abbrev MCon (w : World) (mean : ExcName → Option Value) (mg mb : Str → Option Value) (k : Nat) (f : Addr) (T : Str) (i : Int) (vs : List Value) (Ret : MRT) : Prop :=
  ∀ (dp un : Nat) (gd : Option (List Code)) (cn : Str) (cs : Scope) (a : Addr) (ccd : Value) (cl : List (Str × Addr)) (outer : List Env) (A₀ : Around) (base h₀ : Heap) (L : Addr) (m : Str → Option Value) (s : Shared) (Q E : Value → Shared → Prop)
    (lx dx jx hx : Addr) (oj : Obj) (k1 k2 k3 k4 tT ti : Tok) (rest : List (Addr × Obj)),
    Below A₀ base outer h₀ → Fr h₀ L s.heap m → (tp.heap_1_39 w.params).In h₀ → News h₀ L s.heap (LexSt w T i lx dx jx hx oj k1 k2 k3 k4 tT ti rest) → Top tp.view_1_40 (looseW tp.view_1_40 [Str.ofString "WORD_SIGNS", Str.ofString "CLOSERS", Str.ofString "FLAGS_OF"]) mean mg mb h₀ → cs.kind = .function →
    dp + k < recursionLimit → un + 8 * k < cLine → @LT.lt Nat _ dx lx → @LT.lt Nat _ lx jx → (∀ p ∈ rest, p.1 ≠ dx) → Obj.IsDictOf (PySem.intKind PySem.Challenge.rw_qz0108_01.row.prog w) oj [] → (jx == sysModules) = false →
    Ret h₀ L m dx (fun i' ti' => LexSt w T i' lx dx jx hx oj k1 k2 k3 k4 tT ti' rest) s Q E →
    wpAny (model PySem.Challenge.rw_qz0108_01.row.prog w) (ktrTop dp un gd cn cs L a ccd cl outer) (call (.ref f) (.ref lx :: vs)) Q E s
/-- line_begin gives back j -/
def LB (w : World) (mean : ExcName → Option Value) (mg mb : Str → Option Value) (T : Str) (j : Int) : Prop :=
  ∀ (i : Int) (tj : Tok), MCon w mean mg mb 4 366 T i [.int j tj] (fun h₀ L m _ St s Q _ => ∀ (ti' : Tok) (t : Tok) (h' : Heap) (tk' : Nat), Fr h₀ L h' m → News h₀ L h' (St i ti') → Q (.int j t) { s with heap := h', toks := tk' })
theorem lb_at {w : World} {mean : ExcName → Option Value} {mg mb : Str → Option Value} {T : Str} {i j : Int} {tj : Tok} (h : LB w mean mg mb T j) :
    MCon w mean mg mb 4 366 T i [.int j tj] (fun h₀ L m _ St s Q _ => ∀ (ti' : Tok) (t : Tok) (h' : Heap) (tk' : Nat), Fr h₀ L h' m → News h₀ L h' (St i ti') → Q (.int j t) { s with heap := h', toks := tk' }) := h i tj
/-- skip goes from i on to e -/
def SK (w : World) (mean : ExcName → Option Value) (mg mb : Str → Option Value) (T : Str) (i e : Int) : Prop :=
  MCon w mean mg mb 5 359 T i [] (fun h₀ L m _ St s Q _ => ∀ (ti' : Tok) (h' : Heap) (tk' : Nat), Fr h₀ L h' m → News h₀ L h' (St e ti') → Q .none { s with heap := h', toks := tk' })
/-- the pair ($, sign) -/
abbrev PairData (c : Nat) : PyData := .tuple [.str (Str.ofString "$"), .str ⟨#[c]⟩]
/-- v is the datum V, in whatever heap that holds o1 at a1 -/
def VOk (v : Value) (V : PyData) (a1 : Addr) (o1 : Obj) : Prop := ∀ h : Heap, h.get? a1 = some o1 → Reads h v V []
/-- token_at gives kind, the datum V and the place e -/
def TK (w : World) (mean : ExcName → Option Value) (mg mb : Str → Option Value) (T : Str) (i : Int) (wants : Bool) (kind : Str) (V : PyData) (e : Int) : Prop :=
  ∀ ta : Tok, MCon w mean mg mb 8 394 T i [.int i ta, .bool wants] (fun h₀ L m dx St s Q _ => ∀ (h' : Heap) (tk' : Nat) (a a1 : Addr) (o1 : Obj) (v : Value) (t1 t2 ti' : Tok), Fr h₀ L h' m →
    News h₀ L h' ((a, { cls := .type "tuple", data := .seq #[.str kind t1, v, .int e t2] }) :: (a1, o1) :: St i ti') → @LT.lt Nat _ dx a → @LT.lt Nat _ dx a1 → VOk v V a1 o1 → Q (.ref a) { s with heap := h', toks := tk' })
/-- next gives kind, the datum V, the place p, whether it skipped, and stands at e -/
def NX (w : World) (mean : ExcName → Option Value) (mg mb : Str → Option Value) (T : Str) (i : Int) (wants : Bool) (kind : Str) (V : PyData) (p e : Int) : Prop :=
  MCon w mean mg mb 10 387 T i [.bool wants] (fun h₀ L m _ St s Q _ => ∀ (h' : Heap) (tk' : Nat) (a a1 : Addr) (o1 : Obj) (v : Value) (t1 t2 ti' : Tok), Fr h₀ L h' m →
    News h₀ L h' ((a, { cls := .type "tuple", data := .seq #[.str kind t1, v, .int p t2, .bool (decide (i < p))] }) :: (a1, o1) :: St e ti') → VOk v V a1 o1 → Q (.ref a) { s with heap := h', toks := tk' })
theorem sk_at {w : World} {mean : ExcName → Option Value} {mg mb : Str → Option Value} {T : Str} {i e : Int} (h : SK w mean mg mb T i e) :
    MCon w mean mg mb 5 359 T i [] (fun h₀ L m _ St s Q _ => ∀ (ti' : Tok) (h' : Heap) (tk' : Nat), Fr h₀ L h' m → News h₀ L h' (St e ti') → Q .none { s with heap := h', toks := tk' }) := h
theorem tk_at {w : World} {mean : ExcName → Option Value} {mg mb : Str → Option Value} {T : Str} {i e : Int} {wants : Bool} {kind : Str} {V : PyData} {ta : Tok} (h : TK w mean mg mb T i wants kind V e) :
    MCon w mean mg mb 8 394 T i [.int i ta, .bool wants] (fun h₀ L m dx St s Q _ => ∀ (h' : Heap) (tk' : Nat) (a a1 : Addr) (o1 : Obj) (v : Value) (t1 t2 ti' : Tok), Fr h₀ L h' m →
    News h₀ L h' ((a, { cls := .type "tuple", data := .seq #[.str kind t1, v, .int e t2] }) :: (a1, o1) :: St i ti') → @LT.lt Nat _ dx a → @LT.lt Nat _ dx a1 → VOk v V a1 o1 → Q (.ref a) { s with heap := h', toks := tk' }) := h ta
theorem nx_at {w : World} {mean : ExcName → Option Value} {mg mb : Str → Option Value} {T : Str} {i p e : Int} {wants : Bool} {kind : Str} {V : PyData} (h : NX w mean mg mb T i wants kind V p e) :
    MCon w mean mg mb 10 387 T i [.bool wants] (fun h₀ L m _ St s Q _ => ∀ (h' : Heap) (tk' : Nat) (a a1 : Addr) (o1 : Obj) (v : Value) (t1 t2 ti' : Tok), Fr h₀ L h' m →
    News h₀ L h' ((a, { cls := .type "tuple", data := .seq #[.str kind t1, v, .int p t2, .bool (decide (i < p))] }) :: (a1, o1) :: St e ti') → VOk v V a1 o1 → Q (.ref a) { s with heap := h', toks := tk' }) := h
theorem mcon_use {w : World} {mean : ExcName → Option Value} {mg mb : Str → Option Value} {k : Nat} {f : Addr} {T : Str} {i : Int} {vs : List Value} {Ret : MRT} (C : MCon w mean mg mb k f T i vs Ret)
    {dp un : Nat} {gd : Option (List Code)} {cn : Str} {cs : Scope} {a : Addr} {ccd : Value} {cl : List (Str × Addr)} {outer : List Env} {A₀ : Around} {base h₀ : Heap} {L : Addr} {m : Str → Option Value} {s : Shared} {Q E : Value → Shared → Prop}
    {lx dx jx hx : Addr} {oj : Obj} {k1 k2 k3 k4 tT ti : Tok} {rest : List (Addr × Obj)}
    (B : Below A₀ base outer h₀) (F : Fr h₀ L s.heap m) (X : (tp.heap_1_39 w.params).In h₀) (N : News h₀ L s.heap (LexSt w T i lx dx jx hx oj k1 k2 k3 k4 tT ti rest)) (P : Top tp.view_1_40 (looseW tp.view_1_40 [Str.ofString "WORD_SIGNS", Str.ofString "CLOSERS", Str.ofString "FLAGS_OF"]) mean mg mb h₀) (K : cs.kind = .function)
    (D : dp + k < recursionLimit) (U : un + 8 * k < cLine) (o1 : @LT.lt Nat _ dx lx) (o2 : @LT.lt Nat _ lx jx) (off : ∀ p ∈ rest, p.1 ≠ dx) (hoj : Obj.IsDictOf (PySem.intKind PySem.Challenge.rw_qz0108_01.row.prog w) oj []) (foj : (jx == sysModules) = false)
    (ret : Ret h₀ L m dx (fun i' ti' => LexSt w T i' lx dx jx hx oj k1 k2 k3 k4 tT ti' rest) s Q E) :
    wpAny (model PySem.Challenge.rw_qz0108_01.row.prog w) (ktrTop dp un gd cn cs L a ccd cl outer) (call (.ref f) (.ref lx :: vs)) Q E s :=
  C _ _ _ _ _ _ _ _ _ _ _ _ _ _ _ _ _ _ _ _ _ _ _ _ _ _ _ _ _ B F X N P K D U o1 o2 off hoj foj ret
/-- the order of the law's own objects -/
structure Ord (sd rl rd dl wl : Addr) (tail : List (Addr × Obj)) : Prop where
  a : @LT.lt Nat _ sd rd
  b : @LT.lt Nat _ rl rd
  c : @LT.lt Nat _ rd dl
  d : @LT.lt Nat _ dl wl
  e : @Ne Nat rl sd
  t : ∀ p ∈ tail, @LT.lt Nat _ wl p.1
def SaltOk (w : World) (os : Obj) (rl : Addr) (k : Int) : Prop :=
  ∃ t3 : Tok, os.IsDictOf (PySem.strKind PySem.Challenge.rw_qz0108_01.row.prog w) [(Str.ofString "row", .ref rl), (Str.ofString "at", .int k t3)]
def RowOk (w : World) (orow : Obj) (X : Str) (dl wl : Addr) : Prop :=
  ∃ tx : Tok, orow.IsDictOf (PySem.strKind PySem.Challenge.rw_qz0108_01.row.prog w) [(Str.ofString "text", .str X tx), (Str.ofString "due", .ref dl), (Str.ofString "wants", .ref wl)]
theorem Ord.off_sd {sd rl rd dl wl : Addr} {tail : List (Addr × Obj)} (o : Ord sd rl rd dl wl tail) : ∀ p ∈ tail, p.1 ≠ sd := fun p hp => Nat.ne_of_gt (Nat.lt_trans (Nat.lt_trans o.a (Nat.lt_trans o.c o.d)) (o.t p hp))
theorem Ord.off_rd {sd rl rd dl wl : Addr} {tail : List (Addr × Obj)} (o : Ord sd rl rd dl wl tail) : ∀ p ∈ tail, p.1 ≠ rd := fun p hp => Nat.ne_of_gt (Nat.lt_trans (Nat.lt_trans o.c o.d) (o.t p hp))
theorem Ord.off_dl {sd rl rd dl wl : Addr} {tail : List (Addr × Obj)} (o : Ord sd rl rd dl wl tail) : ∀ p ∈ tail, p.1 ≠ dl := fun p hp => Nat.ne_of_gt (Nat.lt_trans o.d (o.t p hp))
theorem Ord.off_wl {sd rl rd dl wl : Addr} {tail : List (Addr × Obj)} (o : Ord sd rl rd dl wl tail) : ∀ p ∈ tail, p.1 ≠ wl := fun p hp => Nat.ne_of_gt (o.t p hp)
theorem Ord.off {sd rl rd dl wl : Addr} {tail : List (Addr × Obj)} (o : Ord sd rl rd dl wl tail) {r x y : Obj} : ∀ p ∈ (rd, r) :: (dl, x) :: (wl, y) :: tail, p.1 ≠ sd := fun p hp => by
  have h1 := o.a; have h2 := o.c; have h3 := o.d
  rcases List.mem_cons.mp hp with rfl | hp
  · exact Nat.ne_of_gt h1
  rcases List.mem_cons.mp hp with rfl | hp
  · exact Nat.ne_of_gt (Nat.lt_trans h1 h2)
  rcases List.mem_cons.mp hp with rfl | hp
  · exact Nat.ne_of_gt (Nat.lt_trans h1 (Nat.lt_trans h2 h3))
  · exact o.off_sd p hp
theorem Ord.more {sd rl rd dl wl : Addr} {tail : List (Addr × Obj)} (o : Ord sd rl rd dl wl tail) {q : Addr × Obj} (h : @LT.lt Nat _ wl q.1) : Ord sd rl rd dl wl (q :: tail) :=
  ⟨o.a, o.b, o.c, o.d, o.e, fun p hp => (List.mem_cons.mp hp).elim (fun e => e ▸ h) (o.t p)⟩
theorem news_rest {h₀ h : Heap} {L : Addr} {x : Addr × Obj} {l : List (Addr × Obj)} (N : News h₀ L h (x :: l)) : News h₀ L h l := fun p hp => N p (.tail _ hp)
theorem news_rot {h₀ h : Heap} {L : Addr} {x a b c d e : Addr × Obj} {l : List (Addr × Obj)} (N : News h₀ L h (x :: a :: b :: c :: d :: e :: l)) : News h₀ L h (a :: b :: c :: d :: e :: x :: l) := fun p hp => by
  apply N
  simp only [List.mem_cons] at hp ⊢
  rcases hp with h | h | h | h | h | h | h <;> simp [h]
abbrev LawSt (sd rl rd dl wl : Addr) (vs : List Value) (cc : Nat) (os orow : Obj) (D W : Array Value) (cd cw : Nat) (tail : List (Addr × Obj)) : List (Addr × Obj) :=
  (sd, os) :: (rl, PySem.W.listOf vs.toArray cc) :: (rd, orow) :: (dl, PySem.W.listOf D cd) :: (wl, PySem.W.listOf W cw) :: tail
section
variable {prog : Program} {w : World} {A : Around} {E : Value → Shared → Prop} {s : Shared} {Q : Value → Shared → Prop}
theorem menu_item {value slice : PySem.Expr} {a : Addr} {vs : List Value} {l : List Str} {r : Int} {u : Tok} (hl : s.heap.IsList a vs.toArray) (e : textsIn vs = l) (hn : vs.length = l.length) (h0 : 0 ≤ r) (h1 : r < (l.length : Int)) (h2 : l.length ≤ 100)
    (q : ∀ S t, S ∈ l → Q (.str S t) s)
    (hs : subscripted slice false (.ref a) (.int r u) = operate [.ref a, .int r u] (getItem (.ref a) (.int r u)) := by with_unfolding_all rfl) (hg : ∀ r, letTemporaryGo value (.ref a) r = pure () := by intro _; with_unfolding_all rfl) :
    wpAny (model prog w) A (subscriptTail value slice (.ref a) (.int r u)) Q E s := by
  have hlt : r.toNat < vs.length := by omega
  obtain ⟨S, t, hS, hv⟩ := texts_at (vs := vs) e hn (k := r.toNat) (v := vs[r.toNat]) (List.getElem?_eq_getElem hlt)
  refine item_list hl h0 (by omega) (x := .str S t) (by simp [hlt, hv]) (q S t (List.mem_of_getElem? hS)) hs hg
theorem letter_item {value slice : PySem.Expr} {x : Str} {t : Tok} {r : Int} {u : Tok} (h0 : 0 ≤ r) (h1 : r < (x.length : Int)) (h2 : x.length ≤ 100)
    (q : ∀ c t', c ∈ x.cps.toList → Q (.str ⟨#[c]⟩ t') { s with toks := s.toks + 1 })
    (hs : subscripted slice false (.str x t) (.int r u) = operate [.str x t, .int r u] (getItem (.str x t) (.int r u)) := by with_unfolding_all rfl)
    (ht : ∀ r, letTemporaryGo value (.str x t) r = pure () := by intro _; with_unfolding_all rfl) :
    wpAny (model prog w) A (subscriptTail value slice (.str x t) (.int r u)) Q E s := by
  have hlen : x.length = x.cps.size := rfl
  have hlt : r.toNat < x.cps.size := by omega
  have hA : At x 0 x.cps.toList := by unfold At; simp
  refine item_at (k := r.toNat) (c := x.cps[r.toNat]) hA (by simp [hlt]) (by omega) (by omega) (q _ _ (by simp)) hs ht
end
theorem digit_text {r : Int} (h0 : 0 ≤ r) (h1 : r < 10) : Str.ofString (toString r) = ⟨#[48 + r.toNat]⟩ := by
  have : ∀ d : Fin 10, Str.ofString (toString ((d.val : Nat) : Int)) = ⟨#[48 + d.val]⟩ := by decide +kernel
  have q := this ⟨r.toNat, by omega⟩
  have e : ((r.toNat : Nat) : Int) = r := by omega
  simp only at q
  rw [e] at q
  exact q
theorem gap_small {S : Str} (h : S ∈ [Str.ofString "", Str.ofString " ", Str.ofString "\n", Str.ofString " # $) '\n"]) : S.length ≤ 20 := by
  have : ∀ S ∈ [Str.ofString "", Str.ofString " ", Str.ofString "\n", Str.ofString " # $) '\n"], S.length ≤ 20 := by decide +kernel
  exact this S h
abbrev gapsL : List Str := [Str.ofString "", Str.ofString " ", Str.ofString "\n", Str.ofString " # $) '\n"]
abbrev aheadL : List Str := [Str.ofString "", Str.ofString " "]
abbrev afterL : List Str := [Str.ofString "", Str.ofString "\n "]
def marksL : List Str := [Str.ofString "=", Str.ofString "|", Str.ofString "||", Str.ofString "|=", Str.ofString "+", Str.ofString "&", Str.ofString "==", Str.ofString "<=>", Str.ofString "||=", Str.ofString "-"]
/-- one statement's choices -/
structure Stm where
  G : Str
  c : Nat
  M : Str
  A : Str
  r : Int
  F : Str
structure Stm.Ok (t : Stm) : Prop where
  g : t.G ∈ gapsL
  c : t.c ∈ (Str.ofString "&`'+!@/\\,;.\"|").cps.toList
  m : t.M ∈ marksL
  a : t.A ∈ aheadL
  r0 : 0 ≤ t.r
  r1 : t.r < 10
  f : t.F ∈ afterL
abbrev app1 (X : Str) (t : Stm) : Str := X ++ t.G
abbrev app2 (X : Str) (t : Stm) : Str := X ++ t.G ++ (Str.ofString "$" ++ ⟨#[t.c]⟩) ++ t.A
abbrev app3 (X : Str) (t : Stm) : Str := X ++ t.G ++ (Str.ofString "$" ++ ⟨#[t.c]⟩) ++ t.A ++ t.M ++ t.F
abbrev app4 (X : Str) (t : Stm) : Str := X ++ t.G ++ (Str.ofString "$" ++ ⟨#[t.c]⟩) ++ t.A ++ t.M ++ t.F ++ Str.ofString (toString t.r) ++ Str.ofString ""
abbrev app (X : Str) (t : Stm) : Str := X ++ t.G ++ (Str.ofString "$" ++ ⟨#[t.c]⟩) ++ t.A ++ t.M ++ t.F ++ Str.ofString (toString t.r) ++ Str.ofString "" ++ Str.ofString ";"
structure TokD where
  kind : Str
  V : PyData
  p : Nat
  gb : Bool
  wants : Bool
def toksOf (X : Str) (t : Stm) : List TokD :=
  [⟨Str.ofString "var", PairData t.c, (app1 X t).length, t.G != Str.ofString "", true⟩, ⟨Str.ofString "op", .str t.M, (app2 X t).length, t.A != Str.ofString "", false⟩,
   ⟨Str.ofString "num", .int t.r, (app3 X t).length, t.F != Str.ofString "", true⟩, ⟨Str.ofString "op", .str (Str.ofString ";"), (app4 X t).length, Str.ofString "" != Str.ofString "", false⟩]
def DueAt (tail : List (Addr × Obj)) (v : Value) (k : TokD) : Prop :=
  ∃ (a : Addr) (t1 t2 : Tok) (u : Value), v = .ref a ∧ (a, ({ cls := .type "tuple", data := .seq #[.str k.kind t1, u, .int (k.p : Nat) t2, .bool k.gb] } : Obj)) ∈ tail ∧ ∃ (a1 : Addr) (o1 : Obj), (a1, o1) ∈ tail ∧ o1.cls = .type "tuple" ∧ VOk u k.V a1 o1
def Dues (tail : List (Addr × Obj)) (D : List Value) (ts : List TokD) : Prop :=
  D.length = ts.length ∧ ∀ (k : Nat) (v : Value) (t : TokD), D[k]? = some v → ts[k]? = some t → DueAt tail v t
theorem due_at {tail : List (Addr × Obj)} {a a1 : Addr} {t1 t2 : Tok} {u : Value} {kind : Str} {V : PyData} {p : Nat} {gb wt : Bool} {o1 : Obj}
    (m1 : (a, ({ cls := .type "tuple", data := .seq #[.str kind t1, u, .int (p : Nat) t2, .bool gb] } : Obj)) ∈ tail) (m2 : (a1, o1) ∈ tail) (hc : o1.cls = .type "tuple") (h : VOk u V a1 o1) : DueAt tail (.ref a) ⟨kind, V, p, gb, wt⟩ :=
  ⟨a, t1, t2, u, rfl, m1, a1, o1, m2, hc, h⟩
theorem vok_pair' {a1 : Addr} {c : Nat} {t3 t4 : Tok} : VOk (.ref a1) (PairData c) a1 { cls := .type "tuple", data := .seq #[.str (Str.ofString "$") t3, .str ⟨#[c]⟩ t4] } := fun h e =>
  .tuple e rfl rfl (.cons (.str _ _) (.cons (.str _ _) .nil))
theorem due_var {tail : List (Addr × Obj)} {a a1 : Addr} {t1 t2 t3 t4 : Tok} {kind : Str} {c : Nat} {p : Nat} {gb wt : Bool}
    (m1 : (a, ({ cls := .type "tuple", data := .seq #[.str kind t1, .ref a1, .int (p : Nat) t2, .bool gb] } : Obj)) ∈ tail) (m2 : (a1, ({ cls := .type "tuple", data := .seq #[.str (Str.ofString "$") t3, .str ⟨#[c]⟩ t4] } : Obj)) ∈ tail) : DueAt tail (.ref a) ⟨kind, PairData c, p, gb, wt⟩ :=
  due_at m1 m2 rfl vok_pair'
theorem due_str {tail : List (Addr × Obj)} {a : Addr} {t1 t2 t3 : Tok} {kind x : Str} {p : Nat} {gb wt : Bool}
    (m1 : (a, ({ cls := .type "tuple", data := .seq #[.str kind t1, .str x t3, .int (p : Nat) t2, .bool gb] } : Obj)) ∈ tail) : DueAt tail (.ref a) ⟨kind, .str x, p, gb, wt⟩ := due_at m1 m1 rfl fun _ _ => .str _ _
theorem due_int {tail : List (Addr × Obj)} {a : Addr} {t1 t2 t3 : Tok} {kind : Str} {x : Int} {p : Nat} {gb wt : Bool}
    (m1 : (a, ({ cls := .type "tuple", data := .seq #[.str kind t1, .int x t3, .int (p : Nat) t2, .bool gb] } : Obj)) ∈ tail) : DueAt tail (.ref a) ⟨kind, .int x, p, gb, wt⟩ := due_at m1 m1 rfl fun _ _ => .int _ _
theorem len4 {a b c d e : Str} (h4 : e.length ≤ d.length + 40) (h3 : d.length ≤ c.length + 40) (h2 : c.length ≤ b.length + 40) (h1 : b.length ≤ a.length + 40) : e.length ≤ a.length + 160 := by omega
theorem DueAt.mono {tail tail' : List (Addr × Obj)} (s : ∀ p ∈ tail, p ∈ tail') {v : Value} {k : TokD} (h : DueAt tail v k) : DueAt tail' v k := by
  obtain ⟨a, t1, t2, u, e, h1, a1, o1, h2, hc, h3⟩ := h
  exact ⟨a, t1, t2, u, e, s _ h1, a1, o1, s _ h2, hc, h3⟩
theorem Dues.mono {tail tail' : List (Addr × Obj)} (s : ∀ p ∈ tail, p ∈ tail') {D : List Value} {ts : List TokD} (h : Dues tail D ts) : Dues tail' D ts := ⟨h.1, fun k v t a b => (h.2 k v t a b).mono s⟩
theorem push4 {D : Array Value} {a b c d : Value} : ((((D.push a).push b).push c).push d).toList = D.toList ++ [a, b, c, d] := by simp
theorem Dues.nil {tail : List (Addr × Obj)} : Dues tail [] [] := ⟨rfl, fun _ _ _ h => by simp at h⟩
theorem Dues.cons {tail : List (Addr × Obj)} {v : Value} {t : TokD} {D : List Value} {ts : List TokD} (h : DueAt tail v t) (r : Dues tail D ts) : Dues tail (v :: D) (t :: ts) := ⟨by simp [r.1], fun k v' t' a b => by
  cases k with
  | zero => simp at a b; subst a; subst b; exact h
  | succ k => exact r.2 k v' t' (by simpa using a) (by simpa using b)⟩
theorem Dues.append {tail : List (Addr × Obj)} : ∀ {D D' : List Value} {ts ts' : List TokD}, Dues tail D ts → Dues tail D' ts' → Dues tail (D ++ D') (ts ++ ts')
  | [], D', [], ts', _, h => h
  | [], _, _ :: _, _, h, _ => by have := h.1; simp at this
  | _ :: _, _, [], _, h, _ => by have := h.1; simp at this
  | v :: D, D', t :: ts, ts', h, h' => by
    refine Dues.cons (h.2 0 v t rfl rfl) (Dues.append ⟨by simpa using h.1, fun k v' t' a b => h.2 (k + 1) v' t' (by simpa using a) (by simpa using b)⟩ h')
/-- the tuples of a ledger alone -/
def isTupObj (o : Obj) : Bool := match o.cls with | .type c => c == "tuple" | _ => false
theorem isTupObj_of {o : Obj} (h : o.cls = .type "tuple") : isTupObj o = true := by unfold isTupObj; rw [h]; rfl
theorem isTupObj_it {a b : Int} : isTupObj (itR a b) = false := by
  have : (("range_iterator" : String) == "tuple") = false := by decide
  exact this
def tups (tail : List (Addr × Obj)) : List (Addr × Obj) := tail.filter fun p => isTupObj p.2
theorem tups_sub {tail : List (Addr × Obj)} : ∀ p ∈ tups tail, p ∈ tail := fun p hp => (List.mem_filter.mp hp).1
theorem mem_tups {tail : List (Addr × Obj)} {p : Addr × Obj} (h : p ∈ tail) (hc : p.2.cls = .type "tuple") : p ∈ tups tail := List.mem_filter.mpr ⟨h, isTupObj_of hc⟩
theorem Dues.tups {tail : List (Addr × Obj)} {D : List Value} {ts : List TokD} (h : Dues tail D ts) : Dues (tups tail) D ts := ⟨h.1, fun k v t x y => by
  obtain ⟨a, t1, t2, u, e, h1, a1, o1, h2, hc, h3⟩ := h.2 k v t x y
  exact ⟨a, t1, t2, u, e, mem_tups h1 rfl, a1, o1, mem_tups h2 hc, hc, h3⟩⟩
theorem Ord.tups {sd rl rd dl wl : Addr} {tail : List (Addr × Obj)} (o : Ord sd rl rd dl wl tail) : Ord sd rl rd dl wl (tups tail) := ⟨o.a, o.b, o.c, o.d, o.e, fun p hp => o.t p (tups_sub p hp)⟩
theorem tups_off {h : Heap} {I : Addr} {tail : List (Addr × Obj)} {a b : Int} (N : ∀ p ∈ tail, h.get? p.1 = some p.2) (hI : h.get? I = some (itR a b)) : ∀ p ∈ tups tail, p.1 ≠ I := fun p hp e => by
  have h1 := N p (tups_sub p hp)
  have h2 := (List.mem_filter.mp hp).2
  rw [e, hI] at h1
  have h3 := Option.some.inj h1
  rw [← h3] at h2
  rw [isTupObj_it] at h2
  cases h2
/-- the text and the tokens of a row of statements -/
def allToks : Str → List Stm → List TokD
  | _, [] => []
  | X, t :: r => toksOf X t ++ allToks (app X t) r
theorem allToks_snoc : ∀ (sts : List Stm) (X : Str) (t : Stm), allToks X (sts ++ [t]) = allToks X sts ++ toksOf (sts.foldl app X) t
  | [], X, t => by simp [allToks]
  | s :: r, X, t => by
    have := allToks_snoc r (app X s) t
    simp only [List.cons_append, allToks, List.foldl_cons, this, List.append_assoc]
theorem allToks_len : ∀ (sts : List Stm) (X : Str), (allToks X sts).length = 4 * sts.length
  | [], _ => rfl
  | s :: r, X => by
    have := allToks_len r (app X s)
    simp only [allToks, List.length_append, this, List.length_cons, toksOf, List.length_nil]
    omega
/-- what the law has built after i statements -/
structure Built (w : World) (sd rl rd dl wl : Addr) (vs : List Value) (cc : Nat) (i : Nat) (news : List (Addr × Obj)) (sts : List Stm) : Prop where
  ex : ∃ (os orow : Obj) (D W : Array Value) (cd cw : Nat) (tail : List (Addr × Obj)) (k : Int), news = LawSt sd rl rd dl wl vs cc os orow D W cd cw tail ∧ SaltOk w os rl k ∧ 0 ≤ k ∧ k ≤ 1 + 8 * (i : Int) ∧
    RowOk w orow (sts.foldl app (Str.ofString "")) dl wl ∧ (sts.foldl app (Str.ofString "")).length ≤ 160 * i ∧ Ord sd rl rd dl wl tail ∧ Dues tail D.toList (allToks (Str.ofString "") sts) ∧ W.toList = (allToks (Str.ofString "") sts).map fun q => Value.bool q.wants
  len : sts.length = i
  ok : ∀ t ∈ sts, t.Ok
  first : ∀ t, sts.head? = some t → t.G = Str.ofString ""
section
variable {prog : Program} {w : World} {A : Around} {E : Value → Shared → Prop} {s : Shared} {env : Env} {h₀ : Heap} {x : Str} {body : List Stmt} {Q : Flow → Shared → Prop}
def JPost (h₀ : Heap) (L : Addr) (s : Shared) (I : Addr) (it : Obj) (J : (Str → Option Value) → List (Addr × Obj) → Prop) (Q : Flow → Shared → Prop) (f : Flow) (s₂ : Shared) : Prop :=
  match f with
  | .ret v => Q (.ret v) s₂
  | .brk => Q .next s₂
  | _ => ∃ h' tk m' news', s₂ = { s with heap := h', toks := tk } ∧ Fr h₀ L h' m' ∧ News h₀ L h' ((I, it) :: news') ∧ (∀ p ∈ news', p.1 ≠ I) ∧ J m' news'
theorem jpost_next {L : Addr} {I : Addr} {it : Obj} {J : (Str → Option Value) → List (Addr × Obj) → Prop} {h' : Heap} {tk : Nat} {m' : Str → Option Value} {news' : List (Addr × Obj)} (F : Fr h₀ L h' m') (N : News h₀ L h' ((I, it) :: news')) (off : ∀ p ∈ news', p.1 ≠ I) (j : J m' news') :
    JPost h₀ L s I it J Q .next { s with heap := h', toks := tk } := ⟨h', tk, m', news', rfl, F, N, off, j⟩
theorem iter_rangeJ {r : Addr} {a₀ b₀ : Int} {t₀ u₀ v₀ : Tok} {n : Nat} {m₀ : Str → Option Value} {news : List (Addr × Obj)} (J : Nat → (Str → Option Value) → List (Addr × Obj) → Prop)
    (hh : A.handled = none) (hr : IsRange s.heap r a₀ b₀ 1 t₀ u₀ v₀) (hsmall : Builtin.Range.small a₀ b₀ 1 = true) (hn : Builtin.Range.rangeSize a₀ b₀ 1 = (n : Int)) (F : Fr h₀ env.locals s.heap m₀) (N : News h₀ env.locals s.heap news) (h0 : J 0 m₀ news)
    (turn : ∀ I i m₁ news₁ t h tk, i < n → (∀ p ∈ news, p.1 < I) → J i m₁ news₁ → Fr h₀ env.locals h (fun y => if y = x then some (.int (a₀ + (i : Int)) t) else m₁ y) →
      News h₀ env.locals h ((I, itR (a₀ + ((i + 1 : Nat) : Int)) ((n : Int) - ((i + 1 : Nat) : Int))) :: news₁) →
      wpAny (model prog w) A (execs body env) (JPost h₀ env.locals { s with heap := h, toks := tk } I (itR (a₀ + ((i + 1 : Nat) : Int)) ((n : Int) - ((i + 1 : Nat) : Int))) (J (i + 1)) Q) E { s with heap := h, toks := tk })
    (done : ∀ m₁ news₁ h tk, J n m₁ news₁ → Fr h₀ env.locals h m₁ → News h₀ env.locals h news₁ → Q .next { s with heap := h, toks := tk }) :
    wpAny (model prog w) A (pyIter (.ref r)) (fun it s₂ => LoopAtV prog w A h₀ env x body Q E it s₂) E s := by
  refine iter_rangeUnr hh hr hsmall hn F N (fun I hI => ?_)
  have H : ∀ k i m₁ news₁, k + i = n → J i m₁ news₁ → RangeRest prog w A E h₀ env x body Q s I a₀ n k i m₁ news₁ := by
    intro k
    induction k with
    | zero =>
      intro i m₁ news₁ e hJ
      have : i = n := by omega
      subst this
      exact RangeRest.zero fun h tk F₁ N₁ => done m₁ news₁ h tk hJ F₁ N₁
    | succ k ih =>
      intro i m₁ news₁ e hJ
      refine RangeRest.succ fun t h tk F₁ N₁ => wpAny_mono (turn I i m₁ news₁ t h tk (by omega) hI hJ F₁ N₁) (fun f s₂ p => ?_) fun _ _ e => e
      cases f with
      | ret v => exact p
      | brk => exact p
      | next =>
        obtain ⟨h', tk', m', news', rfl, F', N', off, hJ'⟩ := p
        exact ⟨h', tk', m', news', rfl, F', N', off, ih (i + 1) m' news' (by omega) hJ'⟩
      | cont =>
        obtain ⟨h', tk', m', news', rfl, F', N', off, hJ'⟩ := p
        exact ⟨h', tk', m', news', rfl, F', N', off, ih (i + 1) m' news' (by omega) hJ'⟩
  exact H n 0 m₀ news rfl h0
theorem foldl_snoc {sts : List Stm} {X : Str} {t : Stm} : (sts ++ [t]).foldl app X = app (sts.foldl app X) t := by simp
theorem iter_build {sd rl rd dl wl r : Addr} {vs : List Value} {cc c1 c2 n : Nat} {os orow : Obj} {b₀ : Int} {t₀ u₀ v₀ : Tok} {m₀ : Str → Option Value}
    (hh : A.handled = none) (hr : IsRange s.heap r 0 b₀ 1 t₀ u₀ v₀) (hsmall : Builtin.Range.small 0 b₀ 1 = true) (hn : Builtin.Range.rangeSize 0 b₀ 1 = (n : Int)) (F : Fr h₀ env.locals s.heap m₀)
    (N : News h₀ env.locals s.heap (LawSt sd rl rd dl wl vs cc os orow #[] #[] c1 c2 [])) (hs : SaltOk w os rl 1) (hrow : RowOk w orow (Str.ofString "") dl wl) (O : Ord sd rl rd dl wl [])
    (turn : ∀ (I : Addr) (i : Nat) (t : Tok) (h : Heap) (tk : Nat) (os orow : Obj) (D W : Array Value) (cd cw : Nat) (tail : List (Addr × Obj)) (k : Int) (X : Str) (it : Obj) (JP : Flow → Shared → Prop), i < n → @LT.lt Nat _ wl I → SaltOk w os rl k → 0 ≤ k → k ≤ 1 + 8 * (i : Int) → RowOk w orow X dl wl →
      X.length ≤ 160 * i → Ord sd rl rd dl wl tail → D.size = 4 * i → W.size = 4 * i → Fr h₀ env.locals h (fun y => if y = x then some (.int (0 + (i : Int)) t) else m₀ y) → News h₀ env.locals h ((I, it) :: LawSt sd rl rd dl wl vs cc os orow D W cd cw tail) →
      (∀ (t9 : Stm) (k' : Int) (h' : Heap) (tk' : Nat) (os' orow' : Obj) (D' W' : Array Value) (cd' cw' : Nat) (tail' : List (Addr × Obj)) (ds : List Value) (m' : Str → Option Value), t9.Ok → (i = 0 → t9.G = Str.ofString "") → k' ≤ k + 8 → 0 ≤ k' → Fr h₀ env.locals h' m' → (∀ z, z ≠ x → m' z = m₀ z) →
        News h₀ env.locals h' (LawSt sd rl rd dl wl vs cc os' orow' D' W' cd' cw' tail') → SaltOk w os' rl k' → RowOk w orow' (app X t9) dl wl → (app X t9).length ≤ X.length + 160 → Ord sd rl rd dl wl tail' → (∀ p ∈ (I, it) :: tail, p ∈ tail') →
        D'.toList = D.toList ++ ds → W'.toList = W.toList ++ (toksOf X t9).map (fun q => .bool q.wants) → Dues tail' ds (toksOf X t9) → JP .next { s with heap := h', toks := tk' }) →
      wpAny (model prog w) A (execs body env) JP E { s with heap := h, toks := tk })
    (done : ∀ (h : Heap) (tk : Nat) (m₁ : Str → Option Value) (os orow : Obj) (D W : Array Value) (cd cw : Nat) (tail : List (Addr × Obj)) (k : Int) (sts : List Stm), sts.length = n → (∀ t ∈ sts, t.Ok) → (∀ t, sts.head? = some t → t.G = Str.ofString "") → (∀ z, z ≠ x → m₁ z = m₀ z) → SaltOk w os rl k → 0 ≤ k → k ≤ 1 + 8 * (n : Int) →
      RowOk w orow (sts.foldl app (Str.ofString "")) dl wl → (sts.foldl app (Str.ofString "")).length ≤ 160 * n → Ord sd rl rd dl wl tail → Dues tail D.toList (allToks (Str.ofString "") sts) → W.toList = ((allToks (Str.ofString "") sts).map fun q => Value.bool q.wants) →
      Fr h₀ env.locals h m₁ → News h₀ env.locals h (LawSt sd rl rd dl wl vs cc os orow D W cd cw tail) → Q .next { s with heap := h, toks := tk }) :
    wpAny (model prog w) A (pyIter (.ref r)) (fun it s₂ => LoopAtV prog w A h₀ env x body Q E it s₂) E s := by
  refine iter_rangeJ (fun i m news => (∀ z, z ≠ x → m z = m₀ z) ∧ ∃ sts, Built w sd rl rd dl wl vs cc i news sts) hh hr hsmall hn F N ⟨fun _ _ => rfl, [], ⟨⟨os, orow, #[], #[], c1, c2, [], 1, rfl, hs, by decide, by decide, hrow, by decide +kernel, O, Dues.nil, rfl⟩, rfl, fun _ h => (nomatch h), fun _ h => (nomatch h)⟩⟩ ?_ ?_
  · rintro I i m₁ news₁ t h tk hi hI ⟨hm, sts, ⟨⟨os, orow, D, W, cd, cw, tail, k, rfl, hS, hk0, hk1, hR, hX, hO, hD, hW⟩, hl, hok, hf⟩⟩ F₁ N₁
    have F₂ : Fr h₀ env.locals h (fun y => if y = x then some (.int (0 + (i : Int)) t) else m₀ y) := by
      have e : (fun y => if y = x then some (Value.int (0 + (i : Int)) t) else m₀ y) = (fun y => if y = x then some (.int (0 + (i : Int)) t) else m₁ y) := by
        funext y
        by_cases h1 : y = x
        · simp [h1]
        · simp only [if_neg h1]; exact (hm y h1).symm
      rw [e]; exact F₁
    have hDs : D.size = 4 * i := by have := hD.1; rw [allToks_len, hl] at this; simpa using this
    have hWs : W.size = 4 * i := by have := congrArg List.length hW; simp only [List.length_map, allToks_len, hl] at this; simpa using this
    have hwl : @LT.lt Nat _ wl I := hI (wl, _) (.tail _ (.tail _ (.tail _ (.tail _ (.head _)))))
    refine turn I i t h tk os orow D W cd cw tail k _ _ _ hi hwl hS hk0 hk1 hR hX hO hDs hWs F₂ N₁ ?_
    intro t9 k' h' tk' os' orow' D' W' cd' cw' tail' ds m' ok9 f9 k1 k2 F3 hm' N3 S3 R3 z3 O3 sub hD3 hW3 due3
    have hIt : ((I, itR (0 + ((i + 1 : Nat) : Int)) ((n : Int) - ((i + 1 : Nat) : Int))) : Addr × Obj) ∈ tail' := sub _ (.head _)
    have hIget := (N3 _ (List.mem_cons_of_mem _ (List.mem_cons_of_mem _ (List.mem_cons_of_mem _ (List.mem_cons_of_mem _ (List.mem_cons_of_mem _ hIt)))))).1
    have hsub : ∀ p ∈ tail, p ∈ tail' := fun p hp => sub p (.tail _ hp)
    have hget : ∀ p ∈ tail', h'.get? p.1 = some p.2 := fun p hp => (N3 p (List.mem_cons_of_mem _ (List.mem_cons_of_mem _ (List.mem_cons_of_mem _ (List.mem_cons_of_mem _ (List.mem_cons_of_mem _ hp)))))).1
    have hoff := tups_off hget hIget
    have oa := O3.a; have ob := O3.b; have oc := O3.c; have od := O3.d
    refine jpost_next F3 (news' := LawSt sd rl rd dl wl vs cc os' orow' D' W' cd' cw' (tups tail')) ?_ ?_ ⟨hm', sts ++ [t9], ⟨⟨os', orow', D', W', cd', cw', tups tail', k', rfl, S3, k2, by push_cast; omega, by rw [foldl_snoc]; exact R3, by rw [foldl_snoc]; omega, O3.tups, ?_, ?_⟩, by simp [hl], ?_, ?_⟩⟩
    · intro p hp
      rcases List.mem_cons.mp hp with rfl | hp
      · exact N3 _ (List.mem_cons_of_mem _ (List.mem_cons_of_mem _ (List.mem_cons_of_mem _ (List.mem_cons_of_mem _ (List.mem_cons_of_mem _ hIt)))))
      · apply N3
        simp only [LawSt, List.mem_cons] at hp ⊢
        rcases hp with h1 | h1 | h1 | h1 | h1 | h1
        · simp [h1]
        · simp [h1]
        · simp [h1]
        · simp [h1]
        · simp [h1]
        · exact .inr (.inr (.inr (.inr (.inr (tups_sub p h1)))))
    · intro p hp
      simp only [LawSt, List.mem_cons] at hp
      rcases hp with h1 | h1 | h1 | h1 | h1 | h1
      · subst h1; exact Nat.ne_of_lt (Nat.lt_trans oa (Nat.lt_trans oc (Nat.lt_trans od hwl)))
      · subst h1; exact Nat.ne_of_lt (Nat.lt_trans ob (Nat.lt_trans oc (Nat.lt_trans od hwl)))
      · subst h1; exact Nat.ne_of_lt (Nat.lt_trans oc (Nat.lt_trans od hwl))
      · subst h1; exact Nat.ne_of_lt (Nat.lt_trans od hwl)
      · subst h1; exact Nat.ne_of_lt hwl
      · exact hoff p h1
    · rw [allToks_snoc, hD3]
      exact ((hD.mono hsub).append due3).tups
    · rw [allToks_snoc, hW3, hW, List.map_append]
    · intro q hq
      rcases List.mem_append.mp hq with h1 | h1
      · exact hok q h1
      · rw [List.mem_singleton.mp h1]; exact ok9
    · intro q hq
      cases sts with
      | nil => simp at hq; subst hq; exact f9 (by simpa using hl.symm)
      | cons s0 r0 => simp at hq; subst hq; exact hf _ rfl
  · rintro m₁ news₁ h tk ⟨hm, sts, ⟨⟨os, orow, D, W, cd, cw, tail, k, rfl, hS, hk0, hk1, hR, hX, hO, hD, hW⟩, hl, hok, hf⟩⟩ F₁ N₁
    exact done h tk m₁ os orow D W cd cw tail k sts hl hok hf hm hS hk0 hk1 hR hX hO hD hW F₁ N₁
end
section SLT
open PySem.Spec PySem.SeqAt
theorem news_rot3 {h₀ h : Heap} {L : Addr} {x a b c : Addr × Obj} {l : List (Addr × Obj)} (N : News h₀ L h (x :: a :: b :: c :: l)) : News h₀ L h (a :: b :: c :: x :: l) := fun p hp => by
  apply N
  simp only [List.mem_cons] at hp ⊢
  rcases hp with h | h | h | h | h <;> simp [h]
section
variable {prog : Program} {w : World} {A : Around} {E : Value → Shared → Prop} {s : Shared} {env : Env} {h₀ : Heap} {x : Str} {body : List Stmt} {Q : Flow → Shared → Prop}
theorem iter_tokens {T : Str} {lx dx jx hx r : Addr} {oj : Obj} {k1 k2 k3 k4 tT ti : Tok} {rest : List (Addr × Obj)} {n : Nat} {b₀ : Int} {t₀ u₀ v₀ : Tok} {m₀ : Str → Option Value} (pos : Nat → Int)
    (hh : A.handled = none) (hr : IsRange s.heap r 0 b₀ 1 t₀ u₀ v₀) (hsmall : Builtin.Range.small 0 b₀ 1 = true) (hn : Builtin.Range.rangeSize 0 b₀ 1 = (n : Int)) (F : Fr h₀ env.locals s.heap m₀)
    (N : News h₀ env.locals s.heap (LexSt w T (pos 0) lx dx jx hx oj k1 k2 k3 k4 tT ti rest)) (off : ∀ p ∈ rest, p.1 ≠ dx)
    (turn : ∀ (I : Addr) (i : Nat) (t : Tok) (h : Heap) (tk : Nat) (ti : Tok) (it : Obj) (JP : Flow → Shared → Prop), i < n → (∀ p ∈ (I, it) :: rest, p.1 ≠ dx) → Fr h₀ env.locals h (fun y => if y = x then some (.int (0 + (i : Int)) t) else m₀ y) →
      News h₀ env.locals h ((I, it) :: LexSt w T (pos i) lx dx jx hx oj k1 k2 k3 k4 tT ti rest) →
      (∀ (h' : Heap) (tk' : Nat) (ti' : Tok) (m' : Str → Option Value) (a b : Addr × Obj), Fr h₀ env.locals h' m' → (∀ z, z ≠ x → m' z = m₀ z) → News h₀ env.locals h' (a :: b :: LexSt w T (pos (i + 1)) lx dx jx hx oj k1 k2 k3 k4 tT ti' ((I, it) :: rest)) → JP .next { s with heap := h', toks := tk' }) →
      wpAny (model prog w) A (execs body env) JP E { s with heap := h, toks := tk })
    (done : ∀ (h : Heap) (tk : Nat) (m₁ : Str → Option Value) (ti : Tok), (∀ z, z ≠ x → m₁ z = m₀ z) → Fr h₀ env.locals h m₁ → News h₀ env.locals h (LexSt w T (pos n) lx dx jx hx oj k1 k2 k3 k4 tT ti rest) → Q .next { s with heap := h, toks := tk }) :
    wpAny (model prog w) A (pyIter (.ref r)) (fun it s₂ => LoopAtV prog w A h₀ env x body Q E it s₂) E s := by
  refine iter_rangeJ (fun i m news => (∀ z, z ≠ x → m z = m₀ z) ∧ ∃ ti, news = LexSt w T (pos i) lx dx jx hx oj k1 k2 k3 k4 tT ti rest) hh hr hsmall hn F N ⟨fun _ _ => rfl, ti, rfl⟩ ?_ ?_
  · rintro I i m₁ news₁ t h tk hi hI ⟨hm, ti1, rfl⟩ F₁ N₁
    have F₂ : Fr h₀ env.locals h (fun y => if y = x then some (.int (0 + (i : Int)) t) else m₀ y) := by
      have e : (fun y => if y = x then some (Value.int (0 + (i : Int)) t) else m₀ y) = (fun y => if y = x then some (.int (0 + (i : Int)) t) else m₁ y) := by
        funext y
        by_cases h1 : y = x
        · simp [h1]
        · simp only [if_neg h1]; exact (hm y h1).symm
      rw [e]; exact F₁
    have hj : jx ≠ I := Nat.ne_of_lt (hI (jx, _) (.head _))
    have hl : lx ≠ I := Nat.ne_of_lt (hI (lx, _) (.tail _ (.head _)))
    have hd : @LT.lt Nat _ dx I := hI (dx, _) (.tail _ (.tail _ (.head _)))
    have hrI : ∀ p ∈ rest, p.1 ≠ I := fun p hp => Nat.ne_of_lt (hI p (.tail _ (.tail _ (.tail _ hp))))
    refine turn I i t h tk ti1 _ _ hi (fun p hp => ?_) F₂ N₁ ?_
    · rcases List.mem_cons.mp hp with rfl | hp
      · exact Nat.ne_of_gt hd
      · exact off p hp
    · intro h' tk' ti' m' a b F3 hm' N3
      refine jpost_next F3 (news' := LexSt w T (pos (i + 1)) lx dx jx hx oj k1 k2 k3 k4 tT ti' rest) ?_ ?_ ⟨hm', ti', rfl⟩
      · intro p hp
        apply N3
        simp only [LexSt, List.mem_cons] at hp ⊢
        rcases hp with h1 | h1 | h1 | h1 | h1 <;> simp [h1]
      · intro p hp
        simp only [LexSt, List.mem_cons] at hp
        rcases hp with h1 | h1 | h1 | h1
        · subst h1; exact hj
        · subst h1; exact hl
        · subst h1; exact Nat.ne_of_lt hd
        · exact hrI p h1
  · rintro m₁ news₁ h tk ⟨hm, ti1, rfl⟩ F₁ N₁
    exact done h tk m₁ ti1 hm F₁ N₁
theorem item_known {value slice : PySem.Expr} {l : Addr} {items : Array Value} {k : Int} {u : Tok} {v : Value} {Q : Value → Shared → Prop} (hl : s.heap.IsList l items) (h0 : 0 ≤ k) (hfit : k < 2 ^ 63) (hx : items[k.toNat]? = some v) (q : Q v s)
    (hs : subscripted slice false (.ref l) (.int k u) = operate [.ref l, .int k u] (getItem (.ref l) (.int k u)) := by with_unfolding_all rfl) :
    wpAny (model prog w) A (subscriptTail value slice (.ref l) (.int k u)) Q E s :=
  tail_any hl.typeIs slot_list_getitem.lookup (wpAny_getItem_list hl h0 hfit hx q) hs
theorem ne_due {kind : Str} {V : PyData} {a a1 : Addr} {o1 : Obj} {v dv : Value} {t1 t2 : Tok} {p : Int} {gb : Bool} {L : Addr} {news tail : List (Addr × Obj)} {k : TokD} {Q : Value → Shared → Prop}
    (N : News h₀ L s.heap news) (m1 : (a, ({ cls := .type "tuple", data := .seq #[.str kind t1, v, .int p t2, .bool gb] } : Obj)) ∈ news) (m2 : (a1, o1) ∈ news) (vo : VOk v V a1 o1) (hd : DueAt tail dv k) (hs : ∀ q ∈ tail, q ∈ news)
    (e1 : kind = k.kind) (e2 : V = k.V) (e3 : p = (k.p : Int)) (e4 : gb = k.gb) (hS : shaped (.tuple [.str k.kind, k.V, .int (k.p : Int), .bool k.gb]) = true) (hM : noMix (.tuple [.str k.kind, k.V, .int (k.p : Int), .bool k.gb]) (.tuple [.str k.kind, k.V, .int (k.p : Int), .bool k.gb]) = true)
    (hu : A.units + 64 < cLine) (q : Q (.bool false) s) : wpAny (model prog w) A (compareOp .NotEq (.ref a) dv) Q E s := by
  subst e1 e2 e3 e4
  obtain ⟨da, u1, u2, u, rfl, d1, b1, ob, d2, hc, vo2⟩ := hd
  have ra : Reads s.heap (.ref a) (.tuple [.str k.kind, k.V, .int (k.p : Int), .bool k.gb]) ([] ++ ([] ++ ([] ++ ([] ++ [])))) := .tuple (N _ m1).1 rfl rfl (.cons (.str _ _) (.cons (vo _ (N _ m2).1) (.cons (.int _ _) (.cons (.bool _) .nil))))
  have rb : Reads s.heap (.ref da) (.tuple [.str k.kind, k.V, .int (k.p : Int), .bool k.gb]) ([] ++ ([] ++ ([] ++ ([] ++ [])))) := .tuple (N _ (hs _ d1)).1 rfl rfl (.cons (.str _ _) (.cons (vo2 _ (N _ (hs _ d2)).1) (.cons (.int _ _) (.cons (.bool _) .nil))))
  refine ne_dataH_same ra rb hS hS hu hM ?_
  rw [PySem.Spec.same_self]
  exact q
end
end SLT
abbrev excObj (C t0 : Addr) (dx : Option Addr) : Obj := { cls := .ref C, dict := dx, data := .fields #[.ref t0, .none, .none, .none, .bool false, .none] }
section
variable {prog : Program} {w : World} {A : Around} {h : Heap} {g : Array GenState} {d : Drawn} {t : Nat} {os : OsState} {R : Result → Shared → Prop}
variable {nm q : Str} {C N : Addr} {bs bm bmB : List Value} {hdct : Bool} {sn : List Str} {sub : List Value} {ab : Bool} {col : Option Bool} {dd : Option Addr} {k0 k1 k2 k3 k5 : Option Value} {B newId initId : String}

theorem exc_new (F : ExcBaseFacts B newId initId bmB) {rest : List Value} (hC : h.get? C = some (excClassObj nm q C N bs bm hdct sn sub ab col dd k0 k1 k2 k3 k5 newId))
    (cB : bm.contains (.type B) = true) (cA : bm.contains (.type "AttributeError") = false) (cN : bm.contains (.type "NameError") = false) (hrest : rest.length ≤ sizeLine)
    (hq : R (.ok (.ret (.ref (h.objs.size + 1)))) ⟨(h.push ({ cls := .type "tuple", data := .seq rest.toArray } : Obj)).push (excObj C h.objs.size none), g, d, t, os⟩) :
    codeAny (model prog w) A (.call (.builtin newId) ⟨.ref C :: rest, []⟩) R ⟨h, g, d, t, os⟩ := by
  have hcB : (Value.ref C :: bm).contains (.type B) = true := by rw [List.contains_cons, cB, Bool.or_true]
  have hcA : (Value.ref C :: bm).contains (.type "AttributeError") = false := by rw [List.contains_cons, cA]; rfl
  have hcN : (Value.ref C :: bm).contains (.type "NameError") = false := by rw [List.contains_cons, cN]; rfl
  have hstar := F.noStar
  have hends := F.ends
  refine codeAny_call_builtin_code (Code.quiet_builtin _ F.quiet) ?_
  simp only [checkBuiltinCall, F.newKind, F.newSplit, F.newRow]
  repeat (first | refine wpAny_loadPart_at hC ?_ | (refine wpAny_isSubtype_exc hC ?_; rw [hcB]) | refine wpAny_staticBase_exc hC ?_ | refine wpAny_madeBy_exc hC ?_ | simp only [bne_self_eq_false, Bool.false_eq_true, if_false] | wp_step)
  refine codeAny_builtinAt F.entry ?_
  unfold Builtin.«BaseException.__new__»
  refine PySem.wpAt_bind ?_
  show PySem.wpAt _ _ _ (stack >>= _) _ _ _
  refine PySem.wpAt_bind (PySem.wpAt_stack fun p below => wpAt_of_wpAny ?_)
  wp_walk
  refine PySem.wpAt_of_wpAny ?_
  rw [F.owner]
  repeat (first | with_reducible refine wpAny_madeHere_exc F.canon hC ?_ | with_reducible refine wpAny_loadPart_at hC ?_ | (with_reducible refine wpAny_isSubtype_exc hC ?_; first | rw [hcB] | rw [hcA] | rw [hcN]) | wp_step)
  show R _ _
  rw [Heap.size_push]
  exact hq

theorem exc_make (F : ExcBaseFacts B newId initId bmB) {rest : List Value} {fI : Addr} (hC : h.get? C = some (excClassObj nm q C N bs bm hdct sn sub ab col dd k0 k1 k2 k3 k5 newId))
    (cB : bm.contains (.type B) = true) (cA : bm.contains (.type "AttributeError") = false) (cN : bm.contains (.type "NameError") = false) (hrest : rest.length ≤ sizeLine)
    (hI : Looks (model prog w) h (typeLookup (.ref C) "__init__") (some (.ref fI))) (hb : ∀ self, Looks (model prog w) h (bindSpecial (.ref fI) self) (.ref fI, [self]))
    (hq : codeAny (model prog w) (A.under (.builtin "type.__call__" ⟨.ref C :: rest, []⟩)) (.call (.ref fI) ⟨.ref (h.objs.size + 1) :: rest, []⟩) (InitBack (h.objs.size + 1) R)
      ⟨(h.push { cls := .type "tuple", data := .seq rest.toArray }).push (excObj C h.objs.size none), g, d, t, os⟩) :
    codeAny (model prog w) A (.call (.ref C) ⟨rest, []⟩) R ⟨h, g, d, t, os⟩ := by
  have f1 := tc_lookup
  have f2 := tc_bind (.ref C)
  have hT : (⟨h, g, d, t, os⟩ : Shared).TypeIs (.ref C) "type" := ⟨_, hC, rfl⟩
  refine codeAny_of_tree ?_
  show wpAny _ _ (callAny (.ref C) _) _ _ _
  repeat (any_goals (first | assumption | with_reducible refine wpAny_loadPart_at hC ?_ | wp_step))
  refine ⟨rfl, ?_⟩
  refine codeAny_call_builtin_at (Code.quiet_builtin _ (by decide +kernel)) entry_typeCall (wpAny_check_type_call_sub hC ?_)
  unfold Builtin.«type.__call__»
  repeat (first | with_reducible refine wpAny_loadPart_at hC ?_ | with_reducible refine wpAny_madeBy_exc hC ?_ | wp_step)
  refine exc_new F hC cB cA cN hrest ?_
  show wpAny _ _ _ _ _ _
  have k : ∀ b o, h.get? b = some o → ((h.push { cls := .type "tuple", data := .seq rest.toArray }).push (excObj C h.objs.size none)).get? b = some o := fun b o e => Heap.get?_push_of_some _ (Heap.get?_push_of_some _ e)
  have hC₁ := k _ _ hC
  have hget : ((h.push { cls := .type "tuple", data := .seq rest.toArray }).push (excObj C h.objs.size none)).get? (h.objs.size + 1) = some (excObj C h.objs.size none) := by heap_get
  have hcC : (Value.ref C :: bm).contains (.ref C) = true := by simp
  have i1 := hI.keeps k
  have b1 := (hb (.ref (h.objs.size + 1))).keeps k
  have t1 : Looks (model prog w) ((h.push { cls := .type "tuple", data := .seq rest.toArray }).push (excObj C h.objs.size none)) (typeOf (.ref (h.objs.size + 1))) (.ref C) := (Looks.ld hget).andThen .now
  unfold isInstance callSpecial? specialOf
  dsimp only [List.append]
  repeat (first | with_reducible refine wpAny_call ?_ | lk)
  rw [if_neg (by rw [hcC]; decide)]
  repeat (first | with_reducible refine wpAny_call ?_ | lk)
  refine codeAny_mono hq fun r s' z => ?_
  rcases r with e | (v | _ | _ | _) <;> first | exact z | exact z.elim | skip
  obtain ⟨rfl, z⟩ := z
  exact wpAny_pure (wpAny_pure z)
end
section SEY
open Builtin Builtin.ObjectAttr
section
variable {prog : Program} {w : World} {A : Around} {E : Value → Shared → Prop} {s : Shared} {h₀ : Heap} {L : Addr} {m : Str → Option Value}
variable {nm q : Str} {C N e t0 dx : Addr} {bs bm bmB : List Value} {hdct : Bool} {sn : List Str} {sub : List Value} {ab : Bool} {col : Option Bool} {dd : Option Addr} {k0 k1 k2 k3 k5 : Option Value} {B newId initId : String} {K : Frag} {post : List (Addr × Obj)} {name : Str} {v : Value}

/-- the base's own __init__, called upon an exception that is already made -/
theorem exc_init (F : ExcBaseFacts B newId initId bmB) {rest : List Value} {Q : Value → Shared → Prop} (Fr₀ : Fr h₀ L s.heap m) (Nw : News h₀ L s.heap ((e, excObj C t0 none) :: post)) (off : ∀ p ∈ post, p.1 ≠ e)
    (hC : s.heap.get? C = some (excClassObj nm q C N bs bm hdct sn sub ab col dd k0 k1 k2 k3 k5 newId)) (cB : bm.contains (.type B) = true) (hrest : rest.length ≤ sizeLine)
    (hq : ∀ t1 h', Fr h₀ L h' m → News h₀ L h' ((e, excObj C t1 none) :: post) → Q .none { s with heap := h' }) :
    wpAny (model prog w) A (call (.builtin initId) (.ref e :: rest)) Q E s := by
  obtain ⟨h, g, d, t, os⟩ := s
  have he := (Nw _ (.head _)).1
  have hcB : (Value.ref C :: bm).contains (.type B) = true := by rw [List.contains_cons, cB, Bool.or_true]
  have hshort := F.noStar
  refine wpAny_call (codeAny_call_builtin F.init.plain F.initEntry ?_)
  simp only [checkBuiltinCall, F.initKind, F.initSplit, F.initRow]
  repeat (first | (with_reducible refine wpAny_loadPart_at he ?_) | with_reducible refine wpAny_loadPart_at hC ?_ | (refine wpAny_isSubtype_exc hC ?_; rw [hcB]) | wp_step)
  refine wpAny_onRaise ?_
  rw [show ∀ (a b : String) (n : Nat), Bind.check ⟨.positional, "*", B, .self, [⟨"args", .varPos, false⟩]⟩ a b n (List.map (fun x => x.fst) ({ pos := Value.ref e :: rest } : Args).kw) = pure () from
    fun a b n => check_star_args _ _ _ _ _ _]
  refine wpAny_pure ?_
  wp_walk
  have N1 := Nw.push Fr₀ { cls := Value.type "tuple", data := Data.seq rest.toArray }
  obtain ⟨U1, U2⟩ := news_upd (f := Obj.mapFields fun x => x.setIfInBounds 0 (Value.ref h.objs.size)) (pre := [(h.objs.size, _)]) (o' := excObj C h.objs.size none) (Fr₀.push { cls := Value.type "tuple", data := Data.seq rest.toArray }) N1
    (fun p hp => by rw [List.mem_singleton.mp hp]; exact Nat.ne_of_gt (Heap.lt_size he)) off rfl rfl
  exact hq _ _ U1 fun p hp => U2 p (.tail _ hp)

/-- the class C is an exception's class that keeps a dict and takes names as object does -/
structure ExcSt (K : Frag) (C : Addr) (name : Str) : Prop where
  set : findIn K (.ref C) "__setattr__" = some (some (.builtin "object.__setattr__"))
  no : findIn K (.ref C) name = some none
  cls : ∃ cd, clsIn K C = some cd ∧ cd.hasDict = true ∧ cd.mro.isEmpty = false ∧ cd.mro.contains (.type "object") = true ∧ ∀ self : Value, refuseLoop self "__setattr__" cd.mro = pure ()

theorem exc_put {od od' : Obj} {pre : List (Addr × Obj)} {es : List DictEntry} {n : Nat} {tk : Tok} {Q : Fin → Shared → Prop} (F : Fr h₀ L s.heap m) (Nw : News h₀ L s.heap (pre ++ (dx, od) :: post)) (h1 : ∀ p ∈ pre, p.1 ≠ dx) (h2 : ∀ p ∈ post, p.1 ≠ dx)
    (hl : (lookIn name od).isSome = true) (he : Obj.putName name (PyData.keyHash w.params name) (.str name s.toks) v od = od') (hd : od'.data = .dict es.toArray n) (hz : es.length ≤ 1000)
    (hq : ∀ h', Fr h₀ L h' m → News h₀ L h' (pre ++ (dx, od') :: post) → Q (.done (.ret .none)) { s with heap := h', toks := s.toks + 1 }) :
    wpAny (model prog w) A (storeInDict dx (.str name tk) name v) Q E s := by
  obtain ⟨U1, U2⟩ := news_upd (f := Obj.putName name (PyData.keyHash w.params name) (.str name s.toks) v) F Nw h1 h2 he (by obtain ⟨_, _, dd, _⟩ := od'; cases hd; rfl)
  have D := (Nw (dx, od) (by simp)).1
  have D' := (U2 (dx, od') (by simp)).1
  unfold storeInDict newKeyGuard
  refine wpAny_bind (wpAny_pure (wpAny_bind ?_))
  unfold nsSet
  refine wpAny_bind (wpAny_bind (wpAny_askSetting (wpAny_pure (wpAny_bind (wpAny_mkText (wpAny_bind (wpAny_loadPart D ?_)))))))
  unfold lookIn at hl
  split at hl
  · rename_i es₀ n₀ q
    rw [q]
    dsimp only
    have c : (!es₀.any (·.key.isStr name) && es₀.any (·.refKey)) = false := by
      rw [← Array.any_toList, ← Array.any_toList]
      split at hl
      · rename_i en hf
        rw [List.any_eq_true.mpr ⟨en, List.mem_of_find?_eq_some hf, List.find?_some hf⟩]; rfl
      · split at hl
        · cases hl
        · rename_i z; rw [Bool.not_eq_true] at z; rw [z, Bool.and_false]
    rw [aRefKeyMayBeTheName_at, c]
    refine wpAny_updatePart D ?_
    refine wpAny_bind (wpAny_lookBehind D' (by rw [hd]; exact pastItsLine_dict (by rw [List.size_toArray, sizeLine_eq]; omega)) ?_)
    exact wpAny_pure (hq _ U1 U2)
  · cases hl

theorem exc_osa {ox : Obj} {od : Option Obj} {tk : Tok} {R : Result → Shared → Prop} (X : K.In s.heap) (I : InstAt s.heap e ox C od) (S : ExcSt K C name)
    (hq : wpAny (model prog w) A.in1 (storeInOwnDict (.ref e) (.ref C) (.str name tk) name v false)
      (fun fin s' => match fin with | .done f => R (.ok f) s' | .again c' => c'.quiet = true ∧ codeAny (model prog w) A c' R s') (fun e s' => R (.error e) s') s) :
    codeAny (model prog w) A (.call (.builtin "object.__setattr__") ⟨[.ref e, .str name tk, v], []⟩) R s := by
  have SF := PySem.F.store_object
  obtain ⟨hset, hno, cd, hc, hh, hne, hob, hre⟩ := S
  have sub : Looks (model prog w) s.heap (isInstance (.ref e) (.type "object")) true := I.type.andThen (looks_mroIn X (by unfold mroIn; rw [hc, Option.bind_some, if_neg (by rw [hne]; decide), hob]))
  refine codeAny_call_builtin SF.slot.plain SF.entry (@check_slot (model prog w) _ _ s "object.__setattr__" "object" "__setattr__" (.ref e) [.str name tk, v] [] _ SF.kind SF.split sub (SF.args (.ref e) (.str name tk) v) ?_)
  have hm : Looks (model prog w) s.heap (mroOf (.ref C)) cd.mro := (looks_clsIn X hc).andThen .now
  rw [osa_eq, refuse_eq]
  refine wpAny_bind (wpAny_bind (I.type.here (wpAny_bind (hm.here ?_))))
  rw [hre]
  exact wpAny_pure (wpAny_bind (I.type.here (wpAny_bind ((looks_findIn X hno).here (wpAny_bind (wpAny_pure hq))))))

theorem exc_set1 {Q : Unit → Shared → Prop} (F : Fr h₀ L s.heap m) (X₀ : K.In h₀) (Nw : News h₀ L s.heap ((e, excObj C t0 none) :: post)) (off : ∀ p ∈ post, p.1 ≠ e) (S : ExcSt K C name)
    (hq : ∀ h' dx tk tk', Fr h₀ L h' m → News h₀ L h' ((dx, dictOf [⟨PyData.keyHash w.params name, .str name tk, v⟩] 1) :: (e, excObj C t0 (some dx)) :: post) → (∀ p ∈ post, p.1 ≠ dx) → e ≠ dx → Q () { s with heap := h', toks := tk' }) :
    wpAny (model prog w) A (setAttr (.ref e) name v) Q E s := by
  have X := X₀.keeps F.keep
  have I : InstAt s.heap e (excObj C t0 none) C none := ⟨(Nw _ (.head _)).1, rfl, rfl, trivial⟩
  refine set_plain X I S.set (exc_osa (s := { s with toks := s.toks + 1 }) X I S ?_)
  obtain ⟨-, -, cd, hc, hh, -⟩ := S
  obtain ⟨h, g, d, t, os⟩ := s
  have he := (Nw _ (.head _)).1
  unfold storeInOwnDict ownDictForStores instanceDict
  refine wpAny_bind (wpAny_pure (wpAny_bind (wpAny_bind (wpAny_loadPart he (wpAny_bind (Looks.here (s := ⟨h, g, d, t + 1, os⟩) (looks_clsIn X hc) ?_))))))
  rw [hh]
  refine wpAny_bind (wpAny_alloc' ?_)
  have N1 := Nw.push F emptyDict
  obtain ⟨U1, U2⟩ := news_upd (f := fun o : Obj => { o with dict := some h.objs.size }) (pre := [(h.objs.size, _)]) (o' := excObj C t0 (some h.objs.size)) (F.push emptyDict) N1
    (fun p hp => by rw [List.mem_singleton.mp hp]; exact Nat.ne_of_gt (Heap.lt_size he)) off rfl rfl
  refine wpAny_bind (wpAny_update' (Heap.get?_push_of_some _ he) ?_)
  refine wpAny_pure (a := some h.objs.size) ?_
  have o1 : ∀ p ∈ (e, excObj C t0 (some h.objs.size)) :: post, p.1 ≠ h.objs.size := fun p hp => by
    rcases List.mem_cons.mp hp with rfl | hp
    · exact Nat.ne_of_lt (Heap.lt_size he)
    · exact Nat.ne_of_lt (Heap.lt_size (Nw p (.tail _ hp)).1)
  refine exc_put (s := ⟨_, g, d, t + 1, os⟩) (pre := []) (od := emptyDict) U1 U2 (fun p hp => nomatch hp) o1 rfl (putName_dict _ _ _ _ [] 0) rfl (Nat.le_of_ble_eq_true rfl) fun h' F' N' => ?_
  exact hq h' _ _ _ F' N' (fun p hp => o1 p (.tail _ hp)) (o1 _ (.head _))

theorem exc_set2 {Q : Unit → Shared → Prop} {es es' : List DictEntry} {n n' : Nat} (F : Fr h₀ L s.heap m) (X₀ : K.In h₀) (Nw : News h₀ L s.heap ((dx, dictOf es n) :: post)) (hm : (e, excObj C t0 (some dx)) ∈ post) (off : ∀ p ∈ post, p.1 ≠ dx) (S : ExcSt K C name)
    (hl : (lookIn name (dictOf es n)).isSome = true) (he : putL name (PyData.keyHash w.params name) (.str name (s.toks + 1)) v es = es') (hn : putN name es n = n') (hz : es'.length ≤ 1000)
    (hq : ∀ h' tk', Fr h₀ L h' m → News h₀ L h' ((dx, dictOf es' n') :: post) → Q () { s with heap := h', toks := tk' }) :
    wpAny (model prog w) A (setAttr (.ref e) name v) Q E s := by
  have X := X₀.keeps F.keep
  have I : InstAt s.heap e (excObj C t0 (some dx)) C (some (dictOf es n)) := ⟨(Nw _ (.tail _ hm)).1, rfl, rfl, (Nw _ (.head _)).1⟩
  refine set_plain X I S.set (exc_osa (s := { s with toks := s.toks + 1 }) X I S ?_)
  obtain ⟨-, -, cd, hc, hh, -⟩ := S
  unfold storeInOwnDict ownDictForStores instanceDict
  refine wpAny_bind (wpAny_pure (wpAny_bind (wpAny_bind (wpAny_loadPart I.at_ (wpAny_bind (Looks.here (s := { s with toks := s.toks + 1 }) (looks_clsIn X hc) ?_))))))
  rw [hh]
  refine wpAny_pure (a := some dx) ?_
  refine exc_put (s := { s with toks := s.toks + 1 }) (pre := []) F Nw (fun p hp => nomatch hp) off hl ((putName_dict _ _ _ _ es n).trans (by rw [he, hn])) rfl hz fun h' F' N' => hq h' _ F' N'

/-- an exception's own name, read out of its dict -/
theorem exc_get {Q : Value → Shared → Prop} {od : Obj} {expr : Bool} {oe : Obj} (X : K.In s.heap) (I : InstAt s.heap e oe C (some od)) (hga : findIn K (.ref C) "__getattribute__" = some (some (.builtin "BaseException.__getattribute__"))) (hk : findIn K (.ref C) "__getattr__" = some none)
    (hb : mroIn K C (.type "BaseException") = some true) (hf : findObj K C (some od) name = some (.value v)) (hh : handedIn v = true) (hq : Q v { s with toks := s.toks + 1 }) :
    wpAny (model prog w) A (getAttr (.ref e) name expr) Q E s := by
  obtain ⟨h, g, d, t, os⟩ := s
  have L0 := I.type (M := model prog w)
  have L1 := looks_findIn (M := model prog w) X hga
  have L2 := looks_findIn (M := model prog w) X hk
  have L3 := looks_find (M := model prog w) X I hf
  have L4 : Looks (model prog w) h (isInstance (.ref e) (.type "BaseException")) true := I.type.andThen (looks_mroIn X hb)
  have ga := PySem.F.attr_Exception.ga
  have hs : builtinKind "BaseException.__getattribute__" = some .slot := by decide +kernel
  have hp : splitId "BaseException.__getattribute__" = some ("BaseException", "__getattribute__") := by decide +kernel
  have L5 : Looks (model prog w) h (bindSpecial (.builtin "BaseException.__getattribute__") (.ref e)) (.builtin "BaseException.__getattribute__", [.ref e]) := Looks.of_pure (ga.bind (.ref e))
  dsimp only at L0 L1 L2 L3 hq
  unfold getAttr getAttrBy
  refine wpAny_bind (wpAny_mkText (wpAny_holding (wpAny_bind (L0.at (wpAny_bind (L1.at ?_))))))
  dsimp only
  rw [if_neg (show ¬ (onTheHeap (Value.ref C) && Value.builtin "BaseException.__getattribute__" == Value.builtin "object.__getattribute__") = true from by
    rw [show (Value.builtin "BaseException.__getattribute__" == Value.builtin "object.__getattribute__") = false from by decide +kernel, Bool.and_false]; decide)]
  unfold getAttrByItsOwn hookBefore callGetattribute boundAndCalled
  rw [if_pos (show onTheHeap (Value.ref C) = true from rfl), if_neg (show ¬ (expr && onTheHeap (Value.builtin "BaseException.__getattribute__")) = true from by cases expr <;> decide)]
  refine wpAny_bind (L2.at (wpAny_bind (wpAny_attempt (wpAny_holding (wpAny_bind (L5.at (wpAny_call (codeAny_call_builtin ga.plain PySem.F.entry_bexc_ga ?_))))))))
  refine @check_slot (model prog w) _ _ ⟨h, g, d, t + 1, os⟩ "BaseException.__getattribute__" "BaseException" "__getattribute__" (.ref e) [.str name t] [] _ hs hp L4 (PySem.F.args_bexc_ga _ _) ?_
  unfold Builtin.«object.__getattribute__»
  repeat lk
  show wpAny _ _ (handedOut v) _ _ _
  rw [handedOut_of hh]
  exact wpAny_pure hq
end
end SEY
abbrev FlyId (base : Heap) (l : List Env) (e dx : Addr) : Prop := base.get? e = none ∧ base.get? dx = none ∧ dx ∉ l.filterMap (·.frame)
/-- an exception of the class C in flight over l, its dict at dx holds od; fl: the frame that its trace's head keeps -/
def FlyAt (base : Heap) (l : List Env) (e C dx : Addr) (od : Obj) (fl : Value) (h : Heap) : Prop :=
  base.StaysIn h ∧ FlyId base l e dx ∧ h.FunFrames base l ∧ (∃ sl, h.get? dx = some { od with slots := sl }) ∧
    ∃ oe vs T oT ts, h.get? e = some oe ∧ oe.cls = .ref C ∧ oe.dict = some dx ∧ oe.data = .fields vs ∧ vs[1]? = some (.ref T) ∧ base.get? T = none ∧ T ≠ e ∧ h.get? T = some oT ∧ oT.data = .fields ts ∧ ts[3]? = some fl

theorem mem_frames_tail {env : Env} {outer : List Env} {b : Addr} (h : b ∈ outer.filterMap (·.frame)) : b ∈ (env :: outer).filterMap (·.frame) := by
  obtain ⟨x, hx, hf⟩ := List.mem_filterMap.mp h
  exact List.mem_filterMap.mpr ⟨x, .tail _ hx, hf⟩
section
variable {M : Model} {A : Around} {E : Value → Shared → Prop} {s : Shared} {base : Heap} {env : Env} {outer l : List Env} {L e C dx : Addr} {od oe : Obj} {vs : Array Value} {Q : Unit → Shared → Prop} {fl : Value}
/-- a new head for the trace -/
theorem fly_entry {head : Value} {hadNext : Bool} (hod : ∀ ws, od.data ≠ .fields ws) (hfr : A.frames = some (env :: outer)) (hl : s.heap.FunFrames base (env :: outer)) (hf : env.frame = some L)
    (he : s.heap.get? e = some oe) (hc : oe.cls = .ref C) (hdx : oe.dict = some dx) (hkb : base.StaysIn s.heap) (hid : FlyId base (env :: outer) e dx) (hd : oe.data = .fields vs) (hsz : 1 < vs.size) (hD : ∃ sl, s.heap.get? dx = some { od with slots := sl })
    (hq : ∀ h', FlyAt base (env :: outer) e C dx od (rawInt L) h' → s.heap.UpToSlots h' → Q () { s with heap := h' }) :
    wpAny M A (do let a ← frameOf env; let pl ← entryPlaceOf L hadNext; let b ← EntryCells.newEntry head a .none (rawInt L) .none pl; setField (.ref e) 1 b) Q E s := by
  have hide : e ∉ (env :: outer).filterMap (·.frame) := fun hm => by
    obtain ⟨_, o, ho, hnf⟩ := hl.mem hm
    rw [he] at ho; injection ho with ho; subst ho; exact hnf vs hd
  refine wpAny_bind (wpAny_frameOf_fun hfr hl hf fun h₁ hs₁ => ?_)
  refine wpAny_bind (wpAny_entryPlaceOf fun pl hpl => ?_)
  unfold EntryCells.newEntry newFields
  refine wpAny_bind (wpAny_newObj_type ?_ (hpl.sizeOk5 _ _ _ _ _))
  have he₁ : h₁.get? e = some oe := (hs₁.2.1 e hide).trans he
  have kb₁ : base.StaysIn h₁ := fun b o hbo => (hs₁.2.1 b fun hm => by rw [(hl.mem hm).1] at hbo; cases hbo).trans (hkb b o hbo)
  have hTe : h₁.objs.size ≠ e := Nat.ne_of_gt (Heap.lt_size he₁)
  generalize hob : ({ cls := .type "traceback", dict := none, data := .fields ([head, .ref L, .none, rawInt L, .none] ++ (if pl.isEmpty then List.replicate 6 Value.none else pl)).toArray } : Obj) = ob
  have he₂ : (h₁.push ob).get? e = some oe := Heap.get?_push_of_some ob he₁
  have hnf : ob.isFreed = false := by subst hob; rfl
  have hT₂ : (h₁.push ob).get? h₁.objs.size = some ob := Heap.get?_push_size h₁ hnf
  have hd₃ := Obj.data_mapFields hd (·.setIfInBounds 1 (Value.ref h₁.objs.size))
  have keep : ∀ b o, b ≠ e → h₁.get? b = some o → ((h₁.push ob).update e (Obj.mapFields (·.setIfInBounds 1 (Value.ref h₁.objs.size)))).get? b = some o := fun b o hbe hb =>
    (Heap.get?_update_other _ _ (Ne.symm hbe)).trans (Heap.get?_push_of_some _ hb)
  have apart : ∀ b o, s.heap.get? b = some o → (∀ ws, o.data ≠ .fields ws) → b ≠ e := fun b o hb hn q => by
    rw [q, he] at hb; injection hb with hb; subst hb; exact hn vs hd
  have up : s.heap.UpToSlots ((h₁.push ob).update e (Obj.mapFields (·.setIfInBounds 1 (Value.ref h₁.objs.size)))) := fun b o hb hn => by
    obtain ⟨sl, hsl⟩ := hs₁.2.2 b o hb
    exact ⟨sl, keep b _ (apart b o hb hn) hsl⟩
  refine wpAny_setField he₂ hd hsz (hq _ ?_ up)
  refine ⟨fun b o hbo => keep b o (fun q => by rw [q, hid.1] at hbo; cases hbo) (kb₁ b o hbo), hid, hl.of_keeps fun b o hb hn => ?_, ?_, ?_⟩
  · obtain ⟨sl, hsl⟩ := up b o hb hn
    exact ⟨_, hsl, rfl⟩
  · obtain ⟨sl, hsl⟩ := hD
    obtain ⟨sl', hsl'⟩ := up dx _ hsl hod
    exact ⟨sl', hsl'⟩
  · refine ⟨_, _, h₁.objs.size, ob, _, Heap.get?_update_self _ he₂ (Obj.isFreed_of_fields hd₃), (Obj.cls_mapFields _ _).trans hc, ?_, hd₃, by simp [hsz], kb₁.fresh, hTe, (Heap.get?_update_other _ _ (Ne.symm hTe)).trans hT₂, by subst hob; rfl, ?_⟩
    · obtain ⟨_, _, od', _⟩ := oe; cases hd; exact hdx
    · first | (simp; done) | (rcases hpl with rfl | ⟨_, _, _, _, _, _, _, rfl⟩ <;> simp)

theorem fly_clear (hod : ∀ ws, od.data ≠ .fields ws) (hkb : base.StaysIn s.heap) (hl : s.heap.FunFrames base l) (hD : ∃ sl, s.heap.get? dx = some { od with slots := sl }) {T : Addr} {oT : Obj} {ts : Array Value} {v : Value}
    (hnT : base.get? T = none) (hT : s.heap.get? T = some oT) (hdT : oT.data = .fields ts) (h3 : 3 < ts.size)
    (hq : ∀ h', base.StaysIn h' → h'.FunFrames base l → (∃ sl, h'.get? dx = some { od with slots := sl }) → (∀ b o, b ≠ T → s.heap.get? b = some o → h'.get? b = some o) → h'.get? T = some (Obj.mapFields (·.setIfInBounds 3 v) oT) → s.heap.UpToSlots h' → Q () { s with heap := h' }) :
    wpAny M A (setField (.ref T) 3 v) Q E s := by
  have other : ∀ b o, b ≠ T → s.heap.get? b = some o → (s.heap.update T (Obj.mapFields (·.setIfInBounds 3 v))).get? b = some o := fun b o hb e => (Heap.get?_update_other _ _ (Ne.symm hb)).trans e
  have apart : ∀ b o, s.heap.get? b = some o → (∀ ws, o.data ≠ .fields ws) → b ≠ T := fun b o hb hn q => by
    rw [q, hT] at hb; injection hb with hb; subst hb; exact hn ts hdT
  have up : s.heap.UpToSlots (s.heap.update T (Obj.mapFields (·.setIfInBounds 3 v))) := fun b o hb hn => ⟨o.slots, other b o (apart b o hb hn) hb⟩
  refine wpAny_setField hT hdT h3 (hq _ (fun b o hbo => other b o (fun q => by rw [q, hnT] at hbo; cases hbo) (hkb b o hbo)) (hl.of_keeps fun b o hb hn => ?_) ?_ other (Heap.get?_update_self _ hT (Obj.isFreed_of_fields (Obj.data_mapFields hdT _))) up)
  · obtain ⟨sl, hsl⟩ := up b o hb hn
    exact ⟨_, hsl, rfl⟩
  · obtain ⟨sl, hsl⟩ := hD
    exact ⟨sl, other _ _ (apart _ _ hsl hod) hsl⟩

theorem fly_noFlight (hod : ∀ ws, od.data ≠ .fields ws) (hx : FlyAt base l e C dx od fl s.heap) (hq : ∀ h', FlyAt base l e C dx od .none h' → s.heap.UpToSlots h' → Q () { s with heap := h' }) : wpAny M A (setFlight (.ref e) none) Q E s := by
  obtain ⟨hkb, hid, hl, hD, oe, vs, T, oT, ts, he, hc, hdx, hd, h1, hnT, hTe, hT, hdT, h3⟩ := hx
  have hz := (Array.getElem?_eq_some_iff.mp h3).1
  unfold setFlight
  refine wpAny_bind (wpAny_field he hd h1 ?_)
  rw [if_pos (show (Value.ref T != Value.none) = true from by simp)]
  refine fly_clear hod hkb hl hD hnT hT hdT hz fun h' k1 k2 k3 k4 k5 up => hq h' ⟨k1, hid, k2, k3, oe, vs, T, _, _, k4 e oe (Ne.symm hTe) he, hc, hdx, hd, h1, hnT, hTe, k5, Obj.data_mapFields hdT _, by simp [hz]⟩ up

/-- the frame that it leaves, or that looks at it, is noted -/
theorem fly_note (hod : ∀ ws, od.data ≠ .fields ws) (hfr : A.frames = some (env :: outer)) (hf : env.frame = some L) (hx : FlyAt base (env :: outer) e C dx od .none s.heap)
    (hq : ∀ h', FlyAt base (env :: outer) e C dx od (rawInt L) h' → s.heap.UpToSlots h' → Q () { s with heap := h' }) : wpAny M A (noteFrame (.ref e) env) Q E s := by
  obtain ⟨hkb, hid, hl, hD, oe, vs, T, oT, ts, he, hc, hdx, hd, h1, hnT, hTe, hT, hdT, h3⟩ := hx
  unfold noteFrame
  simp only [hf]
  refine wpAny_bind (wpAny_field he hd h1 ?_)
  rw [if_pos (show (Value.ref T != Value.none) = true from by simp)]
  refine wpAny_bind (wpAny_field hT hdT h3 ?_)
  rw [if_neg (show ¬ ((Value.none == rawInt L) = true) from by simp [rawInt])]
  refine wpAny_bind (fly_clear hod hkb hl hD hnT hT hdT (Array.getElem?_eq_some_iff.mp h3).1 fun h' k1 k2 k3 k4 k5 up => ?_)
  exact fly_entry (s := { s with heap := h' }) hod hfr k2 hf (k4 e oe (Ne.symm hTe) he) hc hdx k1 hid hd (Array.getElem?_eq_some_iff.mp h1).1 k3 fun h₂ x y => hq h₂ x (up.trans y)

theorem fly_leave (hod : ∀ ws, od.data ≠ .fields ws) (hfr : A.frames = some (env :: outer)) (hf : env.frame = some L) (hx : FlyAt base (env :: outer) e C dx od .none s.heap)
    (hq : ∀ h', FlyAt base outer e C dx od .none h' → s.heap.UpToSlots h' → Q () { s with heap := h' }) : wpAny M A (leaving env (.ref e)) Q E s := by
  unfold leaving
  refine wpAny_bind (fly_note hod hfr hf hx fun h' x y => fly_noFlight (s := { s with heap := h' }) hod x fun h₂ x₂ y₂ => ?_)
  obtain ⟨k1, k2, ⟨_, _, k3⟩, k4⟩ := x₂
  exact hq h₂ ⟨k1, ⟨k2.1, k2.2.1, fun z => k2.2.2 (mem_frames_tail z)⟩, k3, k4⟩ (y.trans y₂)

theorem fly_leave1 {t0 : Addr} (hod : ∀ ws, od.data ≠ .fields ws) (hfr : A.frames = some (env :: outer)) (hf : env.frame = some L) (hl : s.heap.FunFrames base (env :: outer)) (he : s.heap.get? e = some (excObj C t0 (some dx))) (hD : s.heap.get? dx = some od)
    (hkb : base.StaysIn s.heap) (hid : FlyId base (env :: outer) e dx) (hq : ∀ h', FlyAt base outer e C dx od .none h' → s.heap.UpToSlots h' → Q () { s with heap := h' }) : wpAny M A (leaving env (.ref e)) Q E s := by
  unfold leaving noteFrame
  simp only [hf]
  refine wpAny_bind (wpAny_bind (wpAny_field (x := .none) he rfl rfl ?_))
  rw [if_neg (show ¬ ((Value.none != Value.none) = true) from by decide)]
  refine fly_entry hod hfr hl hf he rfl rfl hkb hid rfl (show 1 < 6 from by decide) ⟨od.slots, hD⟩ fun h' x y => fly_noFlight (s := { s with heap := h' }) hod x fun h₂ x₂ y₂ => ?_
  obtain ⟨k1, k2, ⟨_, _, k3⟩, k4⟩ := x₂
  exact hq h₂ ⟨k1, ⟨k2.1, k2.2.1, fun z => k2.2.2 (mem_frames_tail z)⟩, k3, k4⟩ (y.trans y₂)

/-- the frame that is already noted -/
theorem fly_again (hf : env.frame = some L) (hx : FlyAt base l e C dx od (rawInt L) s.heap) (hq : Q () s) : wpAny M A (noteFrame (.ref e) env) Q E s := by
  obtain ⟨-, -, -, -, oe, vs, T, oT, ts, he, hc, hdx, hd, h1, hnT, hTe, hT, hdT, h3⟩ := hx
  unfold noteFrame
  simp only [hf]
  refine wpAny_bind (wpAny_field he hd h1 ?_)
  rw [if_pos (show (Value.ref T != Value.none) = true from by simp)]
  refine wpAny_bind (wpAny_field hT hdT h3 ?_)
  rw [if_pos (show (rawInt L == rawInt L) = true from by simp)]
  exact wpAny_pure hq
end
section
variable {M : Model} {A : Around} {E : Value → Shared → Prop} {s' : Shared} {base g g₂ : Heap} {outer : List Env} {L a e t0 C dx : Addr} {od : Obj} {m : Str → Option Value} {name : Str} {scope : Scope} {cd : Value} {Q : Unit → Shared → Prop} {post : List (Addr × Obj)}
theorem leave_die1 (hod : ∀ ws, od.data ≠ .fields ws) (K : Below A base outer g) (F : Fr g L s'.heap m) (N : News g L s'.heap ((dx, od) :: (e, excObj C t0 (some dx)) :: post))
    (hQ : ∀ h', FlyAt base outer e C dx od .none h' → g.UpToSlots h' → Q () { s' with heap := h' }) (hk : scope.kind = .function := by rfl) :
    wpAny M (A.deeper (envOf name scope L a cd)) (leaving (envOf name scope L a cd) (.ref e)) Q E s' := by
  have K' := K.push (name := name) (a := a) (cd := cd) F hk
  have h1 := N _ (.head _)
  have h2 := N _ (.tail _ (.head _))
  refine fly_leave1 hod K'.stack rfl K'.frames h2.1 h1.1 K'.stays ⟨fresh_of_stays K.stays h2.2.2, fresh_of_stays K.stays h1.2.2, fun hm => ?_⟩ fun h' x y => hQ h' x ((Heap.UpToSlots.of_keeps F.keep).trans y)
  obtain ⟨env, he, hf⟩ := List.mem_filterMap.mp hm
  rcases List.mem_cons.mp he with rfl | he
  · exact h1.2.1 (Option.some.inj hf).symm
  · obtain ⟨o, ho, _⟩ := (K.frames.mem (List.mem_filterMap.mpr ⟨env, he, hf⟩)).2
    rw [h1.2.2] at ho; cases ho

theorem leave_dieN (hod : ∀ ws, od.data ≠ .fields ws) (K : Below A base outer g) (F : Fr g L g₂ m) (R : FlyAt base (envOf name scope L a cd :: outer) e C dx od .none s'.heap) (U : g₂.UpToSlots s'.heap)
    (hQ : ∀ h', FlyAt base outer e C dx od .none h' → g.UpToSlots h' → Q () { s' with heap := h' }) :
    wpAny M (A.deeper (envOf name scope L a cd)) (leaving (envOf name scope L a cd) (.ref e)) Q E s' :=
  fly_leave hod (Around.frames_deeper K.stack) rfl R fun h' x y => hQ h' x ((Heap.UpToSlots.of_keeps F.keep).trans (U.trans y))
end

section
variable {prog : Program} {w : World} {A₀ : Around} {E : Value → Shared → Prop} {s' : Shared} {h₀ h : Heap} {outer : List Env} {L a e C dx : Addr} {m : Str → Option Value} {name : Str} {scope : Scope} {cd : Value}
  {n : Str} {b₀ : Stmt} {suite : List Stmt} {pos np : Pos} {rest : List ExceptHandler} {Q : Flow → Shared → Prop} {KF : Frag} {od : Obj}
  {p : Program} {loose : List Str} {mg mb : Str → Option Value} {x : Str}
  {nm q : Str} {N : Addr} {bs bm : List Value} {hdct : Bool} {sn : List Str} {sub : List Value} {ab : Bool} {col : Option Bool} {dd : Option Addr} {k0 k1 k2 k3 k5 : Option Value} {newId : String}
theorem caught_die (hod : ∀ ws, od.data ≠ .fields ws) (K : Below A₀ h₀ outer h₀) (F : Fr h₀ L h m) (hsm : h.UpToSlots s'.heap) (R : FlyAt h₀ (envOf name scope L a cd :: outer) e C dx od .none s'.heap)
    (X : KF.In h₀) (T : TopRead p loose mg mb h₀) (ex : nsIn KF mainGlobals x = some (some (.ref C))) (hC₀ : h₀.get? C = some (excClassObj nm q C N bs bm hdct sn sub ab col dd k0 k1 k2 k3 k5 newId)) (hbase : bm.contains (.type "BaseException") = true)
    (k : ∀ h' oe sl tk, Fr h₀ L h' (fun y => if y = n then some (.ref e) else m y) → InstAt h' e oe C (some { od with slots := sl }) → oe.dict = some dx →
      wpAny (model prog w) ((A₀.deeper (envOf name scope L a cd)).mark (some (.ref e))) (execs (b₀ :: suite) (envOf name scope L a cd))
        (fun f s₄ => wpAny (model prog w) (A₀.deeper (envOf name scope L a cd)) (do bindName (envOf name scope L a cd) n .none; unbindBehindTheSuite (envOf name scope L a cd) n pos) (fun _ s₅ => Q f s₅) E s₄)
        (AsSuiteRaised (model prog w) ((A₀.deeper (envOf name scope L a cd)).mark (some (.ref e))) (envOf name scope L a cd) n pos (notedBy (model prog w) ((A₀.deeper (envOf name scope L a cd)).mark (some (.ref e))) (envOf name scope L a cd) (cameBackBy (model prog w) (A₀.deeper (envOf name scope L a cd)) (envOf name scope L a cd) E)))
        { s' with heap := h', toks := tk })
    (hk : scope.kind = .function := by rfl) (hlo : (envOf name scope L a cd).kindOf n = some .local := by rfl) (hx : (envOf name scope L a cd).kindOf x = some .globalImplicit := by rfl) (hd : (x == ("__debug__" : Str)) = false := by decide) :
    wpAny (model prog w) (A₀.deeper (envOf name scope L a cd)) (noteFrame (.ref e) (envOf name scope L a cd))
      (fun _ s₂ => wpAny (model prog w) (A₀.deeper (envOf name scope L a cd)) (setFlight (.ref e) none) (fun _ s₃ =>
        wpAny (model prog w) (A₀.deeper (envOf name scope L a cd)) (handleBy (.ref e) (envOf name scope L a cd) (.ExceptHandler (some (.Name x np)) (some n) (b₀ :: suite) pos :: rest)) Q E s₃) E s₂) E s' := by
  refine fly_note hod (Around.frames_deeper K.stack) rfl R fun h₄ x₄ u₄ => ?_
  refine fly_noFlight (s := { s' with heap := h₄ }) hod x₄ fun h₅ x₅ u₅ => ?_
  have hsm₅ := hsm.trans (u₄.trans u₅)
  have F₅ := F.of_stays x₅.1 hsm₅
  obtain ⟨oe, -, -, -, -, he, hc, -⟩ := x₅.2.2.2.2
  refine wpAny_handleBy_cons (codeAny_handlers_test (name_K (s := { s' with heap := h₅ }) F₅ X T ex ?_ hk hx hd)) (by intro q; cases q)
  refine wpAny_excMatches_sub_self (F₅.keep _ _ hC₀) he hc hbase (codeAny_handlers_suite_as ?_)
  refine fly_noFlight (s := ⟨h₅, _, _, _, _⟩) hod x₅ fun h₆ x₆ u₆ => ?_
  have F₆ := F.of_stays x₆.1 (hsm₅.trans u₆)
  obtain ⟨oe, vs, -, -, -, he, hc, hdx, hda, -⟩ := x₆.2.2.2.2
  obtain ⟨sl, hsl⟩ := x₆.2.2.2.1
  have nL : dx ≠ L := fun z => x₆.2.1.2.2 (List.mem_filterMap.mpr ⟨_, .head _, z ▸ rfl⟩)
  have nE : e ≠ L := fun z => by
    obtain ⟨oL, es, ep, hL, hLd, -⟩ := F₆.ns
    rw [z, hL] at he; cases he; rw [hLd] at hda; cases hda
  have N₆ : News h₀ L h₆ [(dx, { od with slots := sl }), (e, oe)] := fun q hq => by
    rcases List.mem_cons.mp hq with rfl | hq
    · exact ⟨hsl, nL, x₆.2.1.2.1⟩
    · obtain rfl := List.mem_singleton.mp hq
      exact ⟨he, nE, x₆.2.1.1⟩
  refine stN (s := ⟨h₆, _, _, _, _⟩) F₆ N₆ (fun h₇ F₇ N₇ => ?_) hk hlo
  refine k h₇ oe sl _ F₇ ⟨(N₇ _ (.tail _ (.head _))).1, hc, ?_, ?_⟩ hdx
  · unfold notCls; rw [hda]
  · rw [hdx]; exact (N₇ _ (.head _)).1
end
abbrev dieBm : List Value := [.ref 73, .type "Exception", .type "BaseException", .type "object"]
abbrev dieCls : Obj := excClassObj (Str.ofString "SyntaxDie") (Str.ofString "SyntaxDie") 93 92 [.ref 73] dieBm true [] [] false none none (some (.ref 77)) none (some (.str (Str.ofString "SyntaxDie") 268)) (some (.str (Str.ofString "SyntaxDie") 276)) (some (.bool true)) "Exception.__new__"
section
variable {w : World} {h : Heap}
theorem die_cls (X : (tp.heap_1_39 w.params).In h) : h.get? 93 = some dieCls := X _ _ (by kernel_rfl)
theorem die_cd : clsIn (tp.heap_1_39 w.params) 93 = some { name := Str.ofString "SyntaxDie", bases := [.ref 73], mro := .ref 93 :: dieBm, ns := 92, qualname := Str.ofString "SyntaxDie" } := by kernel_rfl
theorem die_re (self : Value) : refuseLoop self "__setattr__" (.ref 93 :: dieBm) = pure () := by
  rw [refuseLoop_ref, refuseLoop_ref]; exact PySem.F.store_Exception.passes self
theorem die_st {name : Str} (hn : findIn (tp.heap_1_39 w.params) (.ref 93) name = some none) : ExcSt (tp.heap_1_39 w.params) 93 name :=
  ⟨by kernel_rfl, hn, _, die_cd, rfl, rfl, by decide +kernel, die_re⟩
theorem die_text : ExcSt (tp.heap_1_39 w.params) 93 (Str.ofString "text") := die_st (by kernel_rfl)
theorem die_line : ExcSt (tp.heap_1_39 w.params) 93 (Str.ofString "line") := die_st (by kernel_rfl)
theorem die_init {M : Model} (X : (tp.heap_1_39 w.params).In h) : Looks M h (typeLookup (.ref 93) "__init__") (some (.ref 90)) := looks_findIn X (by kernel_rfl)
theorem die_bind {M : Model} (X : (tp.heap_1_39 w.params).In h) (self : Value) : Looks M h (bindSpecial (.ref 90) self) (.ref 90, [self]) := bind_fn X self (by kernel_rfl)
end
section
variable {prog : Program} {w : World} {A : Around} {E : Value → Shared → Prop} {s : Shared} {h₀ : Heap} {L : Addr} {m : Str → Option Value} {news : List (Addr × Obj)}
theorem die_make {R : Result → Shared → Prop} {rest : List Value} (F : Fr h₀ L s.heap m) (X : (tp.heap_1_39 w.params).In h₀) (N : News h₀ L s.heap news) (hr : rest.length ≤ sizeLine)
    (hq : ∀ e t0 h', Fr h₀ L h' m → News h₀ L h' ((e, excObj 93 t0 none) :: news) → (∀ p ∈ news, p.1 ≠ e) →
      codeAny (model prog w) (A.under (.builtin "type.__call__" ⟨.ref 93 :: rest, []⟩)) (.call (.ref 90) ⟨.ref e :: rest, []⟩) (InitBack e R) { s with heap := h' }) :
    codeAny (model prog w) A (.call (.ref 93) ⟨rest, []⟩) R s := by
  obtain ⟨h, g, d, t, os⟩ := s
  have X' := X.keeps F.keep
  refine exc_make PySem.F.excBase_Exception (die_cls X') (by decide +kernel) (by decide +kernel) (by decide +kernel) hr (die_init X') (die_bind X') ?_
  have N2 := (N.push F { cls := Value.type "tuple", data := Data.seq rest.toArray }).push (F.push _) (excObj 93 h.objs.size none)
  rw [Heap.size_push] at N2
  refine hq (h.objs.size + 1) h.objs.size _ ((F.push _).push _) (fun p hp => N2 p ?_) fun p hp => Nat.ne_of_lt (Nat.lt_succ_of_lt (Heap.lt_size (N p hp).1))
  rcases List.mem_cons.mp hp with rfl | hp
  · exact .head _
  · exact .tail _ (.tail _ hp)
theorem die_init0 {rest : List Value} {e t0 : Addr} {Q : Value → Shared → Prop} (F : Fr h₀ L s.heap m) (X : (tp.heap_1_39 w.params).In h₀) (N : News h₀ L s.heap ((e, excObj 93 t0 none) :: news)) (off : ∀ p ∈ news, p.1 ≠ e) (hr : rest.length ≤ sizeLine)
    (hq : ∀ t1 h', Fr h₀ L h' m → News h₀ L h' ((e, excObj 93 t1 none) :: news) → Q .none { s with heap := h' }) :
    wpAny (model prog w) A (call (.builtin "Exception.__init__") (.ref e :: rest)) Q E s :=
  exc_init PySem.F.excBase_Exception F N off (die_cls (X.keeps F.keep)) (by decide +kernel) hr hq
/-- raise of an exception that the expression makes -/
theorem die_raise {M : Model} {env : Env} {x : Sem Value} {Q : Flow → Shared → Prop} (hh : A.handled = none) (h : wpAny M A x (fun v s₁ => ∃ e t0 dx, v = .ref e ∧ s₁.heap.get? 93 = some dieCls ∧ s₁.heap.get? e = some (excObj 93 t0 (some dx)) ∧ E (.ref e) s₁) E s) :
    wpAny M A (raiseStmt env (some x) none) Q E s := by
  have hcB : (Value.ref 93 :: dieBm).contains (.type "BaseException") = true := by decide +kernel
  unfold raiseStmt
  refine wpAny_bind (wpAny_mono h (fun v s₁ h₁ => ?_) fun _ _ x => x)
  obtain ⟨e, t0, dx, rfl, hC, he, hE⟩ := h₁
  obtain ⟨hp, g, d, tk, os⟩ := s₁
  repeat (first | with_reducible refine wpAny_loadPart_at he ?_ | with_reducible refine wpAny_loadPart_at hC ?_ | (with_reducible refine wpAny_isSubtype_exc hC ?_; rw [hcB]) | wp_step)
  exact wpAny_raiseNew_none hh hE
end

def DieUp (E : Value → Shared → Prop) (v : Value) (s₁ : Shared) : Prop := ∃ e t0 dx, v = .ref e ∧ s₁.heap.get? 93 = some dieCls ∧ s₁.heap.get? e = some (excObj 93 t0 (some dx)) ∧ E (.ref e) s₁
theorem Raise_die {M : Model} {A : Around} {E : Value → Shared → Prop} {s : Shared} {env : Env} {x : Expr} {pos : Pos} {Q : Flow → Shared → Prop} (hh : A.handled = none) (h : wpAny M A (eval x env) (DieUp E) E s) : wpAny M A (exec (.Raise (some x) none pos) env) Q E s := by
  show wpAny M A (do standAt pos; raiseStmt env (some (do let v ← eval x env; standAt pos; pure v)) none) Q E s
  refine wpAny_bind (wpAny_standAt (die_raise hh ?_))
  exact wpAny_bind (wpAny_mono h (fun v s₁ h₁ => wpAny_bind (wpAny_standAt (wpAny_pure h₁))) fun _ _ z => z)
theorem die_up {w : World} {E : Value → Shared → Prop} {s : Shared} {h₀ : Heap} {L e t0 dx : Addr} {od : Obj} {m : Str → Option Value} {post : List (Addr × Obj)} (F : Fr h₀ L s.heap m) (X : (tp.heap_1_39 w.params).In h₀) (N : News h₀ L s.heap ((dx, od) :: (e, excObj 93 t0 (some dx)) :: post)) (h : E (.ref e) s) : DieUp E (.ref e) s :=
  ⟨e, t0, dx, rfl, die_cls (X.keeps F.keep), (N _ (.tail _ (.head _))).1, h⟩
/-- the dict of an exception that tells the line ln -/
def DieD (od : Obj) (ln : Int) : Prop := (∀ ws, od.data ≠ .fields ws) ∧ ∃ t, lookIn (Str.ofString "line") od = some (some (.int ln t))
abbrev DRet (base : Heap) (cn : Str) (cs : Scope) (L a : Addr) (ccd : Value) (outer : List Env) (h₀ : Heap) (m : Str → Option Value) (ln : Int) (s : Shared) (E : Value → Shared → Prop) : Prop :=
  ∀ (e dx : Addr) (od : Obj) (g h' : Heap) (tk' : Nat), FlyAt base (envOf cn cs L a ccd :: outer) e 93 dx od .none h' → DieD od ln → Fr h₀ L g m → g.UpToSlots h' → E (.ref e) { s with heap := h', toks := tk' }
/-- a call that raises a SyntaxDie of the line ln -/
abbrev DCon (w : World) (mean : ExcName → Option Value) (mg mb : Str → Option Value) (k : Nat) (f : Addr) (vs : List Value) (ln : Int) : Prop :=
  ∀ (dp un : Nat) (gd : Option (List Code)) (cn : Str) (cs : Scope) (a : Addr) (ccd : Value) (outer : List Env) (A₀ : Around) (base h₀ : Heap) (L : Addr) (m : Str → Option Value) (news : List (Addr × Obj)) (s : Shared) (Q E : Value → Shared → Prop),
    Below A₀ base outer h₀ → Fr h₀ L s.heap m → (tp.heap_1_39 w.params).In h₀ → News h₀ L s.heap news → Top tp.view_1_40 (looseW tp.view_1_40 [Str.ofString "WORD_SIGNS", Str.ofString "CLOSERS", Str.ofString "FLAGS_OF"]) mean mg mb h₀ → cs.kind = .function →
    dp + k < recursionLimit → un + 8 * k < cLine → DRet base cn cs L a ccd outer h₀ m ln s E →
    wpAny (model PySem.Challenge.rw_qz0108_01.row.prog w) (ktrTop dp un gd cn cs L a ccd [] outer) (call (.ref f) vs) Q E s
theorem dcon_use {w : World} {mean : ExcName → Option Value} {mg mb : Str → Option Value} {k : Nat} {f : Addr} {vs : List Value} {ln : Int} (C : DCon w mean mg mb k f vs ln)
    {dp un : Nat} {gd : Option (List Code)} {cn : Str} {cs : Scope} {a : Addr} {ccd : Value} {outer : List Env} {A₀ : Around} {base h₀ : Heap} {L : Addr} {m : Str → Option Value} {news : List (Addr × Obj)} {s : Shared} {Q E : Value → Shared → Prop}
    (B : Below A₀ base outer h₀) (F : Fr h₀ L s.heap m) (X : (tp.heap_1_39 w.params).In h₀) (N : News h₀ L s.heap news) (P : Top tp.view_1_40 (looseW tp.view_1_40 [Str.ofString "WORD_SIGNS", Str.ofString "CLOSERS", Str.ofString "FLAGS_OF"]) mean mg mb h₀) (K : cs.kind = .function)
    (D : dp + k < recursionLimit) (U : un + 8 * k < cLine) (ret : DRet base cn cs L a ccd outer h₀ m ln s E) :
    wpAny (model PySem.Challenge.rw_qz0108_01.row.prog w) (ktrTop dp un gd cn cs L a ccd [] outer) (call (.ref f) vs) Q E s := C _ _ _ _ _ _ _ _ _ _ _ _ _ _ _ _ _ B F X N P K D U ret
/-- a call of a method of the lexer that stands at i, that raises a SyntaxDie of the line ln -/
abbrev MDCon (w : World) (mean : ExcName → Option Value) (mg mb : Str → Option Value) (k : Nat) (f : Addr) (T : Str) (i : Int) (vs : List Value) (ln : Int) : Prop :=
  ∀ (dp un : Nat) (gd : Option (List Code)) (cn : Str) (cs : Scope) (a : Addr) (ccd : Value) (outer : List Env) (A₀ : Around) (base h₀ : Heap) (L : Addr) (m : Str → Option Value) (s : Shared) (Q E : Value → Shared → Prop)
    (lx dx jx hx : Addr) (oj : Obj) (k1 k2 k3 k4 tT ti : Tok) (rest : List (Addr × Obj)),
    Below A₀ base outer h₀ → Fr h₀ L s.heap m → (tp.heap_1_39 w.params).In h₀ → News h₀ L s.heap (LexSt w T i lx dx jx hx oj k1 k2 k3 k4 tT ti rest) → Top tp.view_1_40 (looseW tp.view_1_40 [Str.ofString "WORD_SIGNS", Str.ofString "CLOSERS", Str.ofString "FLAGS_OF"]) mean mg mb h₀ → cs.kind = .function →
    dp + k < recursionLimit → un + 8 * k < cLine → @LT.lt Nat _ dx lx → @LT.lt Nat _ lx jx → (∀ p ∈ rest, p.1 ≠ dx) → Obj.IsDictOf (PySem.intKind PySem.Challenge.rw_qz0108_01.row.prog w) oj [] → (jx == sysModules) = false →
    DRet base cn cs L a ccd outer h₀ m ln s E →
    wpAny (model PySem.Challenge.rw_qz0108_01.row.prog w) (ktrTop dp un gd cn cs L a ccd [] outer) (call (.ref f) (.ref lx :: vs)) Q E s
theorem mdcon_use {w : World} {mean : ExcName → Option Value} {mg mb : Str → Option Value} {k : Nat} {f : Addr} {T : Str} {i : Int} {vs : List Value} {ln : Int} (C : MDCon w mean mg mb k f T i vs ln)
    {dp un : Nat} {gd : Option (List Code)} {cn : Str} {cs : Scope} {a : Addr} {ccd : Value} {outer : List Env} {A₀ : Around} {base h₀ : Heap} {L : Addr} {m : Str → Option Value} {s : Shared} {Q E : Value → Shared → Prop}
    {lx dx jx hx : Addr} {oj : Obj} {k1 k2 k3 k4 tT ti : Tok} {rest : List (Addr × Obj)}
    (B : Below A₀ base outer h₀) (F : Fr h₀ L s.heap m) (X : (tp.heap_1_39 w.params).In h₀) (N : News h₀ L s.heap (LexSt w T i lx dx jx hx oj k1 k2 k3 k4 tT ti rest)) (P : Top tp.view_1_40 (looseW tp.view_1_40 [Str.ofString "WORD_SIGNS", Str.ofString "CLOSERS", Str.ofString "FLAGS_OF"]) mean mg mb h₀) (K : cs.kind = .function)
    (D : dp + k < recursionLimit) (U : un + 8 * k < cLine) (o1 : @LT.lt Nat _ dx lx) (o2 : @LT.lt Nat _ lx jx) (off : ∀ p ∈ rest, p.1 ≠ dx) (hoj : Obj.IsDictOf (PySem.intKind PySem.Challenge.rw_qz0108_01.row.prog w) oj []) (foj : (jx == sysModules) = false)
    (ret : DRet base cn cs L a ccd outer h₀ m ln s E) :
    wpAny (model PySem.Challenge.rw_qz0108_01.row.prog w) (ktrTop dp un gd cn cs L a ccd [] outer) (call (.ref f) (.ref lx :: vs)) Q E s :=
  C _ _ _ _ _ _ _ _ _ _ _ _ _ _ _ _ _ _ _ _ _ _ _ _ _ _ _ _ B F X N P K D U o1 o2 off hoj foj ret
theorem nl_one : Str.ofString "\n" = (⟨#[10]⟩ : Str) := by decide +kernel
/-- the newlines ahead of the refused scalar: those of the text, and one -/
theorem count_ahead {T Y : Str} {r : List Nat} {j : Int} (h : T.cps.toList = Y.cps.toList ++ (10 :: 32 :: r)) (hj : j = (Y.length : Int) + 2) :
    Txt.count (Txt.slice T none (some j)) (Str.ofString "\n") = Txt.count Y (Str.ofString "\n") + 1 := by
  have hl : T.length = Y.length + (r.length + 2) := by
    have e : T.cps.toList.length = T.length := by simp [Str.length]
    have e2 : Y.cps.toList.length = Y.length := by simp [Str.length]
    rw [← e, h, List.length_append, e2]; rfl
  have e2 : Y.cps.toList.length = Y.length := by simp [Str.length]
  rw [slice_eq_to (b := Y.length + 2) (by omega) (by omega), nl_one, PyProof.Rows.count_cnt, PyProof.Rows.count_cnt, h, ← e2, List.take_append]
  have e3 : (Y.cps.toList.length + 2 - Y.cps.toList.length) = 2 := by omega
  rw [e3, List.take_of_length_le (by omega)]
  show PyProof.Rows.cnt 10 (Y.cps.toList ++ [10, 32]) = _
  rw [PyProof.Rows.cnt_append, PyProof.Rows.cnt_cons, PyProof.Rows.cnt_cons, PyProof.Rows.cnt_nil]
  simp
local macro_rules | `(tactic| walk_at "tx at") => `(tactic| first | with_reducible assumption | exact At.next (by with_reducible assumption) | exact At.next (At.next (by with_reducible assumption)) | exact At.next (At.next (At.next (by with_reducible assumption))))
local macro_rules | `(tactic| walk_at "tx int") => `(tactic| first | omega | (push_cast; omega) | ((simp only [Int.natCast_add]); omega))
local macro_rules | `(tactic| walk_at "tx ne") => `(tactic| first | assumption | decide | omega)
local macro_rules | `(tactic| walk_at "tx item") => `(tactic| first
  | (refine' item_at (k := 0) ?h ?k ?i ?T ?_; (case h => with_reducible assumption); (case k => k_dflt (exact rfl)); (case i => walk_at "tx int"); (case T => assumption))
  | (refine' item_at (k := 1) ?h ?k ?i ?T ?_; (case h => with_reducible assumption); (case k => k_dflt (exact rfl)); (case i => walk_at "tx int"); (case T => assumption))
  | (refine' item_at (k := 2) ?h ?k ?i ?T ?_; (case h => with_reducible assumption); (case k => k_dflt (exact rfl)); (case i => walk_at "tx int"); (case T => assumption)))
local macro_rules | `(tactic| walk_at "tx slice") => `(tactic| first
  | ((refine' slice_ahead (s := ⟨_, _, _, _, _⟩) ?F ?N ?h ?i ?j ?T ?_; (case F => k_asm); (case N => k_asm); (case h => with_reducible assumption); (case i => walk_at "tx int"); (case j => walk_at "tx int"); (case T => assumption)); intro _ _ _ F' N')
  | ((refine' slice_01 (s := ⟨_, _, _, _, _⟩) ?F ?N ?h ?i ?j ?T ?_; (case F => k_asm); (case N => k_asm); (case h => with_reducible assumption); (case i => walk_at "tx int"); (case j => walk_at "tx int"); (case T => assumption)); intro _ _ _ F' N')
  | ((refine' slice_01 (s := ⟨_, _, _, _, _⟩) ?F ?N ?h ?i ?j ?T ?_; (case F => k_asm); (case N => k_asm); (case h => exact At.next (by with_reducible assumption)); (case i => walk_at "tx int"); (case j => walk_at "tx int"); (case T => assumption)); intro _ _ _ F' N')
  | ((refine' slice_01 (s := ⟨_, _, _, _, _⟩) ?F ?N ?h ?i ?j ?T ?_; (case F => k_asm); (case N => k_asm); (case h => exact At.next (At.next (by with_reducible assumption))); (case i => walk_at "tx int"); (case j => walk_at "tx int"); (case T => assumption)); intro _ _ _ F' N')
  | ((refine' slice_02 (s := ⟨_, _, _, _, _⟩) ?F ?N ?h ?i ?j ?T ?_; (case F => k_asm); (case N => k_asm); (case h => with_reducible assumption); (case i => walk_at "tx int"); (case j => walk_at "tx int"); (case T => assumption)); intro _ _ _ F' N')
  | ((refine' slice_02 (s := ⟨_, _, _, _, _⟩) ?F ?N ?h ?i ?j ?T ?_; (case F => k_asm); (case N => k_asm); (case h => exact At.next (by with_reducible assumption)); (case i => walk_at "tx int"); (case j => walk_at "tx int"); (case T => assumption)); intro _ _ _ F' N')
  | ((refine' slice_02 (s := ⟨_, _, _, _, _⟩) ?F ?N ?h ?i ?j ?T ?_; (case F => k_asm); (case N => k_asm); (case h => exact At.next (At.next (by with_reducible assumption))); (case i => walk_at "tx int"); (case j => walk_at "tx int"); (case T => assumption)); intro _ _ _ F' N'))
local macro_rules | `(tactic| walk_at "subscriptTail Name Name str int") => `(tactic| (k_here; (with_reducible show wpAny _ _ (subscriptTail _ _ (Value.str _ _) (Value.int _ _)) _ _ _); walk_at "tx item"))
local macro_rules | `(tactic| walk_at "subscriptTail Name BinOp Add str int") => `(tactic| (k_here; (with_reducible show wpAny _ _ (subscriptTail _ _ (Value.str _ _) (Value.int _ _)) _ _ _); walk_at "tx item"))
local macro_rules | `(tactic| walk_at "subscriptTail Name BinOp str int") => `(tactic| (k_here; (with_reducible show wpAny _ _ (subscriptTail _ _ (Value.str _ _) (Value.int _ _)) _ _ _); walk_at "tx item"))
local macro_rules | `(tactic| walk_at "subscriptTail Attribute Name Name str int") => `(tactic| (k_here; (with_reducible show wpAny _ _ (subscriptTail _ _ (Value.str _ _) (Value.int _ _)) _ _ _); walk_at "tx item"))
local macro_rules | `(tactic| walk_at "subscriptTail Name Name Name str int") => `(tactic| (k_here; (with_reducible show wpAny _ _ (subscriptTail _ _ (Value.str _ _) (Value.int _ _)) _ _ _); walk_at "tx item"))
local macro_rules | `(tactic| walk_at "subscriptTail") => `(tactic| (k_here; (with_reducible show wpAny _ _ (subscriptTail _ _ (Value.str _ _) (Value.int _ _)) _ _ _); walk_at "tx item"))
local macro_rules | `(tactic| walk_at "subscriptTail Name Slice str ref") => `(tactic| (k_here; (with_reducible show wpAny _ _ (subscriptTail _ (Expr.Slice (some _) (some _) none _) (Value.str _ _) (Value.ref _)) _ _ _); walk_at "tx slice"))
local macro_rules | `(tactic| walk_at "subscriptTail Attribute Name Slice str ref") => `(tactic| (k_here; (with_reducible show wpAny _ _ (subscriptTail _ (Expr.Slice (some _) (some _) none _) (Value.str _ _) (Value.ref _)) _ _ _); walk_at "tx slice"))
local macro_rules | `(tactic| walk_at "subscriptTail Name str ref") => `(tactic| (k_here; (with_reducible show wpAny _ _ (subscriptTail _ (Expr.Slice (some _) (some _) none _) (Value.str _ _) (Value.ref _)) _ _ _); walk_at "tx slice"))
local macro_rules | `(tactic| walk_at "subscriptTail") => `(tactic| (k_here; (with_reducible show wpAny _ _ (subscriptTail _ (Expr.Slice (some _) (some _) none _) (Value.str _ _) (Value.ref _)) _ _ _); walk_at "tx slice"))
local macro_rules | `(tactic| walk_at "tx in") => `(tactic| first | with_reducible assumption | exact in_digits (by assumption) | exact in_digits_us (by assumption) | exact NoWord.dec (by assumption) | exact decide_eq_false (by assumption) | exact decide_eq_true (by assumption) | decide +kernel)
local macro_rules | `(tactic| walk_at "compareOp In str str") => `(tactic| (k_here; (with_reducible show wpAny _ _ (compareOp CmpOp.In (Value.str (Str.mk _) _) (Value.str _ _)) _ _ _); refine' in_is ?h ?_; (case h => k_dflt (walk_at "tx in"))))
local macro_rules | `(tactic| walk_at "tx eq") => `(tactic| first
  | decide +kernel
  | ((simp only [s_colons, s_hash, s_dollar, s_at, s_brace, s_eq, s_nl, s_empty, s_dot, s_e, s_E, s_us, s_sq, s_dq]); first | (refine beq_head ?_; walk_at "tx ne") | (refine bne_head ?_; walk_at "tx ne") | exact beq_self_eq_true _ | exact bne_nil | exact beq_nil))
local macro_rules | `(tactic| walk_at "compareOp Eq str str") => `(tactic| (k_here; (with_reducible show wpAny _ _ (compareOp CmpOp.Eq (Value.str (Str.mk _) _) (Value.str _ _)) _ _ _); refine' eq_is ?h ?_; (case h => k_dflt (walk_at "tx eq"))))
local macro_rules | `(tactic| walk_at "compareOp NotEq str str") => `(tactic| (k_here; (with_reducible show wpAny _ _ (compareOp CmpOp.NotEq (Value.str (Str.mk _) _) (Value.str _ _)) _ _ _); refine' ne_is ?h ?_; (case h => k_dflt (walk_at "tx eq"))))
local macro_rules | `(tactic| walk_at "tx ask") => `(tactic| (
  (case B => first | k_asm | fail "ask: the frames below")
  (case F => first | k_asm | fail "ask: the frame")
  (case X => first | k_asm | fail "ask: the written part")
  (case N => first | k_asm | fail "ask: the ledger")
  (case P => first | k_asm | fail "ask: the top")
  (case K => first | exact rfl | assumption | fail "ask: the caller is no def")
  (case D => first | ktr_room | fail "ask: room")
  (case U => first | ktr_units | fail "ask: units")
  intro t9 h9 tk9 F9 N9
  (try dsimp only)
  (try k_fold)))
local macro_rules | `(tactic| walk_at "WhlIf") => `(tactic| first | (refine WhlIf.yes (by first | with_reducible assumption | exact decide_eq_true (by omega)) ?_) | (refine WhlIf.no (by first | with_reducible assumption | exact decide_eq_false (by omega)) ?_))
local macro_rules | `(tactic| walk_at "tx while") => `(tactic| (k_here; k_dflt (refine whl_start 100 ?_)))
local macro_rules | `(tactic| walk_at "exec While") => `(tactic| walk_at "tx while")
local macro_rules | `(tactic| walk_at "exec While Call") => `(tactic| walk_at "tx while")
local macro_rules | `(tactic| walk_at "exec While Call Name") => `(tactic| walk_at "tx while")
local macro_rules | `(tactic| walk_at "exec While Call Name cons nil") => `(tactic| walk_at "tx while")
local macro_rules | `(tactic| walk_at "exec While Call cons nil") => `(tactic| walk_at "tx while")
local macro_rules | `(tactic| walk_at "exec While BoolOp") => `(tactic| walk_at "tx while")
local macro_rules | `(tactic| walk_at "exec While BoolOp And cons nil") => `(tactic| walk_at "tx while")
local macro_rules | `(tactic| walk_at "exec While BoolOp And") => `(tactic| walk_at "tx while")
local macro_rules | `(tactic| walk_at "exec While Compare") => `(tactic| walk_at "tx while")
local macro_rules | `(tactic| walk_at "exec While Compare cons nil") => `(tactic| walk_at "tx while")
local macro_rules | `(tactic| walk_at "exec While BoolOp Or cons nil") => `(tactic| walk_at "tx while")
local macro_rules | `(tactic| walk_at "tx sides") => `(tactic| (
  (case B => first | k_asm | fail "ask: the frames below")
  (case F => first | k_asm | fail "ask: the frame")
  (case X => first | k_asm | fail "ask: the written part")
  (case N => first | k_asm | fail "ask: the ledger")
  (case P => first | k_asm | fail "ask: the top")
  (case K => first | exact rfl | assumption | fail "ask: the caller is no def")
  (case D => first | ktr_room | fail "ask: room")
  (case U => first | ktr_units | fail "ask: units")))
local macro_rules | `(tactic| walk_at "tx var") => `(tactic| (walk_at "tx sides"; intro h9 tk9 D1 D2 u1 u2 u3 u4 F9 N9 l1 l2; (try simp only [AllLt, and_true] at l1); (try dsimp only); (try k_fold)))
local macro_rules | `(tactic| walk_at "call builtin:str.lower") => `(tactic| (k_here; (with_reducible show wpAny _ _ (call (Value.builtin "str.lower") [Value.str (Str.mk _) _]) _ _ _); k_dflt (refine' lower_one ?e ?_; (case e => first | exact lower_semi | (refine lower_digit ?_; assumption))); intro _ _))
local macro_rules | `(tactic| walk_at "call builtin:str.find") => `(tactic| (k_here; (with_reducible show wpAny _ _ (call (Value.builtin "str.find") [Value.str _ _, Value.str _ _]) _ _ _); k_dflt (refine' find_is (find_digit ?e) ?_; (case e => assumption)); intro _ _))
local macro_rules | `(tactic| walk_at "tx turn") => `(tactic| (k_here; (with_reducible show wpAny _ _ (pyIter (Value.ref _)) (fun it s₂ => LoopAtV _ _ _ _ _ _ _ _ _ it s₂) _ _); (rename Fr _ _ _ _ => lF'); (rename News _ _ _ _ => lN'); (rename IsRange _ _ _ _ _ _ _ _ => lR'); (with_unfolding_all refine' iter_rangeUnr (n := 1) (by rfl) lR' (range_small ?a ?b ?c) (range_len ?d) lF' lN' ?_; (case a => omega); (case b => omega); (case c => omega); (case d => omega)); clear lF' lN'; intro i' l1))
local macro_rules | `(tactic| walk_at "pyIter ref") => `(tactic| walk_at "tx turn")
local macro_rules | `(tactic| walk_at "UnrEnd") => `(tactic| (k_here; refine unr_same (by assumption) (by k_asm) (by assumption) ?_))
local macro_rules | `(tactic| walk_at "tx pair") => `(tactic| (walk_at "tx sides"; intro h9 tk9 D1 u1 u2 F9 N9 l1; (try simp only [AllLt, and_true] at l1); (try dsimp only); (try k_fold)))
local macro_rules | `(tactic| walk_at "exec For Name Name cons nil") => `(tactic| (k_here; (rename Fr _ _ _ _ => lF'); (with_unfolding_all refine' For_invVF lF' ?k1 ?k2 ?_; (case k1 => exact rfl); (case k2 => exact rfl); k_whole)))
local macro_rules | `(tactic| walk_at "tx msides") => `(tactic| ((case o1 => first | assumption | omega); (case o2 => first | assumption | omega); (case off => assumption); (case hoj => assumption); (case foj => assumption); walk_at "tx sides"))
local macro_rules | `(tactic| walk_at "tx askm") => `(tactic| (walk_at "tx msides"; intro u9 t9 h9 tk9 F9 N9; (try dsimp only [LexSt, lexDict, List.nil_append, List.cons_append] at N9); (try dsimp only); (try k_fold)))
local macro_rules | `(tactic| walk_at "tx askn") => `(tactic| (walk_at "tx msides"; intro u9 h9 tk9 F9 N9; (try dsimp only [LexSt, lexDict, List.nil_append, List.cons_append] at N9); (try dsimp only); (try k_fold)))
local macro_rules | `(tactic| k_all) => `(tactic| assumption)
local macro_rules | `(tactic| walk_at "getMethod ref") => `(tactic| (k_here; (with_reducible show wpAny _ _ (getMethod (Value.ref _) (Str.ofString "get") _) _ _ _); k_dflt (refine kdg_method (knd := PySem.intKind _ _) (by k_asm) (by k_mem) (by assumption) ?_)))
local macro_rules | `(tactic| walk_at "call builtin:dict.get") => `(tactic| (k_here; k_dflt (refine kdg_get2 (knd := PySem.intKind _ _) (by k_asm) (by k_mem) (by assumption) (by assumption) (intKind_is _ _ _ _) none (by rfl) ?_); (try dsimp only [Option.getD])))
local macro_rules | `(tactic| walk_at "compareOp In str str") => `(tactic| (k_here; (with_reducible show wpAny _ _ (compareOp CmpOp.In (Value.str (Str.ofString _) _) (Value.str (Str.ofString _) _)) _ _ _); k_dflt (first | refine in_lits true (by decide +kernel) ?_ | refine in_lits false (by decide +kernel) ?_)))
local macro_rules | `(tactic| walk_at "tx item") => `(tactic| first
  | (refine' item_at (k := 7) ?h ?k ?i ?T ?_; (case h => with_reducible assumption); (case k => k_dflt (exact rfl)); (case i => walk_at "tx int"); (case T => assumption))
  | (refine' item_at (k := 8) ?h ?k ?i ?T ?_; (case h => with_reducible assumption); (case k => k_dflt (exact rfl)); (case i => walk_at "tx int"); (case T => assumption)))
theorem calm_b4 : True := by w_top off; trivial
set_option maxHeartbeats 0 in
theorem starts_name_no {w : World} {mean : ExcName → Option Value} {mg mb : Str → Option Value} {T : Str} {n c : Nat} {r : List Nat} {tT tA : Tok} {i : Int} (hT : T.length ≤ 10000) (hA : At T n (c :: r)) (hi : i = (n : Int)) (hc : NoWord c) :
    Pure w mean mg mb 1 117 [.str T tT, .int i tA] (fun _ => .bool false) := by
  unfold Pure Con
  k_fill
  intro dp un gd cn cs a ccd cl outer A₀ base h₀ L m news s Q E B F X N Tp hk hd hu ret
  have hlen := hA.len
  refine wpAny_call ?_
  k_dflt cell_enter
  k_steps
  all_goals cb_end ret
local macro_rules | `(tactic| walk_at "call ref") => `(tactic| (k_here; (with_reducible show wpAny _ _ (call (Value.ref 117) _) _ _ _); k_dflt (first | (refine' con_use (starts_name_no ?hT ?hA ?hi ?hc) ?B ?F ?X ?N ?P ?K ?D ?U ?_; (case hT => assumption); (case hA => with_reducible assumption); (case hi => walk_at "tx int"); (case hc => assumption)) | (refine' con_use (starts_name_no ?hT ?hA ?hi ?hc) ?B ?F ?X ?N ?P ?K ?D ?U ?_; (case hT => assumption); (case hA => exact At.next (by with_reducible assumption)); (case hi => walk_at "tx int"); (case hc => assumption)) | (refine' con_use (starts_name_no ?hT ?hA ?hi ?hc) ?B ?F ?X ?N ?P ?K ?D ?U ?_; (case hT => assumption); (case hA => exact At.next (At.next (by with_reducible assumption))); (case hi => walk_at "tx int"); (case hc => assumption))); walk_at "tx ask"))

set_option maxHeartbeats 0 in
theorem name_end_no {w : World} {mean : ExcName → Option Value} {mg mb : Str → Option Value} {T : Str} {n c d : Nat} {r : List Nat} {tT tA : Tok} {i : Int} (hT : T.length ≤ 10000) (hA : At T n (c :: d :: r)) (hi : i = (n : Int)) (hc : NoWord c) (hn : c ≠ 58) :
    Pure w mean mg mb 2 124 [.str T tT, .int i tA] (fun t => .int i t) := by
  unfold Pure Con
  k_fill
  intro dp un gd cn cs a ccd cl outer A₀ base h₀ L m news s Q E B F X N Tp hk hd hu ret
  have hlen := hA.len
  (try simp only [List.length_cons] at hlen)
  refine wpAny_call ?_
  k_dflt cell_enter
  k_steps
  all_goals cb_end ret
local macro_rules | `(tactic| walk_at "call ref") => `(tactic| (k_here; (with_reducible show wpAny _ _ (call (Value.ref 124) _) _ _ _); k_dflt (first | (refine' con_use (name_end_no ?hT ?hA ?hi ?hc ?hn) ?B ?F ?X ?N ?P ?K ?D ?U ?_; (case hT => assumption); (case hA => with_reducible assumption); (case hi => walk_at "tx int"); (case hc => assumption); (case hn => walk_at "tx ne")) | (refine' con_use (name_end_no ?hT ?hA ?hi ?hc ?hn) ?B ?F ?X ?N ?P ?K ?D ?U ?_; (case hT => assumption); (case hA => exact At.next (by with_reducible assumption)); (case hi => walk_at "tx int"); (case hc => assumption); (case hn => walk_at "tx ne")) | (refine' con_use (name_end_no ?hT ?hA ?hi ?hc ?hn) ?B ?F ?X ?N ?P ?K ?D ?U ?_; (case hT => assumption); (case hA => exact At.next (At.next (by with_reducible assumption))); (case hi => walk_at "tx int"); (case hc => assumption); (case hn => walk_at "tx ne"))); walk_at "tx ask"))

set_option maxHeartbeats 0 in
theorem run_end_no {w : World} {mean : ExcName → Option Value} {mg mb : Str → Option Value} {T S : Str} {n c : Nat} {r : List Nat} {tT tA tS : Tok} {i : Int} (hT : T.length ≤ 10000) (hA : At T n (c :: r)) (hi : i = (n : Int)) (hc : decide (c ∈ S.cps.toList) = false) :
    Pure w mean mg mb 1 110 [.str T tT, .int i tA, .str S tS] (fun t => .int i t) := by
  unfold Pure Con
  k_fill
  intro dp un gd cn cs a ccd cl outer A₀ base h₀ L m news s Q E B F X N Tp hk hd hu ret
  have hlen := hA.len
  refine wpAny_call ?_
  k_dflt cell_enter
  k_steps
  all_goals cb_end ret

set_option maxHeartbeats 0 in
theorem run_end_one {w : World} {mean : ExcName → Option Value} {mg mb : Str → Option Value} {T S : Str} {n c d : Nat} {r : List Nat} {tT tA tS : Tok} {i : Int} (hT : T.length ≤ 10000) (hA : At T n (c :: d :: r)) (hi : i = (n : Int)) (hc : decide (c ∈ S.cps.toList) = true) (hd : decide (d ∈ S.cps.toList) = false) :
    Pure w mean mg mb 1 110 [.str T tT, .int i tA, .str S tS] (fun t => .int (i + 1) t) := by
  unfold Pure Con
  k_fill
  intro dp un gd cn cs a ccd cl outer A₀ base h₀ L m news s Q E B F X N Tp hk hd hu ret
  have hlen := hA.len
  (try simp only [List.length_cons] at hlen)
  refine wpAny_call ?_
  k_dflt cell_enter
  k_steps
  all_goals cb_end ret

local macro_rules | `(tactic| walk_at "call ref") => `(tactic| (k_here; (with_reducible show wpAny _ _ (call (Value.ref 110) _) _ _ _); k_dflt (first | (refine' con_use (run_end_no ?hT ?hA ?hi ?hc) ?B ?F ?X ?N ?P ?K ?D ?U ?_; (case hT => assumption); (case hA => with_reducible assumption); (case hi => walk_at "tx int"); (case hc => walk_at "tx in")) | (refine' con_use (run_end_no ?hT ?hA ?hi ?hc) ?B ?F ?X ?N ?P ?K ?D ?U ?_; (case hT => assumption); (case hA => exact At.next (by with_reducible assumption)); (case hi => walk_at "tx int"); (case hc => walk_at "tx in")) | (refine' con_use (run_end_no ?hT ?hA ?hi ?hc) ?B ?F ?X ?N ?P ?K ?D ?U ?_; (case hT => assumption); (case hA => exact At.next (At.next (by with_reducible assumption))); (case hi => walk_at "tx int"); (case hc => walk_at "tx in"))); walk_at "tx ask"))
local macro_rules | `(tactic| walk_at "call ref") => `(tactic| (k_here; (with_reducible show wpAny _ _ (call (Value.ref 110) _) _ _ _); k_dflt (first | (refine' con_use (run_end_one ?hT ?hA ?hi ?hc ?hd) ?B ?F ?X ?N ?P ?K ?D ?U ?_; (case hT => assumption); (case hA => with_reducible assumption); (case hi => walk_at "tx int"); (case hc => walk_at "tx in"); (case hd => walk_at "tx in")) | (refine' con_use (run_end_one ?hT ?hA ?hi ?hc ?hd) ?B ?F ?X ?N ?P ?K ?D ?U ?_; (case hT => assumption); (case hA => exact At.next (by with_reducible assumption)); (case hi => walk_at "tx int"); (case hc => walk_at "tx in"); (case hd => walk_at "tx in")) | (refine' con_use (run_end_one ?hT ?hA ?hi ?hc ?hd) ?B ?F ?X ?N ?P ?K ?D ?U ?_; (case hT => assumption); (case hA => exact At.next (At.next (by with_reducible assumption))); (case hi => walk_at "tx int"); (case hc => walk_at "tx in"); (case hd => walk_at "tx in"))); walk_at "tx ask"))

set_option maxHeartbeats 0 in
theorem is_pod_no {w : World} {mean : ExcName → Option Value} {mg mb : Str → Option Value} {T : Str} {n c : Nat} {r : List Nat} {tT tA : Tok} {i : Int} (hT : T.length ≤ 10000) (hA : At T n (c :: r)) (hi : i = (n : Int)) (hc : c ≠ 61) :
    Pure w mean mg mb 1 42 [.str T tT, .int i tA] (fun _ => .bool false) := by
  unfold Pure Con
  k_fill
  intro dp un gd cn cs a ccd cl outer A₀ base h₀ L m news s Q E B F X N Tp hk hd hu ret
  have hlen := hA.len
  refine wpAny_call ?_
  k_dflt cell_enter
  k_steps
  all_goals cb_end ret
local macro_rules | `(tactic| walk_at "call ref") => `(tactic| (k_here; (with_reducible show wpAny _ _ (call (Value.ref 42) _) _ _ _); k_dflt (first | (refine' con_use (is_pod_no ?hT ?hA ?hi ?hc) ?B ?F ?X ?N ?P ?K ?D ?U ?_; (case hT => assumption); (case hA => with_reducible assumption); (case hi => walk_at "tx int"); (case hc => walk_at "tx ne"))); walk_at "tx ask"))

set_option maxHeartbeats 0 in
theorem pod_end_no {w : World} {mean : ExcName → Option Value} {mg mb : Str → Option Value} {T : Str} {n c : Nat} {r : List Nat} {tT tA : Tok} {i : Int} (hT : T.length ≤ 10000) (hA : At T n (c :: r)) (hi : i = (n : Int)) (hc : c ≠ 61) :
    Pure w mean mg mb 2 49 [.str T tT, .int i tA] (fun t => .int i t) := by
  unfold Pure Con
  k_fill
  intro dp un gd cn cs a ccd cl outer A₀ base h₀ L m news s Q E B F X N Tp hk hd hu ret
  have hlen := hA.len
  refine wpAny_call ?_
  k_dflt cell_enter
  k_steps
  all_goals cb_end ret
local macro_rules | `(tactic| walk_at "call ref") => `(tactic| (k_here; (with_reducible show wpAny _ _ (call (Value.ref 49) _) _ _ _); k_dflt (first | (refine' con_use (pod_end_no ?hT ?hA ?hi ?hc) ?B ?F ?X ?N ?P ?K ?D ?U ?_; (case hT => assumption); (case hA => with_reducible assumption); (case hi => walk_at "tx int"); (case hc => walk_at "tx ne"))); walk_at "tx ask"))
theorem calm_b5 : True := by w_top off; trivial
set_option maxHeartbeats 0 in
theorem named_variable_no {w : World} {mean : ExcName → Option Value} {mg mb : Str → Option Value} {T : Str} {n b c d : Nat} {r : List Nat} {tT tA tB : Tok} {i j : Int} (hT : T.length ≤ 10000) (hA : At T n (b :: c :: d :: r)) (hi : i = (n : Int)) (hj : j = (n : Int) + 1)
    (hc : NoWord c) (h1 : c ≠ 58) (h2 : c ≠ 123) (h3 : c ≠ 36) :
    Pure w mean mg mb 3 166 [.str T tT, .int i tA, .int j tB] (fun _ => .none) := by
  unfold Pure Con
  k_fill
  intro dp un gd cn cs a ccd cl outer A₀ base h₀ L m news s Q E B F X N Tp hk hd hu ret
  have hlen := hA.len
  (try simp only [List.length_cons] at hlen)
  refine wpAny_call ?_
  k_dflt cell_enter
  k_steps
  all_goals exact ret 0 _ _ (by k_asm) (by k_asm)
local macro_rules | `(tactic| walk_at "call ref") => `(tactic| (k_here; (with_reducible show wpAny _ _ (call (Value.ref 166) _) _ _ _); k_dflt (first | (refine' con_use (named_variable_no ?hT ?hA ?hi ?hj ?hc ?h1 ?h2 ?h3) ?B ?F ?X ?N ?P ?K ?D ?U ?_; (case hT => assumption); (case hA => with_reducible assumption); (case hi => walk_at "tx int"); (case hj => walk_at "tx int"); (case hc => assumption); (case h1 => walk_at "tx ne"); (case h2 => walk_at "tx ne"); (case h3 => walk_at "tx ne"))); walk_at "tx ask"))

abbrev tupObj (l : List Value) : Obj := { cls := .type "tuple", data := .seq l.toArray }
/-- the value of a 'var' token, two new objects -/
abbrev VarRet (c : Nat) (e : Int) : RT := fun h₀ L m news s Q _ =>
  ∀ (h' : Heap) (tk' : Nat) (a1 a2 : Addr) (t1 t2 t3 t4 : Tok), Fr h₀ L h' m → News h₀ L h' ((a2, tupObj [.str (Str.ofString "var") t1, .ref a1, .int e t2]) :: (a1, tupObj [.str (Str.ofString "$") t3, .str ⟨#[c]⟩ t4]) :: news) →
    AllLt a1 news → @LT.lt Nat _ a1 a2 → Q (.ref a2) { s with heap := h', toks := tk' }
set_option maxHeartbeats 0 in
theorem scalar_variable_yes {w : World} {mean : ExcName → Option Value} {mg mb : Str → Option Value} {T : Str} {n c d : Nat} {r : List Nat} {tT tA : Tok} {i : Int} (hT : T.length ≤ 10000) (hA : At T n (36 :: c :: d :: r)) (hi : i = (n : Int))
    (hc : NoWord c) (h1 : c ≠ 58) (h2 : c ≠ 123) (h3 : c ≠ 36) (h4 : c ≠ 35) (h5 : decide (c ∈ (Str.ofString "0123456789").cps.toList) = false) (h6 : decide (c ∈ (Str.ofString "&`'+!@/\\,;.\"|").cps.toList) = true) :
    Con w mean mg mb 4 187 [.str T tT, .int i tA] (VarRet c (i + 2)) := by
  unfold Con VarRet
  k_fill
  intro dp un gd cn cs a ccd cl outer A₀ base h₀ L m news s Q E B F X N Tp hk hd hu ret
  have hlen := hA.len
  (try simp only [List.length_cons] at hlen)
  have hA1 := hA.next
  refine wpAny_call ?_
  k_dflt cell_enter
  k_steps
  all_goals exact ret _ _ _ _ _ _ _ _ (by k_asm) (by k_asm) (by first | assumption | exact allLt_of (by assumption)) (And.left (by assumption))
local macro_rules | `(tactic| walk_at "call ref") => `(tactic| (k_here; (with_reducible show wpAny _ _ (call (Value.ref 187) _) _ _ _); k_dflt (first | (refine' con_use (scalar_variable_yes ?hT ?hA ?hi ?hc ?h1 ?h2 ?h3 ?h4 ?h5 ?h6) ?B ?F ?X ?N ?P ?K ?D ?U ?_; (case hT => assumption); (case hA => with_reducible assumption); (case hi => walk_at "tx int"); (case hc => assumption); (case h1 => walk_at "tx ne"); (case h2 => walk_at "tx ne"); (case h3 => walk_at "tx ne"); (case h4 => walk_at "tx ne"); (case h5 => assumption); (case h6 => assumption))); walk_at "tx var"))
theorem calm_b6 : True := by w_top off; trivial
set_option maxHeartbeats 0 in
theorem variable_token_yes {w : World} {mean : ExcName → Option Value} {mg mb : Str → Option Value} {T : Str} {n c d : Nat} {r : List Nat} {tT tA : Tok} {i : Int} (hT : T.length ≤ 10000) (hA : At T n (36 :: c :: d :: r)) (hi : i = (n : Int))
    (hc : NoWord c) (h1 : c ≠ 58) (h2 : c ≠ 123) (h3 : c ≠ 36) (h4 : c ≠ 35) (h5 : decide (c ∈ (Str.ofString "0123456789").cps.toList) = false) (h6 : decide (c ∈ (Str.ofString "&`'+!@/\\,;.\"|").cps.toList) = true) :
    Con w mean mg mb 5 194 [.str T tT, .int i tA] (VarRet c (i + 2)) := by
  unfold Con VarRet
  k_fill
  intro dp un gd cn cs a ccd cl outer A₀ base h₀ L m news s Q E B F X N Tp hk hd hu ret
  have hlen := hA.len
  (try simp only [List.length_cons] at hlen)
  refine wpAny_call ?_
  k_dflt cell_enter
  k_steps
  all_goals exact ret _ _ _ _ _ _ _ _ (by k_asm) (by k_asm) (by first | assumption | exact allLt_of (by assumption)) (by assumption)
local macro_rules | `(tactic| walk_at "call ref") => `(tactic| (k_here; (with_reducible show wpAny _ _ (call (Value.ref 194) _) _ _ _); k_dflt (first | (refine' con_use (variable_token_yes ?hT ?hA ?hi ?hc ?h1 ?h2 ?h3 ?h4 ?h5 ?h6) ?B ?F ?X ?N ?P ?K ?D ?U ?_; (case hT => assumption); (case hA => with_reducible assumption); (case hi => walk_at "tx int"); (case hc => assumption); (case h1 => walk_at "tx ne"); (case h2 => walk_at "tx ne"); (case h3 => walk_at "tx ne"); (case h4 => walk_at "tx ne"); (case h5 => assumption); (case h6 => assumption))); walk_at "tx var"))

set_option maxHeartbeats 0 in
theorem line_of_is {w : World} {mean : ExcName → Option Value} {mg mb : Str → Option Value} {T : Str} {n : Nat} {tT tA : Tok} {i : Int} (hT : T.length ≤ 10000) (hi : i = (n : Int)) :
    Pure w mean mg mb 1 103 [.str T tT, .int i tA] (fun t => .int (1 + Txt.count (Txt.slice T none (some i)) (Str.ofString "\n")) t) := by
  unfold Pure Con
  k_fill
  intro dp un gd cn cs a ccd cl outer A₀ base h₀ L m news s Q E B F X N Tp hk hd hu ret
  refine wpAny_call ?_
  k_dflt cell_enter
  k_steps
  all_goals cb_end ret
local macro_rules | `(tactic| walk_at "call ref") => `(tactic| (k_here; (with_reducible show wpAny _ _ (call (Value.ref 103) _) _ _ _); k_dflt (first | (refine' con_use (line_of_is ?hT ?hi) ?B ?F ?X ?N ?P ?K ?D ?U ?_; (case hT => assumption); (case hi => walk_at "tx int"))); walk_at "tx ask"))

set_option maxHeartbeats 0 in
theorem refuse_broken_no {w : World} {mean : ExcName → Option Value} {mg mb : Str → Option Value} {T : Str} {n c d : Nat} {r : List Nat} {tT tA : Tok} {i : Int} (hT : T.length ≤ 10000) (hA : At T n (c :: d :: r)) (hi : i = (n : Int)) (h1 : c ≠ 46) (h2 : c ≠ 101) (h3 : c ≠ 69) :
    Pure w mean mg mb 1 145 [.str T tT, .int i tA] (fun _ => .none) := by
  unfold Pure Con
  k_fill
  intro dp un gd cn cs a ccd cl outer A₀ base h₀ L m news s Q E B F X N Tp hk hd hu ret
  have hlen := hA.len
  (try simp only [List.length_cons] at hlen)
  refine wpAny_call ?_
  k_dflt cell_enter
  k_steps
  all_goals exact ret 0 _ _ (by k_asm) (by k_asm)
local macro_rules | `(tactic| walk_at "call ref") => `(tactic| (k_here; (with_reducible show wpAny _ _ (call (Value.ref 145) _) _ _ _); k_dflt (first | (refine' con_use (refuse_broken_no ?hT ?hA ?hi ?h1 ?h2 ?h3) ?B ?F ?X ?N ?P ?K ?D ?U ?_; (case hT => assumption); (case hA => with_reducible assumption); (case hi => walk_at "tx int"); (case h1 => walk_at "tx ne"); (case h2 => walk_at "tx ne"); (case h3 => walk_at "tx ne")) | (refine' con_use (refuse_broken_no ?hT ?hA ?hi ?h1 ?h2 ?h3) ?B ?F ?X ?N ?P ?K ?D ?U ?_; (case hT => assumption); (case hA => exact At.next (by with_reducible assumption)); (case hi => walk_at "tx int"); (case h1 => walk_at "tx ne"); (case h2 => walk_at "tx ne"); (case h3 => walk_at "tx ne")) | (refine' con_use (refuse_broken_no ?hT ?hA ?hi ?h1 ?h2 ?h3) ?B ?F ?X ?N ?P ?K ?D ?U ?_; (case hT => assumption); (case hA => exact At.next (At.next (by with_reducible assumption))); (case hi => walk_at "tx int"); (case h1 => walk_at "tx ne"); (case h2 => walk_at "tx ne"); (case h3 => walk_at "tx ne"))); walk_at "tx ask"))

set_option maxHeartbeats 0 in
theorem figures_value_one {w : World} {mean : ExcName → Option Value} {mg mb : Str → Option Value} {T : Str} {n d : Nat} {r : List Nat} {tT tA tB tC : Tok} {i j : Int} (hT : T.length ≤ 10000) (hA : At T n ((48 + d) :: r)) (hi : i = (n : Int)) (hj : j = (n : Int) + 1) (h10 : d < 10) :
    Pure w mean mg mb 2 138 [.str T tT, .int i tA, .int j tB, .int 10 tC] (fun t => .int (d : Int) t) := by
  unfold Pure Con
  k_fill
  intro dp un gd cn cs a ccd cl outer A₀ base h₀ L m news s Q E B F X N Tp hk hd hu ret
  have hlen := hA.len
  (try simp only [List.length_cons] at hlen)
  refine wpAny_call ?_
  k_dflt cell_enter
  k_steps
  all_goals (rw [show (0 * 10 + (d : Int)) = (d : Int) from by omega]; cb_end ret)
local macro_rules | `(tactic| walk_at "call ref") => `(tactic| (k_here; (with_reducible show wpAny _ _ (call (Value.ref 138) _) _ _ _); k_dflt (first | (refine' con_use (figures_value_one ?hT ?hA ?hi ?hj ?h10) ?B ?F ?X ?N ?P ?K ?D ?U ?_; (case hT => assumption); (case hA => with_reducible assumption); (case hi => walk_at "tx int"); (case hj => walk_at "tx int"); (case h10 => assumption))); walk_at "tx ask"))
theorem calm_b7 : True := by w_top off; trivial
abbrev PairRet (d e : Int) : RT := fun h₀ L m news s Q _ =>
  ∀ (h' : Heap) (tk' : Nat) (a1 : Addr) (t1 t2 : Tok), Fr h₀ L h' m → News h₀ L h' ((a1, tupObj [.int d t1, .int e t2]) :: news) → AllLt a1 news → Q (.ref a1) { s with heap := h', toks := tk' }
set_option maxHeartbeats 0 in
theorem number_token_is {w : World} {mean : ExcName → Option Value} {mg mb : Str → Option Value} {T : Str} {n d c : Nat} {r : List Nat} {tT tA : Tok} {i : Int} (hT : T.length ≤ 10000) (hA : At T n ((48 + d) :: 59 :: c :: r)) (hi : i = (n : Int)) (h10 : d < 10) :
    Con w mean mg mb 4 152 [.str T tT, .int i tA] (PairRet d (i + 1)) := by
  unfold Con PairRet
  k_fill
  intro dp un gd cn cs a ccd cl outer A₀ base h₀ L m news s Q E B F X N Tp hk hd hu ret
  have hlen := hA.len
  (try simp only [List.length_cons] at hlen)
  refine wpAny_call ?_
  k_dflt cell_enter
  k_steps
  all_goals exact ret _ _ _ _ _ (by k_asm) (by k_asm) (by first | assumption | exact allLt_of (by assumption))
local macro_rules | `(tactic| walk_at "call ref") => `(tactic| (k_here; (with_reducible show wpAny _ _ (call (Value.ref 152) _) _ _ _); k_dflt (first | (refine' con_use (number_token_is ?hT ?hA ?hi ?h10) ?B ?F ?X ?N ?P ?K ?D ?U ?_; (case hT => assumption); (case hA => with_reducible assumption); (case hi => walk_at "tx int"); (case h10 => assumption))); walk_at "tx pair"))
theorem calm_b8 : True := by w_top off; trivial
def longV : List Value := [.str (Str.ofString "<=>") 310, .str (Str.ofString "**=") 311, .str (Str.ofString "||=") 312, .str (Str.ofString "&&=") 313, .str (Str.ofString "//=") 314, .str (Str.ofString "<<=") 315, .str (Str.ofString ">>=") 316, .str (Str.ofString "...") 317, .str (Str.ofString "=>") 318, .str (Str.ofString "->") 319, .str (Str.ofString "++") 320, .str (Str.ofString "--") 321, .str (Str.ofString "**") 322, .str (Str.ofString "=~") 323, .str (Str.ofString "!~") 324, .str (Str.ofString "==") 325, .str (Str.ofString "!=") 326, .str (Str.ofString "<=") 327, .str (Str.ofString ">=") 328, .str (Str.ofString "&&") 329, .str (Str.ofString "||") 330, .str (Str.ofString "//") 331, .str (Str.ofString "..") 332, .str (Str.ofString "<<") 333, .str (Str.ofString ">>") 334, .str (Str.ofString "+=") 335, .str (Str.ofString "-=") 336, .str (Str.ofString "*=") 337, .str (Str.ofString "/=") 338, .str (Str.ofString ".=") 339, .str (Str.ofString "%=") 340, .str (Str.ofString "&=") 341, .str (Str.ofString "|=") 342, .str (Str.ofString "^=") 343]
def longS : List Str := [Str.ofString "<=>", Str.ofString "**=", Str.ofString "||=", Str.ofString "&&=", Str.ofString "//=", Str.ofString "<<=", Str.ofString ">>=", Str.ofString "...", Str.ofString "=>", Str.ofString "->", Str.ofString "++", Str.ofString "--", Str.ofString "**", Str.ofString "=~", Str.ofString "!~", Str.ofString "==", Str.ofString "!=", Str.ofString "<=", Str.ofString ">=", Str.ofString "&&", Str.ofString "||", Str.ofString "//", Str.ofString "..", Str.ofString "<<", Str.ofString ">>", Str.ofString "+=", Str.ofString "-=", Str.ofString "*=", Str.ofString "/=", Str.ofString ".=", Str.ofString "%=", Str.ofString "&=", Str.ofString "|=", Str.ofString "^="]
/-- the k-th long operator stands at i -/
def hitAt (T : Str) (i : Int) (S : Str) : Bool := Txt.slice T (some i) (some (i + (S.length : Int))) == S
theorem long_in {K : Frag} {h : Heap} (X : K.In h) (e : K.lookup 96 = some { cls := .type "tuple", data := .seq longV.toArray }) : h.IsTuple 96 longV.toArray := ⟨_, X 96 _ e, rfl, _, rfl⟩
theorem long_at {k : Nat} {v : Value} (h : longV[k]? = some v) : ∃ S t, longS[k]? = some S ∧ v = .str S t := texts_at (vs := longV) (l := longS) rfl rfl h
theorem long_small : ∀ S ∈ longS, S.length ≤ 3 := by decide +kernel
set_option maxHeartbeats 0 in
theorem operator_end_is {w : World} {mean : ExcName → Option Value} {mg mb : Str → Option Value} {T : Str} {n c : Nat} {r : List Nat} {tT tA : Tok} {i e : Int} (hT : T.length ≤ 10000) (hA : At T n (c :: r)) (hi : i = (n : Int)) (hs : decide (c ∈ (Str.ofString "+-*/%=<>!~\\?:.,;(){}[]&|^").cps.toList) = true)
    (hL : ∀ (k : Nat) (S : Str), longS[k]? = some S → (∀ j < k, ∀ S' : Str, longS[j]? = some S' → hitAt T i S' = false) → hitAt T i S = true → e = i + (S.length : Int)) (hN : (∀ S ∈ longS, hitAt T i S = false) → e = i + 1) :
    Pure w mean mg mb 2 201 [.str T tT, .int i tA] (fun t => .int e t) := by
  unfold Pure Con
  k_fill
  intro dp un gd cn cs a ccd cl outer A₀ base h₀ L m news s Q E B F X N Tp hk hd hu ret
  have hlen := hA.len
  (try simp only [List.length_cons] at hlen)
  refine wpAny_call ?_
  k_dflt cell_enter
  k_steps
  refine iter_tup (vs := longV) (fun k => ∀ j < k, ∀ S : Str, longS[j]? = some S → hitAt T i S = false) rfl (long_in (by assumption) rfl) (by k_asm) (by k_asm) (fun j h => absurd h (Nat.not_lt_zero j)) ?turn ?done
  case turn =>
    intro k v h tk own hv hj F5 N5
    obtain ⟨S, tS, hS, rfl⟩ := long_at hv
    have hS3 := long_small S (List.mem_of_getElem? hS)
    k_steps
    · refine tup_ret ?_
      dsimp only
      have e1 := hL k S hS hj (by assumption)
      subst e1
      k_steps
      all_goals cb_end ret
    · refine tup_next (by k_asm) (by k_asm) (fun z hz => by simp only [if_neg hz]) (all_lt_succ hj fun S' hS' => ?_)
      rw [hS] at hS'
      obtain rfl := Option.some.inj hS'
      assumption
  case done =>
    intro m1 h tk hj hm F5 N5
    have e1 := hN fun S hS => by
      obtain ⟨k, hk⟩ := List.getElem?_of_mem hS
      exact hj k (List.getElem?_eq_some_iff.mp hk).1 S hk
    subst e1
    replace F5 := fr_off F5 hm
    dsimp only
    k_steps
    all_goals cb_end ret
local macro_rules | `(tactic| walk_at "call ref") => `(tactic| (k_here; (with_reducible show wpAny _ _ (call (Value.ref 201) _) _ _ _); k_dflt (first | (refine' con_use (operator_end_is ?hT ?hA ?hi ?hs ?hL ?hN) ?B ?F ?X ?N ?P ?K ?D ?U ?_; (case hT => assumption); (case hA => with_reducible assumption); (case hi => walk_at "tx int"); (case hs => walk_at "tx in"); (case hL => assumption); (case hN => assumption))); walk_at "tx ask"))
theorem calm_b9 : True := by w_top off; trivial
set_option maxHeartbeats 0 in
theorem line_begin_no {w : World} {mean : ExcName → Option Value} {mg mb : Str → Option Value} {T : Str} {n c d : Nat} {r : List Nat} {j : Int} (hT : T.length ≤ 10000) (hA : At T n (d :: r)) (hj : j = (n : Int)) (hB : Ahead T n c) (hc : c ≠ 10) :
    LB w mean mg mb T j := by
  unfold LB
  intro i tj
  unfold MCon
  k_fill
  intro dp un gd cn cs a ccd cl outer A₀ base h₀ L m s Q E lx dx jx hx oj k1 k2 k3 k4 tT ti rest B F X N Tp hk hd hu o1 o2 off hoj foj ret
  have hlen := hA.len
  have hpos := hB.1
  refine wpAny_call ?_
  k_dflt cell_enter
  k_steps
  all_goals exact ret _ _ _ _ (by k_asm) (by k_asm)
set_option maxHeartbeats 0 in
theorem line_begin_any {w : World} {mean : ExcName → Option Value} {mg mb : Str → Option Value} {T : Str} {n d : Nat} {r : List Nat} {j : Int} (hT : T.length ≤ 10000) (hA : At T n (d :: r)) (hj : j = (n : Int)) (hd1 : d ≠ 61) :
    LB w mean mg mb T j := by
  unfold LB
  intro i tj
  unfold MCon
  k_fill
  intro dp un gd cn cs a ccd cl outer A₀ base h₀ L m s Q E lx dx jx hx oj k1 k2 k3 k4 tT ti rest B F X N Tp hk hd hu o1 o2 off hoj foj ret
  have hlen := hA.len
  refine wpAny_call ?_
  k_dflt cell_enter
  k_steps
  all_goals exact ret _ _ _ _ (by k_asm) (by k_asm)
local macro_rules | `(tactic| walk_at "call ref") => `(tactic| (k_here; (with_reducible show wpAny _ _ (call (Value.ref 366) _) _ _ _); k_dflt (first | (refine' mcon_use (lb_at ?hL) ?B ?F ?X ?N ?P ?K ?D ?U ?o1 ?o2 ?off ?hoj ?foj ?_; (case hL => assumption))); walk_at "tx askm"))
local macro_rules | `(tactic| walk_at "call builtin:str.find") => `(tactic| (k_here; (with_reducible show wpAny _ _ (call (Value.builtin "str.find") [Value.str _ _, Value.str _ _, Value.int _ _]) _ _ _); k_dflt (refine' find3_is (remark_nl ?h ?e) ?_; (case h => with_reducible assumption); (case e => walk_at "tx int")); intro _ _))
set_option maxHeartbeats 0 in
theorem remark_end_is {w : World} {mean : ExcName → Option Value} {mg mb : Str → Option Value} {T : Str} {n : Nat} {r : List Nat} {tT tA : Tok} {i : Int} (hT : T.length ≤ 10000) (hA : At T n (35 :: 32 :: 36 :: 41 :: 32 :: 39 :: 10 :: r)) (hi : i = (n : Int)) :
    Pure w mean mg mb 1 28 [.str T tT, .int i tA] (fun t => .int (i + 6) t) := by
  unfold Pure Con
  k_fill
  intro dp un gd cn cs a ccd cl outer A₀ base h₀ L m news s Q E B F X N Tp hk hd hu ret
  have hlen := hA.len
  (try simp only [List.length_cons] at hlen)
  refine wpAny_call ?_
  k_dflt cell_enter
  k_steps
  all_goals cb_end ret
local macro_rules | `(tactic| walk_at "call ref") => `(tactic| (k_here; (with_reducible show wpAny _ _ (call (Value.ref 28) _) _ _ _); k_dflt (first | (refine' con_use (remark_end_is ?hT ?hA ?hi) ?B ?F ?X ?N ?P ?K ?D ?U ?_; (case hT => assumption); (case hA => with_reducible assumption); (case hi => walk_at "tx int")) | (refine' con_use (remark_end_is ?hT ?hA ?hi) ?B ?F ?X ?N ?P ?K ?D ?U ?_; (case hT => assumption); (case hA => exact At.next (by with_reducible assumption)); (case hi => walk_at "tx int")) | (refine' con_use (remark_end_is ?hT ?hA ?hi) ?B ?F ?X ?N ?P ?K ?D ?U ?_; (case hT => assumption); (case hA => exact At.next (At.next (by with_reducible assumption))); (case hi => walk_at "tx int"))); walk_at "tx ask"))
set_option maxHeartbeats 0 in
theorem skip_none {w : World} {mean : ExcName → Option Value} {mg mb : Str → Option Value} {T : Str} {n d : Nat} {r : List Nat} {i : Int} (hT : T.length ≤ 10000) (hA : At T n (d :: r)) (hi : i = (n : Int)) (hl0 : LB w mean mg mb T (i)) (hb1 : d ≠ 10) (hb2 : d ≠ 35) (hb3 : decide (d ∈ (Str.ofString " \t\r\x0c").cps.toList) = false) :
    SK w mean mg mb T i (i) := by
  unfold SK
  unfold MCon
  k_fill
  intro dp un gd cn cs a ccd cl outer A₀ base h₀ L m s Q E lx dx jx hx oj k1 k2 k3 k4 tT ti rest B F X N Tp hk hd hu o1 o2 off hoj foj ret
  have hlen := hA.len
  (try simp only [List.length_cons] at hlen)
  refine wpAny_call ?_
  k_dflt cell_enter
  k_steps
  all_goals exact ret _ _ _ (by k_asm) (by k_asm)
set_option maxHeartbeats 0 in
theorem skip_sp {w : World} {mean : ExcName → Option Value} {mg mb : Str → Option Value} {T : Str} {n d : Nat} {r : List Nat} {i : Int} (hT : T.length ≤ 10000) (hA : At T n (32 :: d :: r)) (hi : i = (n : Int)) (hl0 : LB w mean mg mb T (i)) (hb1 : d ≠ 10) (hb2 : d ≠ 35) (hb3 : decide (d ∈ (Str.ofString " \t\r\x0c").cps.toList) = false) :
    SK w mean mg mb T i (i + 1) := by
  unfold SK
  unfold MCon
  k_fill
  intro dp un gd cn cs a ccd cl outer A₀ base h₀ L m s Q E lx dx jx hx oj k1 k2 k3 k4 tT ti rest B F X N Tp hk hd hu o1 o2 off hoj foj ret
  have hlen := hA.len
  (try simp only [List.length_cons] at hlen)
  refine wpAny_call ?_
  k_dflt cell_enter
  k_steps
  all_goals exact ret _ _ _ (by k_asm) (by k_asm)
set_option maxHeartbeats 0 in
theorem skip_nl {w : World} {mean : ExcName → Option Value} {mg mb : Str → Option Value} {T : Str} {n d : Nat} {r : List Nat} {i : Int} (hT : T.length ≤ 10000) (hA : At T n (10 :: d :: r)) (hi : i = (n : Int)) (hl0 : LB w mean mg mb T (i)) (hl1 : LB w mean mg mb T (i + 1)) (hb1 : d ≠ 10) (hb2 : d ≠ 35) (hb3 : decide (d ∈ (Str.ofString " \t\r\x0c").cps.toList) = false) :
    SK w mean mg mb T i (i + 1) := by
  unfold SK
  unfold MCon
  k_fill
  intro dp un gd cn cs a ccd cl outer A₀ base h₀ L m s Q E lx dx jx hx oj k1 k2 k3 k4 tT ti rest B F X N Tp hk hd hu o1 o2 off hoj foj ret
  have hlen := hA.len
  (try simp only [List.length_cons] at hlen)
  refine wpAny_call ?_
  k_dflt cell_enter
  k_steps
  all_goals exact ret _ _ _ (by k_asm) (by k_asm)
set_option maxHeartbeats 0 in
theorem skip_nlsp {w : World} {mean : ExcName → Option Value} {mg mb : Str → Option Value} {T : Str} {n d : Nat} {r : List Nat} {i : Int} (hT : T.length ≤ 10000) (hA : At T n (10 :: 32 :: d :: r)) (hi : i = (n : Int)) (hl0 : LB w mean mg mb T (i)) (hl1 : LB w mean mg mb T (i + 1)) (hb1 : d ≠ 10) (hb2 : d ≠ 35) (hb3 : decide (d ∈ (Str.ofString " \t\r\x0c").cps.toList) = false) :
    SK w mean mg mb T i (i + 1 + 1) := by
  unfold SK
  unfold MCon
  k_fill
  intro dp un gd cn cs a ccd cl outer A₀ base h₀ L m s Q E lx dx jx hx oj k1 k2 k3 k4 tT ti rest B F X N Tp hk hd hu o1 o2 off hoj foj ret
  have hlen := hA.len
  (try simp only [List.length_cons] at hlen)
  refine wpAny_call ?_
  k_dflt cell_enter
  k_steps
  all_goals exact ret _ _ _ (by k_asm) (by k_asm)
set_option maxHeartbeats 0 in
theorem skip_remark {w : World} {mean : ExcName → Option Value} {mg mb : Str → Option Value} {T : Str} {n d : Nat} {r : List Nat} {i : Int} (hT : T.length ≤ 10000) (hA : At T n (32 :: 35 :: 32 :: 36 :: 41 :: 32 :: 39 :: 10 :: d :: r)) (hi : i = (n : Int)) (hl0 : LB w mean mg mb T (i)) (hl1 : LB w mean mg mb T (i + 1 + 6 + 1)) (hb1 : d ≠ 10) (hb2 : d ≠ 35) (hb3 : decide (d ∈ (Str.ofString " \t\r\x0c").cps.toList) = false) :
    SK w mean mg mb T i (i + 1 + 6 + 1) := by
  unfold SK
  unfold MCon
  k_fill
  intro dp un gd cn cs a ccd cl outer A₀ base h₀ L m s Q E lx dx jx hx oj k1 k2 k3 k4 tT ti rest B F X N Tp hk hd hu o1 o2 off hoj foj ret
  have hlen := hA.len
  (try simp only [List.length_cons] at hlen)
  refine wpAny_call ?_
  k_dflt cell_enter
  k_steps
  all_goals exact ret _ _ _ (by k_asm) (by k_asm)
theorem calm_b10 : True := by w_top off; trivial
theorem vok_pair {a1 : Addr} {c : Nat} {t3 t4 : Tok} : VOk (.ref a1) (PairData c) a1 (tupObj [.str (Str.ofString "$") t3, .str ⟨#[c]⟩ t4]) := fun h e =>
  .tuple e rfl rfl (.cons (.str _ _) (.cons (.str _ _) .nil))
theorem vok_int {i : Int} {t : Tok} {a1 : Addr} {o1 : Obj} : VOk (.int i t) (.int i) a1 o1 := fun _ _ => .int _ _
theorem vok_str {x : Str} {t : Tok} {a1 : Addr} {o1 : Obj} : VOk (.str x t) (.str x) a1 o1 := fun _ _ => .str _ _
theorem news_dup {h₀ h : Heap} {L : Addr} {x : Addr × Obj} {l : List (Addr × Obj)} (N : News h₀ L h (x :: l)) : News h₀ L h (x :: x :: l) := fun p hp => N p ((List.mem_cons.mp hp).elim (fun e => e ▸ .head _) id)
theorem news_drop2 {h₀ h : Heap} {L : Addr} {x y : Addr × Obj} {l : List (Addr × Obj)} (N : News h₀ L h (x :: y :: l)) : News h₀ L h (x :: l) := fun p hp => N p ((List.mem_cons.mp hp).elim (fun e => e ▸ .head _) fun e => .tail _ (.tail _ e))
theorem noWord_dollar : NoWord 36 := by unfold NoWord; decide +kernel
set_option maxHeartbeats 0 in
theorem term_at_yes {w : World} {mean : ExcName → Option Value} {mg mb : Str → Option Value} {T : Str} {n c d : Nat} {r : List Nat} {i : Int} {ta : Tok} (hT : T.length ≤ 10000) (hA : At T n (36 :: c :: d :: r)) (hi : i = (n : Int))
    (hc : NoWord c) (h1 : c ≠ 58) (h2 : c ≠ 123) (h3 : c ≠ 36) (h4 : c ≠ 35) (h5 : decide (c ∈ (Str.ofString "0123456789").cps.toList) = false) (h6 : decide (c ∈ (Str.ofString "&`'+!@/\\,;.\"|").cps.toList) = true) :
    MCon w mean mg mb 6 401 T i [.int i ta] (fun h₀ L m dx St s Q _ => ∀ (h' : Heap) (tk' : Nat) (a1 a2 : Addr) (t1 t2 t3 t4 ti' : Tok), Fr h₀ L h' m →
      News h₀ L h' ((a2, tupObj [.str (Str.ofString "var") t1, .ref a1, .int (i + 2) t2]) :: (a1, tupObj [.str (Str.ofString "$") t3, .str ⟨#[c]⟩ t4]) :: St i ti') → @LT.lt Nat _ dx a1 → @LT.lt Nat _ dx a2 → Q (.ref a2) { s with heap := h', toks := tk' }) := by
  unfold MCon
  k_fill
  intro dp un gd cn cs a ccd cl outer A₀ base h₀ L m s Q E lx dx jx hx oj k1 k2 k3 k4 tT ti rest B F X N Tp hk hd hu o1 o2 off hoj foj ret
  have hlen := hA.len
  (try simp only [List.length_cons] at hlen)
  refine wpAny_call ?_
  k_dflt cell_enter
  k_steps
  all_goals exact ret _ _ _ _ _ _ _ _ _ (by k_asm) (by k_asm) (by omega) (by omega)
local macro_rules | `(tactic| walk_at "tx mvar") => `(tactic| (walk_at "tx msides"; intro h9 tk9 D1 D2 u1 u2 u3 u4 u9 F9 N9 l1 l2; (try dsimp only [LexSt, lexDict, List.nil_append, List.cons_append] at N9); (try dsimp only); (try k_fold)))
local macro_rules | `(tactic| walk_at "call ref") => `(tactic| (k_here; (with_reducible show wpAny _ _ (call (Value.ref 401) _) _ _ _); k_dflt (first | (refine' mcon_use (term_at_yes ?hT ?hA ?hi ?hc ?h1 ?h2 ?h3 ?h4 ?h5 ?h6) ?B ?F ?X ?N ?P ?K ?D ?U ?o1 ?o2 ?off ?hoj ?foj ?_; (case hT => assumption); (case hA => with_reducible assumption); (case hi => walk_at "tx int"); (case hc => assumption); (case h1 => walk_at "tx ne"); (case h2 => walk_at "tx ne"); (case h3 => walk_at "tx ne"); (case h4 => walk_at "tx ne"); (case h5 => assumption); (case h6 => assumption))); walk_at "tx mvar"))

set_option maxHeartbeats 0 in
theorem token_var {w : World} {mean : ExcName → Option Value} {mg mb : Str → Option Value} {T : Str} {n c d : Nat} {r : List Nat} {i : Int} (hT : T.length ≤ 10000) (hA : At T n (36 :: c :: d :: r)) (hi : i = (n : Int))
    (hc : NoWord c) (h1 : c ≠ 58) (h2 : c ≠ 123) (h3 : c ≠ 36) (h4 : c ≠ 35) (h5 : decide (c ∈ (Str.ofString "0123456789").cps.toList) = false) (h6 : decide (c ∈ (Str.ofString "&`'+!@/\\,;.\"|").cps.toList) = true) :
    TK w mean mg mb T i true (Str.ofString "var") (PairData c) (i + 2) := by
  unfold TK
  intro ta
  unfold MCon
  k_fill
  intro dp un gd cn cs a ccd cl outer A₀ base h₀ L m s Q E lx dx jx hx oj k1 k2 k3 k4 tT ti rest B F X N Tp hk hd hu o1 o2 off hoj foj ret
  have hlen := hA.len
  (try simp only [List.length_cons] at hlen)
  have hw0 := noWord_dollar
  refine wpAny_call ?_
  k_dflt cell_enter
  k_steps
  all_goals exact ret _ _ _ _ _ _ _ _ _ (by k_asm) (by k_asm) (by omega) (by omega) vok_pair
set_option maxHeartbeats 0 in
theorem token_num {w : World} {mean : ExcName → Option Value} {mg mb : Str → Option Value} {T : Str} {n d c : Nat} {r : List Nat} {i : Int} {wants : Bool} (hT : T.length ≤ 10000) (hA : At T n ((48 + d) :: 59 :: c :: r)) (hi : i = (n : Int)) (h10 : d < 10) (hw0 : NoWord (48 + d)) :
    TK w mean mg mb T i wants (Str.ofString "num") (.int d) (i + 1) := by
  unfold TK
  intro ta
  unfold MCon
  k_fill
  intro dp un gd cn cs a ccd cl outer A₀ base h₀ L m s Q E lx dx jx hx oj k1 k2 k3 k4 tT ti rest B F X N Tp hk hd hu o1 o2 off hoj foj ret
  have hlen := hA.len
  (try simp only [List.length_cons] at hlen)
  refine wpAny_call ?_
  k_dflt cell_enter
  k_steps
  all_goals exact ret _ _ _ _ _ _ _ _ _ (by k_asm) (by k_asm) (by omega) (by omega) vok_int
set_option maxHeartbeats 0 in
theorem token_op {w : World} {mean : ExcName → Option Value} {mg mb : Str → Option Value} {T : Str} {n c d : Nat} {r : List Nat} {i e : Int} (hT : T.length ≤ 10000) (hA : At T n (c :: d :: r)) (hi : i = (n : Int)) (hs : decide (c ∈ (Str.ofString "+-*/%=<>!~\\?:.,;(){}[]&|^").cps.toList) = true)
    (hL : ∀ (k : Nat) (S : Str), longS[k]? = some S → (∀ j < k, ∀ S' : Str, longS[j]? = some S' → hitAt T i S' = false) → hitAt T i S = true → e = i + (S.length : Int)) (hN : (∀ S ∈ longS, hitAt T i S = false) → e = i + 1)
    (hw0 : NoWord c) (h58 : c ≠ 58) (hdg : decide (c ∈ (Str.ofString "0123456789").cps.toList) = false) (h39 : c ≠ 39) (h34 : c ≠ 34) (h36 : c ≠ 36) (h64 : c ≠ 64) (he : i < e) (heT : e ≤ T.length) :
    TK w mean mg mb T i false (Str.ofString "op") (.str (Txt.slice T (some i) (some e))) e := by
  unfold TK
  intro ta
  unfold MCon
  k_fill
  intro dp un gd cn cs a ccd cl outer A₀ base h₀ L m s Q E lx dx jx hx oj k1 k2 k3 k4 tT ti rest B F X N Tp hk hd hu o1 o2 off hoj foj ret
  have hlen := hA.len
  (try simp only [List.length_cons] at hlen)
  refine wpAny_call ?_
  k_dflt cell_enter
  k_steps
  · exfalso; omega
  · exact ret _ _ _ _ _ _ _ _ _ (by k_asm) (news_dup (by k_asm)) (by omega) (by omega) vok_str

local macro_rules | `(tactic| walk_at "call ref") => `(tactic| (k_here; (with_reducible show wpAny _ _ (call (Value.ref 359) _) _ _ _); k_dflt (first | (refine' mcon_use (sk_at ?hL) ?B ?F ?X ?N ?P ?K ?D ?U ?o1 ?o2 ?off ?hoj ?foj ?_; (case hL => assumption))); walk_at "tx askn"))
local macro_rules | `(tactic| walk_at "call ref") => `(tactic| (k_here; (with_reducible show wpAny _ _ (call (Value.ref 394) _) _ _ _); k_dflt (first | (refine' mcon_use (tk_at ?hL) ?B ?F ?X ?N ?P ?K ?D ?U ?o1 ?o2 ?off ?hoj ?foj ?_; (case hL => assumption))); walk_at "tx msides"; intro h9 tk9 D1 D2 o9 v9 u1 u2 u9 F9 N9 l1 l2 vo; (try dsimp only [LexSt, lexDict, List.nil_append, List.cons_append] at N9); (try dsimp only); (try k_fold)))
set_option maxHeartbeats 0 in
theorem next_is {w : World} {mean : ExcName → Option Value} {mg mb : Str → Option Value} {T : Str} {i p e : Int} {wants : Bool} {kind : Str} {V : PyData} (hT : T.length ≤ 10000) (hpT : p < T.length) (hS : SK w mean mg mb T i p) (hK : TK w mean mg mb T p wants kind V e) :
    NX w mean mg mb T i wants kind V p e := by
  unfold NX
  unfold MCon
  k_fill
  intro dp un gd cn cs a ccd cl outer A₀ base h₀ L m s Q E lx dx jx hx oj k1 k2 k3 k4 tT ti rest B F X N Tp hk hd hu o1 o2 off hoj foj ret
  refine wpAny_call ?_
  k_dflt cell_enter
  k_steps
  all_goals exact ret _ _ _ _ _ _ _ _ _ (by k_asm) (news_drop2 (by k_asm)) (by assumption)
theorem calm_b11 : True := by w_top off; trivial
local macro_rules | `(tactic| walk_at "call builtin:len") => `(tactic| (k_here; (with_reducible show wpAny _ _ (call (Value.builtin "len") [Value.ref _]) _ _ _); k_dflt (refine' len_ints_fit (News.isList ?N ?m) ?I ?f ?_; (case N => k_asm); (case m => k_mem); (case I => with_reducible assumption); (case f => omega))))
local macro_rules | `(tactic| walk_at "subscriptTail") => `(tactic| (k_here; (with_reducible show wpAny _ _ (subscriptTail _ _ (Value.ref _) (Value.int _ _)) _ _ _); (with_unfolding_all refine' item_anyK (News.isList ?N ?m) ?I ?a ?b ?c ?_ ?k6; (case N => k_asm); (case m => k_mem); (case I => with_reducible assumption); (case a => omega); (case b => omega); (case c => omega); (case k6 => with_unfolding_all rfl); k_whole); intro _))
local macro_rules | `(tactic| walk_at "tx core") => `(tactic| first | k_asm | exact news_rest (by k_asm) | exact news_rest (news_rest (by k_asm)) | exact news_rest (news_rest (news_rest (by k_asm))))
local macro_rules | `(tactic| walk_at "tx core") => `(tactic| first | k_asm | exact news_rot (by k_asm) | exact news_rest (by k_asm) | exact news_rest (news_rest (by k_asm)))
local macro_rules | `(tactic| walk_at "tx ord") => `(tactic| first | assumption | (refine Ord.more ?_ (by dsimp only; omega); walk_at "tx ord"))
local macro_rules | `(tactic| walk_at "subscriptTail") => `(tactic| (k_here; (with_reducible show wpAny _ _ (subscriptTail _ _ (Value.ref _) (Value.int _ _)) _ _ _); (with_unfolding_all refine' menu_item (News.isList (items := List.toArray _) ?N ?m) ?e ?hn ?a ?b ?c ?_ ?k6 ?k7; (case N => k_asm); (case m => k_mem); (case e => first | assumption | exact rfl); (case hn => first | assumption | exact rfl); (case a => omega); (case b => (refine Int.lt_of_lt_of_le (by assumption) ?_; first | exact Int.le_refl _ | decide)); (case c => exact Nat.le_of_ble_eq_true rfl); (case k6 => with_unfolding_all rfl); (case k7 => intro _; with_unfolding_all rfl); k_whole); intro S9 t9 hS9; (try dsimp only [textsIn] at hS9)))
local macro_rules | `(tactic| walk_at "subscriptTail Name Call ref int") => `(tactic| (k_here; (with_reducible show wpAny _ _ (subscriptTail _ _ (Value.ref _) (Value.int _ _)) _ _ _); (with_unfolding_all refine' menu_item (News.isList (items := List.toArray _) ?N ?m) ?e ?hn ?a ?b ?c ?_ ?k6 ?k7; (case N => k_asm); (case m => k_mem); (case e => first | assumption | exact rfl); (case hn => first | assumption | exact rfl); (case a => omega); (case b => (refine Int.lt_of_lt_of_le (by assumption) ?_; first | exact Int.le_refl _ | decide)); (case c => exact Nat.le_of_ble_eq_true rfl); (case k6 => with_unfolding_all rfl); (case k7 => intro _; with_unfolding_all rfl); k_whole); intro S9 t9 hS9; (try dsimp only [textsIn] at hS9)))
local macro_rules | `(tactic| walk_at "subscriptTail") => `(tactic| (k_here; (with_reducible show wpAny _ _ (subscriptTail _ _ (Value.str (Str.ofString _) _) (Value.int _ _)) _ _ _); k_dflt (refine' letter_item ?a ?b ?c ?_; (case a => omega); (case b => (refine Int.lt_of_lt_of_le (by assumption) ?_; decide +kernel)); (case c => decide +kernel)); intro c9 t9 hc9))
local macro_rules | `(tactic| walk_at "subscriptTail Name Call str int") => `(tactic| (k_here; (with_reducible show wpAny _ _ (subscriptTail _ _ (Value.str (Str.ofString _) _) (Value.int _ _)) _ _ _); k_dflt (refine' letter_item ?a ?b ?c ?_; (case a => omega); (case b => (refine Int.lt_of_lt_of_le (by assumption) ?_; decide +kernel)); (case c => decide +kernel)); intro c9 t9 hc9))
local macro_rules | `(tactic| walk_at "call type:range") => `(tactic| (k_here; (with_reducible show wpAny _ _ (call (Value.type "range") [Value.int _ _]) _ _ _); (refine' range1_rows ?F ?N ?_; (case F => k_asm); (case N => k_asm)); intro h' tk' t₁ u₁ v₁ rgX F' N' keepX))
local macro_rules | `(tactic| walk_at "exec For Name Call cons nil") => `(tactic| (k_here; (rename Fr _ _ _ _ => lF'); (with_unfolding_all refine' For_invVF lF' ?k1 ?k2 ?_; (case k1 => exact rfl); (case k2 => exact rfl); k_whole)))
local macro_rules | `(tactic| walk_at "tx lenl") => `(tactic| (k_here; (with_reducible show wpAny _ _ (call (Value.builtin "len") [Value.ref _]) _ _ _); k_dflt (refine' len_list (News.isList ?N ?m) ?f ?_; (case N => k_asm); (case m => k_mem); (case f => omega))))
local macro_rules | `(tactic| walk_at "call builtin:len cons nil") => `(tactic| walk_at "tx lenl")
set_option maxHeartbeats 0 in
theorem pinch_is {w : World} {mean : ExcName → Option Value} {mg mb : Str → Option Value} {vs : List Value} {ns : List Int} {k many : Int} (hI : IntsAre vs ns) (hvl : ns.length ≤ 40) (hk1 : 0 ≤ k) (hk2 : k ≤ 1000) (hm1 : 1 ≤ many) (hm2 : many ≤ 20) :
    ∀ (dp un : Nat) (gd : Option (List Code)) (cn : Str) (cs : Scope) (a : Addr) (ccd : Value) (cl : List (Str × Addr)) (outer : List Env) (A₀ : Around) (base h₀ : Heap) (L : Addr) (m : Str → Option Value) (s : Shared) (Q E : Value → Shared → Prop)
    (sd rl : Addr) (os : Obj) (cc : Nat) (tm : Tok) (rest : List (Addr × Obj)),
    Below A₀ base outer h₀ → Fr h₀ L s.heap m → (tp.heap_1_39 w.params).In h₀ → News h₀ L s.heap ((sd, os) :: (rl, W.listOf vs.toArray cc) :: rest) → Top tp.view_1_40 (looseW tp.view_1_40 [Str.ofString "WORD_SIGNS", Str.ofString "CLOSERS", Str.ofString "FLAGS_OF"]) mean mg mb h₀ → cs.kind = .function →
    dp + 1 < recursionLimit → un + 8 * 1 < cLine → SaltOk w os rl k → (sd == sysModules) = false → @Ne Nat rl sd → (∀ p ∈ rest, p.1 ≠ sd) →
    (∀ (r : Int) (t : Tok) (h' : Heap) (tk' : Nat) (os' : Obj), 0 ≤ r → r < many → Fr h₀ L h' m → News h₀ L h' ((sd, os') :: (rl, W.listOf vs.toArray cc) :: rest) → SaltOk w os' rl (k + 1) → Q (.int r t) { s with heap := h', toks := tk' }) →
    wpAny (model PySem.Challenge.rw_qz0108_01.row.prog w) (ktrTop dp un gd cn cs L a ccd cl outer) (call (.ref 478) [.ref sd, .int many tm]) Q E s := by
  k_fill
  intro dp un gd cn cs a ccd cl outer A₀ base h₀ L m s Q E sd rl os cc tm rest B F X N Tp hk hd hu hs lo off1 off ret
  obtain ⟨u3, hs⟩ := hs
  refine wpAny_call ?_
  k_dflt cell_enter
  k_steps
  all_goals exact ret _ _ _ _ _ (Int.fmod_nonneg_of_pos _ (by omega)) (Int.fmod_lt_of_pos _ (by omega)) (by k_asm) (by k_asm) ⟨_, by assumption⟩
set_option maxHeartbeats 0 in
theorem put_is {w : World} {mean : ExcName → Option Value} {mg mb : Str → Option Value} {vs : List Value} {X G P kind : Str} {v : Value} {gb wt : Bool} (hG : (G != Str.ofString "") = gb) (hX : X.length ≤ 5000) (hGl : G.length ≤ 20) (hPl : P.length ≤ 20) :
    ∀ (dp un : Nat) (gd : Option (List Code)) (cn : Str) (cs : Scope) (a : Addr) (ccd : Value) (cl : List (Str × Addr)) (outer : List Env) (A₀ : Around) (base h₀ : Heap) (L : Addr) (m : Str → Option Value) (s : Shared) (Q E : Value → Shared → Prop)
    (sd rl rd dl wl : Addr) (os orow : Obj) (D W : Array Value) (cc cd cw : Nat) (tk tp' tg : Tok) (tail : List (Addr × Obj)),
    Below A₀ base outer h₀ → Fr h₀ L s.heap m → (tp.heap_1_39 w.params).In h₀ → News h₀ L s.heap (LawSt sd rl rd dl wl vs cc os orow D W cd cw tail) → Top tp.view_1_40 (looseW tp.view_1_40 [Str.ofString "WORD_SIGNS", Str.ofString "CLOSERS", Str.ofString "FLAGS_OF"]) mean mg mb h₀ → cs.kind = .function →
    dp + 1 < recursionLimit → un + 8 * 1 < cLine → RowOk w orow X dl wl → (rd == sysModules) = false → Ord sd rl rd dl wl tail → D.size ≤ 100 → W.size ≤ 100 →
    (∀ (t : Tok) (h' : Heap) (tk' : Nat) (orow' : Obj) (cd' cw' : Nat) (da : Addr) (t1 t2 : Tok), Fr h₀ L h' m →
      News h₀ L h' (LawSt sd rl rd dl wl vs cc os orow' (D.push (.ref da)) (W.push (.bool wt)) cd' cw' ((da, { cls := .type "tuple", data := .seq #[.str kind t1, v, .int ((X ++ G).length : Nat) t2, .bool gb] }) :: tail)) →
      (X ++ G ++ P).length ≤ X.length + 40 → RowOk w orow' (X ++ G ++ P) dl wl → Ord sd rl rd dl wl ((da, { cls := .type "tuple", data := .seq #[.str kind t1, v, .int ((X ++ G).length : Nat) t2, .bool gb] }) :: tail) → Q .none { s with heap := h', toks := tk' }) →
    wpAny (model PySem.Challenge.rw_qz0108_01.row.prog w) (ktrTop dp un gd cn cs L a ccd cl outer) (call (.ref 485) [.ref rd, .str kind tk, v, .str P tp', .str G tg, .bool wt]) Q E s := by
  k_fill
  intro dp un gd cn cs a ccd cl outer A₀ base h₀ L m s Q E sd rl rd dl wl os orow D W cc cd cw tk tp' tg tail B F X9 N Tp hk hd hu hs lo O hD hW ret
  obtain ⟨u3, hs⟩ := hs
  subst hG
  dsimp only [LawSt] at N
  have o1 := O.a
  have o2 := O.b
  have o3 := O.c
  have o4 := O.d
  have o5 := O.e
  have o6 := O.off_rd
  have o7 := O.off_dl
  have o8 := O.off_wl
  have o9 := O.t
  refine wpAny_call ?_
  k_dflt cell_enter
  k_steps
  all_goals exact ret 0 _ _ _ _ _ _ _ _ (by k_asm) (news_rot (by k_asm)) (by rw [Str.length_append, Str.length_append]; omega) ⟨_, by assumption⟩ (O.more (by dsimp only; omega))
theorem calm_b12 : True := by w_top off; trivial
set_option maxHeartbeats 0 in
theorem marks_is {w : World} {mean : ExcName → Option Value} {mg mb : Str → Option Value} :
    Con w mean mg mb 1 471 [] (fun h₀ L m news s Q _ => ∀ (h' : Heap) (tk' : Nat) (a1 : Addr) (c : Nat) (us : List Value), Fr h₀ L h' m → News h₀ L h' ((a1, PySem.W.listOf us.toArray c) :: news) → AllLt a1 news → textsIn us = marksL → us.length = marksL.length → Q (.ref a1) { s with heap := h', toks := tk' }) := by
  unfold Con
  k_fill
  intro dp un gd cn cs a ccd cl outer A₀ base h₀ L m news s Q E B F X N Tp hk hd hu ret
  refine wpAny_call ?_
  k_dflt cell_enter
  k_steps
  all_goals exact ret _ _ _ _ [_, _, _, _, _, _, _, _, _, _] (by k_asm) (by k_asm) (by first | assumption | exact allLt_of (by assumption)) rfl rfl
local macro_rules | `(tactic| walk_at "tx marks") => `(tactic| (walk_at "tx sides"; intro h9 tk9 D1 c9 us9 F9 N9 l1 e9 n9; (try simp only [AllLt, and_true] at l1); (try dsimp only); (try k_fold)))
local macro_rules | `(tactic| walk_at "call ref") => `(tactic| (k_here; (with_reducible show wpAny _ _ (call (Value.ref 471) _) _ _ _); k_dflt (first | (refine' con_use (marks_is ) ?B ?F ?X ?N ?P ?K ?D ?U ?_; )); walk_at "tx marks"))
theorem pinch_use {w : World} {mean : ExcName → Option Value} {mg mb : Str → Option Value} {vs : List Value} {ns : List Int} {k many : Int} (hI : IntsAre vs ns) (hvl : ns.length ≤ 40) (hk1 : 0 ≤ k) (hk2 : k ≤ 1000) (hm1 : 1 ≤ many) (hm2 : many ≤ 20)
    {dp un : Nat} {gd : Option (List Code)} {cn : Str} {cs : Scope} {a : Addr} {ccd : Value} {cl : List (Str × Addr)} {outer : List Env} {A₀ : Around} {base h₀ : Heap} {L : Addr} {m : Str → Option Value} {s : Shared} {Q E : Value → Shared → Prop}
    {sd rl rd dl wl : Addr} {os orow : Obj} {D W : Array Value} {cc cd cw : Nat} {tm : Tok} {tail : List (Addr × Obj)}
    (B : Below A₀ base outer h₀) (F : Fr h₀ L s.heap m) (X : (tp.heap_1_39 w.params).In h₀) (N : News h₀ L s.heap (LawSt sd rl rd dl wl vs cc os orow D W cd cw tail)) (P : Top tp.view_1_40 (looseW tp.view_1_40 [Str.ofString "WORD_SIGNS", Str.ofString "CLOSERS", Str.ofString "FLAGS_OF"]) mean mg mb h₀) (K : cs.kind = .function)
    (Dq : dp + 1 < recursionLimit) (U : un + 8 * 1 < cLine) (hs : SaltOk w os rl k) (lo : (sd == sysModules) = false) (O : Ord sd rl rd dl wl tail)
    (ret : ∀ (r : Int) (t : Tok) (h' : Heap) (tk' : Nat) (os' : Obj), 0 ≤ r → r < many → Fr h₀ L h' m → News h₀ L h' (LawSt sd rl rd dl wl vs cc os' orow D W cd cw tail) → SaltOk w os' rl (k + 1) → Q (.int r t) { s with heap := h', toks := tk' }) :
    wpAny (model PySem.Challenge.rw_qz0108_01.row.prog w) (ktrTop dp un gd cn cs L a ccd cl outer) (call (.ref 478) [.ref sd, .int many tm]) Q E s :=
  pinch_is hI hvl hk1 hk2 hm1 hm2 _ _ _ _ _ _ _ _ _ _ _ _ _ _ _ _ _ _ _ _ _ _ _ B F X N P K Dq U hs lo O.e O.off ret
local macro_rules | `(tactic| walk_at "call ref") => `(tactic| (k_here; (with_reducible show wpAny _ _ (call (Value.ref 478) _) _ _ _); k_dflt (refine' pinch_use ?hI ?l1 ?l2 ?l3 ?l4 ?l5 ?B ?F ?X ?N ?P ?K ?D ?U ?S ?lo ?O ?_; (case hI => with_reducible assumption); (case N => walk_at "tx core"); (case S => assumption); (case lo => assumption); (case O => walk_at "tx ord"); (case l1 => omega); (case l2 => omega); (case l3 => omega); (case l4 => omega); (case l5 => omega); (case B => k_asm); (case F => k_asm); (case X => k_asm); (case P => k_asm); (case K => first | exact rfl | assumption); (case D => ktr_room); (case U => ktr_units)); intro r9 t9 h9 tk9 os9 r1 r2 F9 N9 S9; (try dsimp only [LawSt] at N9); (try dsimp only); (try k_fold)))
theorem put_use {w : World} {mean : ExcName → Option Value} {mg mb : Str → Option Value} {vs : List Value} {X G P kind : Str} {v : Value} {gb wt : Bool} (hG : (G != Str.ofString "") = gb) (hX : X.length ≤ 5000) (hGl : G.length ≤ 20) (hPl : P.length ≤ 20)
    {dp un : Nat} {gd : Option (List Code)} {cn : Str} {cs : Scope} {a : Addr} {ccd : Value} {cl : List (Str × Addr)} {outer : List Env} {A₀ : Around} {base h₀ : Heap} {L : Addr} {m : Str → Option Value} {s : Shared} {Q E : Value → Shared → Prop}
    {sd rl rd dl wl : Addr} {os orow : Obj} {D W : Array Value} {cc cd cw : Nat} {tk tp' tg : Tok} {tail : List (Addr × Obj)}
    (B : Below A₀ base outer h₀) (F : Fr h₀ L s.heap m) (X' : (tp.heap_1_39 w.params).In h₀) (N : News h₀ L s.heap (LawSt sd rl rd dl wl vs cc os orow D W cd cw tail)) (T : Top tp.view_1_40 (looseW tp.view_1_40 [Str.ofString "WORD_SIGNS", Str.ofString "CLOSERS", Str.ofString "FLAGS_OF"]) mean mg mb h₀) (K : cs.kind = .function)
    (Dq : dp + 1 < recursionLimit) (U : un + 8 * 1 < cLine) (hr : RowOk w orow X dl wl) (lo : (rd == sysModules) = false) (O : Ord sd rl rd dl wl tail) (hD : D.size ≤ 100) (hW : W.size ≤ 100)
    (ret : ∀ (t : Tok) (h' : Heap) (tk' : Nat) (orow' : Obj) (cd' cw' : Nat) (da : Addr) (t1 t2 : Tok), Fr h₀ L h' m →
      News h₀ L h' (LawSt sd rl rd dl wl vs cc os orow' (D.push (.ref da)) (W.push (.bool wt)) cd' cw' ((da, { cls := .type "tuple", data := .seq #[.str kind t1, v, .int ((X ++ G).length : Nat) t2, .bool gb] }) :: tail)) →
      (X ++ G ++ P).length ≤ X.length + 40 → RowOk w orow' (X ++ G ++ P) dl wl → Ord sd rl rd dl wl ((da, { cls := .type "tuple", data := .seq #[.str kind t1, v, .int ((X ++ G).length : Nat) t2, .bool gb] }) :: tail) → Q .none { s with heap := h', toks := tk' }) :
    wpAny (model PySem.Challenge.rw_qz0108_01.row.prog w) (ktrTop dp un gd cn cs L a ccd cl outer) (call (.ref 485) [.ref rd, .str kind tk, v, .str P tp', .str G tg, .bool wt]) Q E s :=
  put_is hG hX hGl hPl _ _ _ _ _ _ _ _ _ _ _ _ _ _ _ _ _ _ _ _ _ _ _ _ _ _ _ _ _ _ _ _ _ B F X' N T K Dq U hr lo O hD hW ret
theorem len_var {c : Nat} : (Str.ofString "$" ++ (⟨#[c]⟩ : Str)).length ≤ 20 := by rw [s_dollar]; exact Nat.le_of_ble_eq_true rfl
theorem len_num {r : Int} (h0 : 0 ≤ r) (h1 : r < 10) : (Str.ofString (toString r)).length ≤ 20 := by rw [digit_text h0 h1]; exact Nat.le_of_ble_eq_true rfl
theorem len_lit {S : Str} (h : decide (S.length ≤ 20) = true) : S.length ≤ 20 := of_decide_eq_true h
theorem marks_small : ∀ S ∈ marksL, S.length ≤ 20 := by decide +kernel
theorem menu_small {l : List Str} {S : Str} (h : S ∈ l) (hl : (l.all fun S => decide (S.length ≤ 20)) = true) : S.length ≤ 20 := of_decide_eq_true (List.all_eq_true.mp hl S h)
local macro_rules | `(tactic| walk_at "tx len") => `(tactic| first | exact len_var | exact len_num (by assumption) (by assumption) | exact marks_small _ (by assumption) | exact menu_small (by assumption) (by decide +kernel) | exact len_lit (by decide +kernel))
local macro_rules | `(tactic| walk_at "call ref") => `(tactic| (k_here; (with_reducible show wpAny _ _ (call (Value.ref 485) _) _ _ _); k_dflt (refine' put_use ?hG ?hX ?hGl ?hPl ?B ?F ?X ?N ?P ?K ?D ?U ?S ?lo ?O ?hD ?hW ?_; (case N => first | k_asm | exact news_rot (news_drop2 (by k_asm)) | exact news_rot (by k_asm)); (case hG => exact rfl); (case S => with_reducible assumption); (case hX => omega); (case hGl => walk_at "tx len"); (case hPl => walk_at "tx len"); (case lo => assumption); (case O => walk_at "tx ord"); (case hD => ((try simp only [Array.size_push]); omega)); (case hW => ((try simp only [Array.size_push]); omega)); (case B => k_asm); (case F => k_asm); (case X => k_asm); (case P => k_asm); (case K => first | exact rfl | assumption); (case D => ktr_room); (case U => ktr_units)); intro t9 h9 tk9 orow9 cd9 cw9 da9 u9 v9 F9 N9 z9 R9 O9; (try dsimp only [LawSt] at N9); (try dsimp only); (try k_fold)))
set_option maxHeartbeats 0 in
theorem statement_is {w : World} {mean : ExcName → Option Value} {mg mb : Str → Option Value} {vs : List Value} {ns : List Int} {X : Str} {k : Int} {first : Bool} (hI : IntsAre vs ns) (hvl : ns.length ≤ 40) (hk1 : 0 ≤ k) (hk2 : k ≤ 900) (hX : X.length ≤ 4000) :
    ∀ (dp un : Nat) (gd : Option (List Code)) (cn : Str) (cs : Scope) (a : Addr) (ccd : Value) (cl : List (Str × Addr)) (outer : List Env) (A₀ : Around) (base h₀ : Heap) (L : Addr) (m : Str → Option Value) (s : Shared) (Q E : Value → Shared → Prop)
    (sd rl rd dl wl : Addr) (os orow : Obj) (D W : Array Value) (cc cd cw : Nat) (tail : List (Addr × Obj)),
    Below A₀ base outer h₀ → Fr h₀ L s.heap m → (tp.heap_1_39 w.params).In h₀ → News h₀ L s.heap (LawSt sd rl rd dl wl vs cc os orow D W cd cw tail) → Top tp.view_1_40 (looseW tp.view_1_40 [Str.ofString "WORD_SIGNS", Str.ofString "CLOSERS", Str.ofString "FLAGS_OF"]) mean mg mb h₀ → cs.kind = .function →
    dp + 3 < recursionLimit → un + 8 * 3 < cLine → SaltOk w os rl k → RowOk w orow X dl wl → (sd == sysModules) = false → (rd == sysModules) = false → Ord sd rl rd dl wl tail → D.size ≤ 90 → W.size ≤ 90 →
    (∀ (t : Stm) (k' : Int) (h' : Heap) (tk' : Nat) (os' orow' : Obj) (D' W' : Array Value) (cd' cw' : Nat) (tail' : List (Addr × Obj)) (ds : List Value), t.Ok → (first = true → t.G = Str.ofString "") → k' ≤ k + 8 → 0 ≤ k' → Fr h₀ L h' m →
      News h₀ L h' (LawSt sd rl rd dl wl vs cc os' orow' D' W' cd' cw' tail') → SaltOk w os' rl k' → RowOk w orow' (app X t) dl wl → (app X t).length ≤ X.length + 160 → Ord sd rl rd dl wl tail' → (∀ p ∈ tail, p ∈ tail') →
      D'.toList = D.toList ++ ds → W'.toList = W.toList ++ (toksOf X t).map (fun q => .bool q.wants) → Dues tail' ds (toksOf X t) → Q .none { s with heap := h', toks := tk' }) →
    wpAny (model PySem.Challenge.rw_qz0108_01.row.prog w) (ktrTop dp un gd cn cs L a ccd cl outer) (call (.ref 492) [.ref sd, .ref rd, .bool first]) Q E s := by
  k_fill
  intro dp un gd cn cs a ccd cl outer A₀ base h₀ L m s Q E sd rl rd dl wl os orow D W cc cd cw tail B F X9 N Tp hk hd hu hs hr lo lo2 O hD hW ret
  dsimp only [LawSt] at N
  cases first
  · refine wpAny_call ?_
    k_dflt cell_enter
    k_steps
    refine' ret ⟨_, _, _, _, _, _⟩ _ _ _ _ _ _ _ _ _ _ [?v1, ?v2, ?v3, ?v4] ?ok (fun h => (nomatch h)) ?kk ?k0 ?F ?N ?S ?R ?len ?O ?sub ?d ?w ?due
    case F => k_asm
    case N => k_asm
    case S => assumption
    case R => assumption
    case O => assumption
    case d => exact push4
    case w => exact push4
    case ok => exact ⟨by assumption, by assumption, by assumption, by assumption, by assumption, by assumption, by assumption⟩
    case kk => omega
    case k0 => omega
    case len => exact len4 (by assumption) (by assumption) (by assumption) (by assumption)
    case sub => (intro p hp; repeat (first | exact hp | refine List.Mem.tail _ ?_))
    case due =>
      refine' Dues.cons (due_var ?a1 ?a2) (Dues.cons (due_str ?b1) (Dues.cons (due_int ?c1) (Dues.cons (due_str ?d1) Dues.nil)))
      case a1 => k_mem
      case a2 => k_mem
      case b1 => k_mem
      case c1 => k_mem
      case d1 => k_mem
  · refine wpAny_call ?_
    k_dflt cell_enter
    k_steps
    refine' ret ⟨_, _, _, _, _, _⟩ _ _ _ _ _ _ _ _ _ _ [?z1, ?z2, ?z3, ?z4] ?ok (fun _ => rfl) ?kk ?k0 ?F ?N ?S ?R ?len ?O ?sub ?d ?w ?due
    case F => k_asm
    case N => k_asm
    case S => assumption
    case R => assumption
    case O => assumption
    case d => exact push4
    case w => exact push4
    case ok => exact ⟨List.Mem.head _, by assumption, by assumption, by assumption, by assumption, by assumption, by assumption⟩
    case kk => omega
    case k0 => omega
    case len => exact len4 (by assumption) (by assumption) (by assumption) (by assumption)
    case sub => (intro p hp; repeat (first | exact hp | refine List.Mem.tail _ ?_))
    case due =>
      refine' Dues.cons (due_var ?a1 ?a2) (Dues.cons (due_str ?b1) (Dues.cons (due_int ?c1) (Dues.cons (due_str ?d1) Dues.nil)))
      case a1 => k_mem
      case a2 => k_mem
      case b1 => k_mem
      case c1 => k_mem
      case d1 => k_mem
theorem calm_b14 : True := by w_top off; trivial
theorem at_of {T : Str} {P W : List Nat} (h : T.cps.toList = P ++ W) : At T P.length W := by unfold At; rw [h]; simp
theorem ahead_of {T : Str} {P W : List Nat} {c : Nat} (h : T.cps.toList = (P ++ [c]) ++ W) : Ahead T (P.length + 1) c := by
  refine ⟨by omega, ?_⟩
  rw [h]; simp
theorem str_len {S : Str} : S.cps.toList.length = S.length := by simp [Str.length]
theorem gaps_at : (Str.ofString "").cps.toList = [] ∧ (Str.ofString " ").cps.toList = [32] ∧ (Str.ofString "\n").cps.toList = [10] ∧ (Str.ofString " # $) '\n").cps.toList = [32, 35, 32, 36, 41, 32, 39, 10] ∧ (Str.ofString "\n ").cps.toList = [10, 32] := by decide +kernel
theorem gaps_len : (Str.ofString "").length = 0 ∧ (Str.ofString " ").length = 1 ∧ (Str.ofString "\n").length = 1 ∧ (Str.ofString " # $) '\n").length = 8 ∧ (Str.ofString "\n ").length = 2 := by decide +kernel
/-- a sign at which a token begins -/
structure Opens (d : Nat) : Prop where
  a : d ≠ 10
  b : d ≠ 35
  c : decide (d ∈ (Str.ofString " \t\r\x0c").cps.toList) = false
theorem sk_eq {w : World} {mean : ExcName → Option Value} {mg mb : Str → Option Value} {T : Str} {i e e' : Int} (h : SK w mean mg mb T i e) (q : e = e') : SK w mean mg mb T i e' := q ▸ h
theorem skip_gap {w : World} {mean : ExcName → Option Value} {mg mb : Str → Option Value} {T G : Str} {n d : Nat} {r : List Nat} (hT : T.length ≤ 10000) (hG : G ∈ gapsL) (hA : At T n (G.cps.toList ++ d :: r)) (hd : Opens d) (h61 : d ≠ 61) : SK w mean mg mb T (n : Int) ((n + G.length : Nat) : Int) := by
  obtain ⟨g1, g2, g3, g4, g5⟩ := gaps_at
  obtain ⟨l1, l2, l3, l4, l5⟩ := gaps_len
  simp only [gapsL, List.mem_cons, List.not_mem_nil, or_false] at hG
  rcases hG with rfl | rfl | rfl | rfl
  · rw [g1, List.nil_append] at hA
    exact sk_eq (skip_none hT hA rfl (line_begin_any hT hA rfl h61) hd.a hd.b hd.c) (by omega)
  · rw [g2] at hA
    exact sk_eq (skip_sp hT hA rfl (line_begin_any hT hA rfl (by decide)) hd.a hd.b hd.c) (by omega)
  · rw [g3] at hA
    exact sk_eq (skip_nl hT hA rfl (line_begin_any hT hA rfl (by decide)) (line_begin_any hT hA.next (by omega) h61) hd.a hd.b hd.c) (by omega)
  · rw [g4] at hA
    exact sk_eq (skip_remark hT hA rfl (line_begin_any hT hA rfl (by decide)) (line_begin_any hT (At.skip (V := [32, 35, 32, 36, 41, 32, 39, 10]) hA) (by simp only [List.length_cons, List.length_nil]; omega) h61) hd.a hd.b hd.c) (by omega)
theorem skip_after {w : World} {mean : ExcName → Option Value} {mg mb : Str → Option Value} {T G : Str} {n d : Nat} {r : List Nat} (hT : T.length ≤ 10000) (hG : G ∈ afterL) (hA : At T n (G.cps.toList ++ d :: r)) (hd : Opens d) (h61 : d ≠ 61) : SK w mean mg mb T (n : Int) ((n + G.length : Nat) : Int) := by
  obtain ⟨g1, g2, g3, g4, g5⟩ := gaps_at
  obtain ⟨l1, l2, l3, l4, l5⟩ := gaps_len
  simp only [afterL, List.mem_cons, List.not_mem_nil, or_false] at hG
  rcases hG with rfl | rfl
  · rw [g1, List.nil_append] at hA
    exact sk_eq (skip_none hT hA rfl (line_begin_any hT hA rfl h61) hd.a hd.b hd.c) (by omega)
  · rw [g5] at hA
    exact sk_eq (skip_nlsp hT hA rfl (line_begin_any hT hA rfl (by decide)) (line_begin_any hT hA.next (by omega) (by decide)) hd.a hd.b hd.c) (by omega)
theorem skip_ahead {w : World} {mean : ExcName → Option Value} {mg mb : Str → Option Value} {T G : Str} {n d c : Nat} {r : List Nat} (hT : T.length ≤ 10000) (hG : G ∈ aheadL) (hA : At T n (G.cps.toList ++ d :: r)) (hB : Ahead T n c) (hc : c ≠ 10) (hd : Opens d) : SK w mean mg mb T (n : Int) ((n + G.length : Nat) : Int) := by
  obtain ⟨g1, g2, g3, g4, g5⟩ := gaps_at
  obtain ⟨l1, l2, l3, l4, l5⟩ := gaps_len
  simp only [aheadL, List.mem_cons, List.not_mem_nil, or_false] at hG
  rcases hG with rfl | rfl
  · rw [g1, List.nil_append] at hA
    exact sk_eq (skip_none hT hA rfl (line_begin_no hT hA rfl hB hc) hd.a hd.b hd.c) (by omega)
  · rw [g2] at hA
    exact sk_eq (skip_sp hT hA rfl (line_begin_no hT hA rfl hB hc) hd.a hd.b hd.c) (by omega)
/-- the signs that name scalars -/
theorem letters_ok : ∀ c ∈ (Str.ofString "&`'+!@/\\,;.\"|").cps.toList, NoWord c ∧ c ≠ 58 ∧ c ≠ 123 ∧ c ≠ 36 ∧ c ≠ 35 ∧ decide (c ∈ (Str.ofString "0123456789").cps.toList) = false ∧ decide (c ∈ (Str.ofString "&`'+!@/\\,;.\"|").cps.toList) = true ∧ c ≠ 10 := by unfold NoWord; decide +kernel
theorem opens_36 : Opens 36 := ⟨by decide, by decide, by decide +kernel⟩
theorem opens_59 : Opens 59 := ⟨by decide, by decide, by decide +kernel⟩
theorem opens_digit {d : Nat} (h : d < 10) : Opens (48 + d) ∧ 48 + d ≠ 61 ∧ NoWord (48 + d) := by
  have : ∀ d : Fin 10, (48 + d.val) ≠ 10 ∧ (48 + d.val) ≠ 35 ∧ decide ((48 + d.val) ∈ (Str.ofString " \t\r\x0c").cps.toList) = false ∧ (48 + d.val) ≠ 61 ∧ (48 + d.val) ∉ (Str.ofString "ABCDEFGHIJKLMNOPQRSTUVWXYZabcdefghijklmnopqrstuvwxyz_").cps.toList := by decide +kernel
  obtain ⟨a, b, c, e, f⟩ := this ⟨d, h⟩
  exact ⟨⟨a, b, c⟩, e, f⟩
def hitW (W : List Nat) (S : Str) : Bool := (⟨(W.take S.length).toArray⟩ : Str) == S
theorem hit_is {T S : Str} {n : Nat} {W : List Nat} {i : Int} (hA : At T n W) (hi : i = (n : Int)) (hl : n + S.length ≤ T.length) : hitAt T i S = hitW W S := by
  unfold hitAt hitW
  rw [hA.slice (k := 0) (l := S.length) (V := W.take S.length) (by omega) (by omega) (by simp) (by omega)]
def opEndW (W : List Nat) : Nat := match longS.find? (hitW W) with | some S => S.length | none => 1
theorem first_hit {p : Str → Bool} : ∀ (l : List Str) (k : Nat) (S : Str), l[k]? = some S → (∀ j < k, ∀ S', l[j]? = some S' → p S' = false) → p S = true → l.find? p = some S
  | [], _, _, h, _, _ => by simp at h
  | x :: l, 0, S, h, _, hp => by simp at h; subst h; simp [hp]
  | x :: l, k + 1, S, h, hn, hp => by
    have h0 := hn 0 (by omega) x rfl
    have := first_hit l k S (by simpa using h) (fun j hj S' hS' => hn (j + 1) (by omega) S' (by simpa using hS')) hp
    simp [h0, this]
theorem take_hit {W : List Nat} {S : Str} (h : S.length ≤ 3) : hitW (W.take 3) S = hitW W S := by
  unfold hitW
  rw [List.take_take, Nat.min_eq_left h]
theorem find_congr {p q : Str → Bool} : ∀ (l : List Str), (∀ S ∈ l, p S = q S) → l.find? p = l.find? q
  | [], _ => rfl
  | x :: l, h => by
    have h1 := h x (.head _)
    have h2 := find_congr l fun S hS => h S (.tail _ hS)
    simp [List.find?_cons, h1, h2]
theorem opEnd_take {W : List Nat} : opEndW W = opEndW (W.take 3) := by
  unfold opEndW
  rw [find_congr longS fun S hS => (take_hit (W := W) (long_small S hS)).symm]
theorem mark_end : ∀ M ∈ marksL, ∀ F ∈ afterL, ∀ d : Fin 10, opEndW ((M.cps.toList ++ (F.cps.toList ++ [48 + d.val, 59])).take 3) = M.length := by unfold opEndW hitW; decide +kernel
theorem mark_ok : ∀ M ∈ marksL, ∃ c r, M.cps.toList = c :: r ∧ Opens c ∧ decide (c ∈ (Str.ofString "+-*/%=<>!~\\?:.,;(){}[]&|^").cps.toList) = true ∧ NoWord c ∧ c ≠ 58 ∧ decide (c ∈ (Str.ofString "0123456789").cps.toList) = false ∧ c ≠ 39 ∧ c ≠ 34 ∧ c ≠ 36 ∧ c ≠ 64 := by
  have : ∀ M ∈ marksL, ∃ c, M.cps.toList.head? = some c ∧ c ≠ 10 ∧ c ≠ 35 ∧ decide (c ∈ (Str.ofString " \t\r\x0c").cps.toList) = false ∧ decide (c ∈ (Str.ofString "+-*/%=<>!~\\?:.,;(){}[]&|^").cps.toList) = true ∧ c ∉ (Str.ofString "ABCDEFGHIJKLMNOPQRSTUVWXYZabcdefghijklmnopqrstuvwxyz_").cps.toList ∧ c ≠ 58 ∧ decide (c ∈ (Str.ofString "0123456789").cps.toList) = false ∧ c ≠ 39 ∧ c ≠ 34 ∧ c ≠ 36 ∧ c ≠ 64 := by
    have q : ∀ M ∈ marksL, (M.cps.toList.head?.any fun c => decide (c ≠ 10 ∧ c ≠ 35 ∧ decide (c ∈ (Str.ofString " \t\r\x0c").cps.toList) = false ∧ decide (c ∈ (Str.ofString "+-*/%=<>!~\\?:.,;(){}[]&|^").cps.toList) = true ∧ c ∉ (Str.ofString "ABCDEFGHIJKLMNOPQRSTUVWXYZabcdefghijklmnopqrstuvwxyz_").cps.toList ∧ c ≠ 58 ∧ decide (c ∈ (Str.ofString "0123456789").cps.toList) = false ∧ c ≠ 39 ∧ c ≠ 34 ∧ c ≠ 36 ∧ c ≠ 64)) = true := by decide +kernel
    intro M hM
    have h1 := q M hM
    cases hh : M.cps.toList.head? with
    | none => rw [hh] at h1; cases h1
    | some c => rw [hh] at h1; exact ⟨c, rfl, of_decide_eq_true h1⟩
  intro M hM
  obtain ⟨c, h0, a1, a2, a3, a4, a5, a6, a7, a8, a9, a10, a11⟩ := this M hM
  cases hl : M.cps.toList with
  | nil => rw [hl] at h0; cases h0
  | cons x r => rw [hl] at h0; simp at h0; subst h0; exact ⟨x, r, rfl, ⟨a1, a2, a3⟩, a4, a5, a6, a7, a8, a9, a10, a11⟩
theorem mark_pos : ∀ M ∈ marksL, 1 ≤ M.length ∧ M.length ≤ 3 := by decide +kernel
theorem semi_end {r : List Nat} : opEndW (59 :: r) = 1 := by
  have : ∀ S ∈ longS, S.cps.toList.head? ≠ some 59 ∧ 0 < S.length := by decide +kernel
  have h : longS.find? (hitW (59 :: r)) = none := by
    rw [List.find?_eq_none]
    intro S hS hp
    obtain ⟨h1, h2⟩ := this S hS
    unfold hitW at hp
    have e : (⟨((59 :: r).take S.length).toArray⟩ : Str) = S := eq_of_beq hp
    apply h1
    rw [← e]
    obtain ⟨k, hk⟩ : ∃ k, S.length = k + 1 := ⟨S.length - 1, by omega⟩
    rw [hk]; simp
  unfold opEndW
  rw [h]
theorem op_next {w : World} {mean : ExcName → Option Value} {mg mb : Str → Option Value} {T M : Str} {n c d : Nat} {W r : List Nat} {i e : Int} (hT : T.length ≤ 10000) (hA : At T n W) (hW : W = c :: d :: r) (hw3 : 3 ≤ W.length) (hi : i = (n : Int)) (hs : decide (c ∈ (Str.ofString "+-*/%=<>!~\\?:.,;(){}[]&|^").cps.toList) = true)
    (hw0 : NoWord c) (h58 : c ≠ 58) (hdg : decide (c ∈ (Str.ofString "0123456789").cps.toList) = false) (h39 : c ≠ 39) (h34 : c ≠ 34) (h36 : c ≠ 36) (h64 : c ≠ 64) (hE : opEndW W = M.length) (hM : W.take M.length = M.cps.toList) (hMl : 1 ≤ M.length) (he : e = i + (M.length : Int)) (hnT : n + 3 ≤ T.length) (hM3 : M.length ≤ 3) :
    TK w mean mg mb T i false (Str.ofString "op") (.str M) e := by
  subst hW
  have hit : ∀ S ∈ longS, hitAt T i S = hitW (c :: d :: r) S := fun S hS => hit_is hA hi (by have := long_small S hS; omega)
  have := token_op (w := w) (mean := mean) (mg := mg) (mb := mb) (e := e) hT hA hi hs (fun k S hk hn hp => by
      have hS := List.mem_of_getElem? hk
      have hf := first_hit longS k S hk (p := hitW (c :: d :: r)) (fun j hj S' hS' => by rw [← hit S' (List.mem_of_getElem? hS')]; exact hn j hj S' hS') (by rw [← hit S hS]; exact hp)
      unfold opEndW at hE
      rw [hf] at hE
      simp only at hE
      rw [he, ← hE]) (fun hn => by
      have hf : longS.find? (hitW (c :: d :: r)) = none := by
        rw [List.find?_eq_none]
        intro S hS hp
        rw [← hit S hS, hn S hS] at hp
        cases hp
      unfold opEndW at hE
      rw [hf] at hE
      simp only at hE
      rw [he, ← hE]; rfl) hw0 h58 hdg h39 h34 h36 h64 (by omega) (by omega)
  have hsl : Txt.slice T (some i) (some e) = M := by
    rw [hA.slice (k := 0) (l := M.length) (V := M.cps.toList) (by omega) (by omega) (by simpa using hM) (by omega)]
  rw [hsl] at this
  exact this
theorem calm_b15 : True := by w_top off; trivial
theorem app_cps {X : Str} {t : Stm} (ok : t.Ok) : (app X t).cps.toList = X.cps.toList ++ (t.G.cps.toList ++ (36 :: t.c :: (t.A.cps.toList ++ (t.M.cps.toList ++ (t.F.cps.toList ++ [48 + t.r.toNat, 59]))))) := by
  have e1 : Str.ofString "$" = ⟨#[36]⟩ := s_dollar
  have e2 : Str.ofString "" = ⟨#[]⟩ := s_empty
  have e3 : Str.ofString ";" = ⟨#[59]⟩ := by decide +kernel
  simp only [app, digit_text ok.r0 ok.r1, e1, e2, e3, Str.cps_append, Array.toList_append, List.append_assoc, List.nil_append, List.cons_append, List.append_nil]
theorem app_lens {X : Str} {t : Stm} (ok : t.Ok) : (app1 X t).length = X.length + t.G.length ∧ (app2 X t).length = X.length + t.G.length + 2 + t.A.length ∧ (app3 X t).length = X.length + t.G.length + 2 + t.A.length + t.M.length + t.F.length ∧
    (app4 X t).length = X.length + t.G.length + 2 + t.A.length + t.M.length + t.F.length + 1 ∧ (app X t).length = X.length + t.G.length + 2 + t.A.length + t.M.length + t.F.length + 2 := by
  have e1 : (Str.ofString "$").length = 1 := by decide +kernel
  have e2 : (Str.ofString "").length = 0 := by decide +kernel
  have e3 : (Str.ofString ";").length = 1 := by decide +kernel
  have e4 : (⟨#[t.c]⟩ : Str).length = 1 := rfl
  have e5 : (⟨#[48 + t.r.toNat]⟩ : Str).length = 1 := rfl
  refine ⟨?_, ?_, ?_, ?_, ?_⟩ <;> simp only [app, app1, app2, app3, app4, digit_text ok.r0 ok.r1, Str.length_append, e1, e2, e3, e4, e5] <;> omega
theorem gap_bit {G : Str} {n : Nat} (h : G ∈ gapsL ∨ G ∈ aheadL ∨ G ∈ afterL) : decide ((n : Int) < ((n + G.length : Nat) : Int)) = (G != Str.ofString "") := by
  have : ∀ G ∈ gapsL ++ aheadL ++ afterL, (G != Str.ofString "") = decide (0 < G.length) := by decide +kernel
  have h' : G ∈ gapsL ++ aheadL ++ afterL := by
    simp only [List.mem_append]
    rcases h with h | h | h
    · exact .inl (.inl h)
    · exact .inl (.inr h)
    · exact .inr h
  rw [this G h', decide_eq_decide]
  omega
/-- the four tokens of a statement are given, one by one -/
theorem stmt_next {w : World} {mean : ExcName → Option Value} {mg mb : Str → Option Value} {T X : Str} {t : Stm} {R r' : List Nat} {r0 r1 : Nat} (hT : T.length ≤ 10000) (ok : t.Ok) (hR : R = r0 :: r1 :: r') (h : T.cps.toList = (app X t).cps.toList ++ R) :
    NX w mean mg mb T (X.length : Int) true (Str.ofString "var") (PairData t.c) ((app1 X t).length : Nat) ((X.length + t.G.length + 2 : Nat) : Int) ∧
    NX w mean mg mb T ((X.length + t.G.length + 2 : Nat) : Int) false (Str.ofString "op") (.str t.M) ((app2 X t).length : Nat) ((X.length + t.G.length + 2 + t.A.length + t.M.length : Nat) : Int) ∧
    NX w mean mg mb T ((X.length + t.G.length + 2 + t.A.length + t.M.length : Nat) : Int) true (Str.ofString "num") (.int t.r) ((app3 X t).length : Nat) ((X.length + t.G.length + 2 + t.A.length + t.M.length + t.F.length + 1 : Nat) : Int) ∧
    NX w mean mg mb T ((X.length + t.G.length + 2 + t.A.length + t.M.length + t.F.length + 1 : Nat) : Int) false (Str.ofString "op") (.str (Str.ofString ";")) ((app4 X t).length : Nat) ((X.length + t.G.length + 2 + t.A.length + t.M.length + t.F.length + 2 : Nat) : Int) := by
  obtain ⟨L1, L2, L3, L4, L5⟩ := app_lens (X := X) ok
  obtain ⟨q1, q2, q3, q4, q5, q6, q7, q8⟩ := letters_ok t.c ok.c
  obtain ⟨mc, mr, hm, mO, m1, m2, m3, m4, m5, m6, m7, m8⟩ := mark_ok t.M ok.m
  obtain ⟨mp, mp3⟩ := mark_pos t.M ok.m
  have hd10 : t.r.toNat < 10 := by have := ok.r0; have := ok.r1; omega
  obtain ⟨dO, d61, dW⟩ := opens_digit hd10
  have hTl : T.length = (app X t).length + R.length := by rw [← str_len (S := T), h, List.length_append, str_len]
  rw [hR] at hTl
  simp only [List.length_cons] at hTl
  rw [app_cps ok, hR] at h
  simp only [List.append_assoc, List.cons_append, List.nil_append] at h
  have sl : ∀ S : Str, S.cps.toList.length = S.length := fun S => str_len
  -- the windows
  have w0 : At T X.length (t.G.cps.toList ++ 36 :: t.c :: (t.A.cps.toList ++ (t.M.cps.toList ++ (t.F.cps.toList ++ (48 + t.r.toNat) :: 59 :: r0 :: r1 :: r')))) := by
    have := at_of h; rw [sl] at this; exact this
  have w1 := w0.skip
  rw [sl] at w1
  have w2 := w1.next.next
  have w3 := w2.skip
  rw [sl] at w3
  have w4 := w3.skip
  rw [sl] at w4
  have w5 := w4.skip
  rw [sl] at w5
  have w6 := w5.next
  obtain ⟨d0, z0, hz⟩ : ∃ d0 z0, t.A.cps.toList ++ (t.M.cps.toList ++ (t.F.cps.toList ++ (48 + t.r.toNat) :: 59 :: r0 :: r1 :: r')) = d0 :: z0 := by
    cases hA : t.A.cps.toList with
    | nil => rw [hm]; exact ⟨_, _, rfl⟩
    | cons y ys => exact ⟨_, _, rfl⟩
  have hAh : Ahead T (X.length + t.G.length + 1 + 1) t.c := by
    have e : T.cps.toList = (X.cps.toList ++ t.G.cps.toList ++ [36] ++ [t.c]) ++ (t.A.cps.toList ++ (t.M.cps.toList ++ (t.F.cps.toList ++ (48 + t.r.toNat) :: 59 :: r0 :: r1 :: r'))) := by rw [h]; simp
    have := ahead_of e
    simp only [List.length_append, List.length_cons, List.length_nil, sl] at this
    exact this
  refine ⟨?_, ?_, ?_, ?_⟩
  · refine next_is hT (by omega) (sk_eq (skip_gap hT ok.g w0 opens_36 (by decide)) (by omega)) ?_
    have w1' := w1
    rw [hz] at w1'
    have := token_var (w := w) (mean := mean) (mg := mg) (mb := mb) (i := ((app1 X t).length : Nat)) hT w1' (by omega) q1 q2 q3 q4 q5 q6 q7
    rw [show ((X.length + t.G.length + 2 : Nat) : Int) = ((app1 X t).length : Nat) + 2 from by omega]
    exact this
  · have w2' : At T (X.length + t.G.length + 1 + 1) (t.A.cps.toList ++ mc :: (mr ++ (t.F.cps.toList ++ (48 + t.r.toNat) :: 59 :: r0 :: r1 :: r'))) := by rw [hm] at w2; exact w2
    refine next_is hT (by omega) (sk_eq (skip_ahead (n := X.length + t.G.length + 2) hT ok.a w2' hAh q8 mO) (by omega)) ?_
    have hz2 : ∃ d r, t.M.cps.toList ++ (t.F.cps.toList ++ (48 + t.r.toNat) :: 59 :: r0 :: r1 :: r') = mc :: d :: r := by
      rw [hm]
      cases hmr : mr ++ (t.F.cps.toList ++ (48 + t.r.toNat) :: 59 :: r0 :: r1 :: r') with
      | nil => simp at hmr
      | cons y ys => exact ⟨y, ys, by rw [List.cons_append, hmr]⟩
    obtain ⟨d, rr, hz2⟩ := hz2
    have hE : opEndW (t.M.cps.toList ++ (t.F.cps.toList ++ (48 + t.r.toNat) :: 59 :: r0 :: r1 :: r')) = t.M.length := by
      rw [opEnd_take]
      have e : (t.M.cps.toList ++ (t.F.cps.toList ++ (48 + t.r.toNat) :: 59 :: r0 :: r1 :: r')).take 3 = (t.M.cps.toList ++ (t.F.cps.toList ++ [48 + t.r.toNat, 59])).take 3 := by
        rw [show t.M.cps.toList ++ (t.F.cps.toList ++ (48 + t.r.toNat) :: 59 :: r0 :: r1 :: r') = (t.M.cps.toList ++ (t.F.cps.toList ++ [48 + t.r.toNat, 59])) ++ (r0 :: r1 :: r') from by simp]
        rw [List.take_append_of_le_length]
        simp only [List.length_append, List.length_cons, List.length_nil, sl]
        omega
      rw [e]
      exact mark_end t.M ok.m t.F ok.f ⟨t.r.toNat, hd10⟩
    exact op_next hT w3 hz2 (by simp only [List.length_append, List.length_cons, sl]; omega) (by omega) m1 m2 m3 m4 m5 m6 m7 m8 hE (by rw [← sl t.M]; simp) mp (by omega) (by omega) mp3
  · refine next_is hT (by omega) (sk_eq (skip_after (n := X.length + t.G.length + 2 + t.A.length + t.M.length) hT ok.f w4 dO d61) (by omega)) ?_
    have := token_num (w := w) (mean := mean) (mg := mg) (mb := mb) (i := ((app3 X t).length : Nat)) (wants := true) hT w5 (by omega) hd10 dW
    rw [show ((X.length + t.G.length + 2 + t.A.length + t.M.length + t.F.length + 1 : Nat) : Int) = ((app3 X t).length : Nat) + 1 from by omega]
    rw [show (t.r.toNat : Int) = t.r from by have := ok.r0; omega] at this
    exact this
  · refine next_is hT (by omega) (sk_eq (skip_none (n := X.length + t.G.length + 2 + t.A.length + t.M.length + t.F.length + 1) hT w6 (by omega) (line_begin_any hT w6 (by omega) (by decide)) opens_59.a opens_59.b opens_59.c) (by omega)) ?_
    exact op_next (M := Str.ofString ";") hT w6 rfl (by simp only [List.length_cons]; omega) (by omega) (by decide +kernel) (by unfold NoWord; decide +kernel) (by decide) (by decide +kernel) (by decide) (by decide) (by decide) (by decide) (by rw [semi_end]; decide +kernel) (by rw [show (Str.ofString ";").length = 1 from by decide +kernel]; simp only [List.take_succ_cons, List.take_zero]; decide +kernel) (by decide +kernel) (by rw [show (Str.ofString ";").length = 1 from by decide +kernel]; omega) (by omega) (by decide +kernel)
theorem calm_b16 : True := by w_top off; trivial
def endsOf (X : Str) (t : Stm) : List Nat := [X.length + t.G.length + 2, X.length + t.G.length + 2 + t.A.length + t.M.length, X.length + t.G.length + 2 + t.A.length + t.M.length + t.F.length + 1, X.length + t.G.length + 2 + t.A.length + t.M.length + t.F.length + 2]
def allEnds : Str → List Stm → List Nat
  | _, [] => []
  | X, t :: r => endsOf X t ++ allEnds (app X t) r
def posn (X : Str) (sts : List Stm) (k : Nat) : Int := (((X.length :: allEnds X sts).getD k 0 : Nat) : Int)
def ShapeOk (k : TokD) : Prop := SeqAt.shaped (.tuple [.str k.kind, k.V, .int (k.p : Int), .bool k.gb]) = true ∧ SeqAt.noMix (.tuple [.str k.kind, k.V, .int (k.p : Int), .bool k.gb]) (.tuple [.str k.kind, k.V, .int (k.p : Int), .bool k.gb]) = true
theorem posn_zero {X : Str} {sts : List Stm} : posn X sts 0 = (X.length : Int) := rfl
theorem posn_next {X : Str} {t : Stm} {r : List Stm} (ok : t.Ok) (k : Nat) : posn X (t :: r) (k + 4) = posn (app X t) r k := by
  obtain ⟨_, _, _, _, L5⟩ := app_lens (X := X) ok
  unfold posn
  cases k with
  | zero => simp only [allEnds, endsOf, List.cons_append, List.nil_append, List.getD_cons_succ, List.getD_cons_zero, L5]
  | succ k => simp only [allEnds, endsOf, List.cons_append, List.nil_append, List.getD_cons_succ]
theorem foldl_pre : ∀ (r : List Stm) (Y : Str), ∃ Z, (r.foldl app Y).cps.toList = Y.cps.toList ++ Z
  | [], Y => ⟨[], by simp⟩
  | t :: r, Y => by
    obtain ⟨Z, hZ⟩ := foldl_pre r (app Y t)
    refine ⟨t.G.cps.toList ++ ((Str.ofString "$" ++ (⟨#[t.c]⟩ : Str)).cps.toList ++ (t.A.cps.toList ++ (t.M.cps.toList ++ (t.F.cps.toList ++ ((Str.ofString (toString t.r)).cps.toList ++ ((Str.ofString "").cps.toList ++ ((Str.ofString ";").cps.toList ++ Z))))))), ?_⟩
    rw [List.foldl_cons, hZ]
    simp only [app, Str.cps_append, Array.toList_append, List.append_assoc]
theorem letters_small : ∀ c ∈ (Str.ofString "&`'+!@/\\,;.\"|").cps.toList, PyData.strOk ⟨#[c]⟩ = true := by decide +kernel
theorem marks_str : ∀ M ∈ marksL, PyData.strOk M = true := by decide +kernel
theorem strOk_lits : PyData.strOk (Str.ofString "var") = true ∧ PyData.strOk (Str.ofString "op") = true ∧ PyData.strOk (Str.ofString "num") = true ∧ PyData.strOk (Str.ofString "$") = true ∧ PyData.strOk (Str.ofString ";") = true := by decide +kernel
theorem shape_toks {X : Str} {t : Stm} (ok : t.Ok) : ∀ k ∈ toksOf X t, ShapeOk k := by
  obtain ⟨s1, s2, s3, s4, s5⟩ := strOk_lits
  have s6 := letters_small t.c ok.c
  have s7 := marks_str t.M ok.m
  intro k hk
  simp only [toksOf, List.mem_cons, List.not_mem_nil, or_false] at hk
  rcases hk with rfl | rfl | rfl | rfl <;>
  exact ⟨by simp [SeqAt.shaped, PyData.canLay0, PyData.canLayAll0, PyData.depth, PyData.depthAll, s1, s2, s3, s4, s5, s6, s7], by simp [SeqAt.noMix, SeqAt.noMixAll]⟩
theorem all_next {w : World} {mean : ExcName → Option Value} {mg mb : Str → Option Value} {T : Str} {R r' : List Nat} {r0 r1 : Nat} (hT : T.length ≤ 10000) (hR : R = r0 :: r1 :: r') : ∀ (sts : List Stm) (X : Str), (∀ t ∈ sts, t.Ok) → T.cps.toList = (sts.foldl app X).cps.toList ++ R →
    ∀ (k : Nat) (tok : TokD), (allToks X sts)[k]? = some tok → NX w mean mg mb T (posn X sts k) tok.wants tok.kind tok.V (tok.p : Int) (posn X sts (k + 1)) ∧ decide (posn X sts k < (tok.p : Int)) = tok.gb ∧ ShapeOk tok
  | [], _, _, _, k, tok, hk => by simp [allToks] at hk
  | t :: r, X, hok, h, k, tok, hk => by
    have ok := hok t (.head _)
    obtain ⟨L1, L2, L3, L4, L5⟩ := app_lens (X := X) ok
    obtain ⟨Z, hZ⟩ := foldl_pre r (app X t)
    have h' : T.cps.toList = (app X t).cps.toList ++ (Z ++ R) := by rw [h, List.foldl_cons, hZ, List.append_assoc]
    obtain ⟨z0, z1, z', hz⟩ : ∃ z0 z1 z', Z ++ R = z0 :: z1 :: z' := by
      rw [hR]
      cases Z with
      | nil => exact ⟨_, _, _, rfl⟩
      | cons a Z => cases Z with
        | nil => exact ⟨_, _, _, rfl⟩
        | cons b Z => exact ⟨_, _, _, rfl⟩
    obtain ⟨N1, N2, N3, N4⟩ := stmt_next (w := w) (mean := mean) (mg := mg) (mb := mb) hT ok hz h'
    have sh := shape_toks (X := X) ok
    match k, hk with
    | 0, hk =>
      simp only [allToks, toksOf, List.cons_append, List.nil_append, List.getElem?_cons_zero, Option.some.injEq] at hk
      subst hk
      refine ⟨N1, ?_, sh _ (.head _)⟩
      rw [show posn X (t :: r) 0 = (X.length : Int) from rfl]
      dsimp only
      rw [L1]
      exact gap_bit (.inl ok.g)
    | 1, hk =>
      simp only [allToks, toksOf, List.cons_append, List.nil_append, List.getElem?_cons_zero, List.getElem?_cons_succ, Option.some.injEq] at hk
      subst hk
      refine ⟨N2, ?_, sh _ (.tail _ (.head _))⟩
      rw [show posn X (t :: r) 1 = ((X.length + t.G.length + 2 : Nat) : Int) from rfl]
      dsimp only
      rw [L2]
      exact gap_bit (.inr (.inl ok.a))
    | 2, hk =>
      simp only [allToks, toksOf, List.cons_append, List.nil_append, List.getElem?_cons_zero, List.getElem?_cons_succ, Option.some.injEq] at hk
      subst hk
      refine ⟨N3, ?_, sh _ (.tail _ (.tail _ (.head _)))⟩
      rw [show posn X (t :: r) 2 = ((X.length + t.G.length + 2 + t.A.length + t.M.length : Nat) : Int) from rfl]
      dsimp only
      rw [L3]
      exact gap_bit (.inr (.inr ok.f))
    | 3, hk =>
      simp only [allToks, toksOf, List.cons_append, List.nil_append, List.getElem?_cons_zero, List.getElem?_cons_succ, Option.some.injEq] at hk
      subst hk
      refine ⟨N4, ?_, sh _ (.tail _ (.tail _ (.tail _ (.head _))))⟩
      rw [show posn X (t :: r) 3 = ((X.length + t.G.length + 2 + t.A.length + t.M.length + t.F.length + 1 : Nat) : Int) from rfl]
      dsimp only
      rw [L4]
      have e : (Str.ofString "" != Str.ofString "") = false := by decide +kernel
      rw [e, decide_eq_false_iff_not]
      omega
    | k + 4, hk =>
      have hk' : (allToks (app X t) r)[k]? = some tok := by
        simpa [allToks, toksOf] using hk
      have := all_next (w := w) (mean := mean) (mg := mg) (mb := mb) hT hR r (app X t) (fun q hq => hok q (.tail _ hq)) (by rw [h, List.foldl_cons]) k tok hk'
      rw [posn_next ok, show k + 4 + 1 = (k + 1) + 4 from by omega, posn_next ok]
      exact this
theorem calm_b18 : True := by w_top off; trivial
theorem meta_exception : typeOf (.type "Exception") = pure (.type "type") := by kernel_rfl
theorem exc_init_at {w : World} : findCls (tp.heap_1_39 w.params) (.type "Exception") (.type "type") (Str.ofString "__init__") = some (.val (.builtin "Exception.__init__")) := by kernel_rfl
theorem exc_init_handed : handedIn (.builtin "Exception.__init__") = true := by decide +kernel
theorem off_cons {a : Addr} {d : Addr} {o : Obj} {l : List (Addr × Obj)} (h1 : a ≠ d) (h2 : ∀ p ∈ l, p.1 ≠ d) : ∀ p ∈ (a, o) :: l, p.1 ≠ d := fun p hp => by
  rcases List.mem_cons.mp hp with rfl | hp
  · exact h1
  · exact h2 p hp
theorem line_room {q : Int} {t : Tok} {v : Value} : (lookIn (Str.ofString "line") (dictOf [⟨q, .str (Str.ofString "text") t, v⟩] 1)).isSome = true := by
  unfold lookIn
  have : (Value.str (Str.ofString "text") t).isStr (Str.ofString "line") = false := show ((Str.ofString "text") == Str.ofString "line") = false from by decide +kernel
  simp [this, DictEntry.refKey]
theorem line_put {q r : Int} {t u : Tok} {v x : Value} : putL (Str.ofString "line") r (.str (Str.ofString "line") u) x [⟨q, .str (Str.ofString "text") t, v⟩] = [⟨q, .str (Str.ofString "text") t, v⟩, ⟨r, .str (Str.ofString "line") u, x⟩] := by
  have : (Value.str (Str.ofString "text") t).isStr (Str.ofString "line") = false := show ((Str.ofString "text") == Str.ofString "line") = false from by decide +kernel
  simp [putL, this]
theorem dict_noFields (es : List DictEntry) (n : Nat) : ∀ ws, (dictOf es n).data ≠ .fields ws := fun ws h => by cases h
local macro_rules | `(tactic| walk_at "exec Raise some none") => `(tactic| (k_here; (with_reducible show wpAny _ _ (exec (Stmt.Raise (some (Expr.Call (Expr.Name _ _) (_ :: _) [] _)) none _) _) _ _ _); k_dflt (refine Raise_die (by rfl) ?_); k_whole))
local macro_rules | `(tactic| walk_at "call ref") => `(tactic| (k_here; (with_reducible show wpAny _ _ (call (Value.ref 93) _) _ _ _); k_dflt (refine wpAny_call ?_; refine' die_make ?F ?X ?N ?r ?_; (case F => k_asm); (case X => k_asm); (case N => k_asm); (case r => size_fits)); intro e9 t9 h9 F9 N9 o9; (try dsimp only); (have hk9 : ScopeKind.function = ScopeKind.function := rfl); k_dflt cell_enter))
local macro_rules | `(tactic| walk_at "call ref") => `(tactic| (k_here; (with_reducible show wpAny _ _ (call (Value.ref 70) _) _ _ _); refine wpAny_call ?_; (have hk9 : ScopeKind.function = ScopeKind.function := rfl); k_dflt cell_enter))
local macro_rules | `(tactic| walk_at "getMethod type:Exception") => `(tactic| (k_here; k_dflt (refine' method_type ?F ?X meta_exception (by decide +kernel) exc_init_at exc_init_handed ?_; (case F => k_asm); (case X => k_asm))))
local macro_rules | `(tactic| walk_at "call builtin:Exception.__init__") => `(tactic| (k_here; k_dflt (refine' die_init0 ?F ?X ?N ?o ?r ?_; (case F => k_asm); (case X => k_asm); (case N => k_asm); (case o => assumption); (case r => size_fits)); intro t9 h9 F9 N9; (try dsimp only)))
local macro_rules | `(tactic| walk_at "setAttr ref") => `(tactic| (k_here; (with_reducible show wpAny _ _ (setAttr (Value.ref _) (Str.ofString "text") _) _ _ _); k_dflt (refine' exc_set1 ?F ?X ?N ?o die_text ?_; (case F => k_asm); (case X => k_asm); (case N => k_asm); (case o => assumption)); intro h9 dx9 tk9 tk9' F9 N9 p9 n9; (try dsimp only)))
local macro_rules | `(tactic| walk_at "setAttr ref") => `(tactic| (k_here; (with_reducible show wpAny _ _ (setAttr (Value.ref _) (Str.ofString "line") _) _ _ _); k_dflt (refine' exc_set2 ?F ?X ?N ?m ?o die_line ?l ?e ?n ?z ?_; (case F => k_asm); (case X => k_asm); (case N => k_asm); (case m => exact .head _); (case o => exact off_cons (by assumption) (by assumption)); (case l => exact line_room); (case e => exact line_put); (case n => exact rfl); (case z => exact Nat.le_of_ble_eq_true rfl)); intro h9 tk9 F9 N9; (try dsimp only)))
local macro_rules | `(tactic| walk_at "DieUp ref") => `(tactic| (k_here; k_dflt (refine' die_up ?F ?X ?N ?_; (case F => k_asm); (case X => k_asm); (case N => k_asm))))
local macro_rules | `(tactic| walk_at "leaving ref") => `(tactic| (k_here; (k_dflt (refine' leave_die1 (dict_noFields _ _) ?K ?F ?N ?_ rfl; (case F => k_asm); (case K => assumption); (case N => k_asm)); intro h9 R9 U9; (try dsimp only))))
theorem die_d {q r ln : Int} {t u x : Tok} {v : Value} {n : Nat} : DieD (dictOf [⟨q, .str (Str.ofString "text") t, v⟩, ⟨r, .str (Str.ofString "line") u, .int ln x⟩] n) ln := by
  refine ⟨dict_noFields _ _, x, ?_⟩
  have h1 : (Value.str (Str.ofString "text") t).isStr (Str.ofString "line") = false := show ((Str.ofString "text") == Str.ofString "line") = false from by decide +kernel
  have h2 : (Value.str (Str.ofString "line") u).isStr (Str.ofString "line") = true := beq_self_eq_true (Str.ofString "line")
  unfold lookIn
  simp [h1, h2]
set_option maxHeartbeats 0 in
theorem scalar_no {w : World} {mean : ExcName → Option Value} {mg mb : Str → Option Value} {T : Str} {n c d : Nat} {r : List Nat} {tT tA : Tok} {i : Int} (hT : T.length ≤ 10000) (hA : At T n (36 :: c :: d :: r)) (hi : i = (n : Int))
    (hc : NoWord c) (h1 : c ≠ 58) (h2 : c ≠ 123) (h3 : c ≠ 36) (h4 : c ≠ 35) (h5 : decide (c ∈ (Str.ofString "0123456789").cps.toList) = false) (h6 : decide (c ∈ (Str.ofString "&`'+!@/\\,;.\"|").cps.toList) = false) :
    DCon w mean mg mb 5 187 [.str T tT, .int i tA] (1 + (Txt.count (Txt.slice T none (some i)) (Str.ofString "\n") : Int)) := by
  unfold DCon
  k_fill
  intro dp un gd cn cs a ccd outer A₀ base h₀ L m news s Q E B F X N Tp hk hd hu ret
  have hlen := hA.len
  (try simp only [List.length_cons] at hlen)
  refine wpAny_call ?_
  k_dflt cell_enter
  k_steps
  all_goals (try dsimp only)
  all_goals exact ret _ _ _ _ _ _ (by assumption) die_d (by assumption) (by assumption)
theorem calm_b19 : True := by w_top off; trivial
theorem dieD_no {od : Obj} {ln : Int} (h : DieD od ln) : ∀ ws, od.data ≠ .fields ws := h.1
local macro_rules | `(tactic| walk_at "tx die") => `(tactic| (walk_at "tx sides"; intro e9 dx9 od9 g9 h9 tk9 R9 D9 F9 U9; (try dsimp only)))
local macro_rules | `(tactic| walk_at "tx mdie") => `(tactic| (walk_at "tx msides"; intro e9 dx9 od9 g9 h9 tk9 R9 D9 F9 U9; (try dsimp only)))
local macro_rules | `(tactic| walk_at "leaving ref") => `(tactic| (k_here; (k_dflt (refine' leave_dieN ?h ?K ?F ?R ?U ?_; (case R => assumption); (case h => exact dieD_no (by assumption)); (case U => assumption); (case F => assumption); (case K => assumption)); intro h9 R9 U9; (try dsimp only))))
local macro_rules | `(tactic| walk_at "call ref") => `(tactic| (k_here; (with_reducible show wpAny _ _ (call (Value.ref 187) _) _ _ _); k_dflt (first | (refine' dcon_use (scalar_no ?hT ?hA ?hi ?hc ?h1 ?h2 ?h3 ?h4 ?h5 ?h6) ?B ?F ?X ?N ?P ?K ?D ?U ?_; (case hT => assumption); (case hA => with_reducible assumption); (case hi => walk_at "tx int"); (case hc => assumption); (case h1 => walk_at "tx ne"); (case h2 => walk_at "tx ne"); (case h3 => walk_at "tx ne"); (case h4 => walk_at "tx ne"); (case h5 => assumption); (case h6 => assumption))); walk_at "tx die"))
set_option maxHeartbeats 0 in
theorem variable_no {w : World} {mean : ExcName → Option Value} {mg mb : Str → Option Value} {T : Str} {n c d : Nat} {r : List Nat} {tT tA : Tok} {i : Int} (hT : T.length ≤ 10000) (hA : At T n (36 :: c :: d :: r)) (hi : i = (n : Int))
    (hc : NoWord c) (h1 : c ≠ 58) (h2 : c ≠ 123) (h3 : c ≠ 36) (h4 : c ≠ 35) (h5 : decide (c ∈ (Str.ofString "0123456789").cps.toList) = false) (h6 : decide (c ∈ (Str.ofString "&`'+!@/\\,;.\"|").cps.toList) = false) :
    DCon w mean mg mb 6 194 [.str T tT, .int i tA] (1 + (Txt.count (Txt.slice T none (some i)) (Str.ofString "\n") : Int)) := by
  unfold DCon
  k_fill
  intro dp un gd cn cs a ccd outer A₀ base h₀ L m news s Q E B F X N Tp hk hd hu ret
  have hlen := hA.len
  (try simp only [List.length_cons] at hlen)
  refine wpAny_call ?_
  k_dflt cell_enter
  k_steps
  all_goals exact ret _ _ _ _ _ _ (by assumption) (by assumption) (by assumption) (by assumption)
local macro_rules | `(tactic| walk_at "call ref") => `(tactic| (k_here; (with_reducible show wpAny _ _ (call (Value.ref 194) _) _ _ _); k_dflt (first | (refine' dcon_use (variable_no ?hT ?hA ?hi ?hc ?h1 ?h2 ?h3 ?h4 ?h5 ?h6) ?B ?F ?X ?N ?P ?K ?D ?U ?_; (case hT => assumption); (case hA => with_reducible assumption); (case hi => walk_at "tx int"); (case hc => assumption); (case h1 => walk_at "tx ne"); (case h2 => walk_at "tx ne"); (case h3 => walk_at "tx ne"); (case h4 => walk_at "tx ne"); (case h5 => assumption); (case h6 => assumption))); walk_at "tx die"))
set_option maxHeartbeats 0 in
theorem term_at_no {w : World} {mean : ExcName → Option Value} {mg mb : Str → Option Value} {T : Str} {n c d : Nat} {r : List Nat} {i : Int} {ta : Tok} (hT : T.length ≤ 10000) (hA : At T n (36 :: c :: d :: r)) (hi : i = (n : Int))
    (hc : NoWord c) (h1 : c ≠ 58) (h2 : c ≠ 123) (h3 : c ≠ 36) (h4 : c ≠ 35) (h5 : decide (c ∈ (Str.ofString "0123456789").cps.toList) = false) (h6 : decide (c ∈ (Str.ofString "&`'+!@/\\,;.\"|").cps.toList) = false) :
    MDCon w mean mg mb 7 401 T i [.int i ta] (1 + (Txt.count (Txt.slice T none (some i)) (Str.ofString "\n") : Int)) := by
  unfold MDCon
  k_fill
  intro dp un gd cn cs a ccd outer A₀ base h₀ L m s Q E lx dx jx hx oj k1 k2 k3 k4 tT ti rest B F X N Tp hk hd hu o1 o2 off hoj foj ret
  have hlen := hA.len
  (try simp only [List.length_cons] at hlen)
  refine wpAny_call ?_
  k_dflt cell_enter
  k_steps
  all_goals exact ret _ _ _ _ _ _ (by assumption) (by assumption) (by assumption) (by assumption)
local macro_rules | `(tactic| walk_at "call ref") => `(tactic| (k_here; (with_reducible show wpAny _ _ (call (Value.ref 401) _) _ _ _); k_dflt (first | (refine' mdcon_use (term_at_no ?hT ?hA ?hi ?hc ?h1 ?h2 ?h3 ?h4 ?h5 ?h6) ?B ?F ?X ?N ?P ?K ?D ?U ?o1 ?o2 ?off ?hoj ?foj ?_; (case hT => assumption); (case hA => with_reducible assumption); (case hi => walk_at "tx int"); (case hc => assumption); (case h1 => walk_at "tx ne"); (case h2 => walk_at "tx ne"); (case h3 => walk_at "tx ne"); (case h4 => walk_at "tx ne"); (case h5 => assumption); (case h6 => assumption))); walk_at "tx mdie"))
set_option maxHeartbeats 0 in
theorem token_no {w : World} {mean : ExcName → Option Value} {mg mb : Str → Option Value} {T : Str} {n c d : Nat} {r : List Nat} {i : Int} {ta : Tok} (hT : T.length ≤ 10000) (hA : At T n (36 :: c :: d :: r)) (hi : i = (n : Int))
    (hc : NoWord c) (h1 : c ≠ 58) (h2 : c ≠ 123) (h3 : c ≠ 36) (h4 : c ≠ 35) (h5 : decide (c ∈ (Str.ofString "0123456789").cps.toList) = false) (h6 : decide (c ∈ (Str.ofString "&`'+!@/\\,;.\"|").cps.toList) = false) :
    MDCon w mean mg mb 8 394 T i [.int i ta, .bool true] (1 + (Txt.count (Txt.slice T none (some i)) (Str.ofString "\n") : Int)) := by
  unfold MDCon
  k_fill
  intro dp un gd cn cs a ccd outer A₀ base h₀ L m s Q E lx dx jx hx oj k1 k2 k3 k4 tT ti rest B F X N Tp hk hd hu o1 o2 off hoj foj ret
  have hlen := hA.len
  (try simp only [List.length_cons] at hlen)
  have hw0 := noWord_dollar
  refine wpAny_call ?_
  k_dflt cell_enter
  k_steps
  all_goals exact ret _ _ _ _ _ _ (by assumption) (by assumption) (by assumption) (by assumption)
local macro_rules | `(tactic| walk_at "call ref") => `(tactic| (k_here; (with_reducible show wpAny _ _ (call (Value.ref 394) _) _ _ _); k_dflt (first | (refine' mdcon_use (token_no ?hT ?hA ?hi ?hc ?h1 ?h2 ?h3 ?h4 ?h5 ?h6) ?B ?F ?X ?N ?P ?K ?D ?U ?o1 ?o2 ?off ?hoj ?foj ?_; (case hT => assumption); (case hA => with_reducible assumption); (case hi => walk_at "tx int"); (case hc => assumption); (case h1 => walk_at "tx ne"); (case h2 => walk_at "tx ne"); (case h3 => walk_at "tx ne"); (case h4 => walk_at "tx ne"); (case h5 => assumption); (case h6 => assumption))); walk_at "tx mdie"))
set_option maxHeartbeats 0 in
theorem next_no {w : World} {mean : ExcName → Option Value} {mg mb : Str → Option Value} {T : Str} {n c d : Nat} {r : List Nat} {j i : Int} (hT : T.length ≤ 10000) (hpT : i < T.length) (hS : SK w mean mg mb T j i) (hA : At T n (36 :: c :: d :: r)) (hi : i = (n : Int))
    (hc : NoWord c) (h1 : c ≠ 58) (h2 : c ≠ 123) (h3 : c ≠ 36) (h4 : c ≠ 35) (h5 : decide (c ∈ (Str.ofString "0123456789").cps.toList) = false) (h6 : decide (c ∈ (Str.ofString "&`'+!@/\\,;.\"|").cps.toList) = false) :
    MDCon w mean mg mb 10 387 T j [.bool true] (1 + (Txt.count (Txt.slice T none (some i)) (Str.ofString "\n") : Int)) := by
  unfold MDCon
  k_fill
  intro dp un gd cn cs a ccd outer A₀ base h₀ L m s Q E lx dx jx hx oj k1 k2 k3 k4 tT ti rest B F X N Tp hk hd hu o1 o2 off hoj foj ret
  refine wpAny_call ?_
  k_dflt cell_enter
  k_steps
  all_goals exact ret _ _ _ _ _ _ (by assumption) (by assumption) (by assumption) (by assumption)
theorem calm_b21 : True := by w_top off; trivial
theorem statement_use {w : World} {mean : ExcName → Option Value} {mg mb : Str → Option Value} {vs : List Value} {ns : List Int} {X : Str} {k : Int} {first : Bool} (hI : IntsAre vs ns) (hvl : ns.length ≤ 40) (hk1 : 0 ≤ k) (hk2 : k ≤ 900) (hX : X.length ≤ 4000)
    {dp un : Nat} {gd : Option (List Code)} {cn : Str} {cs : Scope} {a : Addr} {ccd : Value} {cl : List (Str × Addr)} {outer : List Env} {A₀ : Around} {base h₀ : Heap} {L : Addr} {m : Str → Option Value} {s : Shared} {Q E : Value → Shared → Prop}
    {sd rl rd dl wl : Addr} {os orow : Obj} {D W : Array Value} {cc cd cw : Nat} {tail : List (Addr × Obj)}
    (B : Below A₀ base outer h₀) (F : Fr h₀ L s.heap m) (X' : (tp.heap_1_39 w.params).In h₀) (N : News h₀ L s.heap (LawSt sd rl rd dl wl vs cc os orow D W cd cw tail)) (T : Top tp.view_1_40 (looseW tp.view_1_40 [Str.ofString "WORD_SIGNS", Str.ofString "CLOSERS", Str.ofString "FLAGS_OF"]) mean mg mb h₀) (K : cs.kind = .function)
    (Dq : dp + 3 < recursionLimit) (U : un + 8 * 3 < cLine) (hs : SaltOk w os rl k) (hr : RowOk w orow X dl wl) (lo : (sd == sysModules) = false) (lo2 : (rd == sysModules) = false) (O : Ord sd rl rd dl wl tail) (hD : D.size ≤ 90) (hW : W.size ≤ 90)
    (ret : ∀ (t : Stm) (k' : Int) (h' : Heap) (tk' : Nat) (os' orow' : Obj) (D' W' : Array Value) (cd' cw' : Nat) (tail' : List (Addr × Obj)) (ds : List Value), t.Ok → (first = true → t.G = Str.ofString "") → k' ≤ k + 8 → 0 ≤ k' → Fr h₀ L h' m →
      News h₀ L h' (LawSt sd rl rd dl wl vs cc os' orow' D' W' cd' cw' tail') → SaltOk w os' rl k' → RowOk w orow' (app X t) dl wl → (app X t).length ≤ X.length + 160 → Ord sd rl rd dl wl tail' → (∀ p ∈ tail, p ∈ tail') →
      D'.toList = D.toList ++ ds → W'.toList = W.toList ++ (toksOf X t).map (fun q => .bool q.wants) → Dues tail' ds (toksOf X t) → Q .none { s with heap := h', toks := tk' }) :
    wpAny (model PySem.Challenge.rw_qz0108_01.row.prog w) (ktrTop dp un gd cn cs L a ccd cl outer) (call (.ref 492) [.ref sd, .ref rd, .bool first]) Q E s :=
  statement_is hI hvl hk1 hk2 hX _ _ _ _ _ _ _ _ _ _ _ _ _ _ _ _ _ _ _ _ _ _ _ _ _ _ _ _ _ _ B F X' N T K Dq U hs hr lo lo2 O hD hW ret
theorem news_start {h₀ h : Heap} {L : Addr} {a b c d e : Addr × Obj} (N : News h₀ L h [a, b, c, d, e]) : News h₀ L h [e, d, c, b, a] := fun p hp => by
  apply N
  simp only [List.mem_cons, List.not_mem_nil, or_false] at hp ⊢
  rcases hp with h | h | h | h | h <;> simp [h]
local macro_rules | `(tactic| walk_at "call ref") => `(tactic| (k_here; (with_reducible show wpAny _ _ (call (Value.ref 478) _) _ _ _); k_dflt (refine' pinch_use (k := 0) (tail := []) ?hI ?l1 ?l2 ?l3 ?l4 ?l5 ?B ?F ?X ?N ?P ?K ?D ?U ?S ?lo ?O ?_; (case N => exact news_start (by k_asm)); (case S => exact ⟨_, by assumption⟩); (case lo => assumption); (case O => exact ⟨by omega, by omega, by omega, by omega, by omega, fun _ h => nomatch h⟩); (case hI => with_reducible assumption); (case l1 => omega); (case l2 => omega); (case l3 => omega); (case l4 => omega); (case l5 => omega); (case B => k_asm); (case F => k_asm); (case X => k_asm); (case P => k_asm); (case K => first | exact rfl | assumption); (case D => ktr_room); (case U => ktr_units)); intro r9 t9 h9 tk9 os9 r1 r2 F9 N9 S9; (try dsimp only [LawSt] at N9); (try dsimp only); (try k_fold)))
theorem fr_off2 {h₀ h : Heap} {L : Addr} {x : Str} {v : Value} {m₀ m₁ : Str → Option Value} (F : Fr h₀ L h (fun y => if y = x then some v else m₁ y)) (hm : ∀ z, z ≠ x → m₁ z = m₀ z) : Fr h₀ L h (fun y => if y = x then some v else m₀ y) := by
  have e : (fun y => if y = x then some v else m₀ y) = (fun y => if y = x then some v else m₁ y) := by
    funext y
    by_cases h1 : y = x
    · simp [h1]
    · simp only [if_neg h1]; exact (hm y h1).symm
  rw [e]; exact F
local macro_rules | `(tactic| walk_at "call ref") => `(tactic| (k_here; (with_reducible show wpAny _ _ (call (Value.ref 492) _) _ _ _); k_dflt (refine' statement_use ?hI ?l1 ?l2 ?l3 ?l4 ?B ?F ?X ?N ?P ?K ?D ?U ?S ?R ?lo ?lo2 ?O ?l5 ?l6 ?_; (case N => exact news_rot (by k_asm)); (case S => assumption); (case R => assumption); (case lo => assumption); (case lo2 => assumption); (case O => walk_at "tx ord"); (case hI => with_reducible assumption); (case l1 => omega); (case l2 => omega); (case l3 => omega); (case l4 => omega); (case l5 => omega); (case l6 => omega); (case B => k_asm); (case F => k_asm); (case X => k_asm); (case P => k_asm); (case K => first | exact rfl | assumption); (case D => ktr_room); (case U => ktr_units)); intro st9 k9 h9 tk9 os9 orow9 D9 W9 cd9 cw9 tail9 ds9 ok9 fst9 k91 k92 F9 N9 S9 R9 z9 O9 sub9 dq9 wq9 due9; (try dsimp only [LawSt] at N9); (try dsimp only); (try k_fold)))
/-- what is known of the i-th token -/
def TokAt (w : World) (mean : ExcName → Option Value) (mg mb : Str → Option Value) (T : Str) (sts : List Stm) (D W : Array Value) (tail : List (Addr × Obj)) (pos : Nat → Int) (i : Nat) : Prop :=
  ∃ (tok : TokD) (dv : Value), NX w mean mg mb T (pos i) tok.wants tok.kind tok.V (tok.p : Int) (pos (i + 1)) ∧ decide (pos i < (tok.p : Int)) = tok.gb ∧ ShapeOk tok ∧ DueAt tail dv tok ∧ D[(0 + (i : Int)).toNat]? = some dv ∧ W[(0 + (i : Int)).toNat]? = some (.bool tok.wants)
def posz (sts : List Stm) : Nat → Int
  | 0 => 0
  | k + 1 => posn (Str.ofString "") sts (k + 1)
theorem posz_eq {sts : List Stm} (k : Nat) : posz sts k = posn (Str.ofString "") sts k := by
  cases k with
  | zero =>
    have e : (Str.ofString "").length = 0 := by decide +kernel
    show (0 : Int) = ((Str.ofString "").length : Int)
    rw [e]; rfl
  | succ k => rfl
theorem tok_at {w : World} {mean : ExcName → Option Value} {mg mb : Str → Option Value} {T : Str} {R r' : List Nat} {r0 r1 : Nat} {sts : List Stm} {D W : Array Value} {tail : List (Addr × Obj)} {i : Nat} (hT : T.length ≤ 10000) (hR : R = r0 :: r1 :: r') (hok : ∀ t ∈ sts, t.Ok) (h : T.cps.toList = (sts.foldl app (Str.ofString "")).cps.toList ++ R)
    (hD : Dues tail D.toList (allToks (Str.ofString "") sts)) (hW : W.toList = (allToks (Str.ofString "") sts).map fun q => Value.bool q.wants) (hi : i < D.size) : TokAt w mean mg mb T sts D W tail (posz sts) i := by
  have hl := hD.1
  have hi' : i < (allToks (Str.ofString "") sts).length := by rw [← hl]; simpa using hi
  obtain ⟨a, b, c⟩ := all_next (w := w) (mean := mean) (mg := mg) (mb := mb) hT hR sts (Str.ofString "") hok h i _ (List.getElem?_eq_getElem hi')
  have e0 : (0 + (i : Int)).toNat = i := by omega
  refine ⟨(allToks (Str.ofString "") sts)[i], D[i], ?_, ?_, c, ?_, ?_, ?_⟩
  · rw [posz_eq, posz_eq]; exact a
  · rw [posz_eq]; exact b
  · exact hD.2 i _ _ (by rw [List.getElem?_eq_getElem (by simpa using hi)]; simp) (List.getElem?_eq_getElem hi')
  · rw [e0]; exact Array.getElem?_eq_getElem hi
  · rw [e0, ← Array.getElem?_toList, hW, List.getElem?_map, List.getElem?_eq_getElem hi']; rfl
theorem posn_last : ∀ (sts : List Stm) (X : Str), (∀ t ∈ sts, t.Ok) → posn X sts (4 * sts.length) = ((sts.foldl app X).length : Int)
  | [], _, _ => rfl
  | t :: r, X, h => by
    rw [List.length_cons, show 4 * (r.length + 1) = 4 * r.length + 4 from by omega, posn_next (h t (.head _)), posn_last r _ fun q hq => h q (.tail _ hq)]
    rfl
theorem off_lt {d : Addr} : ∀ {l : List (Addr × Obj)}, AllLt d l → ∀ p ∈ l, p.1 ≠ d
  | [], _, _, h => nomatch h
  | q :: l, h, p, hp => by
    rcases List.mem_cons.mp hp with rfl | hp
    · exact Nat.ne_of_lt h.1
    · exact off_lt h.2 p hp
theorem tail_shape (c : Nat) : (Str.ofString "\n $").cps.toList ++ ([c] ++ (Str.ofString " x").cps.toList) = 10 :: 32 :: 36 :: c :: 32 :: 120 :: [] := by
  have e : (Str.ofString "\n $").cps.toList = [10, 32, 36] ∧ (Str.ofString " x").cps.toList = [32, 120] := by decide +kernel
  rw [e.1, e.2]; rfl
theorem text_cps {Y : Str} {c : Nat} : (Y ++ Str.ofString "\n $" ++ (⟨#[c]⟩ : Str) ++ Str.ofString " x").cps.toList = Y.cps.toList ++ (10 :: 32 :: 36 :: c :: 32 :: 120 :: []) := by
  rw [← tail_shape c]
  simp only [Str.cps_append, Array.toList_append, List.append_assoc]
theorem text_len {Y : Str} {c : Nat} : (Y ++ Str.ofString "\n $" ++ (⟨#[c]⟩ : Str) ++ Str.ofString " x").length = Y.length + 6 := by
  rw [← str_len, text_cps, List.length_append, str_len]; rfl
theorem barred_ok : ∀ c ∈ (Str.ofString "()<>[]~=-%?*^").cps.toList, NoWord c ∧ c ≠ 58 ∧ c ≠ 123 ∧ c ≠ 36 ∧ c ≠ 35 ∧ decide (c ∈ (Str.ofString "0123456789").cps.toList) = false ∧ decide (c ∈ (Str.ofString "&`'+!@/\\,;.\"|").cps.toList) = false := by unfold NoWord; decide +kernel
theorem no_at {w : World} {mean : ExcName → Option Value} {mg mb : Str → Option Value} {Y : Str} {c : Nat} {j : Int} (hT : (Y ++ Str.ofString "\n $" ++ (⟨#[c]⟩ : Str) ++ Str.ofString " x").length ≤ 10000) (hc : c ∈ (Str.ofString "()<>[]~=-%?*^").cps.toList) (hj : j = (Y.length : Int)) :
    MDCon w mean mg mb 10 387 (Y ++ Str.ofString "\n $" ++ (⟨#[c]⟩ : Str) ++ Str.ofString " x") j [.bool true] (2 + Txt.count Y (Str.ofString "\n")) := by
  obtain ⟨q1, q2, q3, q4, q5, q6, q7⟩ := barred_ok c hc
  have hA0 := at_of (text_cps (Y := Y) (c := c))
  rw [str_len] at hA0
  have hL := text_len (Y := Y) (c := c)
  have hS := skip_nlsp (w := w) (mean := mean) (mg := mg) (mb := mb) hT hA0 hj (line_begin_any hT hA0 hj (by decide)) (line_begin_any hT hA0.next (by omega) (by decide)) opens_36.a opens_36.b opens_36.c
  have h := next_no hT (by omega) hS hA0.next.next (by omega) q1 q2 q3 q4 q5 q6 q7
  rw [count_ahead (T := Y ++ Str.ofString "\n $" ++ (⟨#[c]⟩ : Str) ++ Str.ofString " x") (Y := Y) (text_cps (Y := Y) (c := c)) (by omega)] at h
  have e : (1 + (Txt.count Y (Str.ofString "\n") + 1) : Int) = 2 + Txt.count Y (Str.ofString "\n") := by omega
  rw [e] at h
  exact h
theorem iter_tokens2 {w : World} {A : Around} {E : Value → Shared → Prop} {s : Shared} {env : Env} {h₀ : Heap} {x : Str} {body : List Stmt} {Q : Flow → Shared → Prop} {mean : ExcName → Option Value} {mg mb : Str → Option Value} {T : Str} {lx dx jx hx r : Addr} {oj : Obj} {k1 k2 k3 k4 tT ti : Tok} {rest : List (Addr × Obj)} {n : Nat} {b₀ : Int} {t₀ u₀ v₀ : Tok} {m₀ : Str → Option Value} {sts : List Stm} {D W : Array Value} {tail : List (Addr × Obj)}
    (P : Top tp.view_1_40 (looseW tp.view_1_40 [Str.ofString "WORD_SIGNS", Str.ofString "CLOSERS", Str.ofString "FLAGS_OF"]) mean mg mb h₀) (hh : A.handled = none) (hr : IsRange s.heap r 0 b₀ 1 t₀ u₀ v₀) (hsmall : Builtin.Range.small 0 b₀ 1 = true) (hn : Builtin.Range.rangeSize 0 b₀ 1 = (n : Int)) (F : Fr h₀ env.locals s.heap m₀)
    (N : News h₀ env.locals s.heap (LexSt w T 0 lx dx jx hx oj k1 k2 k3 k4 tT ti rest)) (off : ∀ p ∈ rest, p.1 ≠ dx) (HT : ∀ i, i < n → TokAt w mean mg mb T sts D W tail (posz sts) i)
    (turn : ∀ (E : Value → Shared → Prop) (T : Str) (k1 k2 k3 k4 tT : Tok) (I : Addr) (i : Nat) (t : Tok) (h : Heap) (tk : Nat) (ti : Tok) (it : Obj) (tok : TokD) (dv : Value) (p e : Int) (JP : Flow → Shared → Prop), i < n → (∀ p ∈ (I, it) :: rest, p.1 ≠ dx) → Fr h₀ env.locals h (fun y => if y = x then some (.int (0 + (i : Int)) t) else m₀ y) →
      News h₀ env.locals h ((I, it) :: LexSt w T p lx dx jx hx oj k1 k2 k3 k4 tT ti rest) → NX w mean mg mb T p tok.wants tok.kind tok.V (tok.p : Int) e → decide (p < (tok.p : Int)) = tok.gb → ShapeOk tok → DueAt tail dv tok → D[(0 + (i : Int)).toNat]? = some dv → W[(0 + (i : Int)).toNat]? = some (.bool tok.wants) →
      (∀ (h' : Heap) (tk' : Nat) (ti' : Tok) (m' : Str → Option Value) (a b : Addr × Obj), Fr h₀ env.locals h' m' → (∀ z, z ≠ x → m' z = m₀ z) → News h₀ env.locals h' (a :: b :: LexSt w T e lx dx jx hx oj k1 k2 k3 k4 tT ti' ((I, it) :: rest)) → JP .next { s with heap := h', toks := tk' }) →
      wpAny (model PySem.Challenge.rw_qz0108_01.row.prog w) A (execs body env) JP E { s with heap := h, toks := tk })
    (done : ∀ (h : Heap) (tk : Nat) (m₁ : Str → Option Value) (ti : Tok), (∀ z, z ≠ x → m₁ z = m₀ z) → Fr h₀ env.locals h m₁ → News h₀ env.locals h (LexSt w T (posz sts n) lx dx jx hx oj k1 k2 k3 k4 tT ti rest) → Q .next { s with heap := h, toks := tk }) :
    wpAny (model PySem.Challenge.rw_qz0108_01.row.prog w) A (pyIter (.ref r)) (fun it s₂ => LoopAtV PySem.Challenge.rw_qz0108_01.row.prog w A h₀ env x body Q E it s₂) E s := by
  refine iter_tokens (posz sts) hh hr hsmall hn F N off ?_ done
  intro I i t h tk ti it JP hi offI F5 N5 jp
  obtain ⟨tok, dv, a, b, c, d, e, f⟩ := HT i hi
  exact turn E T k1 k2 k3 k4 tT I i t h tk ti it tok dv (posz sts i) (posz sts (i + 1)) JP hi offI F5 N5 a b c d e f jp
local macro_rules | `(tactic| walk_at "subscriptTail Subscript Name Constant Name ref int") => `(tactic| (k_here; (with_reducible show wpAny _ _ (subscriptTail _ _ (Value.ref _) (Value.int _ _)) _ _ _); k_dflt (refine' item_known (News.isList ?N ?m) ?a ?b ?hx ?_ ?k6; (case N => k_asm); (case m => k_mem); (case hx => with_reducible assumption); (case a => omega); (case b => omega); (case k6 => with_unfolding_all rfl))))
local macro_rules | `(tactic| walk_at "call ref") => `(tactic| (k_here; (with_reducible show wpAny _ _ (call (Value.ref 387) _) _ _ _); k_dflt (refine' mcon_use (nx_at ?hL) ?B ?F ?X ?N ?P ?K ?D ?U ?o1 ?o2 ?off ?hoj ?foj ?_; (case hL => with_reducible assumption); (case N => exact news_rot3 (by k_asm)); (case B => k_asm); (case F => k_asm); (case X => k_asm); (case P => k_asm); (case K => first | exact rfl | assumption); (case D => ktr_room); (case U => ktr_units); (case o1 => omega); (case o2 => omega); (case off => with_reducible assumption); (case hoj => with_reducible assumption); (case foj => with_reducible assumption)); intro h9 tk9 D1 D2 o9 v9 u1 u2 u9 F9 N9 vo; (try dsimp only [LexSt, lexDict, List.nil_append, List.cons_append] at N9); (try dsimp only); (try k_fold)))
local macro_rules | `(tactic| walk_at "compareOp NotEq ref ref") => `(tactic| (k_here; (with_reducible show wpAny _ _ (compareOp CmpOp.NotEq (Value.ref _) (Value.ref _)) _ _ _); k_dflt (refine' ne_due ?N ?m1 ?m2 ?vo ?hd ?hs ?e1 ?e2 ?e3 ?e4 ?hS ?hM ?hu ?_; (case N => k_asm); (case m1 => k_mem); (case vo => with_reducible assumption); (case m2 => k_mem); (case hd => with_reducible assumption); (case hs => (intro q hq; repeat (first | exact hq | refine List.Mem.tail _ ?_))); (case e1 => exact rfl); (case e2 => exact rfl); (case e3 => exact rfl); (case e4 => with_reducible assumption); (case hS => exact And.left (by with_reducible assumption)); (case hM => exact And.right (by with_reducible assumption)); (case hu => units_room))))
theorem posz_end {sts : List Stm} {n : Nat} (hok : ∀ t ∈ sts, t.Ok) (hn : n = 4 * sts.length) : posz sts n = ((sts.foldl app (Str.ofString "")).length : Int) := by
  rw [posz_eq, hn, posn_last sts (Str.ofString "") hok]
theorem die_get {prog : Program} {w : World} {A : Around} {E : Value → Shared → Prop} {s : Shared} {h₀ : Heap} {L e : Addr} {m : Str → Option Value} {Q : Value → Shared → Prop} {od oe : Obj} {sl : Array (Option Value)} {expr : Bool} {ln : Int} (F : Fr h₀ L s.heap m) (X : (tp.heap_1_39 w.params).In h₀) (I : InstAt s.heap e oe 93 (some { od with slots := sl })) (D : DieD od ln)
    (hq : ∀ t, Q (.int ln t) { s with toks := s.toks + 1 }) : wpAny (model prog w) A (getAttr (.ref e) (Str.ofString "line") expr) Q E s := by
  obtain ⟨-, t, hl⟩ := D
  exact exc_get (X.keeps F.keep) I (by kernel_rfl) (by kernel_rfl) (by kernel_rfl) (findObj_own (attr := none) (by kernel_rfl) (by kernel_rfl) rfl hl) rfl (hq t)
local macro_rules | `(tactic| walk_at "call ref") => `(tactic| (k_here; (with_reducible show wpAny _ _ (call (Value.ref 387) [_, Value.bool true]) _ _ _); k_dflt (refine' mdcon_use (no_at ?hT ?hc ?hj) ?B ?F ?X ?N ?P ?K ?D ?U ?o1 ?o2 ?off ?hoj ?foj ?_; (case N => k_asm); (case hj => with_reducible assumption); (case hc => assumption); (case hT => (rw [text_len]; omega)); (case B => k_asm); (case F => k_asm); (case X => k_asm); (case P => k_asm); (case K => first | exact rfl | assumption); (case D => ktr_room); (case U => ktr_units); (case o1 => omega); (case o2 => omega); (case off => first | with_reducible assumption | (refine off_lt ?_; (rename _ ∧ _ ∧ _ ∧ _ ∧ _ ∧ AllLt _ _ => lz); exact lz)); (case hoj => with_reducible assumption); (case foj => with_reducible assumption)); intro e9 dx9 od9 g9 h9 tk9 R9 D9 F9 U9; (try dsimp only)))
local macro_rules | `(tactic| walk_at "noteFrame ref") => `(tactic| (k_here; (with_reducible show wpAny _ _ (noteFrame _ _) (fun _ s₂ => wpAny _ _ (setFlight _ none) (fun _ s₃ => wpAny _ _ (handleBy _ _ (ExceptHandler.ExceptHandler (some (Expr.Name _ _)) (some _) _ _ :: _)) _ _ s₃) _ s₂) _ _); k_dflt (refine' caught_die (dieD_no ?hod) ?K ?F ?U ?R ?X ?T ?ex (die_cls ?X2) ?bm ?_; (case R => assumption); (case hod => assumption); (case U => assumption); (case K => assumption); (case F => assumption); (case X => k_asm); (case T => k_asm); (case X2 => k_asm); (case ex => k_is); (case bm => decide +kernel); k_whole); intro h9 oe9 sl9 tk9 F9 I9 d9; (try dsimp only)))
local macro_rules | `(tactic| walk_at "getAttr ref") => `(tactic| (k_here; (with_reducible show wpAny _ _ (getAttr (Value.ref _) (Str.ofString "line") _) _ _ _); k_dflt (refine' die_get ?F ?X ?I ?D ?_; (case I => assumption); (case D => assumption); (case F => k_asm); (case X => k_asm)); intro t9; (try dsimp only)))
set_option maxHeartbeats 0 in
theorem law_main : PySem.Challenge.rw_qz0108_01.Holds := by
  o_law
  rename_i said
  refine tp._proof_1_712 said ?_
  clear said
  k_go0
  all_goals (try k_fold)
  iterate 61 (all_goals (try (first | (k_unfold; (try dsimp only)) | (k_end; wrow_close) | walk1 | (dsimp only; walk1) | (leave1; walk_say "STEP leave1"; try dsimp only))))
  refine' iter_build ?hh ?hr ?sm ?hn ?F ?N ?S ?R ?O ?turn ?done
  case hh => exact rfl
  case hr => assumption
  case sm => exact range_small (by omega) (by omega) (by omega)
  case F => k_asm
  case N => k_asm
  case hn => exact rangeSize_nat _ _
  case S => assumption
  case R => exact ⟨_, by assumption⟩
  case O => exact ⟨by omega, by omega, by omega, by omega, by omega, fun _ h => nomatch h⟩
  case turn =>
    intro I i t h tk os orow D W cd cw tail k X it JP hi hwl hS hk0 hk1 hR hX hO hD hW F5 N5 jp
    dsimp only [LawSt] at N5
    k_steps
    rename_i st9 k9 h9 tk9 os9 orow9 D9 W9 cd9 cw9 tail9 ds9 ok9 fst9 k91 k92 F9 N9 S9 R9 z9 O9 sub9 dq9 wq9 due9
    exact jp st9 k9 h9 tk9 os9 orow9 D9 W9 cd9 cw9 tail9 ds9 _ ok9 (fun e => fst9 (by subst e; rfl)) k91 k92 F9 (fun z hz => by simp only [if_neg hz]) N9 S9 R9 z9 O9 sub9 dq9 wq9 due9
  case done =>
    intro h tk m₁ os orow D W cd cw tail k sts hl hok hf hm hS hk0 hk1 hR hX hO hD hW F5 N5
    replace F5 := fr_off F5 hm
    obtain ⟨tx, hR⟩ := hR
    have hDs : D.size = 4 * sts.length := by have := hD.1; rw [allToks_len] at this; simpa using this
    dsimp only [LawSt] at N5
    dsimp only
    iterate 101 (all_goals (try (first | (k_unfold; (try dsimp only)) | (k_end; wrow_close) | walk1 | (dsimp only; walk1) | (leave1; walk_say "STEP leave1"; try dsimp only))))
    refine' iter_tokens2 (sts := sts) (D := D) (W := W) (tail := tail) ?P ?hh ?hr ?sm ?hn ?F ?N ?off ?HT ?turn ?done
    case P => k_asm
    case hh => exact rfl
    case hr => assumption
    case sm => exact range_small (by omega) (by omega) (by omega)
    case F => k_asm
    case hn => exact range_len (n := D.size) (by omega)
    case N => exact news_rest (by k_asm)
    case off => (refine off_lt ?_; (rename _ ∧ _ ∧ _ ∧ _ ∧ _ ∧ AllLt _ tail => lz); exact lz)
    case HT =>
      intro i hi
      exact tok_at (by rw [text_len]; omega) rfl hok text_cps hD hW hi
    case turn =>
      intro E2 T2 k1 k2 k3 k4 tT I i t h tk ti it tok dv p e JP hi offI F5 N5 nx hgb hsh hdue hDi hWi jp
      dsimp only [LexSt, lexDict] at N5
      have hdue2 := hdue
      obtain ⟨da, q1, q2, qu, rfl, dd⟩ := hdue
      clear dd
      unfold ShapeOk at hsh
      have hi9 : i < 100 := by omega
      clear hf hX hm
      iterate 34 (all_goals (try (first | (k_unfold; (try dsimp only)) | (k_end; wrow_close) | walk1 | (dsimp only; walk1) | (leave1; walk_say "STEP leave1"; try dsimp only))))
      all_goals exact jp _ _ _ _ _ _ (by k_asm) (fun z hz => by simp only [if_neg hz]) (by k_asm)
    case done =>
      intro h tk m₂ ti hm₂ F6 N6
      replace F6 := fr_off F6 hm₂
      dsimp only [LexSt, lexDict] at N6
      have hj9 := posz_end hok hDs
      clear hf hm
      dsimp only
      iterate 40 (all_goals (try (first | (k_unfold; (try dsimp only)) | (k_end; wrow_close) | walk1 | (dsimp only; walk1) | (leave1; walk_say "STEP leave1"; try dsimp only))))
end Mine
theorem PySem.Challenge.cw_qz0108_01_holds : PySem.Challenge.rw_qz0108_01.Holds :=
  Mine.law_main
