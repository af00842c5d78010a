import PyProof.Rows.All
import Wide.All
import OpenK.AllK
import Wide.FinOn
import PySem.Challenge.RW_qz0027_01
open PySem PySem.W PyProof.Rows PySem.Calls
set_option Elab.async false
set_option maxRecDepth 100000
set_option maxHeartbeats 8000000
-- The head's own constants (objects, trees, heaps) are to get no fast copies: their proofs would weigh 220 MB. The copies' names are taken here; the head then runs once ahead, in vain, and the tool remembers that these have none.
namespace Mine.top
theorem tw9085635008406486412 : True := trivial
theorem tw14640625403108559724 : True := trivial
theorem tw16560251766479324716 : True := trivial
theorem tw2207335683156487724 : True := trivial
theorem tw11886964341870647852 : True := trivial
theorem tw4535731787230694956 : True := trivial
theorem tw11306836908863818700 : True := trivial
theorem tw9433901638527149036 : True := trivial
theorem tw2763764323602389996 : True := trivial
theorem tw2920342317405542028 : True := trivial
theorem tw9130286678092337804 : True := trivial
theorem tw13627346679956439724 : True := trivial
theorem tw2100139773542797388 : True := trivial
theorem tw13454791434397804300 : True := trivial
theorem tw3688376145456673580 : True := trivial
theorem tw17810412893741307692 : True := trivial
theorem tw11958305733667054380 : True := trivial
theorem tw15128577148059277228 : True := trivial
theorem tw1994918872567814060 : True := trivial
theorem tw10101501240970918828 : True := trivial
theorem tw1892582927896556908 : True := trivial
theorem tw17052573662902656012 : True := trivial
theorem tw382681374094070796 : True := trivial
theorem tw6376446380128141804 : True := trivial
theorem tw3855642353913236620 : True := trivial
theorem tw15504605173687672972 : True := trivial
theorem tw10830453342527196332 : True := trivial
theorem tw15899096495468653164 : True := trivial
theorem tw12748283197362895116 : True := trivial
theorem tw17147219934553587404 : True := trivial
theorem tw8863267488176764149 : True := trivial
theorem tw11400676419645829365 : True := trivial
theorem tw9616830763870737045 : True := trivial
theorem tw12866370270274403989 : True := trivial
theorem tw1326867489389122229 : True := trivial
theorem tw17395492135220419925 : True := trivial
theorem tw14977432162029048181 : True := trivial
theorem tw18167211367575091669 : True := trivial
theorem tw4358205214569608661 : True := trivial
theorem tw18114194110962828757 : True := trivial
theorem tw4392231382835441109 : True := trivial
theorem tw2910584641731191253 : True := trivial
theorem tw7120710244070223349 : True := trivial
theorem tw16021447913844595605 : True := trivial
theorem tw11151382553424251829 : True := trivial
theorem tw10150790493449547701 : True := trivial
theorem tw5444556369816642133 : True := trivial
theorem tw6429025021211278965 : True := trivial
theorem tw15835779818981281845 : True := trivial
theorem tw16992599421850099413 : True := trivial
theorem tw3852656686966103221 : True := trivial
theorem tw8231969350796476245 : True := trivial
theorem tw6090034014439737173 : True := trivial
theorem tw15772300165772501877 : True := trivial
theorem tw12290066896817915765 : True := trivial
theorem tw6922656041635377013 : True := trivial
theorem tw8075547596449241973 : True := trivial
theorem tw1813083344431321973 : True := trivial
theorem tw6623054843189728117 : True := trivial
theorem tw9102093042435549141 : True := trivial
theorem tw3402869771943903221 : True := trivial
theorem tw18017434497786486165 : True := trivial
theorem tw3371509045098923413 : True := trivial
theorem tw16687687555220004949 : True := trivial
theorem tw17324626741769402485 : True := trivial
theorem tw16384064964042837109 : True := trivial
theorem tw8498670853947458069 : True := trivial
theorem tw1685843380488667669 : True := trivial
theorem tw9493359176307639829 : True := trivial
theorem tw7014007334251574837 : True := trivial
theorem tw17228782840512717013 : True := trivial
theorem tw3409767896445443285 : True := trivial
theorem tw18290859712928952533 : True := trivial
theorem tw17144995644571443998 : True := trivial
theorem tw7488411032546035486 : True := trivial
theorem tw9375648214977003966 : True := trivial
theorem tw10064567891944019422 : True := trivial
theorem tw8494643281246341598 : True := trivial
theorem tw5192089888052727710 : True := trivial
theorem tw11772068763412144030 : True := trivial
theorem tw11862941994232050270 : True := trivial
theorem tw1671735434632393726 : True := trivial
theorem tw7847991596127741982 : True := trivial
theorem tw6339904844525011998 : True := trivial
theorem tw5230057537957818398 : True := trivial
theorem tw3233064710644087486 : True := trivial
theorem tw6805131962324956894 : True := trivial
theorem tw2372800159359299294 : True := trivial
theorem tw675077253962027742 : True := trivial
theorem tw8871344646458058910 : True := trivial
theorem tw6125222875827755262 : True := trivial
theorem tw6278863577911994622 : True := trivial
theorem tw3665414808364594430 : True := trivial
theorem tw14371435436696713502 : True := trivial
theorem tw11270441681157232574 : True := trivial
theorem tw14064232673624872926 : True := trivial
theorem tw15266580318828096478 : True := trivial
theorem tw17769304072236947422 : True := trivial
theorem tw13321388925346258302 : True := trivial
theorem tw6029959162309426558 : True := trivial
theorem tw6261129160116238718 : True := trivial
theorem tw12548123292145046942 : True := trivial
theorem tw9111265714278036894 : True := trivial
theorem tw12073576383684469150 : True := trivial
theorem tw11548588239563099198 : True := trivial
theorem tw1711236486065477726 : True := trivial
theorem tw17063713123442346526 : True := trivial
theorem tw11566633553412773054 : True := trivial
theorem tw15891625411317810366 : True := trivial
theorem tw13715675634472760510 : True := trivial
theorem tw6059609868454149758 : True := trivial
theorem tw18399791206954236542 : True := trivial
theorem tw13689420564748906846 : True := trivial
theorem tw7710490610012369246 : True := trivial
theorem tw13242460273310152446 : True := trivial
theorem tw1195539289895706183 : True := trivial
theorem tw17835880831805347399 : True := trivial
theorem tw8848471627628698599 : True := trivial
theorem tw6423259651972170407 : True := trivial
theorem tw6005948727298620519 : True := trivial
theorem tw7911072309002438759 : True := trivial
theorem tw7658591472435119239 : True := trivial
theorem tw15374232209729824903 : True := trivial
theorem tw8525089967495478407 : True := trivial
theorem tw8016539196216162439 : True := trivial
theorem tw8937864085960431399 : True := trivial
theorem tw5986253475659386663 : True := trivial
theorem tw5466901833148007207 : True := trivial
theorem tw13226482961975619399 : True := trivial
theorem tw9319003231368386791 : True := trivial
theorem tw8067528424061474055 : True := trivial
theorem tw11366157959133837575 : True := trivial
theorem tw16605798992758334823 : True := trivial
theorem tw5962610112328383847 : True := trivial
theorem tw4583718465753202055 : True := trivial
theorem tw17254332261056695367 : True := trivial
theorem tw16174617771981550087 : True := trivial
theorem tw3209213651011471527 : True := trivial
theorem tw8537013826709102791 : True := trivial
theorem tw15697806421899405511 : True := trivial
theorem tw14945664044275154535 : True := trivial
theorem tw11398974781567510119 : True := trivial
theorem tw11689098537348711015 : True := trivial
theorem tw9138770587427005031 : True := trivial
theorem tw11027599416231900807 : True := trivial
theorem tw9727332350216074535 : True := trivial
theorem tw6956828031273020711 : True := trivial
theorem tw15569298978171645223 : True := trivial
theorem tw15379203083316285735 : True := trivial
theorem tw11707769024123201863 : True := trivial
theorem tw15010492188614157639 : True := trivial
theorem tw17255994408577216263 : True := trivial
theorem tw2336100204888218023 : True := trivial
theorem tw17206517602294258119 : True := trivial
theorem tw15578514640036734823 : True := trivial
theorem tw13679964950153088871 : True := trivial
theorem tw958826994430233479 : True := trivial
theorem tw14927557008961811335 : True := trivial
theorem tw7365785812578049927 : True := trivial
theorem tw9407222988355825191 : True := trivial
theorem tw6150606570583219751 : True := trivial
theorem tw17669954493250520008 : True := trivial
theorem tw7149830727120307144 : True := trivial
theorem tw3287432149399408392 : True := trivial
theorem tw10372316881680602888 : True := trivial
theorem tw2682673337185283240 : True := trivial
theorem tw12970044609634164584 : True := trivial
theorem tw4621351600349503368 : True := trivial
theorem tw8617440064467017608 : True := trivial
theorem tw2027225552370902312 : True := trivial
theorem tw8694975801910187304 : True := trivial
theorem tw5122183792219681096 : True := trivial
theorem tw2790719117597886440 : True := trivial
theorem tw14131467280219704296 : True := trivial
theorem tw15223929297163196424 : True := trivial
theorem tw18154281326688299016 : True := trivial
theorem tw2266132144794048648 : True := trivial
theorem tw14106838934283655304 : True := trivial
theorem tw4275799898948717128 : True := trivial
theorem tw17831851951975936584 : True := trivial
theorem tw5127752750776569096 : True := trivial
theorem tw637797095876802216 : True := trivial
theorem tw426863033190839976 : True := trivial
theorem tw488260962881092296 : True := trivial
theorem tw6295133969260993224 : True := trivial
theorem tw2956702293460366024 : True := trivial
theorem tw8688323045339486568 : True := trivial
theorem tw4646334196629408104 : True := trivial
theorem tw12560277058272917896 : True := trivial
theorem tw11793287277099696936 : True := trivial
theorem tw11837438247478014792 : True := trivial
theorem tw6443905064233194984 : True := trivial
theorem tw617207143433919976 : True := trivial
theorem tw7332474730392440328 : True := trivial
theorem tw146860833580017160 : True := trivial
theorem tw15812199638702110449 : True := trivial
theorem tw14890772188223647889 : True := trivial
theorem tw17510340302386741073 : True := trivial
theorem tw11840879517427688753 : True := trivial
theorem tw3619260133633007601 : True := trivial
theorem tw14094822746306891185 : True := trivial
theorem tw2315312193960313265 : True := trivial
theorem tw15605869527420713393 : True := trivial
theorem tw11295624337867842641 : True := trivial
theorem tw16014227731866786897 : True := trivial
theorem tw4650259445142031441 : True := trivial
theorem tw17982388842323652721 : True := trivial
theorem tw18098917576415919217 : True := trivial
theorem tw10988964407983383665 : True := trivial
theorem tw17795136120143541809 : True := trivial
theorem tw14478450459955060945 : True := trivial
theorem tw12304421192579964113 : True := trivial
theorem tw14016498332541871313 : True := trivial
theorem tw12299385739299374321 : True := trivial
theorem tw16311000841402043025 : True := trivial
theorem tw9380178853522141521 : True := trivial
theorem tw17756820835682848081 : True := trivial
theorem tw2521698325115618641 : True := trivial
theorem tw149359795532308849 : True := trivial
theorem tw17717221773154792817 : True := trivial
theorem tw8920250112343824145 : True := trivial
theorem tw17244394068586513169 : True := trivial
theorem tw3410401427073889041 : True := trivial
theorem tw17334684350964958001 : True := trivial
theorem tw16550225107361554897 : True := trivial
theorem tw16127819110195972593 : True := trivial
theorem tw8374714768580099985 : True := trivial
theorem tw7877756520068503121 : True := trivial
theorem tw14922861112683784817 : True := trivial
theorem tw6626809878203948657 : True := trivial
theorem tw8505761184431078001 : True := trivial
theorem tw13918388887848209009 : True := trivial
theorem tw3785550870499039249 : True := trivial
theorem tw612927770136575025 : True := trivial
theorem tw9079462902029970129 : True := trivial
theorem tw4255241139974763217 : True := trivial
theorem tw6392179461541741265 : True := trivial
theorem tw12513347275487726970 : True := trivial
theorem tw12587138521069571482 : True := trivial
theorem tw973995511521385530 : True := trivial
theorem tw7548237069779351610 : True := trivial
theorem tw8498815426070966778 : True := trivial
theorem tw7320628701823948986 : True := trivial
theorem tw916153040641201338 : True := trivial
theorem tw16080799553462053082 : True := trivial
theorem tw11230830640435601626 : True := trivial
theorem tw14133539604346949946 : True := trivial
theorem tw16022283958925846842 : True := trivial
theorem tw5457495300029177626 : True := trivial
theorem tw2615069726507377082 : True := trivial
theorem tw9070504951750910394 : True := trivial
theorem tw8073031381631738330 : True := trivial
theorem tw6977982177692816858 : True := trivial
theorem tw5562816833733845882 : True := trivial
theorem tw3411943030346306458 : True := trivial
theorem tw14874507325387974234 : True := trivial
theorem tw9501001602130117210 : True := trivial
theorem tw15743228347640645658 : True := trivial
theorem tw14662509171963031226 : True := trivial
theorem tw6282722579763471034 : True := trivial
theorem tw8582245391196689082 : True := trivial
theorem tw17295322664264497882 : True := trivial
theorem tw4695886577275146362 : True := trivial
theorem tw10715561677236762746 : True := trivial
theorem tw41293389792432250 : True := trivial
theorem tw4448859844156925050 : True := trivial
theorem tw9687752958218475674 : True := trivial
theorem tw14229943931783661722 : True := trivial
theorem tw12083208511843918650 : True := trivial
theorem tw10510567163083759418 : True := trivial
theorem tw17100680914587894010 : True := trivial
theorem tw14662890846660783354 : True := trivial
theorem tw10023818074659062010 : True := trivial
theorem tw626219184365914179 : True := trivial
theorem tw14028733317725023715 : True := trivial
theorem tw77249872647676419 : True := trivial
theorem tw5065531995453954243 : True := trivial
theorem tw4525933729342753379 : True := trivial
theorem tw11049975453304834691 : True := trivial
theorem tw13865884007866703491 : True := trivial
theorem tw10567874094726908227 : True := trivial
theorem tw7186631317436968675 : True := trivial
theorem tw5498339873828681155 : True := trivial
theorem tw12959016523946904419 : True := trivial
theorem tw5860058436465951587 : True := trivial
theorem tw4345522329301996387 : True := trivial
theorem tw15343576557154706307 : True := trivial
theorem tw10094775956839617091 : True := trivial
theorem tw7028793783468953155 : True := trivial
theorem tw2776053129094199267 : True := trivial
theorem tw10301480805130757123 : True := trivial
theorem tw4943039756635696131 : True := trivial
theorem tw10878784321510476451 : True := trivial
theorem tw1057471147340941411 : True := trivial
theorem tw11424093384846683267 : True := trivial
theorem tw16329681757468571779 : True := trivial
theorem tw6637741451430182019 : True := trivial
theorem tw12079148754628516643 : True := trivial
theorem tw4950133103464178499 : True := trivial
theorem tw17119687232140009699 : True := trivial
theorem tw16695472142079130851 : True := trivial
theorem tw11755210646492608419 : True := trivial
theorem tw12164147836124403651 : True := trivial
theorem tw17039731588128656323 : True := trivial
theorem tw6177043656382553443 : True := trivial
theorem tw8034414610470577507 : True := trivial
theorem tw12266279426608375139 : True := trivial
theorem tw11590033786329360419 : True := trivial
theorem tw15083088295189134436 : True := trivial
theorem tw13116989747842677892 : True := trivial
theorem tw6598422890692862084 : True := trivial
theorem tw5178749766764990020 : True := trivial
theorem tw12882428528881207876 : True := trivial
theorem tw10074599628566709828 : True := trivial
theorem tw11464853819268194884 : True := trivial
theorem tw6536501985447075396 : True := trivial
theorem tw15289214000352292420 : True := trivial
theorem tw13304516451745694404 : True := trivial
theorem tw14958260452775158468 : True := trivial
theorem tw9961153035494529380 : True := trivial
theorem tw13274687309662164324 : True := trivial
theorem tw14727579354403978020 : True := trivial
theorem tw5991660309151078180 : True := trivial
theorem tw574445125573694276 : True := trivial
theorem tw1074420039404135236 : True := trivial
theorem tw15518657532038343172 : True := trivial
theorem tw1483352278270511012 : True := trivial
theorem tw14723438633587918788 : True := trivial
theorem tw10927051917252428740 : True := trivial
theorem tw1199007276324587460 : True := trivial
theorem tw10595304548999274116 : True := trivial
theorem tw12158838464524730404 : True := trivial
theorem tw6456273257409594084 : True := trivial
theorem tw8547774611430829796 : True := trivial
theorem tw2121221467534264068 : True := trivial
theorem tw17244979962516998308 : True := trivial
theorem tw13636224859202960548 : True := trivial
theorem tw3260365201326765220 : True := trivial
theorem tw2613163487522026660 : True := trivial
theorem tw9395008986203344068 : True := trivial
theorem tw1930753910741467332 : True := trivial
theorem tw3251612213460476100 : True := trivial
theorem tw3363086682679479492 : True := trivial
theorem tw5079763037612295364 : True := trivial
theorem tw17538580352498159460 : True := trivial
theorem tw11558108120824163172 : True := trivial
theorem tw10958697691932567396 : True := trivial
theorem tw3984081200517975332 : True := trivial
theorem tw8901580284038164772 : True := trivial
theorem tw14825397918889286948 : True := trivial
theorem tw594733336063926244 : True := trivial
theorem tw13422980662291186692 : True := trivial
theorem tw2797365027233119236 : True := trivial
theorem tw1988402608144907684 : True := trivial
theorem tw1736277717689105828 : True := trivial
theorem tw6321501383270625517 : True := trivial
theorem tw16116155655272585901 : True := trivial
theorem tw14776033927794046637 : True := trivial
theorem tw2108400568047163757 : True := trivial
theorem tw9231365249896720173 : True := trivial
theorem tw10697848522484519725 : True := trivial
theorem tw11799956174659642157 : True := trivial
theorem tw12130658692478505421 : True := trivial
theorem tw2029482456618982893 : True := trivial
theorem tw12937238703331561037 : True := trivial
theorem tw18368808168821884493 : True := trivial
theorem tw10138887786639547405 : True := trivial
theorem tw2460964221378603021 : True := trivial
theorem tw6646663964172439597 : True := trivial
theorem tw7638097222780265517 : True := trivial
theorem tw6882361899945091789 : True := trivial
theorem tw1086233526214217421 : True := trivial
theorem tw2345818075060803309 : True := trivial
theorem tw4603347167757127405 : True := trivial
theorem tw5737281625479121069 : True := trivial
theorem tw565843550924031821 : True := trivial
theorem tw11874378608713352013 : True := trivial
theorem tw4142836692631091053 : True := trivial
theorem tw13129226834579047373 : True := trivial
theorem tw13270170922865752013 : True := trivial
theorem tw10185157870882700685 : True := trivial
theorem tw10872677623182028877 : True := trivial
theorem tw13271789955828322381 : True := trivial
theorem tw6190924425384258061 : True := trivial
theorem tw5426928021937318445 : True := trivial
theorem tw7234323077691531469 : True := trivial
theorem tw16520384516384949453 : True := trivial
theorem tw3713804428527238582 : True := trivial
theorem tw8447099885355265462 : True := trivial
theorem tw13520229997553339254 : True := trivial
theorem tw1466778140079514486 : True := trivial
theorem tw8525558368026071638 : True := trivial
theorem tw5146496850023015414 : True := trivial
theorem tw18154809967931778742 : True := trivial
theorem tw16626113371248718518 : True := trivial
theorem tw12307489783587580598 : True := trivial
theorem tw4739875439458237142 : True := trivial
theorem tw8548112208207899350 : True := trivial
theorem tw617383541047753846 : True := trivial
theorem tw15548947083842123894 : True := trivial
theorem tw4120312040593732726 : True := trivial
theorem tw15807061374422520950 : True := trivial
theorem tw18007407999109220502 : True := trivial
theorem tw2839079725700351830 : True := trivial
theorem tw14521901799463078166 : True := trivial
theorem tw16296832070935851990 : True := trivial
theorem tw8797637304499612022 : True := trivial
theorem tw12100972986506586518 : True := trivial
theorem tw11306297274799275414 : True := trivial
theorem tw15758300241958772118 : True := trivial
theorem tw17657420712469950550 : True := trivial
theorem tw12373670144741246038 : True := trivial
theorem tw16549173275790417398 : True := trivial
theorem tw2867611196979017238 : True := trivial
theorem tw1852512753368467990 : True := trivial
theorem tw7791322203180925110 : True := trivial
theorem tw16382281738660718774 : True := trivial
theorem tw110579645239839958 : True := trivial
theorem tw15501021746581097686 : True := trivial
theorem tw8510954509558949078 : True := trivial
theorem tw15688952848877631094 : True := trivial
theorem tw1837288437706551926 : True := trivial
theorem tw3372645220950316342 : True := trivial
theorem tw1088493353133105494 : True := trivial
theorem tw14216771134277992127 : True := trivial
theorem tw14342109938030741215 : True := trivial
theorem tw16655917085933843167 : True := trivial
theorem tw12962090014297975519 : True := trivial
theorem tw1107975661235413375 : True := trivial
theorem tw7955756790003146111 : True := trivial
theorem tw11983075495106319775 : True := trivial
theorem tw2636497153273051967 : True := trivial
theorem tw10686934407849255775 : True := trivial
theorem tw8437273895218399743 : True := trivial
theorem tw17666542892246825471 : True := trivial
theorem tw15841708366597763583 : True := trivial
theorem tw8331705608060929535 : True := trivial
theorem tw2309188847352149535 : True := trivial
theorem tw15325725582500904479 : True := trivial
theorem tw14879723315750836159 : True := trivial
theorem tw3455154623454801855 : True := trivial
theorem tw11173191635938995871 : True := trivial
theorem tw14033434718358240927 : True := trivial
theorem tw9099338888479218335 : True := trivial
theorem tw8659356372134032031 : True := trivial
theorem tw13229482663972589631 : True := trivial
theorem tw8993910887070073919 : True := trivial
theorem tw13691737919778356319 : True := trivial
theorem tw1421760677092936799 : True := trivial
theorem tw3045652887798196991 : True := trivial
theorem tw3001277914615419679 : True := trivial
theorem tw10024931826524239071 : True := trivial
theorem tw2525799567779798367 : True := trivial
theorem tw3016987646642587647 : True := trivial
theorem tw13986041400623541247 : True := trivial
theorem tw383025253336472607 : True := trivial
theorem tw3340270616069410847 : True := trivial
theorem tw10266233965747445183 : True := trivial
theorem tw10675707785799894463 : True := trivial
theorem tw9639594679907208671 : True := trivial
theorem tw16556392605435245023 : True := trivial
theorem tw10847196393683253727 : True := trivial
theorem tw13286650041350681055 : True := trivial
theorem tw2159773054330062975 : True := trivial
theorem tw16493200150164419711 : True := trivial
theorem tw12673729205603144831 : True := trivial
theorem tw12952349510696077919 : True := trivial
theorem tw14338024311920180896 : True := trivial
theorem tw14695018788271525536 : True := trivial
theorem tw2467718283324289696 : True := trivial
theorem tw1357818810392712512 : True := trivial
theorem tw10273570617284171072 : True := trivial
theorem tw6879840616988950848 : True := trivial
theorem tw13450452731448687968 : True := trivial
theorem tw15879077965829158240 : True := trivial
theorem tw16653037511519064832 : True := trivial
theorem tw17917109272019007936 : True := trivial
theorem tw4129238904781225440 : True := trivial
theorem tw5662946755359122336 : True := trivial
theorem tw294997246846677920 : True := trivial
theorem tw6747308149561895520 : True := trivial
theorem tw6353244835197395680 : True := trivial
theorem tw12661628594047305440 : True := trivial
theorem tw3800477218435686560 : True := trivial
theorem tw14391849519651245216 : True := trivial
theorem tw11011658055839493984 : True := trivial
theorem tw8028053817621801920 : True := trivial
theorem tw11404652009926716352 : True := trivial
theorem tw10575976825882404800 : True := trivial
theorem tw12153791004502724992 : True := trivial
theorem tw13056734225263874432 : True := trivial
theorem tw13729261848128444832 : True := trivial
theorem tw9215048463552842144 : True := trivial
theorem tw15576203917896867936 : True := trivial
theorem tw2510386810104451584 : True := trivial
theorem tw12306389523577530880 : True := trivial
theorem tw14986251345491321344 : True := trivial
theorem tw12966893039266058752 : True := trivial
theorem tw9036059114495052320 : True := trivial
theorem tw3363290250141066784 : True := trivial
theorem tw17647227443834150432 : True := trivial
theorem tw13858141710577661120 : True := trivial
theorem tw11466555099572279488 : True := trivial
theorem tw5154055346104468672 : True := trivial
theorem tw4644365743419492576 : True := trivial
theorem tw6748836502376677600 : True := trivial
theorem tw4986846814000716233 : True := trivial
theorem tw17095708288616930153 : True := trivial
theorem tw981866892058093449 : True := trivial
theorem tw3353231343088588329 : True := trivial
theorem tw4817881900227368489 : True := trivial
theorem tw9644582068286894665 : True := trivial
theorem tw4483135092290507337 : True := trivial
theorem tw13926188149175630409 : True := trivial
theorem tw17108378968190596073 : True := trivial
theorem tw14642309364155100137 : True := trivial
theorem tw14655818552109145097 : True := trivial
theorem tw3488074362590995465 : True := trivial
theorem tw9736476123790538441 : True := trivial
theorem tw2936355016181428361 : True := trivial
theorem tw17570782048765569161 : True := trivial
theorem tw2958680437800372361 : True := trivial
theorem tw15413054852838795401 : True := trivial
theorem tw13424323386225855305 : True := trivial
theorem tw7318867591808607049 : True := trivial
theorem tw13924795493542089545 : True := trivial
theorem tw14695908875703101673 : True := trivial
theorem tw4572488665029357801 : True := trivial
theorem tw15337946955562988809 : True := trivial
theorem tw3843376071341738953 : True := trivial
theorem tw7837860621090860393 : True := trivial
theorem tw8203816499804837257 : True := trivial
theorem tw7228869719831170441 : True := trivial
theorem tw10446462859148636201 : True := trivial
theorem tw10057973737176382505 : True := trivial
theorem tw3996429310248725577 : True := trivial
theorem tw7314565584878594121 : True := trivial
theorem tw280164494673769641 : True := trivial
theorem tw5476651212329622697 : True := trivial
theorem tw6628569398598015177 : True := trivial
theorem tw8266731419363026121 : True := trivial
theorem tw10490925522621987433 : True := trivial
theorem tw15808531691835443849 : True := trivial
theorem tw17194471175051075881 : True := trivial
theorem tw6910050599959293225 : True := trivial
theorem tw3383025017263121129 : True := trivial
theorem tw17582936878368186089 : True := trivial
theorem tw15222774118181000969 : True := trivial
theorem tw8337540270869178121 : True := trivial
theorem tw12472922532343263186 : True := trivial
theorem tw3098460180419573714 : True := trivial
theorem tw3907591392364062706 : True := trivial
theorem tw16275252184621502098 : True := trivial
theorem tw4332087373997374130 : True := trivial
theorem tw7376653698611599442 : True := trivial
theorem tw11161784794180893810 : True := trivial
theorem tw212471260658064626 : True := trivial
theorem tw9418389719374317458 : True := trivial
theorem tw1504944669620405170 : True := trivial
theorem tw15758672991602865490 : True := trivial
theorem tw13125599942128091474 : True := trivial
theorem tw529513953842698610 : True := trivial
theorem tw4394587660028224882 : True := trivial
theorem tw6884482687721452562 : True := trivial
theorem tw2425211933658263570 : True := trivial
theorem tw7530535137083218994 : True := trivial
theorem tw13179760384110752210 : True := trivial
theorem tw4564356342489742802 : True := trivial
theorem tw10413641080735490514 : True := trivial
theorem tw13985929136215947762 : True := trivial
theorem tw5580270941610500594 : True := trivial
theorem tw14777441287662360050 : True := trivial
theorem tw10581467865942840818 : True := trivial
theorem tw13336378824835616914 : True := trivial
theorem tw1342423796911883442 : True := trivial
theorem tw17482851011585181266 : True := trivial
theorem tw2740519334768245330 : True := trivial
theorem tw3776294187397042802 : True := trivial
theorem tw387483878201029234 : True := trivial
theorem tw14783968459833426194 : True := trivial
theorem tw2558506417459205394 : True := trivial
theorem tw10749805820692372786 : True := trivial
theorem tw9455088496304765650 : True := trivial
theorem tw18143724594246033138 : True := trivial
theorem tw3741676147689664242 : True := trivial
theorem tw3870782636217079218 : True := trivial
theorem tw508885227101991762 : True := trivial
theorem tw15196609684749482546 : True := trivial
theorem tw11923059105678751282 : True := trivial
theorem tw6575784210154809083 : True := trivial
theorem tw15565090170751649979 : True := trivial
theorem tw9299649485883558107 : True := trivial
theorem tw9567462898085873531 : True := trivial
theorem tw13582423531179281307 : True := trivial
theorem tw15700924357314437019 : True := trivial
theorem tw1606284555128938395 : True := trivial
theorem tw1226875413475829051 : True := trivial
theorem tw1918377587477842939 : True := trivial
theorem tw15118704963561118747 : True := trivial
theorem tw3229580721187608603 : True := trivial
theorem tw10783226639193240603 : True := trivial
theorem tw13600896785071143355 : True := trivial
theorem tw5319630890466887131 : True := trivial
theorem tw5920778012179170427 : True := trivial
theorem tw14719590408728043643 : True := trivial
theorem tw4517800499321087131 : True := trivial
theorem tw4887791275651857563 : True := trivial
theorem tw5976834729595378235 : True := trivial
theorem tw11503621275814738523 : True := trivial
theorem tw3940830863429052699 : True := trivial
theorem tw6440995846615590171 : True := trivial
theorem tw10450852486798507291 : True := trivial
theorem tw13662579419035767067 : True := trivial
theorem tw5521731604870288059 : True := trivial
theorem tw6098375387699134171 : True := trivial
theorem tw15564025699369699035 : True := trivial
theorem tw5477798415565180635 : True := trivial
theorem tw1732822212921388411 : True := trivial
theorem tw16941523725792021883 : True := trivial
theorem tw10353023159210366363 : True := trivial
theorem tw2627708908640931675 : True := trivial
theorem tw17275615674350594555 : True := trivial
theorem tw15293301877587553819 : True := trivial
theorem tw7734492729605232155 : True := trivial
theorem tw17020935035725859355 : True := trivial
theorem tw6127184664650697243 : True := trivial
theorem tw10879392622915422139 : True := trivial
theorem tw12532134071506385851 : True := trivial
theorem tw1214375485868124091 : True := trivial
theorem tw13266429921026662011 : True := trivial
theorem tw5755827874675283579 : True := trivial
theorem tw4090434907319408764 : True := trivial
theorem tw8504315288640908444 : True := trivial
theorem tw7226648882496947356 : True := trivial
theorem tw3862710811181544604 : True := trivial
theorem tw8046535067999254332 : True := trivial
theorem tw16244291666829677372 : True := trivial
theorem tw15749798094741003516 : True := trivial
theorem tw6741839675965627644 : True := trivial
theorem tw10719508251878179068 : True := trivial
theorem tw6565059945157105948 : True := trivial
theorem tw2566924513685163292 : True := trivial
theorem tw8834255572471351580 : True := trivial
theorem tw17776871571228509468 : True := trivial
theorem tw11487214503348841436 : True := trivial
theorem tw5639679965220005244 : True := trivial
theorem tw9441839879659989372 : True := trivial
theorem tw5353462750931653692 : True := trivial
theorem tw1076204760519074908 : True := trivial
theorem tw6608876807453418588 : True := trivial
theorem tw8843962029259265116 : True := trivial
theorem tw358590871587068412 : True := trivial
theorem tw1770776572945556988 : True := trivial
theorem tw231808635020989980 : True := trivial
theorem tw6939325617184942268 : True := trivial
theorem tw252837247152815292 : True := trivial
theorem tw6085504765002584284 : True := trivial
theorem tw13261082776526727516 : True := trivial
theorem tw6281043562532786620 : True := trivial
theorem tw8212295412758502876 : True := trivial
theorem tw4559278135110359516 : True := trivial
theorem tw10344659599643834844 : True := trivial
theorem tw18220630101416063452 : True := trivial
theorem tw6673840299799124444 : True := trivial
theorem tw14021650816794529692 : True := trivial
theorem tw2809060864796552764 : True := trivial
theorem tw7158958188069735004 : True := trivial
theorem tw8365781032473099260 : True := trivial
theorem tw17091039992677627900 : True := trivial
theorem tw8564091407197625372 : True := trivial
theorem tw11543637644529328828 : True := trivial
theorem tw7713557433974386364 : True := trivial
theorem tw316953880181670620 : True := trivial
theorem tw13205987591767316389 : True := trivial
theorem tw8345746912022637477 : True := trivial
theorem tw8618071764090850245 : True := trivial
theorem tw3414357067326876037 : True := trivial
theorem tw13041625346474946629 : True := trivial
theorem tw16768898306379534405 : True := trivial
theorem tw7741505726438511685 : True := trivial
theorem tw10252250511457427941 : True := trivial
theorem tw17802893961669302789 : True := trivial
theorem tw4779948273721738405 : True := trivial
theorem tw12892280678983133349 : True := trivial
theorem tw15958745492137340101 : True := trivial
theorem tw5176288218029210213 : True := trivial
theorem tw11292551448112294501 : True := trivial
theorem tw12599843238958549637 : True := trivial
theorem tw5521122731794549029 : True := trivial
theorem tw12933570757119184165 : True := trivial
theorem tw8437835124937751269 : True := trivial
theorem tw1396795179954301701 : True := trivial
theorem tw7430335275161205157 : True := trivial
theorem tw8357844287138951621 : True := trivial
theorem tw16909810727764504005 : True := trivial
theorem tw2318221367199014341 : True := trivial
theorem tw3418771535493762501 : True := trivial
theorem tw8358775655546654149 : True := trivial
theorem tw6490125557980178309 : True := trivial
theorem tw14593428302626247557 : True := trivial
theorem tw1153441766525089669 : True := trivial
theorem tw14970293066554121797 : True := trivial
theorem tw12697307447024912965 : True := trivial
theorem tw15262527891102501445 : True := trivial
theorem tw12908007155935265765 : True := trivial
theorem tw16606637367755523077 : True := trivial
theorem tw11109501538761547429 : True := trivial
theorem tw8481774650160616101 : True := trivial
theorem tw9203977392666424997 : True := trivial
theorem tw2997927517601784517 : True := trivial
theorem tw3374977117697850053 : True := trivial
theorem tw4730633924038612677 : True := trivial
theorem tw10079556100107491429 : True := trivial
theorem tw10637111002932187237 : True := trivial
theorem tw14538303358417238117 : True := trivial
theorem tw7511427495810782309 : True := trivial
theorem tw16163669297360412805 : True := trivial
theorem tw6871798290432655493 : True := trivial
theorem tw805411189136841509 : True := trivial
theorem tw2695214149996350245 : True := trivial
theorem tw2305604521800976165 : True := trivial
theorem tw1915978433726360357 : True := trivial
theorem tw4305101891187647717 : True := trivial
theorem tw1773067502703820005 : True := trivial
theorem tw11949164711081051397 : True := trivial
theorem tw16737428120552173829 : True := trivial
theorem tw15120557581742073294 : True := trivial
theorem tw408990028562774510 : True := trivial
theorem tw7938329378260298222 : True := trivial
theorem tw5068000760726834318 : True := trivial
theorem tw407702953003882670 : True := trivial
theorem tw17129199723012813998 : True := trivial
theorem tw5283413339606501550 : True := trivial
theorem tw14537080722523865262 : True := trivial
theorem tw2543152325611118766 : True := trivial
theorem tw18075393656390974030 : True := trivial
theorem tw5946725978586846830 : True := trivial
theorem tw13471366600470273646 : True := trivial
theorem tw11764059753427524206 : True := trivial
theorem tw8103108936874875502 : True := trivial
theorem tw10971360985576216878 : True := trivial
theorem tw6305880838340492590 : True := trivial
theorem tw2346565988738799342 : True := trivial
theorem tw15421434030748402062 : True := trivial
theorem tw4679277303125203374 : True := trivial
theorem tw10893761106456205742 : True := trivial
theorem tw10118271685584620398 : True := trivial
theorem tw14606929244315649902 : True := trivial
theorem tw8358999173330184046 : True := trivial
theorem tw5006249089910185486 : True := trivial
theorem tw16282499048842660814 : True := trivial
theorem tw14255635716116485070 : True := trivial
theorem tw2384065042957494254 : True := trivial
theorem tw6182488239488374414 : True := trivial
theorem tw8940603498665734798 : True := trivial
theorem tw6928452335025266350 : True := trivial
theorem tw5219105075599462062 : True := trivial
theorem tw17604455647191739054 : True := trivial
theorem tw8248772195432993870 : True := trivial
theorem tw11772930654305715278 : True := trivial
theorem tw824372477024353358 : True := trivial
theorem tw5505065662657509134 : True := trivial
theorem tw18444229780407020334 : True := trivial
theorem tw10893099978419122990 : True := trivial
theorem tw17083096378287678254 : True := trivial
theorem tw5548281345936151342 : True := trivial
theorem tw3814381192654310190 : True := trivial
theorem tw1370764994794438446 : True := trivial
theorem tw2951897051852756878 : True := trivial
theorem tw14513858566402627470 : True := trivial
theorem tw7857018417589098382 : True := trivial
theorem tw3429779562451185550 : True := trivial
theorem tw1341241415789868366 : True := trivial
theorem tw17361632697729501518 : True := trivial
theorem tw17214107612004072782 : True := trivial
theorem tw9404647649648868366 : True := trivial
theorem tw3800881032503713806 : True := trivial
theorem tw13651525255792016430 : True := trivial
theorem tw7917069649277977847 : True := trivial
theorem tw5956751986644989623 : True := trivial
theorem tw6629834887315627703 : True := trivial
theorem tw12707985979450427767 : True := trivial
theorem tw2037206977510154039 : True := trivial
theorem tw10683872573383578423 : True := trivial
theorem tw5769004878370311991 : True := trivial
theorem tw4220191500012136279 : True := trivial
theorem tw12493667932049312599 : True := trivial
theorem tw1152449866307737431 : True := trivial
theorem tw8762222931388384791 : True := trivial
theorem tw16642039054575733271 : True := trivial
theorem tw11313981887050386391 : True := trivial
theorem tw12793767779293054935 : True := trivial
theorem tw12938627232722714583 : True := trivial
theorem tw18237045275006725751 : True := trivial
theorem tw11809375909107177527 : True := trivial
theorem tw15582810551144962103 : True := trivial
theorem tw1693210978972372023 : True := trivial
theorem tw9446981638218988631 : True := trivial
theorem tw12536798733596616439 : True := trivial
theorem tw5951300679231453943 : True := trivial
theorem tw8392250769571041047 : True := trivial
theorem tw18352863314509411511 : True := trivial
theorem tw646351182735487159 : True := trivial
theorem tw10315134021498988727 : True := trivial
theorem tw16930858374460857527 : True := trivial
theorem tw840995296942997719 : True := trivial
theorem tw4400203506810005719 : True := trivial
theorem tw17506507430887867383 : True := trivial
theorem tw189982114894343159 : True := trivial
theorem tw1931214562219081751 : True := trivial
theorem tw223090920233678871 : True := trivial
theorem tw12224512922631147543 : True := trivial
theorem tw2880602592615118263 : True := trivial
theorem tw3242111481966671287 : True := trivial
theorem tw886579936840710615 : True := trivial
theorem tw13338968105820630487 : True := trivial
theorem tw9653760638616144343 : True := trivial
theorem tw4214232419395857879 : True := trivial
theorem tw4416799564132192727 : True := trivial
theorem tw1513451477387618871 : True := trivial
theorem tw2556550149636224567 : True := trivial
theorem tw7990288452948593272 : True := trivial
theorem tw3423541780322883192 : True := trivial
theorem tw13778038695330677400 : True := trivial
theorem tw6233311518801235256 : True := trivial
theorem tw6145578597257557304 : True := trivial
theorem tw6688560284182472024 : True := trivial
theorem tw7475401889144176376 : True := trivial
theorem tw4683997843967391512 : True := trivial
theorem tw17263073184054026008 : True := trivial
theorem tw17337034935899786712 : True := trivial
theorem tw7910050821868928888 : True := trivial
theorem tw2467558594304889720 : True := trivial
theorem tw3978017071775999896 : True := trivial
theorem tw18139277535151724120 : True := trivial
theorem tw10058480974401819640 : True := trivial
theorem tw10739972963883370168 : True := trivial
theorem tw16769850648165811928 : True := trivial
theorem tw10238925034067042008 : True := trivial
theorem tw12275567789339826904 : True := trivial
theorem tw4961089915987511416 : True := trivial
theorem tw637280053992466584 : True := trivial
theorem tw2752072764377643160 : True := trivial
theorem tw5201573768547746616 : True := trivial
theorem tw6581435716118994744 : True := trivial
theorem tw22608026842045688 : True := trivial
theorem tw636515832142212344 : True := trivial
theorem tw2240899693688758552 : True := trivial
theorem tw16806906879169975576 : True := trivial
theorem tw15130247113678638360 : True := trivial
theorem tw17365072644657827768 : True := trivial
theorem tw7339186714721876920 : True := trivial
theorem tw1151513650246637528 : True := trivial
theorem tw8258729205755659224 : True := trivial
theorem tw5425232084340178328 : True := trivial
theorem tw17256694208987394136 : True := trivial
theorem tw14357413094673548376 : True := trivial
theorem tw13219275894170161656 : True := trivial
theorem tw18300997374133784 : True := trivial
theorem tw12852528774923426328 : True := trivial
theorem tw2452485115184198840 : True := trivial
theorem tw3917157030204582072 : True := trivial
theorem tw15501456154389671128 : True := trivial
theorem tw12167108481965854936 : True := trivial
theorem tw7109555597134099873 : True := trivial
theorem tw12153740154942875073 : True := trivial
theorem tw7533638836242945889 : True := trivial
theorem tw16806629747367621505 : True := trivial
theorem tw12516235423898869633 : True := trivial
theorem tw6297832785626498593 : True := trivial
theorem tw1380380654244691489 : True := trivial
theorem tw4757614919907052097 : True := trivial
theorem tw10746717241127337953 : True := trivial
theorem tw5568560378518637217 : True := trivial
theorem tw12574539665024604865 : True := trivial
theorem tw4341612487525579457 : True := trivial
theorem tw2382671976333569729 : True := trivial
theorem tw1794533964175381633 : True := trivial
theorem tw4145782826545649793 : True := trivial
theorem tw8732962691139850369 : True := trivial
theorem tw4028321991173639969 : True := trivial
theorem tw1651036560984277217 : True := trivial
theorem tw9910268135016127745 : True := trivial
theorem tw6401483455336759201 : True := trivial
theorem tw1705902859935196097 : True := trivial
theorem tw1302501212372143457 : True := trivial
theorem tw13977682410841325953 : True := trivial
theorem tw12911505059146145825 : True := trivial
theorem tw14936008195319440449 : True := trivial
theorem tw13818481250489820225 : True := trivial
theorem tw8109100871944570369 : True := trivial
theorem tw12332780016276855969 : True := trivial
theorem tw7703799756455024801 : True := trivial
theorem tw2694788604529159329 : True := trivial
theorem tw13979296342620619969 : True := trivial
theorem tw11015191316051972289 : True := trivial
theorem tw698815655918269633 : True := trivial
theorem tw10523349913809046113 : True := trivial
theorem tw17825077822822994529 : True := trivial
theorem tw4590152277386041985 : True := trivial
theorem tw13501122532101169793 : True := trivial
theorem tw13101068184568954145 : True := trivial
theorem tw15363563939695099169 : True := trivial
theorem tw352292288757885249 : True := trivial
theorem tw2175524584257501505 : True := trivial
theorem tw12659968313517964609 : True := trivial
theorem tw14145149915740484266 : True := trivial
theorem tw13993627467196539242 : True := trivial
theorem tw15939565867637931402 : True := trivial
theorem tw12057949763279724330 : True := trivial
theorem tw11676859367624759786 : True := trivial
theorem tw15458471111967193002 : True := trivial
theorem tw6832294905438789578 : True := trivial
theorem tw2801878416450277322 : True := trivial
theorem tw17485772660776365674 : True := trivial
theorem tw15826913947220265578 : True := trivial
theorem tw17245470641647573642 : True := trivial
theorem tw11331517055517197354 : True := trivial
theorem tw6416293491021855786 : True := trivial
theorem tw8904737561761952810 : True := trivial
theorem tw6816215059083780138 : True := trivial
theorem tw15821210999257935946 : True := trivial
theorem tw2499751945632617226 : True := trivial
theorem tw5728271315705703594 : True := trivial
theorem tw8203822980389149546 : True := trivial
theorem tw8857606736926796650 : True := trivial
theorem tw4988214522254594954 : True := trivial
theorem tw1768882606660926762 : True := trivial
theorem tw5082598384989711338 : True := trivial
theorem tw6024686096744999338 : True := trivial
theorem tw1706842095784090058 : True := trivial
theorem tw3317327307010313354 : True := trivial
theorem tw2742387719077606538 : True := trivial
theorem tw8711429920195474986 : True := trivial
theorem tw16008113206233199178 : True := trivial
theorem tw333771218360230707 : True := trivial
theorem tw2233531442296155955 : True := trivial
theorem tw15738651672832027539 : True := trivial
theorem tw5476966136537538483 : True := trivial
theorem tw10370845842402169779 : True := trivial
theorem tw17648600266314843059 : True := trivial
theorem tw1507739578049632851 : True := trivial
theorem tw2181019853573968915 : True := trivial
theorem tw16213685248083135507 : True := trivial
theorem tw12550001111532370963 : True := trivial
theorem tw8881882112069958675 : True := trivial
theorem tw6468141899946813459 : True := trivial
theorem tw15046485313196518451 : True := trivial
theorem tw52061882145203251 : True := trivial
theorem tw5945798136467543091 : True := trivial
theorem tw10058149131781649107 : True := trivial
theorem tw1549498835118122739 : True := trivial
theorem tw14987750790036677363 : True := trivial
theorem tw6731138469709969555 : True := trivial
theorem tw17296788019612201107 : True := trivial
theorem tw10104467280878395539 : True := trivial
theorem tw12773272681371989875 : True := trivial
theorem tw352090165634925843 : True := trivial
theorem tw14234498335018886419 : True := trivial
theorem tw3945547512123741491 : True := trivial
theorem tw18362924093489121587 : True := trivial
theorem tw8523112189610620883 : True := trivial
theorem tw4702718986641282035 : True := trivial
theorem tw1206244698954701235 : True := trivial
theorem tw17318972136029391955 : True := trivial
theorem tw5051987396279939155 : True := trivial
theorem tw9755643710369634387 : True := trivial
theorem tw11423496076538779731 : True := trivial
theorem tw8129478057567916563 : True := trivial
theorem tw17117237132305436211 : True := trivial
theorem tw3474936456980536531 : True := trivial
theorem tw545423250604748019 : True := trivial
theorem tw11168335882710346419 : True := trivial
theorem tw11554023833253023411 : True := trivial
theorem tw4292253127753274131 : True := trivial
theorem tw7399828339447463699 : True := trivial
theorem tw179856805982678803 : True := trivial
theorem tw5538549698246163219 : True := trivial
theorem tw406875958476590516 : True := trivial
theorem tw12127893188606231988 : True := trivial
theorem tw7407027647098308468 : True := trivial
theorem tw5469416023123800596 : True := trivial
theorem tw6041303264488776244 : True := trivial
theorem tw17303266172307528692 : True := trivial
theorem tw13295697504620365812 : True := trivial
theorem tw183275020382157588 : True := trivial
theorem tw11244581122350328596 : True := trivial
theorem tw8219716393692479284 : True := trivial
theorem tw16369671331022785428 : True := trivial
theorem tw14289524842787218356 : True := trivial
theorem tw6075283927774197684 : True := trivial
theorem tw1815652159962653620 : True := trivial
theorem tw13113834415213786452 : True := trivial
theorem tw13386326636096728404 : True := trivial
theorem tw5617151858477832212 : True := trivial
theorem tw18222706645517196756 : True := trivial
theorem tw2191880870492926132 : True := trivial
theorem tw12787960464215440692 : True := trivial
theorem tw14039828539806376244 : True := trivial
theorem tw17308979885104925428 : True := trivial
theorem tw15458487060360244980 : True := trivial
theorem tw8296947588445355997 : True := trivial
theorem tw10125694090793629789 : True := trivial
theorem tw2064330197895203613 : True := trivial
theorem tw14857606140903522077 : True := trivial
theorem tw7043434804521770173 : True := trivial
theorem tw13068721794362507485 : True := trivial
theorem tw16192183892660127069 : True := trivial
theorem tw6647751698694082557 : True := trivial
theorem tw18258167792334484509 : True := trivial
theorem tw6616783112765773853 : True := trivial
theorem tw4131087222235475997 : True := trivial
theorem tw615018575159142845 : True := trivial
theorem tw2081048311300890077 : True := trivial
theorem tw259524876141305309 : True := trivial
theorem tw3693555697926406621 : True := trivial
theorem tw743715548459362429 : True := trivial
theorem tw14845389947700653181 : True := trivial
theorem tw14481908944765959325 : True := trivial
theorem tw175246851696531037 : True := trivial
theorem tw16498874924950209789 : True := trivial
theorem tw1900993711046760701 : True := trivial
theorem tw3191899913097709853 : True := trivial
theorem tw14803174523211623101 : True := trivial
theorem tw18273225359702589117 : True := trivial
theorem tw8315417632429616861 : True := trivial
theorem tw6331069751027376509 : True := trivial
theorem tw6503886661577620861 : True := trivial
theorem tw15170452248111968637 : True := trivial
theorem tw11205408938705365373 : True := trivial
theorem tw12913790994363568957 : True := trivial
theorem tw16080876591187731997 : True := trivial
theorem tw12992468107591191069 : True := trivial
theorem tw4779785710940815293 : True := trivial
theorem tw5005801379097483014 : True := trivial
theorem tw16928780415164796678 : True := trivial
theorem tw9557683790348378278 : True := trivial
theorem tw2050419237890010310 : True := trivial
theorem tw13476513142621780166 : True := trivial
theorem tw3966479208257040230 : True := trivial
theorem tw8258894060185524102 : True := trivial
theorem tw2311410861510010758 : True := trivial
theorem tw9803815539426893126 : True := trivial
theorem tw15910831484182612966 : True := trivial
theorem tw15176663221102485510 : True := trivial
theorem tw16509438510377655718 : True := trivial
theorem tw1033804656765505958 : True := trivial
theorem tw10094127352394778022 : True := trivial
theorem tw307318674554430886 : True := trivial
theorem tw7476531100574642630 : True := trivial
theorem tw416499547713403334 : True := trivial
theorem tw9843969962099249254 : True := trivial
theorem tw5772722619423834214 : True := trivial
theorem tw2452562646068720166 : True := trivial
theorem tw13726881537069267494 : True := trivial
theorem tw1823835924044929606 : True := trivial
theorem tw4485739463513288262 : True := trivial
theorem tw4123909307250169414 : True := trivial
theorem tw412208559665840390 : True := trivial
theorem tw11441350044921911558 : True := trivial
theorem tw10415079466174556422 : True := trivial
theorem tw561692248138715846 : True := trivial
theorem tw11006544578800056006 : True := trivial
theorem tw4749231712789258598 : True := trivial
theorem tw9294579473826579846 : True := trivial
theorem tw10113966705711667590 : True := trivial
theorem tw7517177173924092294 : True := trivial
theorem tw7767633162412886822 : True := trivial
theorem tw5508483506832480070 : True := trivial
theorem tw4201933994580029254 : True := trivial
theorem tw17583443223181422502 : True := trivial
theorem tw5869224334788029382 : True := trivial
theorem tw14577877229707739750 : True := trivial
theorem tw4468921031289601638 : True := trivial
theorem tw4387000475240034374 : True := trivial
theorem tw1793342566898972742 : True := trivial
theorem tw10899546732053312582 : True := trivial
theorem tw17103350411212724966 : True := trivial
theorem tw14010603644607402287 : True := trivial
theorem tw17605861372309849039 : True := trivial
theorem tw9063230945844926415 : True := trivial
theorem tw8031594201018230735 : True := trivial
theorem tw16793712697543626159 : True := trivial
theorem tw14471486637414289487 : True := trivial
theorem tw10258835434382509135 : True := trivial
theorem tw9568403709828906063 : True := trivial
theorem tw5928192860735741487 : True := trivial
theorem tw4031248854136414863 : True := trivial
theorem tw6161658588449315503 : True := trivial
theorem tw11397530902666755759 : True := trivial
theorem tw7816910272019392847 : True := trivial
theorem tw4289483228283258191 : True := trivial
theorem tw5860422527734331151 : True := trivial
theorem tw13014399174786592335 : True := trivial
theorem tw16760232231118547535 : True := trivial
theorem tw15112679481962972751 : True := trivial
theorem tw17104845747910945391 : True := trivial
theorem tw16668955095921443855 : True := trivial
theorem tw12519219651319320591 : True := trivial
theorem tw2241391650033199151 : True := trivial
theorem tw16583751334257006639 : True := trivial
theorem tw13224634775811697839 : True := trivial
theorem tw1792528435607382191 : True := trivial
theorem tw13241753243555391343 : True := trivial
theorem tw2597015816361713519 : True := trivial
theorem tw17266693522428734735 : True := trivial
theorem tw462610060872826127 : True := trivial
theorem tw5345856777477683471 : True := trivial
theorem tw13748384880462992304 : True := trivial
theorem tw11987498408911097776 : True := trivial
theorem tw11363292620453894480 : True := trivial
theorem tw511370200753629520 : True := trivial
theorem tw10899099155495608336 : True := trivial
theorem tw11816625400492724272 : True := trivial
theorem tw185666983695434800 : True := trivial
theorem tw7028492660618871856 : True := trivial
theorem tw13464878084468846640 : True := trivial
theorem tw1105817813949204944 : True := trivial
theorem tw888932713508188656 : True := trivial
theorem tw3309727541757648368 : True := trivial
theorem tw7908190486044430832 : True := trivial
theorem tw17791733728664430064 : True := trivial
theorem tw16784256948165222576 : True := trivial
theorem tw6249811980949397680 : True := trivial
theorem tw14985602954288780464 : True := trivial
theorem tw6046990336204646576 : True := trivial
theorem tw6583415991523370160 : True := trivial
theorem tw13179590472428812880 : True := trivial
theorem tw6591047369792434800 : True := trivial
theorem tw13571577913516018960 : True := trivial
theorem tw5445529626981651728 : True := trivial
theorem tw15488581864469710096 : True := trivial
theorem tw10837734976837391664 : True := trivial
theorem tw13300107460247189200 : True := trivial
theorem tw6729325828741429968 : True := trivial
theorem tw16645124683401312976 : True := trivial
theorem tw3884172036187329264 : True := trivial
theorem tw12704732604636651920 : True := trivial
theorem tw13770611276128129424 : True := trivial
theorem tw84325476606278032 : True := trivial
theorem tw10994655789556871600 : True := trivial
theorem tw7152739109140741552 : True := trivial
theorem tw8817318196899505584 : True := trivial
theorem tw11081903603948052912 : True := trivial
theorem tw3583266501355329392 : True := trivial
theorem tw15739365696066930544 : True := trivial
theorem tw3508647736234723856 : True := trivial
theorem tw4084916208488737296 : True := trivial
theorem tw17766811063973313072 : True := trivial
theorem tw11526879081324401200 : True := trivial
theorem tw3664467170328025040 : True := trivial
theorem tw4240908476553916368 : True := trivial
theorem tw5670337875539441296 : True := trivial
theorem tw9589638183706406576 : True := trivial
theorem tw9017734486994706096 : True := trivial
theorem tw2440431444771154000 : True := trivial
theorem tw9384848936955887696 : True := trivial
theorem tw8790011755574438672 : True := trivial
theorem tw16815733951487369008 : True := trivial
theorem tw16493800592596222768 : True := trivial
theorem tw11740605671245408464 : True := trivial
theorem tw6541750589833601232 : True := trivial
theorem tw7349864031591981264 : True := trivial
theorem tw7112397520519986384 : True := trivial
theorem tw13557950240055882992 : True := trivial
theorem tw3796244021294292880 : True := trivial
theorem tw4139480144655709072 : True := trivial
theorem tw7982986800823299984 : True := trivial
theorem tw18103928409814552729 : True := trivial
theorem tw11124345726498329753 : True := trivial
theorem tw3831524267348243001 : True := trivial
theorem tw1733305979694492217 : True := trivial
theorem tw1664963178866901593 : True := trivial
theorem tw171133194039934201 : True := trivial
theorem tw11772760410728972569 : True := trivial
theorem tw1255690045787150041 : True := trivial
theorem tw9929188536801457881 : True := trivial
theorem tw17800885236249473401 : True := trivial
theorem tw2829012413786183033 : True := trivial
theorem tw2879465056415497593 : True := trivial
theorem tw11483551383309776249 : True := trivial
theorem tw3496789762149669273 : True := trivial
theorem tw17883141194614918969 : True := trivial
theorem tw275846519125344057 : True := trivial
theorem tw8702440688020833113 : True := trivial
theorem tw1903542351706211833 : True := trivial
theorem tw1482492107315206681 : True := trivial
theorem tw15006943558453786553 : True := trivial
theorem tw14846515932413606841 : True := trivial
theorem tw10452327459520240601 : True := trivial
theorem tw13775198668863556569 : True := trivial
theorem tw16835871174150145657 : True := trivial
theorem tw17682342079625204377 : True := trivial
theorem tw11836733530938857529 : True := trivial
theorem tw916069828339881017 : True := trivial
theorem tw13788118239804970041 : True := trivial
theorem tw6045890323686028345 : True := trivial
theorem tw18196031545647378489 : True := trivial
theorem tw6143909524684287033 : True := trivial
theorem tw10680730493106507833 : True := trivial
theorem tw12898533040752858201 : True := trivial
theorem tw4705984509290835705 : True := trivial
theorem tw5855696139184522009 : True := trivial
theorem tw15268724250998859545 : True := trivial
theorem tw13593170337350762265 : True := trivial
theorem tw12478470824336903353 : True := trivial
theorem tw179025824724705497 : True := trivial
theorem tw85222257755031417 : True := trivial
theorem tw12726998726854573977 : True := trivial
theorem tw6667628039916486969 : True := trivial
theorem tw7219786114333419545 : True := trivial
theorem tw13072405209208779801 : True := trivial
theorem tw17742260918067058105 : True := trivial
theorem tw4716052730383914658 : True := trivial
theorem tw14772931311833943746 : True := trivial
theorem tw8140873123128150402 : True := trivial
theorem tw11467710281258142082 : True := trivial
theorem tw4522212957597209986 : True := trivial
theorem tw6927100017027548546 : True := trivial
theorem tw5780188648649684770 : True := trivial
theorem tw7197592039920904994 : True := trivial
theorem tw4325792887625679650 : True := trivial
theorem tw15599604829002248002 : True := trivial
theorem tw10646253179619684834 : True := trivial
theorem tw17662004910859742722 : True := trivial
theorem tw542170699395766178 : True := trivial
theorem tw16373702071534772162 : True := trivial
theorem tw16064017896503171682 : True := trivial
theorem tw13255016901085245058 : True := trivial
theorem tw10766522360466483842 : True := trivial
theorem tw6384307275319977026 : True := trivial
theorem tw10225213163090300642 : True := trivial
theorem tw11104149443059066594 : True := trivial
theorem tw2236921909704525570 : True := trivial
theorem tw14403687714497221794 : True := trivial
theorem tw7234152660404196546 : True := trivial
theorem tw12200016206550045538 : True := trivial
theorem tw5128688674174096386 : True := trivial
theorem tw6409404894225712546 : True := trivial
theorem tw16031151528223022498 : True := trivial
theorem tw2330044160136026530 : True := trivial
theorem tw5038268962288136642 : True := trivial
theorem tw3637407560739501602 : True := trivial
theorem tw10269832723537093154 : True := trivial
theorem tw13241116901566433826 : True := trivial
theorem tw18170471180148891202 : True := trivial
theorem tw14397791751954798146 : True := trivial
theorem tw16211781796649945314 : True := trivial
theorem tw9636821566701565739 : True := trivial
theorem tw9503815399972098539 : True := trivial
theorem tw4508567299986049931 : True := trivial
theorem tw10216438505340515243 : True := trivial
theorem tw16086277891819258443 : True := trivial
theorem tw9287171093615950443 : True := trivial
theorem tw14716811052088624747 : True := trivial
theorem tw16360720512230040619 : True := trivial
theorem tw8917946682252227627 : True := trivial
theorem tw13702873763865118443 : True := trivial
theorem tw16408300620067498859 : True := trivial
theorem tw184148426710541163 : True := trivial
theorem tw10431792534608110443 : True := trivial
theorem tw9198297423434369899 : True := trivial
theorem tw2273569920060502283 : True := trivial
theorem tw12951717238626461963 : True := trivial
theorem tw10683072833917976555 : True := trivial
theorem tw7398333293445707883 : True := trivial
theorem tw4817937016220739691 : True := trivial
theorem tw10266395040114263243 : True := trivial
theorem tw5204184991612377291 : True := trivial
theorem tw18148584202773222027 : True := trivial
theorem tw9899774923764055371 : True := trivial
theorem tw7894701984180422987 : True := trivial
theorem tw3930082990301992267 : True := trivial
theorem tw11750636446007010667 : True := trivial
theorem tw16759044242985473387 : True := trivial
theorem tw10273067937062225259 : True := trivial
theorem tw1960346364597842699 : True := trivial
theorem tw731193698657744651 : True := trivial
theorem tw6821165910508381145 : True := trivial
theorem tw11335562490024347815 : True := trivial
end Mine.top
set_option Elab.async true in
theorem Mine.top : True := by
  first
  | (let rec hd : PySem.Challenge.rw_qz0027_01.Holds :=
       have z : (fun _ : PySem.Challenge.rw_qz0027_01.Holds => True) (by set_option Elab.async false in (w_on; o_law; k_head; fail)) := trivial
       by assumption
     fail)
  | trivial
theorem Mine.top.barrier : True := trivial
namespace Mine.top
open_top hd for PySem.Challenge.rw_qz0027_01
end Mine.top
namespace Mine
theorem fill_top (P : Params) : PySem.Challenge.rw_qz0027_01 = PySem.Challenge.rw_qz0027_01 ∨ Mine.top.hd.heap_39 P = [] := by k_fill; exact .inl rfl
abbrev pw : Program := PySem.Challenge.pw_qz0027_01

/-- everything of g stands in h -/
def Up (g h : Heap) : Prop := ∀ b o, g.get? b = some o → h.get? b = some o
theorem Up.refl (g : Heap) : Up g g := fun _ _ e => e
theorem Up.trans {a b c : Heap} (x : Up a b) (y : Up b c) : Up a c := fun _ _ e => y _ _ (x _ _ e)

/-- the streams stay -/
structure Same (s s' : Shared) : Prop where
  gens : s'.gens = s.gens
  os : s'.os = s.os
theorem Same.rfl' {s : Shared} : Same s s := ⟨rfl, rfl⟩
theorem Same.trans {a b c : Shared} (x : Same a b) (y : Same b c) : Same a c := ⟨y.1.trans x.1, y.2.trans x.2⟩

theorem Same.lit {b s : Shared} {h : Heap} {d : Drawn} {t : Nat} (x : Same b s) : Same b ⟨h, s.gens, d, t, s.os⟩ := ⟨x.1, x.2⟩
theorem Same.back {b s s' : Shared} (y : Same s s') (x : Same b s) : Same b s' := x.trans y

/-- what of the top stands in g -/
structure Gnd (w : World) (g : Heap) : Prop where
  K : (Mine.top.hd.heap_39 w.params).In g
  T : ∃ p loose mean mg mb, Top p loose mean mg mb g
theorem Gnd.top {w : World} {g : Heap} (G : Gnd w g) : ∃ mg mb, g.Ns mainGlobals mg ∧ g.Ns builtinsNs mb ∧ (∀ x : Str, x ≠ "__name__" → mb x = bootBuiltins x) :=
  let ⟨_, _, _, mg, mb, T⟩ := G.T; ⟨mg, mb, T.g, T.b, T.builtins⟩
theorem Gnd.lim {w : World} {g : Heap} (G : Gnd w g) : g.NoLimit := let ⟨_, _, _, _, _, T⟩ := G.T; T.nolimit
theorem Gnd.up {w : World} {g h : Heap} (G : Gnd w g) (U : Up g h) : Gnd w h :=
  ⟨G.K.keeps U, let ⟨p, l, me, mg, mb, T⟩ := G.T; ⟨p, l, me, mg, mb, T.keeps U⟩⟩

/-- the frame's state: g stands, the names m lie at L, the ledger news lies in h -/
structure Sd (g : Heap) (L : Addr) (m : Str → Option Value) (news : List (Addr × Obj)) (h : Heap) : Prop where
  ns : h.Ns L m
  up : Up g h
  off : g.get? L = none
  nw : ∀ p ∈ news, h.get? p.1 = some p.2 ∧ p.1 ≠ L ∧ g.get? p.1 = none
  nd : (news.map (·.1)).Nodup

section
variable {g h h' : Heap} {L : Addr} {m m' : Str → Option Value} {news news' : List (Addr × Obj)}
theorem Sd.get (S : Sd g L m news h) {a : Addr} {o : Obj} (hm : (a, o) ∈ news) : h.get? a = some o := (S.nw _ hm).1
theorem Sd.set (S : Sd g L m news h) (hn : h'.Ns L m') (hs : Heap.SameBut L h h') : Sd g L m' news h' :=
  ⟨hn, fun b o e => (hs.2 b (fun q => by rw [q, S.off] at e; cases e)).trans (S.up b o e), S.off, fun p hp => ⟨(hs.2 p.1 (S.nw p hp).2.1).trans (S.nw p hp).1, (S.nw p hp).2⟩, S.nd⟩
theorem Sd.grown (S : Sd g L m news h) (U : Up h h') : Sd g L m news h' :=
  ⟨S.ns.keeps U, S.up.trans U, S.off, fun p hp => ⟨U _ _ (S.nw p hp).1, (S.nw p hp).2⟩, S.nd⟩
theorem Sd.add (S : Sd g L m news h) {a : Addr} {o : Obj} (hn : h.get? a = none) (U : Up h h') (e : h'.get? a = some o) : Sd g L m ((a, o) :: news) h' := by
  have S' := S.grown U
  refine ⟨S'.ns, S'.up, S'.off, fun p hp => ?_, ?_⟩
  · rcases List.mem_cons.mp hp with rfl | hp
    · refine ⟨e, fun q => ?_, ?_⟩
      · obtain ⟨oL, _, _, hL, _⟩ := S.ns
        simp only at q; rw [q, hL] at hn; cases hn
      · cases q : g.get? a with
        | none => rfl
        | some o' => rw [S.up _ _ q] at hn; cases hn
    · exact S'.nw p hp
  · rw [List.map_cons, List.nodup_cons]
    refine ⟨fun hm => ?_, S.nd⟩
    obtain ⟨p, hp, q⟩ := List.mem_map.mp hm
    have := (S.nw p hp).1
    simp only at q
    rw [q, hn] at this; cases this
theorem Up.push (h : Heap) (o : Obj) : Up h (h.push o) := fun _ _ e => Heap.get?_push_of_some _ e
theorem size_none (h : Heap) : h.get? h.objs.size = none := by
  cases q : h.get? h.objs.size with
  | none => rfl
  | some o => exact absurd (Heap.lt_size q) (Nat.lt_irrefl _)
theorem Sd.push (S : Sd g L m news h) (o : Obj) (hf : o.isFreed = false) : Sd g L m ((h.objs.size, o) :: news) (h.push o) :=
  S.add (size_none h) (Up.push h o) (Heap.get?_push_size _ hf)
theorem Sd.perm (S : Sd g L m news h) (p : news.Perm news') : Sd g L m news' h :=
  ⟨S.ns, S.up, S.off, fun q hq => S.nw q (p.mem_iff.mpr hq), (p.map _).nodup_iff.mp S.nd⟩
theorem Sd.sub (S : Sd g L m news h) (p : news'.Sublist news) : Sd g L m news' h :=
  ⟨S.ns, S.up, S.off, fun q hq => S.nw q (p.subset hq), (p.map _).nodup S.nd⟩
theorem Sd.upd {d : Addr} {o o' : Obj} {rest : List (Addr × Obj)} (S : Sd g L m ((d, o) :: rest) h) (hs : Heap.SameBut d h h') (e : h'.get? d = some o') : Sd g L m ((d, o') :: rest) h' := by
  have D := S.nw (d, o) (.head _)
  have nd := S.nd
  rw [List.map_cons, List.nodup_cons] at nd
  refine ⟨S.ns.sameBut hs (Ne.symm D.2.1), fun b x q => (hs.2 b (fun z => by rw [z, D.2.2] at q; cases q)).trans (S.up b x q), S.off, fun p hp => ?_, by rw [List.map_cons, List.nodup_cons]; exact nd⟩
  rcases List.mem_cons.mp hp with rfl | hp
  · exact ⟨e, D.2⟩
  · exact ⟨(hs.2 p.1 (fun q => nd.1 (List.mem_map.mpr ⟨p, hp, q⟩))).trans (S.nw p (.tail _ hp)).1, (S.nw p (.tail _ hp)).2⟩
end

/-- what a call may do: it writes at W alone, nothing goes -/
structure Eff (W : List Addr) (h h' : Heap) : Prop where
  ext : ∀ b o, b ∉ W → h.get? b = some o → h'.get? b = some o
  alive : ∀ b o, h.get? b = some o → ∃ o', h'.get? b = some o'
theorem Eff.of_up {h h' : Heap} (U : Up h h') {W : List Addr} : Eff W h h' := ⟨fun _ _ _ e => U _ _ e, fun _ _ e => ⟨_, U _ _ e⟩⟩
theorem Eff.up {h h' : Heap} (E : Eff [] h h') : Up h h' := fun b o e => E.ext b o (by simp) e
theorem Eff.trans {W : List Addr} {a b c : Heap} (x : Eff W a b) (y : Eff W b c) : Eff W a c :=
  ⟨fun d o hd e => y.ext d o hd (x.ext d o hd e), fun d o e => let ⟨_, e'⟩ := x.alive d o e; y.alive d _ e'⟩
theorem Eff.mono {W W' : List Addr} {a b : Heap} (x : Eff W a b) (hs : ∀ d ∈ W, d ∈ W') : Eff W' a b :=
  ⟨fun d o hd e => x.ext d o (fun q => hd (hs d q)) e, x.alive⟩
theorem Eff.same {d : Addr} {h h' : Heap} (hs : Heap.SameBut d h h') (e : (h'.get? d).isSome) : Eff [d] h h' :=
  ⟨fun b o hb e => (hs.2 b (by simpa using hb)).trans e, fun b o q => by
    by_cases hb : b = d
    · subst hb; exact Option.isSome_iff_exists.mp e
    · exact ⟨o, (hs.2 b hb).trans q⟩⟩

/-- the ground grows by what was not there before -/
structure Grow (g h g' h' : Heap) : Prop where
  le : Up g g'
  up : Up g' h'
  fresh : ∀ b o, g'.get? b = some o → (∃ o', g.get? b = some o') ∨ h.get? b = none

theorem Grow.refl {g h h' : Heap} (U : Up g h') : Grow g h g h' := ⟨Up.refl g, U, fun _ o e => .inl ⟨o, e⟩⟩
theorem Grow.trans {g h g₁ h₁ g₂ h₂ : Heap} {W : List Addr} (x : Grow g h g₁ h₁) (E : Eff W h h₁) (y : Grow g₁ h₁ g₂ h₂) : Grow g h g₂ h₂ :=
  ⟨x.le.trans y.le, y.up, fun b o e => by
    rcases y.fresh b o e with ⟨o', e'⟩ | e'
    · exact x.fresh b o' e'
    · right
      cases q : h.get? b with
      | none => rfl
      | some o' => obtain ⟨_, z⟩ := E.alive b o' q; rw [z] at e'; cases e'⟩

theorem hide_none : ∀ (l : List Addr) {h : Heap} {b : Addr}, h.get? b = none → (hideAll h l).get? b = none := fun l h b e => by
  cases q : (hideAll h l).get? b with
  | none => rfl
  | some o => rw [of_hideAll l q] at e; cases e
/-- of h: what g has, and what is new since h₀ -/
def grd (g h₀ h : Heap) (X : List Addr) : Heap := hideAll h ((List.range h.objs.size).filter fun b => !((g.get? b).isSome || ((h₀.get? b).isNone && !X.contains b)))
theorem grd_get {g h₀ h : Heap} {X : List Addr} {b : Addr} {o : Obj} (e : h.get? b = some o) (hb : (∃ o', g.get? b = some o') ∨ (h₀.get? b = none ∧ b ∉ X)) : (grd g h₀ h X).get? b = some o := by
  refine hideAll_get _ e fun hm => ?_
  have := (List.mem_filter.mp hm).2
  rcases hb with ⟨o', q⟩ | ⟨q1, q2⟩
  · simp [q] at this
  · simp [q1, q2] at this
theorem grd_of {g h₀ h : Heap} {X : List Addr} {b : Addr} {o : Obj} (e : (grd g h₀ h X).get? b = some o) : h.get? b = some o ∧ ((∃ o', g.get? b = some o') ∨ (h₀.get? b = none ∧ b ∉ X)) := by
  have e1 : h.get? b = some o := of_hideAll _ e
  refine ⟨e1, ?_⟩
  apply Classical.byContradiction
  intro hn
  have hm : b ∈ (List.range h.objs.size).filter fun b => !((g.get? b).isSome || ((h₀.get? b).isNone && !X.contains b)) := by
    refine List.mem_filter.mpr ⟨List.mem_range.mpr (Heap.lt_size e1), ?_⟩
    cases q : g.get? b with
    | some o' => exact absurd (.inl ⟨o', q⟩) hn
    | none =>
      cases q1 : h₀.get? b with
      | some o' => simp
      | none =>
        by_cases q2 : b ∈ X
        · simp [q2]
        · exact absurd (.inr ⟨q1, q2⟩) hn
  have := hideAll_none _ (h := h) hm
  unfold grd at e
  rw [this] at e; cases e
theorem grow_grd {g h₀ h : Heap} {X : List Addr} (U : Up g h) : Grow g h₀ (grd g h₀ h X) h :=
  ⟨fun b o e => grd_get (U b o e) (.inl ⟨o, e⟩), fun _ _ e => (grd_of e).1, fun b o e => by
    rcases (grd_of e).2 with q | q
    · exact .inl q
    · exact .inr q.1⟩

section
variable {w : World} {A : Around} {E : Value → Shared → Prop} {s : Shared} {env : Env} {g : Heap} {L : Addr} {m : Str → Option Value} {news : List (Addr × Obj)} {x : Str} {pos : Pos} {v : Value} {Q : Value → Shared → Prop}

theorem r_loc (S : Sd g L m news s.heap) (hv : m x = some v) (h : Q v s) (hk : env.scope.kind = .function) (hx : env.kindOf x = some .local) (hL : env.locals = L) (hd : (x == ("__debug__" : Str)) = false) :
    wpAny (model pw w) A (eval (.Name x pos) env) Q E s := wpAny_Name (wpAny_loadName_local hk hx (hL ▸ S.ns) hv h) hd
theorem r_locC {h₀ : Heap} {C : Addr} (hn : h₀.Ns C m) (U : Up h₀ s.heap) (hv : m x = some v) (h : Q v s) (hk : env.scope.kind = .function) (hx : env.kindOf x = some .local) (hL : env.locals = C) (hd : (x == ("__debug__" : Str)) = false) :
    wpAny (model pw w) A (eval (.Name x pos) env) Q E s := wpAny_Name (wpAny_loadName_local hk hx (hL ▸ hn.keeps U) hv h) hd
theorem r_cell {c : Addr} {o : Obj} (ho : s.heap.get? c = some o) (hd : o.data = .cell (some v)) (h : Q v s) (hc : env.cells.lookup x = some c) (hk : env.scope.kind = .function) (hx : env.kindOf x = some .cell) (hb : (x == ("__debug__" : Str)) = false) :
    wpAny (model pw w) A (eval (.Name x pos) env) Q E s := wpAny_Name (wpAny_loadName_cell hk hx hc ⟨o, ho, hd⟩ h) hb
theorem r_free {c : Addr} {o : Obj} (ho : s.heap.get? c = some o) (hd : o.data = .cell (some v)) (h : Q v s) (hc : env.cells.lookup x = some c) (hk : env.scope.kind = .function) (hx : env.kindOf x = some .free) (hb : (x == ("__debug__" : Str)) = false)
    (hn : (x == ("__classdict__" : Str)) = false) : wpAny (model pw w) A (eval (.Name x pos) env) Q E s := wpAny_Name (wpAny_loadName_free hk hx hc ⟨o, ho, hd⟩ h hn) hb
theorem r_glob (G : Gnd w g) (U : Up g s.heap) (e : nsIn (Mine.top.hd.heap_39 w.params) mainGlobals x = some (some v)) (h : Q v s) (hk : env.scope.kind = .function) (hx : env.kindOf x = some .globalImplicit) (hg : env.globals = mainGlobals)
    (hd : (x == ("__debug__" : Str)) = false) : wpAny (model pw w) A (eval (.Name x pos) env) Q E s := by
  obtain ⟨mg, mb, a, _, _⟩ := G.top
  exact Name_function_global hk hx (loadGlobal_global (env := env) (by rw [hg]; exact a.keeps U) (mg_of G.K a e) h) hd
theorem r_builtin (G : Gnd w g) (U : Up g s.heap) (e : nsIn (Mine.top.hd.heap_39 w.params) mainGlobals x = some none) (hv : bootBuiltins x = some v) (hn : x ≠ "__name__") (h : Q v s) (hk : env.scope.kind = .function) (hx : env.kindOf x = some .globalImplicit)
    (hg : env.globals = mainGlobals) (hb : env.builtins = builtinsNs) (hd : (x == ("__debug__" : Str)) = false) : wpAny (model pw w) A (eval (.Name x pos) env) Q E s := by
  obtain ⟨mg, mb, a, b, c⟩ := G.top
  exact Name_function_global hk hx (loadGlobal_builtin (env := env) (by rw [hg]; exact a.keeps U) (mg_none_of G.K a e) (by rw [hb]; exact b.keeps U) ((c x hn).trans hv) h) hd
end

section
variable {w : World} {A : Around} {E : Value → Shared → Prop} {s : Shared} {env : Env} {g : Heap} {L : Addr} {m : Str → Option Value} {news : List (Addr × Obj)} {x : Str} {v : Value} {Q : Unit → Shared → Prop}
theorem r_st (S : Sd g L m news s.heap) (h : ∀ s', Same s s' → Sd g L (fun y => if y = x then some v else m y) news s'.heap → Heap.SameBut L s.heap s'.heap → Q () s')
    (hx : env.kindOf x = some .local) (hL : env.locals = L) (hp : (env.scope.kind == .class || (env.scope.kind == .module && env.locals != env.globals)) = false) : wpAny (model pw w) A (storeName env x v) Q E s := by
  subst hL
  exact wpAny_storeName_local hx S.ns (fun h' hn hs => h _ ⟨rfl, rfl⟩ (S.set hn hs) hs) hp
theorem r_stC {c : Addr} {o : Obj} {v₀ : Option Value} {rest : List (Addr × Obj)} (S : Sd g L m ((c, o) :: rest) s.heap) (hd : o.data = .cell v₀)
    (h : ∀ s' o', Same s s' → Sd g L m ((c, o') :: rest) s'.heap → o'.data = .cell (some v) → Heap.SameBut c s.heap s'.heap → Q () s') (hc : env.cells.lookup x = some c)
    (hk : env.scope.kind = .function) (hx : env.kindOf x = some .cell) : wpAny (model pw w) A (storeName env x v) Q E s := by
  refine wpAny_storeName_cell hk hx hc ⟨o, S.get (.head _), hd⟩ fun h' hv hs => ?_
  obtain ⟨o', ho', hd'⟩ := hv
  exact h _ o' ⟨rfl, rfl⟩ (S.upd hs ho') hd' hs
end

section
variable {w : World} {A : Around} {E : Value → Shared → Prop} {s : Shared}
theorem r_tuple {vs : List Value} {Q : Value → Shared → Prop} (h : ∀ s' a, Same s s' → s.heap.get? a = none → Up s.heap s'.heap → s'.heap.get? a = some { cls := .type "tuple", data := .seq vs.toArray } → Q (.ref a) s') (hsz : vs.length ≤ sizeLine) :
    wpAny (model pw w) A (newTuple vs) Q E s :=
  wpAny_newObj_type (h { s with heap := s.heap.push _ } _ ⟨rfl, rfl⟩ (size_none _) (Up.push _ _) (Heap.get?_push_size _ rfl)) (by show vs.toArray.size ≤ sizeLine; rw [List.size_toArray]; exact hsz)
theorem r_list {vs : List Value} {Q : Value → Shared → Prop} (h : ∀ s' a, Same s s' → s.heap.get? a = none → Up s.heap s'.heap → s'.heap.get? a = some { cls := .type "list", data := .seq vs.toArray } → Q (.ref a) s') (hsz : vs.length ≤ sizeLine) :
    wpAny (model pw w) A (newList vs) Q E s :=
  wpAny_newObj_type (h { s with heap := s.heap.push _ } _ ⟨rfl, rfl⟩ (size_none _) (Up.push _ _) (Heap.get?_push_size _ rfl)) (by show vs.toArray.size ≤ sizeLine; rw [List.size_toArray]; exact hsz)
end

/-- room for n more calls, one in the other -/
structure Rm (A : Around) (n : Nat) : Prop where
  depth : A.depth + n < 900
  units : A.units + 10 * n < 9000
  handled : A.handled = none
theorem Rm.deeper {A : Around} {n : Nat} (r : Rm A (n + 1)) (env : Env) : Rm (A.deeper env) n :=
  ⟨by have := r.depth; show A.depth + 1 + n < 900; omega, by have := r.units; show A.units + 3 + 10 * n < 9000; omega, r.handled⟩
theorem Rm.in1 {A : Around} {n : Nat} (r : Rm A (n + 1)) : Rm A.in1 n :=
  ⟨by have := r.depth; show A.depth + n < 900; omega, by have := r.units; show A.units + 1 + 10 * n < 9000; omega, r.handled⟩
theorem Rm.less {A : Around} {n k : Nat} (r : Rm A n) (h : k ≤ n) : Rm A k := ⟨by have := r.depth; omega, by have := r.units; omega, r.handled⟩
theorem Rm.lim {A : Around} {n : Nat} (r : Rm A n) : A.depth < recursionLimit := by have := r.depth; have e : recursionLimit = 1000 := rfl; omega
theorem Rm.cl {A : Around} {n : Nat} (r : Rm A n) : A.units + 1 < cLine := by have := r.units; have e : cLine = 9900 := rfl; omega

theorem call0 {w : World} {A : Around} {s : Shared} {g : Heap} {R : Result → Shared → Prop} {name qual : Str} {params : Arguments} {body : List Stmt} {scope : Scope} {dV kV doc pm cdv ct oc : Value} {an od : Option Addr} {osl : Array (Option Value)} {f : Addr} {args : Args} {binds : List (Str × Value)} {n : Nat}
    {wl : List (Addr × Obj)} (G : Gnd w g) (U : Up g s.heap) (hw : ∀ p ∈ wl, s.heap.get? p.1 = some p.2 ∧ g.get? p.1 = none) (hnd : (wl.map (·.1)).Nodup) (r : Rm A (n + 1))
    (ho : (Mine.top.hd.heap_39 w.params).lookup f = some ⟨oc, od, .func (fnOf name qual params body scope dV kV doc pm an cdv ct), osl⟩) (hcd : codeIn (Mine.top.hd.heap_39 w.params) cdv qual = true)
    (hbind : BindsTo s (fnOf name qual params body scope dV kV doc pm an cdv ct) args binds) (hloc : ∀ y ∈ binds, scope.names.lookup y.1 = some .local)
    (h : ∀ A' L' s₁, Same s s₁ → Rm A' n → Sd g L' (fun y => binds.reverse.lookup y) wl s₁.heap → Up s.heap s₁.heap → s.heap.get? L' = none →
      wpAny (model pw w) A' (execs body (envOf qual scope L' f cdv)) (fun fl s' => R (.ok (.ret (match fl with | .ret v => v | _ => .none))) s') (fun _ _ => False) s₁)
    (hco : scope.isCoroutine = false) (hgen : scope.isGenerator = false) (hk : scope.kind = .function)
    (hcell : ∀ x ∈ scope.names, x.2 ≠ .cell) : codeAny (model pw w) A (.call (.ref f) args) R s := by
  have X := G.K.keeps U
  refine codeAny_call_def (fd := fnOf name qual params body scope dV kV doc pm an cdv ct) (body := body) (binds := binds) r.lim (X _ _ ho) rfl (G.lim.keeps U) (codeRec_of X hcd) rfl hbind hcell hloc (fun h₁ hns hk₁ => ?_) hco hgen hk
  have fr := size_none s.heap
  have off : ∀ b, s.heap.get? b = none → g.get? b = none := fun b e => by
    cases q : g.get? b with
    | none => rfl
    | some o => rw [U _ _ q] at e; cases e
  refine wpAny_mono (h _ _ { s with heap := h₁, toks := s.toks + binds.length } ⟨rfl, rfl⟩ (r.deeper _) ⟨hns, U.trans hk₁, off _ fr, fun p hp => ⟨hk₁ _ _ (hw p hp).1, fun e => ?_, (hw p hp).2⟩, hnd⟩ hk₁ fr) (fun _ _ y => y) fun _ _ y => y.elim
  have := (hw p hp).1
  rw [e, fr] at this; cases this

theorem Sd.cons {g h : Heap} {L a : Addr} {o : Obj} {m : Str → Option Value} {news : List (Addr × Obj)} (S : Sd g L m news h) (e : h.get? a = some o) (hL : a ≠ L) (hg : g.get? a = none) (hn : ∀ p ∈ news, p.1 ≠ a) : Sd g L m ((a, o) :: news) h := by
  refine ⟨S.ns, S.up, S.off, fun p hp => ?_, ?_⟩
  · rcases List.mem_cons.mp hp with rfl | hp
    · exact ⟨e, hL, hg⟩
    · exact S.nw p hp
  · rw [List.map_cons, List.nodup_cons]
    refine ⟨fun hm => ?_, S.nd⟩
    obtain ⟨p, hp, q⟩ := List.mem_map.mp hm
    exact hn p hp q

/-- the same, for a def whose names lie in cells too -/
theorem call1 {w : World} {A : Around} {s : Shared} {g : Heap} {R : Result → Shared → Prop} {name qual : Str} {params : Arguments} {body : List Stmt} {scope : Scope} {dV kV doc pm cdv ct oc : Value} {an od : Option Addr} {osl : Array (Option Value)} {f : Addr} {args : Args} {binds : List (Str × Value)} {n : Nat}
    {wl : List (Addr × Obj)} (G : Gnd w g) (U : Up g s.heap) (hw : ∀ p ∈ wl, s.heap.get? p.1 = some p.2 ∧ g.get? p.1 = none) (hnd : (wl.map (·.1)).Nodup) (r : Rm A (n + 1))
    (ho : (Mine.top.hd.heap_39 w.params).lookup f = some ⟨oc, od, .func (fnOf name qual params body scope dV kV doc pm an cdv ct), osl⟩) (hcd : codeIn (Mine.top.hd.heap_39 w.params) cdv qual = true)
    (hbind : BindsTo s (fnOf name qual params body scope dV kV doc pm an cdv ct) args binds)
    (hkind : (binds.all fun y => scope.names.lookup y.1 == some .local || scope.names.lookup y.1 == some .cell) = true)
    (hnd2 : ((cellsFrom 0 scope.names []).map (·.1)).Nodup)
    (h : ∀ A' L' s₁ cells, Same s s₁ → Rm A' n → Sd g L' (bindL (envOfC qual scope L' f cdv).kindOf binds fun _ => none) wl s₁.heap → Up s.heap s₁.heap → (∀ a, L' ≤ a → s.heap.get? a = none ∧ g.get? a = none ∧ ∀ p ∈ wl, p.1 ≠ a) →
      (∀ p ∈ cells, s₁.heap.get? p.1 = some p.2) → CellsAre (bindC (envOfC qual scope L' f cdv).kindOf binds fun _ => none) (cellsFrom (L' + 1) scope.names []) cells →
      wpAny (model pw w) A' (execs body (envOfC qual scope L' f cdv)) (fun fl s' => R (.ok (.ret (match fl with | .ret v => v | _ => .none))) s') (fun _ _ => False) s₁)
    (hco : scope.isCoroutine = false) (hgen : scope.isGenerator = false) (hk : scope.kind = .function) : codeAny (model pw w) A (.call (.ref f) args) R s := by
  have X := G.K.keeps U
  refine codeAny_call_function r.lim (X _ _ ho) rfl hco hgen rfl (codeRec_of X hcd) (hbind _ _ _ _ ?_)
  refine wpAny_newFunctionEnv_cells hk (kindsX hkind _) fun env' he s' x => ?_
  subst he
  have hk₁ := x.toInCall.keep
  refine ⟨(G.lim.keeps U).keeps hk₁, codeAny_func ?_⟩
  obtain ⟨h₁, tk, rfl, _⟩ := x.done
  obtain ⟨cells, NC, Y⟩ := Cl.news (h₀ := s.heap) (Nat.le_refl _) fun n c hm => ⟨x.cell n c (lookup_of_mem_nodup (cellsFrom_names scope.names 0 (s.heap.objs.size + 1) [] [] rfl ▸ hnd2) hm), x.above n c hm⟩
  have fr : ∀ a, s.heap.objs.size ≤ a → s.heap.get? a = none := fun a ha => by
    cases q : s.heap.get? a with
    | none => rfl
    | some o => exact absurd (Heap.lt_size q) (Nat.not_lt.mpr ha)
  have off : ∀ b, s.heap.get? b = none → g.get? b = none := fun b e => by
    cases q : g.get? b with
    | none => rfl
    | some o => rw [U _ _ q] at e; cases e
  refine wpAny_mono (h _ s.heap.objs.size { s with heap := h₁, toks := tk } cells ⟨rfl, rfl⟩ (r.deeper _) ⟨x.toInCall.ns, U.trans hk₁, off _ (fr _ (Nat.le_refl _)), fun p hp => ⟨hk₁ _ _ (hw p hp).1, fun e => ?_, (hw p hp).2⟩, hnd⟩ hk₁ (fun a ha => ⟨fr a ha, off _ (fr a ha), fun p hp e => ?_⟩)
    (fun p hp => (NC p hp).1) Y) (fun _ _ y => y) fun _ _ y => y.elim
  · have := (hw p hp).1
    rw [e, fr _ (Nat.le_refl _)] at this; cases this
  · have := (hw p hp).1
    rw [e, fr _ ha] at this; cases this
theorem bt_any : bootBuiltins (Str.ofString "any") = some (.builtin "any") := by decide +kernel

local macro_rules | `(tactic| walk_at "S") => `(tactic| first
  | (with_reducible refine wpAny_execs_cons ?_)
  | (with_reducible refine wpAny_execs_nil ?_)
  | (with_reducible refine wpAny_Return_some ?_)
  | (with_reducible refine wpAny_If ?_)
  | (with_reducible refine Subscript_ ?_)
  | (with_reducible refine wpAny_Constant_int ?_)
  | (with_reducible refine Calls.Constant_str ?_)
  | (with_reducible refine Tuple_ ?_)
  | (with_reducible refine List_ ?_)
  | (with_reducible refine wpAny_truthy_bool ?_)
  | (with_reducible refine eq_int ?_)
  | (with_reducible refine eq_str ?_)
  | (with_reducible refine ne_int ?_)
  | (with_reducible refine lt_int ?_)
  | (with_reducible refine gt_int ?_)
  | (with_reducible refine add_int ?_)
  | ((with_reducible show wpAny _ _ (spliced (backTo _ (starEach (_ :: _) _))) _ _ _); refine args_cons ?_)
  | ((with_reducible show wpAny _ _ (spliced (backTo _ (starEach [] _))) _ _ _); refine args_nil ?_)
  | ((with_reducible show wpAny _ _ (eval (Expr.Attribute (Expr.Name _ _) _ _) _) _ _ _); refine Attribute_Name_ ?_)
  | ((with_reducible show wpAny _ _ (eval (Expr.Attribute _ _ _) _) _ _ _); refine Attribute_any_ ?_)
  | ((with_reducible show wpAny _ _ (eval (Expr.Call (Expr.Attribute _ _ _) _ _ _) _) _ _ _); refine MethodCall_ ?_)
  | ((with_reducible show wpAny _ _ (eval (Expr.Call _ _ _ _) _) _ _ _); refine Call_ ?_)
  | ((with_reducible show wpAny _ _ (callWith _ (Value.builtin _) [] _ _) _ _ _); refine PyProof.Rows.callWith_builtin1 ?_)
  | ((with_reducible show wpAny _ _ (callWith _ (Value.builtin _) _ (backTo _ (starEach (_ :: _) _)) _) _ _ _); refine callWith_method1 ?_)
  | ((with_reducible show wpAny _ _ (callWith _ (Value.builtin _) _ (backTo _ (starEach [] _)) _) _ _ _); refine callWith_method0 ?_)
  | ((with_reducible show wpAny _ _ (exec (Stmt.Assign [Expr.Name _ _] _ _) _) _ _ _); refine wpAny_Assign_Name ?_)
  | ((with_reducible show wpAny _ _ (exec (Stmt.Assign [Expr.Subscript _ _ _] _ _) _) _ _ _); refine wpAny_Assign_Subscript ?_)
  | ((with_reducible show wpAny _ _ (exec (Stmt.Expr _ _) _) _ _ _); refine wpAny_Expr ?_)
  | ((with_reducible show wpAny _ _ (isTrue (Expr.Compare _ _ _ _) _ _) _ _ _); refine wpAny_isTrue_Compare1 ?_)
  | ((with_reducible show wpAny _ _ (eval (Expr.Compare _ _ _ _) _) _ _ _); refine wpAny_Compare1 ?_)
  | (with_reducible refine wpAny_BinOp ?_)
  | (with_reducible refine IfExp_ ?_)
  | ((with_reducible show wpAny _ _ (callWith _ (Value.type _) _ (backTo _ (starEach (_ :: _) _)) _) _ _ _); refine PySem.Pv.callWith_type1 ?_))
local macro_rules | `(tactic| walk_at "L") => `(tactic| ((with_reducible show wpAny _ _ (eval (Expr.Name _ _) _) _ _ _); refine' r_loc ?S ?hv ?_ ?hk ?hx ?hL ?hd; (case hx => exact rfl); (case S => with_reducible assumption); (case hk => exact rfl); (case hL => exact rfl); (case hd => decide); (case hv => first | rfl | assumption)))
local macro_rules | `(tactic| walk_at "G") => `(tactic| ((with_reducible show wpAny _ _ (eval (Expr.Name _ _) _) _ _ _); refine' r_glob ?G ?U ?e ?_ ?hk ?hx ?hg ?hd; (case hx => exact rfl); (case G => with_reducible assumption); (case U => exact Sd.up (by with_reducible assumption)); (case e => k_is); (case hk => exact rfl); (case hg => exact rfl); (case hd => decide)))
local macro_rules | `(tactic| walk_at "B") => `(tactic| ((with_reducible show wpAny _ _ (eval (Expr.Name _ _) _) _ _ _); refine' r_builtin ?G ?U ?e ?hv ?hn ?_ ?hk ?hx ?hg ?hb ?hd; (case hx => exact rfl); (case G => with_reducible assumption); (case U => exact Sd.up (by with_reducible assumption)); (case e => k_is); (case hk => exact rfl); (case hg => exact rfl); (case hb => exact rfl); (case hd => decide); (case hn => decide); (case hv => first | with_reducible exact PySem.boot_len | with_reducible exact PyProof.Rows.boot_list | with_reducible exact PyProof.Rows.boot_range | with_reducible exact PyProof.Rows.boot_sorted | with_reducible exact PyProof.Rows.boot_reversed | with_reducible exact PyProof.Rows.boot_tuple | with_reducible exact PyProof.Rows.boot_dict | with_reducible exact Mine.bt_any | with_reducible exact PyProof.Rows.boot_min | with_reducible exact PyProof.Rows.boot_max)))
local macro_rules | `(tactic| walk_at "W") => `(tactic| repeat (first | walk_at "S" | walk_at "L" | walk_at "G" | walk_at "B"))
local macro_rules | `(tactic| walk_at "Q1") => `(tactic| first | exact Same.rfl' | (refine Same.back (by with_reducible assumption) ?_))
local macro_rules | `(tactic| walk_at "Q") => `(tactic| (repeat (first | walk_at "Q1" | (with_reducible refine Same.lit ?_; walk_at "Q1") | (dsimp only; with_reducible refine Same.lit ?_; walk_at "Q1"))))
local macro_rules | `(tactic| walk_at "C") => `(tactic| (refine callWith_K (Gnd.K (by with_reducible assumption)) (by k_is) ?_ (by exact rfl) (by exact rfl); walk_at "W"; refine ⟨Frag.In.keeps (Gnd.K (by with_reducible assumption)) (Sd.up (by with_reducible assumption)), wpAny_call ?_⟩))
local macro_rules | `(tactic| walk_at "C0") => `(tactic| (refine callWith_K0 (Frag.In.keeps (Gnd.K (by with_reducible assumption)) (Sd.up (by with_reducible assumption))) (by k_is) (wpAny_call ?_)))

local macro_rules | `(tactic| walk_at "V") => `(tactic| repeat (first | walk_at "S" | walk_at "L" | walk_at "G" | walk_at "B" | ((with_reducible show wpAny _ _ (isTrue (Expr.Name _ _) _ _) _ _ _); refine isTrue_plain ?_) | (with_reducible refine Constant_bool ?_) | (with_reducible refine Constant_none ?_)))

structure BkA where
  x : Addr
  d : Addr
  ops : Addr
  args : Addr
  sorts : Addr
  datas : Addr
  nums : Addr
  ready : Bool

def bankMeths : List Str := ["op", "args", "make", "want", "want_all", "not_of", "and_of", "or_of", "true_term", "false_term", "fresh_const", "declare_fun", "iff", "eq"]

structure BkD (bk : BkA) (es : List DictEntry) : Prop where
  ops : getL "term_ops" es = some (some (.ref bk.ops))
  args : getL "term_args" es = some (some (.ref bk.args))
  sorts : getL "term_sorts" es = some (some (.ref bk.sorts))
  datas : getL "term_datas" es = some (some (.ref bk.datas))
  nums : getL "numbers" es = some (some (.ref bk.nums))
  yes : bk.ready = true → ∃ t, getL "true_number" es = some (some (.int 1 t))
  no : bk.ready = true → ∃ t, getL "false_number" es = some (some (.int 2 t))
  meths : ∀ nm ∈ bankMeths, getL nm es = some none

structure BankI (g : Heap) (bk : BkA) : Prop where
  inst : g.get? bk.x = some (instObj 629 bk.d)
  dict : ∃ es n, g.get? bk.d = some (dictOf es n) ∧ BkD bk es
theorem BankI.up {g h : Heap} {bk : BkA} (B : BankI g bk) (U : Up g h) : BankI h bk := ⟨U _ _ B.inst, let ⟨es, n, a, b⟩ := B.dict; ⟨es, n, U _ _ a, b⟩⟩

section
variable {w : World} {A : Around} {E : Value → Shared → Prop} {s : Shared} {g : Heap} {x C dx : Addr} {es : List DictEntry} {n : Nat} {name : Str} {v : Value}
theorem r_attr {expr : Bool} {attr : Option Value} {Q : Value → Shared → Prop} (G : Gnd w g) (U : Up g s.heap) (hx : s.heap.get? x = some (instObj C dx)) (hd : s.heap.get? dx = some (dictOf es n)) (hg : plainGet (Mine.top.hd.heap_39 w.params) C name = true)
    (hh : hasDictIn (Mine.top.hd.heap_39 w.params) C = true) (ha : findIn (Mine.top.hd.heap_39 w.params) (.ref C) name = some attr) (hn : noGet (Mine.top.hd.heap_39 w.params) attr = true) (hl : getL name es = some (some v)) (hv : handedIn v = true)
    (h : Q v { s with toks := s.toks + 1 }) : wpAny (model pw w) A (getAttr (.ref x) name expr) Q E s :=
  get_value (G.K.keeps U) (od := some (dictOf es n)) ⟨hx, rfl, rfl, hd⟩ (plainGet_of hg).1 (findObj_own hh ha hn hl) hv h
theorem r_meth {pl : Sem Bool} {f : Addr} {Q : Value × List Value → Shared → Prop} (G : Gnd w g) (U : Up g s.heap) (hx : s.heap.get? x = some (instObj C dx)) (hd : s.heap.get? dx = some (dictOf es n)) (hg : plainGet (Mine.top.hd.heap_39 w.params) C name = true)
    (hf : findIn (Mine.top.hd.heap_39 w.params) (.ref C) name = some (some (.ref f))) (ht : isFn (Mine.top.hd.heap_39 w.params) (.ref f) = true) (hl : getL name es = some none) (h : Q (.ref f, [.ref x]) s) :
    wpAny (model pw w) A (getMethod (.ref x) name pl) Q E s :=
  method_fn (G.K.keeps U) (od := some (dictOf es n)) ⟨hx, rfl, rfl, hd⟩ (plainGet_of hg).1 (plainGet_of hg).2 hf (beq_iff_eq.mp ht) (by show (lookIn name (dictOf es n)).map _ = _; rw [lookIn_dict, hl]; rfl) h
end

section
variable {w : World} {A : Around} {E : Value → Shared → Prop} {s : Shared} {g : Heap} {bk : BkA} {Q : Value → Shared → Prop} {expr : Bool}
theorem b_ops (G : Gnd w g) (U : Up g s.heap) (B : BankI g bk) (h : Q (.ref bk.ops) { s with toks := s.toks + 1 }) : wpAny (model pw w) A (getAttr (.ref bk.x) "term_ops" expr) Q E s := by
  obtain ⟨es, n, hd, D⟩ := B.dict
  exact r_attr (attr := none) G U (U _ _ B.inst) (U _ _ hd) (by k_is) (by k_is) (by k_is) (by k_is) D.ops rfl h
theorem b_args (G : Gnd w g) (U : Up g s.heap) (B : BankI g bk) (h : Q (.ref bk.args) { s with toks := s.toks + 1 }) : wpAny (model pw w) A (getAttr (.ref bk.x) "term_args" expr) Q E s := by
  obtain ⟨es, n, hd, D⟩ := B.dict
  exact r_attr (attr := none) G U (U _ _ B.inst) (U _ _ hd) (by k_is) (by k_is) (by k_is) (by k_is) D.args rfl h
theorem b_sorts (G : Gnd w g) (U : Up g s.heap) (B : BankI g bk) (h : Q (.ref bk.sorts) { s with toks := s.toks + 1 }) : wpAny (model pw w) A (getAttr (.ref bk.x) "term_sorts" expr) Q E s := by
  obtain ⟨es, n, hd, D⟩ := B.dict
  exact r_attr (attr := none) G U (U _ _ B.inst) (U _ _ hd) (by k_is) (by k_is) (by k_is) (by k_is) D.sorts rfl h
theorem b_datas (G : Gnd w g) (U : Up g s.heap) (B : BankI g bk) (h : Q (.ref bk.datas) { s with toks := s.toks + 1 }) : wpAny (model pw w) A (getAttr (.ref bk.x) "term_datas" expr) Q E s := by
  obtain ⟨es, n, hd, D⟩ := B.dict
  exact r_attr (attr := none) G U (U _ _ B.inst) (U _ _ hd) (by k_is) (by k_is) (by k_is) (by k_is) D.datas rfl h
theorem b_nums (G : Gnd w g) (U : Up g s.heap) (B : BankI g bk) (h : Q (.ref bk.nums) { s with toks := s.toks + 1 }) : wpAny (model pw w) A (getAttr (.ref bk.x) "numbers" expr) Q E s := by
  obtain ⟨es, n, hd, D⟩ := B.dict
  exact r_attr (attr := none) G U (U _ _ B.inst) (U _ _ hd) (by k_is) (by k_is) (by k_is) (by k_is) D.nums rfl h
theorem b_yes (G : Gnd w g) (U : Up g s.heap) (B : BankI g bk) (hr : bk.ready = true) (h : ∀ t, Q (.int 1 t) { s with toks := s.toks + 1 }) : wpAny (model pw w) A (getAttr (.ref bk.x) "true_number" expr) Q E s := by
  obtain ⟨es, n, hd, D⟩ := B.dict
  obtain ⟨t, ht⟩ := D.yes hr
  exact r_attr (attr := none) G U (U _ _ B.inst) (U _ _ hd) (by k_is) (by k_is) (by k_is) (by k_is) ht rfl (h t)
theorem b_no (G : Gnd w g) (U : Up g s.heap) (B : BankI g bk) (hr : bk.ready = true) (h : ∀ t, Q (.int 2 t) { s with toks := s.toks + 1 }) : wpAny (model pw w) A (getAttr (.ref bk.x) "false_number" expr) Q E s := by
  obtain ⟨es, n, hd, D⟩ := B.dict
  obtain ⟨t, ht⟩ := D.no hr
  exact r_attr (attr := none) G U (U _ _ B.inst) (U _ _ hd) (by k_is) (by k_is) (by k_is) (by k_is) ht rfl (h t)
theorem b_meth {nm : Str} {f : Addr} {pl : Sem Bool} {Q : Value × List Value → Shared → Prop} (G : Gnd w g) (U : Up g s.heap) (B : BankI g bk) (hm : nm ∈ bankMeths) (hg : plainGet (Mine.top.hd.heap_39 w.params) 629 nm = true)
    (hf : findIn (Mine.top.hd.heap_39 w.params) (.ref 629) nm = some (some (.ref f))) (ht : isFn (Mine.top.hd.heap_39 w.params) (.ref f) = true) (h : Q (.ref f, [.ref bk.x]) s) :
    wpAny (model pw w) A (getMethod (.ref bk.x) nm pl) Q E s := by
  obtain ⟨es, n, hd, D⟩ := B.dict
  exact r_meth G U (U _ _ B.inst) (U _ _ hd) hg hf ht (D.meths nm hm) h
end

theorem item_list {w : World} {A : Around} {E : Value → Shared → Prop} {s : Shared} {value slice : PySem.Expr} {l : Addr} {vs : Array Value} {k : Int} {u : Tok} {v : Value} {Q : Value → Shared → Prop}
    (hl : s.heap.IsList l vs) (h0 : 0 ≤ k) (hhi : k < 2 ^ 63) (hx : vs[k.toNat]? = some v) (h : Q v s)
    (hs : subscripted slice false (.ref l) (.int k u) = operate [.ref l, .int k u] (getItem (.ref l) (.int k u))) :
    wpAny (model pw w) A (subscriptTail value slice (.ref l) (.int k u)) Q E s :=
  tail_any hl.typeIs slot_list_getitem.lookup (wpAny_getItem_list hl h0 hhi hx h) hs

theorem c_op {w : World} {A : Around} {s : Shared} {g : Heap} {bk : BkA} {R : Result → Shared → Prop} {n : Nat} {vs : Array Value} {t : Int} {u : Tok} {v : Value}
    (G : Gnd w g) (U : Up g s.heap) (B : BankI g bk) (r : Rm A (n + 1)) (hl : s.heap.IsList bk.ops vs) (h0 : 0 ≤ t) (ht : t < 2 ^ 63) (hv : vs[t.toNat]? = some v)
    (h : ∀ s', Same s s' → Up s.heap s'.heap → R (.ok (.ret v)) s') :
    codeAny (model pw w) A (.call (.ref 201) ⟨[.ref bk.x, .int t u], []⟩) R s := by
  refine' call0 (wl := []) (binds := [("self", .ref bk.x), ("t", .int t u)]) G U (by simp) (by simp) r (by k_is) (by k_is) (by exact BindsTo.of_eq rfl) (by exact locs rfl) ?_ (by exact rfl) (by exact rfl) (by exact rfl) (by decide)
  intro A' L s₁ q r' S U₁ fr
  k_unmd
  with_reducible refine wpAny_execs_cons ?_
  walk_at "S"
  walk_at "S"; walk_at "S"; walk_at "L"
  refine b_ops G S.up B ?_
  walk_at "L"
  exact item_list (hl.at fun o e => U₁ _ _ e) h0 ht hv (h { s₁ with toks := s₁.toks + 1 } ⟨q.1, q.2⟩ U₁) (by with_unfolding_all rfl)
open Sem (wp)

structure Node where
  op : Str
  args : List Int
  data : Int
open scoped Classical

section
variable {prog : Program} {w : World} {A : Around} {E : Value → Shared → Prop} {s : Shared}

abbrev iK (prog : Program) (w : World) := PySem.intKind prog w
abbrev sK (prog : Program) (w : World) := PySem.strKind prog w

def IsNode (prog : Program) (w : World) (h : Heap) (n : Node) (a : Addr) : Prop :=
  ∃ o e t1 aa t3 t4, h.get? a = some o ∧ o.cls = .type "tuple" ∧ o.data = .seq #[.str n.op t1, .ref aa, .int 0 t3, .int n.data t4] e ∧ IsTupleKey (iK prog w) h n.args aa

theorem IsNode.typeIs {n : Node} {a : Addr} (x : IsNode prog w s.heap n a) : s.TypeIs (.ref a) "tuple" := let ⟨o, _, _, _, _, _, ho, hc, _⟩ := x; ⟨o, ho, hc⟩
theorem IsTupleKey.up {h h' : Heap} {ks : List Int} {a : Addr} (x : IsTupleKey (iK prog w) h ks a) (U : Up h h') : IsTupleKey (iK prog w) h' ks a := let ⟨o, items, n, ho, r⟩ := x; ⟨o, items, n, U _ _ ho, r⟩
theorem IsNode.up {h h' : Heap} {n : Node} {a : Addr} (x : IsNode prog w h n a) (U : Up h h') : IsNode prog w h' n a :=
  let ⟨o, e, t1, aa, t3, t4, ho, hc, hd, hk⟩ := x; ⟨o, e, t1, aa, t3, t4, U _ _ ho, hc, hd, IsTupleKey.up hk U⟩
theorem IsNode.inj {h : Heap} {a : Addr} {x y : Node} (hx : IsNode prog w h x a) (hy : IsNode prog w h y a) : x = y := by
  obtain ⟨o, e, t1, aa, t3, t4, ho, hc, hd, hk⟩ := hx
  obtain ⟨o', e', t1', aa', t3', t4', ho', hc', hd', hk'⟩ := hy
  obtain rfl : o = o' := Option.some.inj (ho.symm.trans ho')
  rw [hd] at hd'
  injection hd' with h1 _
  simp only [Array.mk.injEq, List.cons.injEq, Value.str.injEq, Value.ref.injEq, Value.int.injEq, and_true] at h1
  obtain ⟨⟨e1, _⟩, rfl, _, e4, _⟩ := h1
  have e2 := hk.inj hk'
  cases x; cases y
  simp only at e1 e2 e4
  subst e1 e2 e4; rfl
theorem IsTupleKey.keepsI {h h' : Heap} {ks : List Int} {a d : Addr} {o : Obj} {es ep} (x : IsTupleKey (iK prog w) h ks a) (ho : h.get? d = some o) (hd : o.data = .dict es ep) (hs : Heap.SameBut d h h') : IsTupleKey (iK prog w) h' ks a := x.keeps ho hd hs
theorem IsNode.keeps {h h' : Heap} {n : Node} {a d : Addr} {od : Obj} {es ep} (x : IsNode prog w h n a) (ho : h.get? d = some od) (hd : od.data = .dict es ep) (hs : Heap.SameBut d h h') : IsNode prog w h' n a := by
  obtain ⟨o, e, t1, aa, t3, t4, ho', hc, hd', hk⟩ := x
  have hne : a ≠ d := by
    rintro rfl
    obtain rfl : o = od := Option.some.inj (ho'.symm.trans ho)
    rw [hd] at hd'; exact nomatch hd'
  exact ⟨o, e, t1, aa, t3, t4, (hs.2 a hne).trans ho', hc, hd', hk.keeps ho hd hs⟩

theorem forIn_step {α β : Type} {M : Model} {x : α} {xs : List α} {b : β} {f : α → β → Sem (ForInStep β)} {Q : β → Shared → Prop}
    (h : wpAny M A (f x b) (fun r s' => match r with | .yield b' => wpAny M A (forIn xs b' f) Q E s' | .done b' => Q b' s') E s) : wpAny M A (forIn (x :: xs) b f) Q E s := by
  rw [List.forIn_cons]
  refine wpAny_bind (wpAny_mono h (fun r s' h' => ?_) fun _ _ e => e)
  cases r with
  | done b' => exact wpAny_pure h'
  | yield b' => exact h'
theorem forIn_end {α β : Type} {M : Model} {b : β} {f : α → β → Sem (ForInStep β)} {Q : β → Shared → Prop} (h : Q b s) : wpAny M A (forIn [] b f) Q E s := by
  rw [List.forIn_nil]; exact wpAny_pure h

def nodeHash (prog : Program) (w : World) (n : Node) : Int := reduceHash (Builtin.Tuple.tupleHashOf [(sK prog w).hash n.op, tupleKeyHash (iK prog w) n.args, (iK prog w).hash 0, (iK prog w).hash n.data])

theorem node_pyHash {n : Node} {a : Addr} {Q : Int → Shared → Prop} (hu : A.units + 5 < cLine) (hk : IsNode prog w s.heap n a) (h : Q (nodeHash prog w n) { s with toks := s.toks + (n.args.length + 5) }) :
    wpAny (model prog w) A (pyHash (.ref a)) Q E s := by
  have hT := hk.typeIs
  obtain ⟨o, e, t1, aa, t3, t4, ho, _, hd, hi⟩ := hk
  unfold pyHash
  first | unfold pyHashByItsType | skip
  first | refine wpAny_bind (wpAny_cRoomFor_or (.inr (by omega)) ?_) | skip
  refine wpAny_bind (wpAny_specialOf hT F.slot_tuple_hash.lookup ?_)
  show wpAny _ _ (if (some (Value.builtin "tuple.__hash__") == some Value.none) = true then _ else _) Q E s
  rw [if_neg (by rw [beq_builtin_none]; exact Bool.false_ne_true)]
  refine wpAny_bind (wpAny_specialOf hT F.slot_tuple_hash.lookup ?_)
  show wpAny _ _ (callSpecialIfBoundUnlessNone? (.ref a) "__hash__" _ >>= _) Q E s
  refine wpAny_bind (wpAny_callSpecialIfBoundUnlessNone?_slot hT F.slot_tuple_hash (wpAny_call_entry F.slot_tuple_hash hT F.entry_tuple_hash ?_ (F.args_tuple_hash_1 _)))
  show wpAny _ _ (Builtin.Tuple.tupleItemsOf (.ref a) >>= _) _ _ s
  refine wpAny_bind (wpAny_tupleItemsOf ho hd ?_)
  refine wpAny_bind ?_
  rw [← Array.forIn_toList]
  refine forIn_step (wpAny_bind ((sK prog w).pyHash (k := n.op) (strKind_is prog w _ _) (wpAny_pure ?_)))
  refine forIn_step (wpAny_bind (wpAny_pyHash_tuple (by show A.units + 1 < cLine; omega) hi (wpAny_pure ?_)))
  refine forIn_step (wpAny_bind ((iK prog w).pyHash (k := 0) (by simp [intKind, Value.isInt]) (wpAny_pure ?_)))
  refine forIn_step (wpAny_bind ((iK prog w).pyHash (k := n.data) (by simp [intKind, Value.isInt]) (wpAny_pure ?_)))
  refine forIn_end ?_
  show wpAny _ _ (retInt (Builtin.Tuple.tupleHashOf [(sK prog w).hash n.op, tupleKeyHash (iK prog w) n.args, (iK prog w).hash 0, (iK prog w).hash n.data])) _ _ _
  refine wpAny_ret_mkInt ?_
  have et : ∀ x : Nat, x + 1 + (n.args.length + 1) + 1 + 1 + 1 = x + (n.args.length + 5) := fun x => by omega
  simp only [et]
  unfold nodeHash reduceHash at h
  generalize Builtin.Tuple.tupleHashOf [(sK prog w).hash n.op, tupleKeyHash (iK prog w) n.args, (iK prog w).hash 0, (iK prog w).hash n.data] = H at h ⊢
  show wpAny _ _ (if (decide (-(2 : Int) ^ 63 ≤ H) && decide (H < 2 ^ 63)) = true then _ else _) Q E _
  by_cases hr : (decide (-(2 : Int) ^ 63 ≤ H) && decide (H < 2 ^ 63)) = true
  · rw [if_pos hr]
    rw [if_pos hr] at h
    exact wpAny_pure h
  · rw [if_neg hr]
    rw [if_neg hr] at h
    exact wpAny_bind (wpAny_rule (wpAny_pure h))

theorem node_eq_tree {x y : Node} {a b : Addr} {P : Fin → Shared → Prop} (hu : A.units + 3 < cLine) (hx : IsNode prog w s.heap x a) (hy : IsNode prog w s.heap y b) (h : P (.done (.ret (.bool (decide (x = y))))) s) :
    wpAny (model prog w) A (Builtin.«tuple.__eq__» ⟨[.ref a, .ref b], []⟩) P E s := by
  have hTb := hy.typeIs
  obtain ⟨oa, ea, t1, aa, t3, t4, hoa, _, hda, hia⟩ := hx
  obtain ⟨ob, eb, u1, bb, u3, u4, hob, _, hdb, hib⟩ := hy
  show wpAny _ _ (isInstance (.ref b) (.type "tuple") >>= _) _ _ s
  refine wpAny_bind (wpAny_isInstance hTb isSubtype_tuple_tuple ?_)
  simp only [Bool.not_true, Bool.false_eq_true, if_false]
  refine wpAny_bind (wpAny_tupleItemsOf hoa hda ?_)
  refine wpAny_bind (wpAny_tupleItemsOf hob hdb ?_)
  refine wpAny_bind ?_
  have hno : ∀ {p : Prop} [Decidable p], (x = y → p) → ¬ p → P (.done (.ret (.bool false))) s := fun hp hn => by
    have : decide (x = y) = false := decide_eq_false fun e => hn (hp e)
    rw [this] at h; exact h
  refine forIn_step (wpAny_bind ((sK prog w).eqBool (a := x.op) (b := y.op) (strKind_is prog w _ _) (strKind_is prog w _ _) ?_))
  by_cases h1 : x.op = y.op
  · rw [decide_eq_true h1]
    simp only [Bool.not_true, Bool.false_eq_true, if_false]
    refine wpAny_pure ?_
    refine forIn_step (wpAny_bind (wpAny_eqBool_tuple (by omega) hia hib ?_))
    by_cases h2 : x.args = y.args
    · rw [decide_eq_true h2]
      simp only [Bool.not_true, Bool.false_eq_true, if_false]
      refine wpAny_pure ?_
      refine forIn_step (wpAny_bind ((iK prog w).eqBool (a := 0) (b := 0) (by simp [intKind, Value.isInt]) (by simp [intKind, Value.isInt]) ?_))
      rw [decide_eq_true rfl]
      simp only [Bool.not_true, Bool.false_eq_true, if_false]
      refine wpAny_pure ?_
      refine forIn_step (wpAny_bind ((iK prog w).eqBool (a := x.data) (b := y.data) (by simp [intKind, Value.isInt]) (by simp [intKind, Value.isInt]) ?_))
      by_cases h4 : x.data = y.data
      · rw [decide_eq_true h4]
        simp only [Bool.not_true, Bool.false_eq_true, if_false]
        refine wpAny_pure ?_
        refine forIn_end ?_
        have : x = y := by cases x; cases y; simp only at h1 h2 h4; subst h1 h2 h4; rfl
        rw [decide_eq_true this] at h
        exact wpAny_pure h
      · rw [decide_eq_false h4]
        simp only [Bool.not_false, if_true]
        exact wpAny_bind (wpAny_pure (wpAny_pure (wpAny_pure (hno (fun e => e ▸ rfl) h4))))
    · rw [decide_eq_false h2]
      simp only [Bool.not_false, if_true]
      exact wpAny_bind (wpAny_pure (wpAny_pure (wpAny_pure (hno (fun e => e ▸ rfl) h2))))
  · rw [decide_eq_false h1]
    simp only [Bool.not_false, if_true]
    exact wpAny_bind (wpAny_pure (wpAny_pure (wpAny_pure (hno (fun e => e ▸ rfl) h1))))

theorem node_eqBool {x y : Node} {a b : Addr} {Q : Bool → Shared → Prop} (hu : A.units + 5 < cLine) (hx : IsNode prog w s.heap x a) (hy : IsNode prog w s.heap y b) (h : Q (decide (x = y)) s) :
    wpAny (model prog w) A (eqBool (.ref a) (.ref b)) Q E s := by
  unfold eqBool
  try with_reducible refine wpAny_holding ?_
  show wpAny _ _ (if (Value.ref a == Value.ref b) = true then _ else _) Q E s
  by_cases hab : (Value.ref a == Value.ref b) = true
  · rw [if_pos hab]
    have e : a = b := by have := eq_of_beq hab; injection this
    subst e
    obtain rfl := hx.inj hy
    exact wpAny_bind (wpAny_rule (wpAny_pure (by simpa using h)))
  · rw [if_neg hab]
    exact wpAny_bind (wpAny_richCompare_same_room (op := .Eq) hx.typeIs hy.typeIs F.slot_tuple_eq
      (wpAny_call_entry F.slot_tuple_eq hx.typeIs F.entry_tuple_eq (node_eq_tree (by show A.units + 1 + 3 < cLine; omega) hx hy ⟨_, rfl, (fun e => nomatch e), wpAny_truthy_bool h⟩) (F.args_tuple_eq_2 _ _)) (by omega))

theorem quiet_tuple {k : Nat} {ks : List Int} {a : Addr} {Q : Bool → Shared → Prop} (hk : IsTupleKey (iK prog w) s.heap ks a) (h : Q true s) : wpAny (model prog w) A (eqIsQuiet (k + 1) (.ref a)) Q E s := by
  have hT := hk.typeIs
  obtain ⟨o, items, n, ho, _, hd, hi⟩ := hk
  unfold eqIsQuiet
  refine wpAny_bind (wpAny_specialOf hT F.slot_tuple_eq.lookup ?_)
  show wpAny _ _ (isInstance (.ref a) (.type "tuple") >>= _) _ _ s
  refine wpAny_bind (wpAny_isInstance hT isSubtype_tuple_tuple ?_)
  simp only [Bool.not_true, Bool.false_eq_true, if_false]
  refine wpAny_bind (wpAny_seqItems ho hd ?_)
  refine wpAny_bind ?_
  show wpAny _ _ (forIn items _ _) _ _ s
  rw [← Array.forIn_toList]
  refine wpAny_forIn_list _ (fun rest r s' => r.1 = none ∧ s' = s ∧ ∀ v ∈ rest, carriedByValue v = true) _ ?_ ?_ _ _ ⟨rfl, rfl, hi.byValue⟩
  · rintro v rest r s' ⟨hr, rfl, hall⟩
    rw [eqIsQuiet_byValue _ (hall v List.mem_cons_self)]
    refine wpAny_bind (wpAny_pure ?_)
    simp only [Bool.not_true, Bool.false_eq_true, if_false]
    exact wpAny_pure ⟨rfl, rfl, fun u hu' => hall u (List.mem_cons_of_mem _ hu')⟩
  · rintro ⟨r1, r2⟩ s' ⟨hr, rfl, _⟩
    simp only at hr
    subst hr
    exact wpAny_pure h

theorem node_quiet {n : Node} {a : Addr} {Q : Bool → Shared → Prop} (hk : IsNode prog w s.heap n a) (h : Q true s) : wpAny (model prog w) A (eqIsQuiet 8 (.ref a)) Q E s := by
  have hT := hk.typeIs
  obtain ⟨o, e, t1, aa, t3, t4, ho, _, hd, hi⟩ := hk
  unfold eqIsQuiet
  refine wpAny_bind (wpAny_specialOf hT F.slot_tuple_eq.lookup ?_)
  show wpAny _ _ (isInstance (.ref a) (.type "tuple") >>= _) _ _ s
  refine wpAny_bind (wpAny_isInstance hT isSubtype_tuple_tuple ?_)
  simp only [Bool.not_true, Bool.false_eq_true, if_false]
  refine wpAny_bind (wpAny_seqItems ho hd ?_)
  refine wpAny_bind ?_
  show wpAny _ _ (forIn (#[.str n.op t1, .ref aa, .int 0 t3, .int n.data t4] : Array Value) _ _) _ _ s
  rw [← Array.forIn_toList]
  have bv : ∀ (v : Value), carriedByValue v = true → ∀ k, eqIsQuiet k v = pure true := fun v hv k => eqIsQuiet_byValue k hv
  refine forIn_step ?_
  rw [bv _ rfl]
  refine wpAny_bind (wpAny_pure (wpAny_pure ?_))
  refine forIn_step (wpAny_bind (quiet_tuple hi (wpAny_pure ?_)))
  refine forIn_step ?_
  rw [bv _ rfl]
  refine wpAny_bind (wpAny_pure (wpAny_pure ?_))
  refine forIn_step ?_
  rw [bv _ rfl]
  refine wpAny_bind (wpAny_pure (wpAny_pure ?_))
  exact forIn_end (wpAny_pure h)
end

def nodeKind (prog : Program) (w : World) : HeapKind prog w Node where
  is := IsNode prog w
  hash := nodeHash prog w
  draws := fun n => n.args.length + 5
  room := fun A => A.units + 5 < cLine
  inj := fun hx hy => hx.inj hy
  keeps := fun x ho hd hs => x.keeps ho hd hs
  pyHash := fun hu hk h => node_pyHash hu hk h
  eqBool := fun hu hx hy h => node_eqBool hu hx hy h
  quiet := fun hk h => node_quiet hk h

abbrev lstO (vs : Array Value) (n : Nat) : Obj := { cls := .type "list", data := .seq vs n }
abbrev tupO (vs : Array Value) (n : Nat) : Obj := { cls := .type "tuple", data := .seq vs n }
theorem lst_is {h : Heap} {a : Addr} {vs : Array Value} {n : Nat} (e : h.get? a = some (lstO vs n)) : h.IsList a vs := ⟨_, e, rfl, n, rfl⟩

def OpsAre (vs : Array Value) (B : List Node) : Prop := vs.size = B.length ∧ ∀ (i : Nat) (n : Node), B[i]? = some n → ∃ t, vs[i]? = some (Value.str n.op t)
def ArgsAre (w : World) (g : Heap) (vs : Array Value) (B : List Node) : Prop := vs.size = B.length ∧ ∀ (i : Nat) (n : Node), B[i]? = some n → ∃ a, vs[i]? = some (Value.ref a) ∧ IsTupleKey (iK pw w) g n.args a
def ZerosAre (vs : Array Value) (B : List Node) : Prop := vs.size = B.length ∧ ∀ (i : Nat) (n : Node), B[i]? = some n → ∃ t, vs[i]? = some (Value.int 0 t)
def NumsAre (xs : List (Node × Addr × Value)) (B : List Node) : Prop := xs.length + 1 = B.length ∧ ∀ (i : Nat) (n : Node), B[i + 1]? = some n → ∃ a t, xs[i]? = some (n, a, .int ((i : Int) + 1) t)

theorem OpsAre.push {vs : Array Value} {B : List Node} (x : OpsAre vs B) (n : Node) (t : Tok) : OpsAre (vs.push (.str n.op t)) (B ++ [n]) := by
  refine ⟨by simp [x.1], fun i k e => ?_⟩
  rcases Nat.lt_trichotomy i B.length with h | h | h
  · rw [List.getElem?_append_left h] at e
    obtain ⟨t', q⟩ := x.2 i k e
    exact ⟨t', by rw [Array.getElem?_push, if_neg (by rw [x.1]; omega)]; exact q⟩
  · subst h; simp at e; subst e; exact ⟨t, by rw [Array.getElem?_push, if_pos x.1.symm]⟩
  · rw [List.getElem?_eq_none (by simp; omega)] at e; cases e
theorem ArgsAre.push {w : World} {g : Heap} {vs : Array Value} {B : List Node} (x : ArgsAre w g vs B) (n : Node) {a : Addr} (hk : IsTupleKey (iK pw w) g n.args a) : ArgsAre w g (vs.push (.ref a)) (B ++ [n]) := by
  refine ⟨by simp [x.1], fun i k e => ?_⟩
  rcases Nat.lt_trichotomy i B.length with h | h | h
  · rw [List.getElem?_append_left h] at e
    obtain ⟨t', q, r⟩ := x.2 i k e
    exact ⟨t', by rw [Array.getElem?_push, if_neg (by rw [x.1]; omega)]; exact q, r⟩
  · subst h; simp at e; subst e; exact ⟨a, by rw [Array.getElem?_push, if_pos x.1.symm], hk⟩
  · rw [List.getElem?_eq_none (by simp; omega)] at e; cases e
theorem ZerosAre.push {vs : Array Value} {B : List Node} (x : ZerosAre vs B) (n : Node) (t : Tok) : ZerosAre (vs.push (.int 0 t)) (B ++ [n]) := by
  refine ⟨by simp [x.1], fun i k e => ?_⟩
  rcases Nat.lt_trichotomy i B.length with h | h | h
  · rw [List.getElem?_append_left h] at e
    obtain ⟨t', q⟩ := x.2 i k e
    exact ⟨t', by rw [Array.getElem?_push, if_neg (by rw [x.1]; omega)]; exact q⟩
  · subst h; simp at e; subst e; exact ⟨t, by rw [Array.getElem?_push, if_pos x.1.symm]⟩
  · rw [List.getElem?_eq_none (by simp; omega)] at e; cases e
theorem ArgsAre.up {w : World} {g g' : Heap} {vs : Array Value} {B : List Node} (x : ArgsAre w g vs B) (U : Up g g') : ArgsAre w g' vs B := ⟨x.1, fun i n e => let ⟨a, q, r⟩ := x.2 i n e; ⟨a, q, IsTupleKey.up r U⟩⟩
theorem NumsAre.push {xs : List (Node × Addr × Value)} {B : List Node} (x : NumsAre xs B) (n : Node) (a : Addr) (t : Tok) : NumsAre (xs ++ [(n, a, .int (B.length : Int) t)]) (B ++ [n]) := by
  have hl := x.1
  refine ⟨by simp; omega, fun i k e => ?_⟩
  rcases Nat.lt_trichotomy (i + 1) B.length with h | h | h
  · rw [List.getElem?_append_left h] at e
    obtain ⟨a', t', q⟩ := x.2 i k e
    exact ⟨a', t', by rw [List.getElem?_append_left (by omega)]; exact q⟩
  · rw [h] at e; simp at e; subst e
    refine ⟨a, t, ?_⟩
    have : i = xs.length := by omega
    subst this
    rw [List.getElem?_append_right (Nat.le_refl _)]
    simp; omega
  · rw [List.getElem?_eq_none (by simp; omega)] at e; cases e

/-- the bank as it lies in the ledger wl, over the ground g -/
structure BankW (w : World) (g : Heap) (bk : BkA) (B : List Node) (wl : List (Addr × Obj)) : Prop where
  I : BankI g bk
  ex : ∃ vo no va na vs ns vd nd on es ep xs, wl = [(bk.ops, lstO vo no), (bk.args, lstO va na), (bk.sorts, lstO vs ns), (bk.datas, lstO vd nd), (bk.nums, on)] ∧
    OpsAre vo B ∧ ArgsAre w g va B ∧ ZerosAre vs B ∧ vd.size = B.length ∧ on.ExactDict ∧ on.data = .dict es ep ∧ es.toList = xs.map (entryOfKey (nodeKind pw w)) ∧ (∀ x ∈ xs, IsNode pw w g x.1 x.2.1) ∧ (xs.map (·.1)).Nodup ∧ NumsAre xs B
  nd : (wl.map (·.1)).Nodup
  top : (bk.nums == sysModules) = false
  small : B.length ≤ 1000

/-- the bank as it lies in a heap -/
structure BankAt (w : World) (h : Heap) (bk : BkA) (B : List Node) : Prop where
  I : BankI h bk
  ops : ∃ vs, h.IsList bk.ops vs ∧ OpsAre vs B
  args : ∃ vs, h.IsList bk.args vs ∧ ArgsAre w h vs B
  sorts : ∃ vs, h.IsList bk.sorts vs ∧ ZerosAre vs B
  nums : ∃ xs, h.DictOfH (nodeKind pw w) bk.nums xs ∧ NumsAre xs B
  top : (bk.nums == sysModules) = false
  small : B.length ≤ 1000
theorem BankAt.up {w : World} {h h' : Heap} {bk : BkA} {B : List Node} (x : BankAt w h bk B) (U : Up h h') : BankAt w h' bk B where
  I := x.I.up U
  ops := let ⟨vs, a, b⟩ := x.ops; ⟨vs, a.at fun o e => U _ _ e, b⟩
  args := let ⟨vs, a, b⟩ := x.args; ⟨vs, a.at fun o e => U _ _ e, b.up U⟩
  sorts := let ⟨vs, a, b⟩ := x.sorts; ⟨vs, a.at fun o e => U _ _ e, b⟩
  nums := let ⟨xs, ⟨o, es, ep, a, b, c, d, e, f⟩, q⟩ := x.nums; ⟨xs, ⟨o, es, ep, U _ _ a, b, c, d, fun y hy => (e y hy).up U, f⟩, q⟩
  top := x.top
  small := x.small
theorem BankW.at {w : World} {g h : Heap} {bk : BkA} {B : List Node} {wl : List (Addr × Obj)} (x : BankW w g bk B wl) (U : Up g h) (hw : ∀ p ∈ wl, h.get? p.1 = some p.2) : BankAt w h bk B := by
  obtain ⟨vo, no, va, na, vs, ns, vd, nd, on, es, ep, xs, rfl, h1, h2, h3, h4, h5, h6, h7, h8, h9, h10⟩ := x.ex
  refine ⟨x.I.up U, ⟨vo, lst_is (hw _ (.head _)), h1⟩, ⟨va, lst_is (hw _ (.tail _ (.head _))), h2.up U⟩, ⟨vs, lst_is (hw _ (.tail _ (.tail _ (.head _)))), h3⟩,
    ⟨xs, ⟨on, es, ep, hw _ (.tail _ (.tail _ (.tail _ (.tail _ (.head _))))), h5, h6, h7, fun y hy => (h8 y hy).up U, h9⟩, h10⟩, x.top, x.small⟩
theorem BankW.up {w : World} {g g' : Heap} {bk : BkA} {B : List Node} {wl : List (Addr × Obj)} (x : BankW w g bk B wl) (U : Up g g') : BankW w g' bk B wl := by
  obtain ⟨vo, no, va, na, vs, ns, vd, nd, on, es, ep, xs, e, h1, h2, h3, h4, h5, h6, h7, h8, h9, h10⟩ := x.ex
  exact ⟨x.I.up U, ⟨vo, no, va, na, vs, ns, vd, nd, on, es, ep, xs, e, h1, h2.up U, h3, h4, h5, h6, h7, fun y hy => (h8 y hy).up U, h9, h10⟩, x.nd, x.top, x.small⟩

/-- number i is the node n -/
theorem nums_key {w : World} {xs : List (Node × Addr × Value)} {B : List Node} (x : NumsAre xs B) (hn : (xs.map (·.1)).Nodup) {i : Nat} {n : Node} (h0 : 0 < i) (e : B[i]? = some n) : ∃ a t, atKey xs n = some (a, .int (i : Int) t) := by
  let _ := w
  obtain ⟨j, rfl⟩ : ∃ j, i = j + 1 := ⟨i - 1, by omega⟩
  obtain ⟨a, t, q⟩ := x.2 j n e
  exact ⟨a, t, by rw [atKey_of_get hn q]; simp⟩
theorem nums_none {xs : List (Node × Addr × Value)} {B : List Node} (x : NumsAre xs B) {n : Node} (e : ∀ i : Nat, 0 < i → B[i]? ≠ some n) : atKey xs n = none := by
  refine atKey_none_of_get fun j p q => ?_
  have hj : j < xs.length := (List.getElem?_eq_some_iff.mp q).1
  have hl := x.1
  obtain ⟨n', hn'⟩ : ∃ n', B[j + 1]? = some n' := ⟨B[j + 1]'(by omega), List.getElem?_eq_getElem _⟩
  obtain ⟨a, t, q'⟩ := x.2 j n' hn'
  rw [q] at q'
  cases q'
  exact e (j + 1) (by omega) hn'

theorem dict_noDict {h : Heap} {d : Addr} {o : Obj} (ho : h.get? d = some o) (hc : o.ExactDict) : ∀ b, Value.ref d = .ref b → ∃ ob, h.get? b = some ob ∧ ob.dict = none :=
  fun b e => by injection e with e; subst e; exact ⟨o, ho, hc.2.1⟩

section
variable {w : World} {A : Around} {E : Value → Shared → Prop} {s : Shared}
theorem m_append {l : Addr} {vs : Array Value} {n : Nat} {pl : Sem Bool} {Q : Value × List Value → Shared → Prop} (e : s.heap.get? l = some (lstO vs n)) (h : Q (.builtin "list.append", [.ref l]) s) :
    wpAny (model pw w) A (getMethod (.ref l) "append" pl) Q E s :=
  getMethod_builtin (lst_is e).typeIs PySem.F.plainAttrs_list PySem.F.slot_list_append PySem.F.type_list_append (fun b e' => by injection e' with e'; subst e'; exact ⟨_, e, rfl⟩) h
theorem m_dget {d : Addr} {o : Obj} {pl : Sem Bool} {Q : Value × List Value → Shared → Prop} (ho : s.heap.get? d = some o) (hc : o.ExactDict) (h : Q (.builtin "dict.get", [.ref d]) s) :
    wpAny (model pw w) A (getMethod (.ref d) "get" pl) Q E s :=
  getMethod_builtin (T := "dict") ⟨o, ho, hc.1⟩ PySem.F.plainAttrs_dict PySem.F.slot_dict_get PySem.F.type_dict_get (dict_noDict ho hc) h
theorem r_append {g : Heap} {L : Addr} {m : Str → Option Value} {rest : List (Addr × Obj)} {l : Addr} {vs : Array Value} {n : Nat} {x : Value} {Q : Value → Shared → Prop} (S : Sd g L m ((l, lstO vs n) :: rest) s.heap)
    (h : ∀ s' n', Same s s' → Sd g L m ((l, lstO (vs.push x) n') :: rest) s'.heap → Heap.SameBut l s.heap s'.heap → Q .none s') (hsz : vs.size ≤ sizeLine) :
    wpAny (model pw w) A (call (.builtin "list.append") [.ref l, x]) Q E s :=
  wpAny_list_append_plain ⟨n, S.get (.head _)⟩ (fun h' ⟨n', e⟩ hs => h { s with heap := h' } n' ⟨rfl, rfl⟩ (S.upd hs e) hs) hsz
end

theorem c_make_old {w : World} {A : Around} {s : Shared} {bk : BkA} {B : List Node} {R : Result → Shared → Prop} {k i : Nat} {n : Node} {aa : Addr} {t1 t2 t3 : Tok}
    (G : Gnd w s.heap) (Bk : BankAt w s.heap bk B) (r : Rm A (k + 1)) (h0 : 0 < i) (hn : B[i]? = some n) (haa : IsTupleKey (iK pw w) s.heap n.args aa)
    (h : ∀ s' t, Same s s' → Up s.heap s'.heap → R (.ok (.ret (.int (i : Int) t))) s') :
    codeAny (model pw w) A (.call (.ref 243) ⟨[.ref bk.x, .str n.op t1, .ref aa, .int 0 t2, .int n.data t3], []⟩) R s := by
  refine' call0 (g := s.heap) (wl := []) (binds := [("self", .ref bk.x), ("op", .str n.op t1), ("args", .ref aa), ("sort", .int 0 t2), ("data", .int n.data t3)]) G (Up.refl _) (by simp) (by simp) r (by k_is) (by k_is)
    (by exact BindsTo.of_eq rfl) (by exact locs rfl) ?_ (by exact rfl) (by exact rfl) (by exact rfl) (by decide)
  intro A' L s₁ q r' S U₁ fr
  k_unmd
  walk_at "W"
  refine r_tuple (fun s₂ a q₂ fa Ua ea => ?_) (by exact (by decide : 4 ≤ sizeLine))
  have S₂ := S.add fa Ua ea
  refine r_st S₂ (fun s₃ q₃ S₃ hs₃ => ?_) (by exact rfl) (by exact rfl) (by exact rfl)
  have U₃ : Up s.heap s₃.heap := S₃.up
  clear S S₂
  obtain ⟨xs, hd, hx⟩ := (Bk.up U₃).nums
  have hka₃ : IsNode pw w s₃.heap n a := ⟨_, _, _, _, _, _, S₃.get (.head _), rfl, rfl, IsTupleKey.up haa U₃⟩
  obtain ⟨ka, kt, hkey⟩ := nums_key (w := w) hx (let ⟨_, _, _, _, _, _, _, _, z⟩ := hd; z) h0 hn
  walk_at "W"
  refine b_nums G S₃.up Bk.I ?_
  obtain ⟨od, _, _, hod, hcd, _⟩ := id hd
  refine m_dget hod hcd ?_
  walk_at "W"
  refine call_meetsIn PySem.F.slot_dict_get hd.typeIs PySem.F.entry_dict_get (PySem.F.args_dict_get_3 _ _ _) (meetsH_dict_get_default (nodeKind pw w) _ _ Bk.top _) ⟨?_, n, xs, hka₃, hd, ?_⟩
  · show A'.units + 1 + 5 < cLine; have := r'.units; have e : cLine = 9900 := rfl; omega
  rw [hkey]
  refine r_st (s := { s₃ with toks := _ }) S₃ (fun s₄ q₄ S₄ hs₄ => ?_) (by exact rfl) (by exact rfl) (by exact rfl)
  clear S₃
  walk_at "W"
  show wpAny _ _ (compareOp .Eq (.int (i : Int) kt) (.int 0 _)) _ _ _
  refine eq_int (wpAny_truthy_bool ?_)
  rw [if_neg (by simp; omega)]
  walk_at "W"
  exact h _ kt (by walk_at "Q") S₄.up

theorem len_list_any {w : World} {A : Around} {E : Value → Shared → Prop} {s : Shared} {l : Addr} {vs : Array Value} {Q : Value → Shared → Prop} (hl : s.heap.IsList l vs) (hf : vs.size < 2 ^ 60)
    (h : ∀ s' t, Same s s' → s'.heap = s.heap → Q (.int vs.size t) s') : wpAny (model pw w) A (call (.builtin "len") [.ref l]) Q E s :=
  len_list hl (by omega) (h _ _ ⟨rfl, rfl⟩ rfl)
section
variable {g h : Heap} {L : Addr} {m : Str → Option Value} {x1 x2 x3 x4 x5 x6 : Addr × Obj} {r : List (Addr × Obj)}
theorem Sd.front2 (S : Sd g L m (x1 :: x2 :: r) h) : Sd g L m (x2 :: x1 :: r) h := S.perm (.swap _ _ _)
theorem Sd.front3 (S : Sd g L m (x1 :: x2 :: x3 :: r) h) : Sd g L m (x3 :: x1 :: x2 :: r) h := S.perm ((List.Perm.cons _ (.swap _ _ _)).trans (.swap _ _ _))
theorem Sd.front4 (S : Sd g L m (x1 :: x2 :: x3 :: x4 :: r) h) : Sd g L m (x4 :: x1 :: x2 :: x3 :: r) h :=
  S.perm ((List.Perm.cons _ ((List.Perm.cons _ (.swap _ _ _)).trans (.swap _ _ _))).trans (.swap _ _ _))
theorem Sd.front5 (S : Sd g L m (x1 :: x2 :: x3 :: x4 :: x5 :: r) h) : Sd g L m (x5 :: x1 :: x2 :: x3 :: x4 :: r) h :=
  S.perm ((List.Perm.cons _ ((List.Perm.cons _ ((List.Perm.cons _ (.swap _ _ _)).trans (.swap _ _ _))).trans (.swap _ _ _))).trans (.swap _ _ _))
theorem Sd.front6 (S : Sd g L m (x1 :: x2 :: x3 :: x4 :: x5 :: x6 :: r) h) : Sd g L m (x6 :: x1 :: x2 :: x3 :: x4 :: x5 :: r) h :=
  S.perm ((List.Perm.cons _ ((List.Perm.cons _ ((List.Perm.cons _ ((List.Perm.cons _ (.swap _ _ _)).trans (.swap _ _ _))).trans (.swap _ _ _))).trans (.swap _ _ _))).trans (.swap _ _ _))
end

/-- all of h but the ledger's places -/
def gmax (h : Heap) (wl : List (Addr × Obj)) : Heap := hideAll h (wl.map (·.1))
theorem gmax_up (h : Heap) (wl : List (Addr × Obj)) : Up (gmax h wl) h := fun _ _ e => of_hideAll _ e
theorem gmax_none {h : Heap} {wl : List (Addr × Obj)} {p : Addr × Obj} (hp : p ∈ wl) : (gmax h wl).get? p.1 = none := hideAll_none _ (List.mem_map_of_mem hp)
theorem gmax_le {g h : Heap} {wl : List (Addr × Obj)} (U : Up g h) (hw : ∀ p ∈ wl, g.get? p.1 = none) : Up g (gmax h wl) := fun b o e => hideAll_get _ (U b o e) fun hm => by
  obtain ⟨p, hp, rfl⟩ := List.mem_map.mp hm
  rw [hw p hp] at e; cases e
theorem gmax_get {h : Heap} {wl : List (Addr × Obj)} {b : Addr} {o : Obj} (e : h.get? b = some o) (hb : b ∉ wl.map (·.1)) : (gmax h wl).get? b = some o := hideAll_get _ e hb
/-- what a ground of all but W keeps is Eff -/
theorem eff_of {h h' : Heap} {wl : List (Addr × Obj)} (U : Up (gmax h wl) h') (ha : ∀ p ∈ wl, ∃ o, h'.get? p.1 = some o) : Eff (wl.map (·.1)) h h' :=
  ⟨fun b o hb e => U b o (gmax_get e hb), fun b o e => by
    by_cases hb : b ∈ wl.map (·.1)
    · obtain ⟨p, hp, rfl⟩ := List.mem_map.mp hb; exact ha p hp
    · exact ⟨o, U b o (gmax_get e hb)⟩⟩

theorem eff_of' {h h' : Heap} {wl wl' : List (Addr × Obj)} (U : Up (gmax h wl) h') (hw : ∀ p ∈ wl', h'.get? p.1 = some p.2) (e : wl'.map (·.1) = wl.map (·.1)) : Eff (wl.map (·.1)) h h' := eff_of U fun p hp => by
  have : p.1 ∈ wl'.map (·.1) := e ▸ List.mem_map_of_mem hp
  obtain ⟨q, hq, e'⟩ := List.mem_map.mp this
  exact ⟨q.2, e' ▸ hw q hq⟩

theorem c_make_new {w : World} {A : Around} {s : Shared} {g : Heap} {bk : BkA} {B : List Node} {wl : List (Addr × Obj)} {R : Result → Shared → Prop} {k : Nat} {n : Node} {aa : Addr} {t1 t2 t3 : Tok}
    (G : Gnd w g) (U : Up g s.heap) (Bk : BankW w g bk B wl) (hw : ∀ p ∈ wl, s.heap.get? p.1 = some p.2 ∧ g.get? p.1 = none) (r : Rm A (k + 1)) (hn : ∀ i : Nat, 0 < i → B[i]? ≠ some n) (hsm : B.length < 1000)
    (haa : IsTupleKey (iK pw w) g n.args aa)
    (h : ∀ s' t g' wl', Same s s' → Grow g s.heap g' s'.heap → Eff (wl.map (·.1)) s.heap s'.heap → BankW w g' bk (B ++ [n]) wl' → wl'.map (·.1) = wl.map (·.1) → (∀ p ∈ wl', s'.heap.get? p.1 = some p.2) →
      R (.ok (.ret (.int (B.length : Int) t))) s') :
    codeAny (model pw w) A (.call (.ref 243) ⟨[.ref bk.x, .str n.op t1, .ref aa, .int 0 t2, .int n.data t3], []⟩) R s := by
  have Ug := gmax_le (wl := wl) U fun p hp => (hw p hp).2
  replace G := G.up Ug
  refine' call0 (g := gmax s.heap wl) (wl := wl) (binds := [("self", .ref bk.x), ("op", .str n.op t1), ("args", .ref aa), ("sort", .int 0 t2), ("data", .int n.data t3)]) G (gmax_up _ _) (fun p hp => ⟨(hw p hp).1, gmax_none hp⟩) Bk.nd r (by k_is) (by k_is)
    (by exact BindsTo.of_eq rfl) (by exact locs rfl) ?_ (by exact rfl) (by exact rfl) (by exact rfl) (by decide)
  intro A' L s₁ q r' S U₁ fr
  k_unmd
  walk_at "W"
  refine r_tuple (fun s₂ a q₂ fa Ua ea => ?_) (by exact (by decide : 4 ≤ sizeLine))
  have S₂ := S.add fa Ua ea
  refine r_st S₂ (fun s₃ q₃ S₃ hs₃ => ?_) (by exact rfl) (by exact rfl) (by exact rfl)
  clear S S₂
  have Bk₃ := Bk.up Ug
  have BA := Bk₃.at S₃.up (fun p hp => S₃.get (.tail _ hp))
  have hka₃ : IsNode pw w s₃.heap n a := ⟨_, _, _, _, _, _, S₃.get (.head _), rfl, rfl, IsTupleKey.up haa (Ug.trans S₃.up)⟩
  obtain ⟨vo, no, va, na, vs, ns, vd, nd, on, es, ep, xs, rfl, h1, h2, h3, h4, h5, h6, h7, h8, h9, h10⟩ := Bk.ex
  have hd : s₃.heap.DictOfH (nodeKind pw w) bk.nums xs := ⟨on, es, ep, S₃.get (by simp), h5, h6, h7, fun y hy => (h8 y hy).up (Ug.trans S₃.up), h9⟩
  have hkey := nums_none h10 hn
  walk_at "W"
  refine b_nums G S₃.up Bk₃.I ?_
  refine m_dget (S₃.get (by simp)) h5 ?_
  walk_at "W"
  refine call_meetsIn PySem.F.slot_dict_get hd.typeIs PySem.F.entry_dict_get (PySem.F.args_dict_get_3 _ _ _) (meetsH_dict_get_default (nodeKind pw w) _ _ Bk.top _) ⟨?_, n, xs, hka₃, hd, ?_⟩
  · show A'.units + 1 + 5 < cLine; have := r'.units; have e : cLine = 9900 := rfl; omega
  rw [hkey]
  refine r_st (s := { s₃ with toks := _ }) S₃ (fun s₄ q₄ S₄ hs₄ => ?_) (by exact rfl) (by exact rfl) (by exact rfl)
  clear S₃
  walk_at "W"
  show wpAny _ _ (compareOp .Eq (.int 0 _) (.int 0 _)) _ _ _
  refine eq_int (wpAny_truthy_bool ?_)
  rw [if_pos (by rfl)]
  walk_at "W"
  refine b_ops G S₄.up Bk₃.I ?_
  walk_at "W"
  refine len_list_any (lst_is (S₄.get (a := bk.ops) (o := lstO vo no) (by simp))) (by rw [h1.1]; omega) fun s₅ t₅ q₅ e₅ => ?_
  rw [← e₅] at S₄
  rw [h1.1]
  refine r_st S₄ (fun s₆ q₆ S₆ hs₆ => ?_) (by exact rfl) (by exact rfl) (by exact rfl)
  clear S₄
  walk_at "W"
  have z : sizeLine = 16777216 := rfl
  replace S₆ := S₆.front2
  refine b_ops G S₆.up Bk₃.I ?_
  refine m_append (S₆.get (.head _)) ?_
  walk_at "W"
  refine r_append S₆ (fun s₇ n₇ q₇ S₇ hs₇ => ?_) (by rw [h1.1, z]; omega)
  clear S₆
  walk_at "W"
  replace S₇ := S₇.front3
  refine b_args G S₇.up Bk₃.I ?_
  refine m_append (S₇.get (.head _)) ?_
  walk_at "W"
  refine r_append S₇ (fun s₈ n₈ q₈ S₈ hs₈ => ?_) (by rw [h2.1, z]; omega)
  clear S₇
  walk_at "W"
  replace S₈ := S₈.front4
  refine b_sorts G S₈.up Bk₃.I ?_
  refine m_append (S₈.get (.head _)) ?_
  walk_at "W"
  refine r_append S₈ (fun s₉ n₉ q₉ S₉ hs₉ => ?_) (by rw [h3.1, z]; omega)
  clear S₈
  walk_at "W"
  replace S₉ := S₉.front5
  refine b_datas G S₉.up Bk₃.I ?_
  refine m_append (S₉.get (.head _)) ?_
  walk_at "W"
  refine r_append S₉ (fun s₁₀ n₁₀ q₁₀ S₁₀ hs₁₀ => ?_) (by rw [h4, z]; omega)
  clear S₉
  walk_at "W"
  replace S₁₀ := S₁₀.front6
  refine b_nums G S₁₀.up Bk₃.I ?_
  walk_at "W"
  have hd' : s₁₀.heap.DictOfH (nodeKind pw w) bk.nums xs := ⟨on, es, ep, S₁₀.get (.head _), h5, h6, h7, fun y hy => (h8 y hy).up (Ug.trans S₁₀.up), h9⟩
  have hka' : IsNode pw w s₁₀.heap n a := ⟨_, _, _, _, _, _, S₁₀.get (a := a) (o := tupO #[.str n.op t1, .ref aa, .int 0 t2, .int n.data t3] 0) (by simp), rfl, rfl, IsTupleKey.up haa (Ug.trans S₁₀.up)⟩
  refine wpAny_setItem_heap (knd := nodeKind pw w) (k := n) (xs := xs) ?_ hka' hd' (fun h' hm' hs' => ?_) (by have := h10.1; rw [z]; omega)
  · show A'.units + 1 + 5 < cLine; have := r'.units; have e : cLine = 9900 := rfl; omega
  obtain ⟨on', es', ep', ho', hc', he1, he2, he3, he4⟩ := hm'
  have S₁₁ := S₁₀.upd hs' ho'
  have fa' : s.heap.get? a = none := by
    cases e : s.heap.get? a with
    | none => rfl
    | some o => rw [U₁ _ _ e] at fa; cases fa
  walk_at "W"
  have Gr : Grow g s.heap (grd g s.heap h' []) h' := grow_grd (Ug.trans S₁₁.up)
  have hkg : IsNode pw w (grd g s.heap h' []) n a :=
    ⟨_, _, _, _, _, _, grd_get (S₁₁.get (a := a) (o := tupO #[.str n.op t1, .ref aa, .int 0 t2, .int n.data t3] 0) (by simp)) (.inr ⟨fa', by simp⟩), rfl, rfl, IsTupleKey.up haa Gr.le⟩
  rw [storedH_new hkey] at he2 he4
  obtain ⟨wl', ew⟩ : ∃ wl', wl' = [(bk.ops, lstO (vo.push (.str n.op t1)) n₇), (bk.args, lstO (va.push (.ref aa)) n₈), (bk.sorts, lstO (vs.push (.int 0 t2)) n₉), (bk.datas, lstO (vd.push (.int n.data t3)) n₁₀), (bk.nums, on')] := ⟨_, rfl⟩
  have hall : ∀ p ∈ wl', h'.get? p.1 = some p.2 := by
    intro p hp
    simp only [ew, List.mem_cons, List.not_mem_nil, or_false] at hp
    rcases hp with rfl | rfl | rfl | rfl | rfl <;> exact S₁₁.get (by simp)
  have hmap : wl'.map (·.1) = [(bk.ops, lstO vo no), (bk.args, lstO va na), (bk.sorts, lstO vs ns), (bk.datas, lstO vd nd), (bk.nums, on)].map (·.1) := by rw [ew]; rfl
  refine h { s₁₀ with heap := h', toks := _ } _ (grd g s.heap h' []) wl' (by walk_at "Q") Gr (eff_of' S₁₁.up hall hmap) ?_ hmap hall
  refine ⟨Bk.I.up Gr.le, ⟨_, _, _, _, _, _, _, _, _, _, _, _, ew, h1.push n t1, (h2.up Gr.le).push n (IsTupleKey.up haa Gr.le), h3.push n t2, by simp [h4], hc', he1, he2, ?_, he4, h10.push n a _⟩, hmap ▸ Bk.nd, Bk.top, by simp; omega⟩
  intro x hx
  rcases List.mem_append.mp hx with hx | hx
  · exact (h8 x hx).up Gr.le
  · rw [List.mem_singleton.mp hx]; exact hkg
/-- of h: the places where P holds -/
def sel (h : Heap) (P : Addr → Bool) : Heap := hideAll h ((List.range h.objs.size).filter fun b => !P b)
theorem sel_get {h : Heap} {P : Addr → Bool} {b : Addr} {o : Obj} (e : h.get? b = some o) (hb : P b = true) : (sel h P).get? b = some o := by
  refine hideAll_get _ e fun hm => ?_
  have := (List.mem_filter.mp hm).2
  rw [hb] at this; cases this
theorem sel_of {h : Heap} {P : Addr → Bool} {b : Addr} {o : Obj} (e : (sel h P).get? b = some o) : h.get? b = some o ∧ P b = true := by
  have e1 : h.get? b = some o := of_hideAll _ e
  refine ⟨e1, ?_⟩
  cases q : P b with
  | true => rfl
  | false =>
    have := hideAll_none ((List.range h.objs.size).filter fun b => !P b) (h := h) (List.mem_filter.mpr ⟨List.mem_range.mpr (Heap.lt_size e1), by rw [q]; rfl⟩)
    unfold sel at e
    rw [this] at e; cases e

/-- an entry goes over to the ground -/
theorem Sd.root {g h : Heap} {L a : Addr} {o : Obj} {m : Str → Option Value} {news : List (Addr × Obj)} (S : Sd g L m ((a, o) :: news) h) :
    ∃ g', Up g g' ∧ g'.get? a = some o ∧ Sd g' L m news h ∧ (∀ b x, g'.get? b = some x → b = a ∨ ∃ x', g.get? b = some x') := by
  have ha := S.nw (a, o) (.head _)
  have nd := S.nd
  rw [List.map_cons, List.nodup_cons] at nd
  refine ⟨sel h fun b => (g.get? b).isSome || b == a, fun b x e => sel_get (S.up b x e) (by rw [e]; rfl), sel_get ha.1 (by simp), ⟨S.ns, fun b x e => (sel_of e).1, ?_, fun p hp => ⟨(S.nw p (.tail _ hp)).1, (S.nw p (.tail _ hp)).2.1, ?_⟩, nd.2⟩, fun b x e => ?_⟩
  · cases q : (sel h fun b => (g.get? b).isSome || b == a).get? L with
    | none => rfl
    | some x =>
      have := (sel_of q).2
      rw [S.off] at this
      simp at this
      exact absurd this.symm ha.2.1
  · cases q : (sel h fun b => (g.get? b).isSome || b == a).get? p.1 with
    | none => rfl
    | some x =>
      have := (sel_of q).2
      rw [(S.nw p (.tail _ hp)).2.2] at this
      simp at this
      exact absurd (List.mem_map.mpr ⟨p, hp, this⟩) nd.1
  · have := (sel_of e).2
    simp only [Bool.or_eq_true, beq_iff_eq] at this
    rcases this with q | q
    · exact .inr (Option.isSome_iff_exists.mp q)
    · exact .inl q

theorem Sd.root' {P : Prop} {g h : Heap} {L a : Addr} {o : Obj} {m : Str → Option Value} {news : List (Addr × Obj)} (S : Sd g L m ((a, o) :: news) h) (k : ∀ g', Up g g' → g'.get? a = some o → Sd g' L m news h → P) : P :=
  let ⟨g', U, e, S', _⟩ := S.root
  k g' U e S'
section
variable {w : World} {A : Around} {E : Value → Shared → Prop} {s : Shared} {env : Env} {g : Heap} {L : Addr} {m : Str → Option Value} {news : List (Addr × Obj)} {x : Str} {px : Pos} {body : List Stmt} {Q : Flow → Shared → Prop}

/-- a for, by what holds between its turns -/
theorem r_loop {I : Addr} {fp : List Addr} {n : Nat} {P : Nat → Value → Prop} {St : Nat → Heap → Prop} {oI : Obj} (W : Walks pw w A I fp [I] n P St) (hI : ∀ i h, St i h → ∃ o, h.get? I = some o) (hst : St 0 s.heap)
    (S : Sd g L m ((I, oI) :: news) s.heap) (hfp : ∀ b ∈ fp, b = I ∨ ∃ o, g.get? b = some o) (J : Nat → Heap → (Str → Option Value) → List (Addr × Obj) → Prop) (h0 : J 0 g m news)
    (hx : env.kindOf x = some .local) (hL : env.locals = L) (hp : (env.scope.kind == .class || (env.scope.kind == .module && env.locals != env.globals)) = false)
    (step : ∀ i v g₁ m₁ news₁ s₁ oI, i < n → P i v → J i g₁ m₁ news₁ → Up g g₁ → Same s s₁ → Sd g₁ L (fun y => if y = x then some v else m₁ y) ((I, oI) :: news₁) s₁.heap →
      wpAny (model pw w) A (execs body env) (fun fl s₂ => (fl = .next ∨ fl = .cont) ∧ ∃ g₂ m₂ news₂, Up g₁ g₂ ∧ Same s₁ s₂ ∧ Sd g₂ L m₂ ((I, oI) :: news₂) s₂.heap ∧ J (i + 1) g₂ m₂ news₂) (fun _ _ => False) s₁)
    (done : ∀ g₁ m₁ news₁ s₁, Same s s₁ → Up g g₁ → Sd g₁ L m₁ news₁ s₁.heap → J n g₁ m₁ news₁ → Q .next s₁) :
    codeAny (model pw w) A (.forLoop (.Name x px) (.ref I) body [] env) (fun r s' => match r with | .ok f => Q f s' | .error e => cameBackBy (model pw w) A env E e s') s := by
  subst hL
  refine codeAny_forLoop (fun k s' => ∃ i g₁ m₁ news₁ oI, i ≤ n ∧ k = n + 1 - i ∧ Same s s' ∧ Up g g₁ ∧ St i s'.heap ∧ Sd g₁ env.locals m₁ ((I, oI) :: news₁) s'.heap ∧ J i g₁ m₁ news₁) ?_ (n + 1) ⟨0, g, m, news, oI, Nat.zero_le _, rfl, Same.rfl', Up.refl _, hst, S, h0⟩
  rintro k s' ⟨i, g₁, m₁, news₁, oI₁, hi, rfl, q, U, hst', S', hJ⟩
  have hIn := S'.nw _ (.head _)
  by_cases hlt : i < n
  · refine W.item i _ _ _ hlt hst' fun v h₁ tk₁ hPv hst₁ hk₁ => ?_
    obtain ⟨oI₂, hoI₂⟩ := hI _ _ hst₁
    have hs₁ : Heap.ExtBut I s'.heap h₁ := fun b o hb e => hk₁ b o (by simpa using hb) e
    have nd := S'.nd
    rw [List.map_cons, List.nodup_cons] at nd
    have S₁ : Sd g₁ env.locals m₁ ((I, oI₂) :: news₁) h₁ := by
      refine ⟨S'.ns.extBut hs₁ (Ne.symm hIn.2.1), fun b o e => hs₁ b o (fun z => by rw [z, hIn.2.2] at e; cases e) (S'.up b o e), S'.off, fun p hp => ?_, S'.nd⟩
      rcases List.mem_cons.mp hp with rfl | hp
      · exact ⟨hoI₂, hIn.2⟩
      · exact ⟨hs₁ p.1 p.2 (fun z => nd.1 (List.mem_map.mpr ⟨p, hp, z⟩)) (S'.nw p (.tail _ hp)).1, (S'.nw p (.tail _ hp)).2⟩
    refine wpAny_assign_Name (r_st (s := { s' with heap := h₁, toks := tk₁ }) S₁ (fun s₂ q₂ S₂ hs₂ => ?_) hx rfl hp)
    refine wpAny_mono (step i v g₁ m₁ news₁ s₂ oI₂ hlt hPv hJ U (by walk_at "Q") S₂) (fun fl s₃ h₃ => ?_) fun _ _ e => e.elim
    obtain ⟨hfl, g₂, m₂, news₂, U₂, q₃, S₃, hJ₃⟩ := h₃
    have hI₃ : St (i + 1) s₃.heap := by
      refine W.frame _ _ _ (W.frame _ h₁ s₂.heap hst₁ fun b hb o e => ?_) fun b hb o e => ?_
      · refine (hs₂.2 b fun z => ?_).trans e
        rcases hfp b hb with rfl | ⟨o', e'⟩
        · exact hIn.2.1 z
        · have := U _ _ e'; rw [z, S'.off] at this; cases this
      · rcases hfp b hb with rfl | ⟨o', e'⟩
        · rw [S₂.get (.head _)] at e
          cases e
          exact S₃.get (.head _)
        · have e1 := S₂.up _ _ (U _ _ e')
          rw [e] at e1
          cases e1
          exact S₃.up _ _ (U₂ _ _ (U _ _ e'))
    have fin : ∃ k', k' < n + 1 - i ∧ ∃ i' g₁ m₁ news₁ oI, i' ≤ n ∧ k' = n + 1 - i' ∧ Same s s₃ ∧ Up g g₁ ∧ St i' s₃.heap ∧ Sd g₁ env.locals m₁ ((I, oI) :: news₁) s₃.heap ∧ J i' g₁ m₁ news₁ :=
      ⟨n + 1 - (i + 1), by omega, i + 1, g₂, m₂, news₂, oI₂, hlt, rfl, by walk_at "Q", U.trans U₂, hI₃, S₃, hJ₃⟩
    rcases hfl with rfl | rfl
    · exact fin
    · exact fin
  · have hin : i = n := by omega
    subst hin
    refine W.done _ _ _ hst' fun h₁ tk₁ hk₁ => wpAny_execs_nil ?_
    have hs₁ : Heap.ExtBut I s'.heap h₁ := fun b o hb e => hk₁ b o (by simpa using hb) e
    have nd := S'.nd
    rw [List.map_cons, List.nodup_cons] at nd
    refine done g₁ m₁ news₁ { s' with heap := h₁, toks := tk₁ } (by walk_at "Q") U ⟨S'.ns.extBut hs₁ (Ne.symm hIn.2.1), fun b o e => hs₁ b o (fun z => by rw [z, hIn.2.2] at e; cases e) (S'.up b o e), S'.off, fun p hp => ?_, nd.2⟩ hJ
    exact ⟨hs₁ p.1 p.2 (fun z => nd.1 (List.mem_map.mpr ⟨p, hp, z⟩)) (S'.nw p (.tail _ hp)).1, (S'.nw p (.tail _ hp)).2⟩

theorem r_for_list {l : Addr} {vs : Array Value} (hh : A.handled = none) (S : Sd g L m news s.heap) (hl : g.IsList l vs) (J : Nat → Heap → (Str → Option Value) → List (Addr × Obj) → Prop) (h0 : J 0 g m news)
    (hx : env.kindOf x = some .local) (hL : env.locals = L) (hp : (env.scope.kind == .class || (env.scope.kind == .module && env.locals != env.globals)) = false)
    (step : ∀ I i v g₁ m₁ news₁ s₁ oI, i < vs.size → vs[i]? = some v → J i g₁ m₁ news₁ → Up g g₁ → Same s s₁ → Sd g₁ L (fun y => if y = x then some v else m₁ y) ((I, oI) :: news₁) s₁.heap →
      wpAny (model pw w) A (execs body env) (fun fl s₂ => (fl = .next ∨ fl = .cont) ∧ ∃ g₂ m₂ news₂, Up g₁ g₂ ∧ Same s₁ s₂ ∧ Sd g₂ L m₂ ((I, oI) :: news₂) s₂.heap ∧ J (i + 1) g₂ m₂ news₂) (fun _ _ => False) s₁)
    (done : ∀ g₁ m₁ news₁ s₁, Same s s₁ → Up g g₁ → Sd g₁ L m₁ news₁ s₁.heap → J vs.size g₁ m₁ news₁ → Q .next s₁) :
    wpAny (model pw w) A (pyIter (.ref l)) (fun it s₂ => codeAny (model pw w) A (.forLoop (.Name x px) it body [] env) (fun r s' => match r with | .ok f => Q f s' | .error e => cameBackBy (model pw w) A env E e s') s₂) E s := by
  have hls : s.heap.IsList l vs := hl.at fun o e => S.up _ _ e
  obtain ⟨ol, hol, _⟩ := id hl
  have hne : l ≠ s.heap.objs.size := Nat.ne_of_lt (Heap.lt_size (S.up _ _ hol))
  refine wpAny_pyIter_list hls ?_
  refine r_loop (s := { s with heap := _ }) (Walks.list hh _ l hne vs) (fun i h st => let ⟨o, e, _⟩ := st.1; ⟨o, e⟩) ⟨⟨_, Heap.get?_push_size _ rfl, rfl, rfl⟩, hls.push _⟩ (S.push _ rfl) (fun b hb => ?_) J h0 hx hL hp
    (fun i v g₁ m₁ news₁ s₁ oI a b c d q f => step _ i v g₁ m₁ news₁ s₁ oI a b c d ⟨q.1, q.2⟩ f) fun g₁ m₁ news₁ s₁ q b c d => done g₁ m₁ news₁ s₁ ⟨q.1, q.2⟩ b c d
  simp only [List.mem_cons, List.not_mem_nil, or_false] at hb
  rcases hb with rfl | rfl
  · exact .inl rfl
  · exact .inr ⟨ol, hol⟩
theorem r_for_tuple {l : Addr} {vs : Array Value} (hh : A.handled = none) (S : Sd g L m news s.heap) (hl : g.IsTuple l vs) (J : Nat → Heap → (Str → Option Value) → List (Addr × Obj) → Prop) (h0 : J 0 g m news)
    (hx : env.kindOf x = some .local) (hL : env.locals = L) (hp : (env.scope.kind == .class || (env.scope.kind == .module && env.locals != env.globals)) = false)
    (step : ∀ I i v g₁ m₁ news₁ s₁ oI, i < vs.size → vs[i]? = some v → J i g₁ m₁ news₁ → Up g g₁ → Same s s₁ → Sd g₁ L (fun y => if y = x then some v else m₁ y) ((I, oI) :: news₁) s₁.heap →
      wpAny (model pw w) A (execs body env) (fun fl s₂ => (fl = .next ∨ fl = .cont) ∧ ∃ g₂ m₂ news₂, Up g₁ g₂ ∧ Same s₁ s₂ ∧ Sd g₂ L m₂ ((I, oI) :: news₂) s₂.heap ∧ J (i + 1) g₂ m₂ news₂) (fun _ _ => False) s₁)
    (done : ∀ g₁ m₁ news₁ s₁, Same s s₁ → Up g g₁ → Sd g₁ L m₁ news₁ s₁.heap → J vs.size g₁ m₁ news₁ → Q .next s₁) :
    wpAny (model pw w) A (pyIter (.ref l)) (fun it s₂ => codeAny (model pw w) A (.forLoop (.Name x px) it body [] env) (fun r s' => match r with | .ok f => Q f s' | .error e => cameBackBy (model pw w) A env E e s') s₂) E s := by
  have hls : s.heap.IsTuple l vs := hl.at fun o e => S.up _ _ e
  obtain ⟨ol, hol, _⟩ := id hl
  have hne : l ≠ s.heap.objs.size := Nat.ne_of_lt (Heap.lt_size (S.up _ _ hol))
  refine wpAny_pyIter_tuple hls ?_
  refine r_loop (s := { s with heap := _ }) (Walks.tuple hh _ l hne vs) (fun i h st => let ⟨o, e, _⟩ := st.1; ⟨o, e⟩) ⟨⟨_, Heap.get?_push_size _ rfl, rfl, rfl⟩, hls.at fun o e => Heap.get?_push_of_some _ e⟩ (S.push _ rfl) (fun b hb => ?_) J h0 hx hL hp
    (fun i v g₁ m₁ news₁ s₁ oI a b c d q f => step _ i v g₁ m₁ news₁ s₁ oI a b c d ⟨q.1, q.2⟩ f) fun g₁ m₁ news₁ s₁ q b c d => done g₁ m₁ news₁ s₁ ⟨q.1, q.2⟩ b c d
  simp only [List.mem_cons, List.not_mem_nil, or_false] at hb
  rcases hb with rfl | rfl
  · exact .inl rfl
  · exact .inr ⟨ol, hol⟩
end
/-- a list of ints -/
def IntL (h : Heap) (l : Addr) (xs : List Int) : Prop := ∃ vs, h.IsList l vs.toArray ∧ IntsAre vs xs
theorem IntL.up {h h' : Heap} {l : Addr} {xs : List Int} (x : IntL h l xs) (U : Up h h') : IntL h' l xs := let ⟨vs, a, b⟩ := x; ⟨vs, a.at fun o e => U _ _ e, b⟩

section
variable {w : World} {A : Around} {s : Shared} {bk : BkA} {B : List Node} {R : Result → Shared → Prop} {k : Nat}
theorem c_opB {t : Int} {u : Tok} {n : Node} (G : Gnd w s.heap) (Bk : BankAt w s.heap bk B) (r : Rm A (k + 1)) (h0 : 0 ≤ t) (hn : B[t.toNat]? = some n)
    (h : ∀ s' t', Same s s' → Up s.heap s'.heap → R (.ok (.ret (.str n.op t'))) s') : codeAny (model pw w) A (.call (.ref 201) ⟨[.ref bk.x, .int t u], []⟩) R s := by
  obtain ⟨vs, hl, ho⟩ := Bk.ops
  obtain ⟨t', ht⟩ := ho.2 _ _ hn
  have := (List.getElem?_eq_some_iff.mp hn).1
  have := Bk.small
  exact c_op G (Up.refl _) Bk.I r hl h0 (by omega) ht fun s' => h s' t'
theorem c_args {t : Int} {u : Tok} {n : Node} (G : Gnd w s.heap) (Bk : BankAt w s.heap bk B) (r : Rm A (k + 1)) (h0 : 0 ≤ t) (hn : B[t.toNat]? = some n)
    (h : ∀ s' a, Same s s' → Up s.heap s'.heap → IsTupleKey (iK pw w) s.heap n.args a → R (.ok (.ret (.ref a))) s') : codeAny (model pw w) A (.call (.ref 208) ⟨[.ref bk.x, .int t u], []⟩) R s := by
  obtain ⟨vs, hl, ho⟩ := Bk.args
  obtain ⟨a, ht, hk⟩ := ho.2 _ _ hn
  have := (List.getElem?_eq_some_iff.mp hn).1
  have := Bk.small
  refine' call0 (g := s.heap) (wl := []) (binds := [("self", .ref bk.x), ("t", .int t u)]) G (Up.refl _) (by simp) (by simp) r (by k_is) (by k_is) (by exact BindsTo.of_eq rfl) (by exact locs rfl) ?_ (by exact rfl) (by exact rfl) (by exact rfl) (by decide)
  intro A' L s₁ q r' S U₁ fr
  k_unmd
  walk_at "W"
  refine b_args G S.up Bk.I ?_
  walk_at "W"
  exact item_list (hl.at fun o e => U₁ _ _ e) h0 (by omega) ht (h { s₁ with toks := s₁.toks + 1 } a ⟨q.1, q.2⟩ U₁ hk) (by with_unfolding_all rfl)
theorem c_want {t : Int} {u u' : Tok} {n : Node} {wv : Value} (G : Gnd w s.heap) (Bk : BankAt w s.heap bk B) (r : Rm A (k + 1)) (h0 : 0 ≤ t) (hn : B[t.toNat]? = some n)
    (h : ∀ s', Same s s' → Up s.heap s'.heap → R (.ok (.ret .none)) s') : codeAny (model pw w) A (.call (.ref 264) ⟨[.ref bk.x, .int t u, .int 0 u', wv], []⟩) R s := by
  obtain ⟨vs, hl, ho⟩ := Bk.sorts
  obtain ⟨t', ht⟩ := ho.2 _ _ hn
  have := (List.getElem?_eq_some_iff.mp hn).1
  have := Bk.small
  refine' call0 (g := s.heap) (wl := []) (binds := [("self", .ref bk.x), ("t", .int t u), ("s", .int 0 u'), ("where", wv)]) G (Up.refl _) (by simp) (by simp) r (by k_is) (by k_is) (by exact BindsTo.of_eq rfl) (by exact locs rfl) ?_ (by exact rfl) (by exact rfl) (by exact rfl) (by decide)
  intro A' L s₁ q r' S U₁ fr
  k_unmd
  walk_at "W"
  refine b_sorts G S.up Bk.I ?_
  walk_at "W"
  refine item_list (hl.at fun o e => U₁ _ _ e) h0 (by omega) ht ?_ (by with_unfolding_all rfl)
  walk_at "W"
  rw [if_neg (by simp)]
  walk_at "W"
  exact h _ (by walk_at "Q") U₁
theorem c_yes (G : Gnd w s.heap) (I : BankI s.heap bk) (hr : bk.ready = true) (r : Rm A (k + 1)) (h : ∀ s' t', Same s s' → Up s.heap s'.heap → R (.ok (.ret (.int 1 t'))) s') : codeAny (model pw w) A (.call (.ref 278) ⟨[.ref bk.x], []⟩) R s := by
  refine' call0 (g := s.heap) (wl := []) (binds := [("self", .ref bk.x)]) G (Up.refl _) (by simp) (by simp) r (by k_is) (by k_is) (by exact BindsTo.of_eq rfl) (by exact locs rfl) ?_ (by exact rfl) (by exact rfl) (by exact rfl) (by decide)
  intro A' L s₁ q r' S U₁ fr
  k_unmd
  walk_at "W"
  exact b_yes G S.up I hr fun t => h { s₁ with toks := s₁.toks + 1 } t ⟨q.1, q.2⟩ U₁
theorem c_no (G : Gnd w s.heap) (I : BankI s.heap bk) (hr : bk.ready = true) (r : Rm A (k + 1)) (h : ∀ s' t', Same s s' → Up s.heap s'.heap → R (.ok (.ret (.int 2 t'))) s') : codeAny (model pw w) A (.call (.ref 285) ⟨[.ref bk.x], []⟩) R s := by
  refine' call0 (g := s.heap) (wl := []) (binds := [("self", .ref bk.x)]) G (Up.refl _) (by simp) (by simp) r (by k_is) (by k_is) (by exact BindsTo.of_eq rfl) (by exact locs rfl) ?_ (by exact rfl) (by exact rfl) (by exact rfl) (by decide)
  intro A' L s₁ q r' S U₁ fr
  k_unmd
  walk_at "W"
  exact b_no G S.up I hr fun t => h { s₁ with toks := s₁.toks + 1 } t ⟨q.1, q.2⟩ U₁
theorem c_want_all {l : Addr} {xs : List Int} {u' : Tok} {wv : Value} (G : Gnd w s.heap) (Bk : BankAt w s.heap bk B) (r : Rm A (k + 2)) (hl : IntL s.heap l xs) (hx : ∀ x ∈ xs, 0 ≤ x ∧ x.toNat < B.length)
    (h : ∀ s', Same s s' → Up s.heap s'.heap → R (.ok (.ret .none)) s') : codeAny (model pw w) A (.call (.ref 271) ⟨[.ref bk.x, .ref l, .int 0 u', wv], []⟩) R s := by
  obtain ⟨vs, hl, hi⟩ := hl
  refine' call0 (g := s.heap) (wl := []) (binds := [("self", .ref bk.x), ("some", .ref l), ("s", .int 0 u'), ("where", wv)]) G (Up.refl _) (by simp) (by simp) r (by k_is) (by k_is) (by exact BindsTo.of_eq rfl) (by exact locs rfl) ?_ (by exact rfl) (by exact rfl) (by exact rfl) (by decide)
  intro A' L s₁ q r' S U₁ fr
  k_unmd
  walk_at "S"
  refine wpAny_For ?_ (by intro _; rfl)
  walk_at "L"
  refine r_for_list r'.handled S hl (fun _ _ m news => news = [] ∧ m "self" = some (.ref bk.x) ∧ m "s" = some (.int 0 u') ∧ m "where" = some wv) ⟨rfl, rfl, rfl, rfl⟩ rfl rfl rfl ?_ ?_
  · rintro I i v g₁ m₁ news₁ s₂ oI hlt hv ⟨rfl, e1, e2, e3⟩ U₂ q₂ S₂
    have hlt' : i < xs.length := by have := hi.length; simp at hlt; omega
    obtain ⟨t, ht⟩ := hi.get i xs[i] (by simp [hlt'])
    have hv' : v = .int xs[i] t := by simp at hv; rw [hv] at ht; exact Option.some.inj ht
    subst hv'
    have G₁ := G.up U₂
    have hb := hx xs[i] (by simp)
    walk_at "W"
    refine b_meth (f := 264) G₁ S₂.up (Bk.I.up U₂) (by decide) (by k_is) (by k_is) (by k_is) ?_
    clear G
    walk_at "C"
    refine c_want (G₁.up S₂.up) (Bk.up (U₂.trans S₂.up)) r' hb.1 (List.getElem?_eq_getElem hb.2) fun s₃ q₃ U₃ => ?_
    dsimp only
    walk_at "W"
    exact ⟨.inl rfl, g₁, _, [], Up.refl _, by walk_at "Q", S₂.grown U₃, rfl, e1, e2, e3⟩
  · rintro g₁ m₁ news₁ s₂ q₂ U₂ S₂ -
    dsimp only
    walk_at "W"
    exact h _ (by walk_at "Q") (U₂.trans S₂.up)
end
theorem key_one {w : World} {h : Heap} {aa : Addr} {a : Int} (x : IsTupleKey (iK pw w) h [a] aa) : ∃ t, IsTup h aa #[.int a t] := by
  obtain ⟨o, items, n, ho, hc, hd, hi⟩ := x
  obtain ⟨l⟩ := items
  cases hi with
  | cons h1 h2 =>
    cases h2
    rename_i v
    have h1' : Value.isInt a v = true := h1
    cases v <;> simp [Value.isInt] at h1'
    subst h1'
    exact ⟨_, o, ho, hc, n, hd⟩
theorem key_of1 {w : World} {h : Heap} {aa : Addr} {a : Int} {t : Tok} {n : Nat} (e : h.get? aa = some (tupO #[.int a t] n)) : IsTupleKey (iK pw w) h [a] aa :=
  ⟨_, _, _, e, rfl, rfl, .cons (by simp [intKind, Value.isInt]) .nil⟩

section
variable {w : World} {A : Around} {s : Shared} {bk : BkA} {B : List Node} {R : Result → Shared → Prop} {k : Nat}
theorem c_not_neg {t a : Int} {u : Tok} {n : Node} (G : Gnd w s.heap) (Bk : BankAt w s.heap bk B) (r : Rm A (k + 2)) (h0 : 0 ≤ t) (hn : B[t.toNat]? = some n) (ho : n.op = "not") (ha : n.args = [a])
    (h : ∀ s' t', Same s s' → Up s.heap s'.heap → R (.ok (.ret (.int a t'))) s') : codeAny (model pw w) A (.call (.ref 327) ⟨[.ref bk.x, .int t u], []⟩) R s := by
  obtain ⟨vs, hl, hops⟩ := Bk.ops
  obtain ⟨t', ht⟩ := hops.2 _ _ hn
  obtain ⟨va, hla, hargs⟩ := Bk.args
  obtain ⟨aa, hta, hk⟩ := hargs.2 _ _ hn
  rw [ha] at hk
  have := (List.getElem?_eq_some_iff.mp hn).1
  have := Bk.small
  refine' call0 (g := s.heap) (wl := []) (binds := [("self", .ref bk.x), ("t", .int t u)]) G (Up.refl _) (by simp) (by simp) r (by k_is) (by k_is) (by exact BindsTo.of_eq rfl) (by exact locs rfl) ?_ (by exact rfl) (by exact rfl) (by exact rfl) (by decide)
  intro A' L s₁ q r' S U₁ fr
  k_unmd
  walk_at "W"
  refine b_meth (f := 264) G S.up Bk.I (by decide) (by k_is) (by k_is) (by k_is) ?_
  walk_at "C"
  refine c_want (G.up S.up) (Bk.up S.up) r' h0 hn fun s₂ q₂ U₂ => ?_
  replace S := S.grown U₂
  dsimp only
  walk_at "W"
  refine b_ops G S.up Bk.I ?_
  walk_at "W"
  refine item_list (hl.at fun o e => S.up _ _ e) h0 (by omega) ht ?_ (by with_unfolding_all rfl)
  walk_at "W"
  rw [ho, if_pos (by exact beq_self_eq_true _)]
  walk_at "W"
  refine b_args G S.up Bk.I ?_
  walk_at "W"
  refine item_list (hla.at fun o e => S.up _ _ e) h0 (by omega) hta ?_ (by with_unfolding_all rfl)
  walk_at "W"
  obtain ⟨t'', hk'⟩ := key_one (IsTupleKey.up hk S.up)
  refine item_tupleT hk' (by decide) (by decide) (j := 0) (by simp [seqIndex?]) (by rfl) ?_ (by with_unfolding_all rfl)
  exact h _ t'' (by walk_at "Q") S.up
theorem c_not_old {t : Int} {u : Tok} {n : Node} {i : Nat} (G : Gnd w s.heap) (Bk : BankAt w s.heap bk B) (hr : bk.ready = true) (r : Rm A (k + 2)) (h0 : 3 ≤ t) (hn : B[t.toNat]? = some n) (ho : n.op ≠ "not") (hi : B[i]? = some ⟨"not", [t], 0⟩) (hi0 : 0 < i)
    (h : ∀ s' t', Same s s' → Up s.heap s'.heap → R (.ok (.ret (.int i t'))) s') : codeAny (model pw w) A (.call (.ref 327) ⟨[.ref bk.x, .int t u], []⟩) R s := by
  obtain ⟨vs, hl, hops⟩ := Bk.ops
  obtain ⟨t', ht⟩ := hops.2 _ _ hn
  have := (List.getElem?_eq_some_iff.mp hn).1
  have := Bk.small
  refine' call0 (g := s.heap) (wl := []) (binds := [("self", .ref bk.x), ("t", .int t u)]) G (Up.refl _) (by simp) (by simp) r (by k_is) (by k_is) (by exact BindsTo.of_eq rfl) (by exact locs rfl) ?_ (by exact rfl) (by exact rfl) (by exact rfl) (by decide)
  intro A' L s₁ q r' S U₁ fr
  k_unmd
  walk_at "W"
  refine b_meth (f := 264) G S.up Bk.I (by decide) (by k_is) (by k_is) (by k_is) ?_
  walk_at "C"
  refine c_want (G.up S.up) (Bk.up S.up) r' (by omega) hn fun s₂ q₂ U₂ => ?_
  replace S := S.grown U₂
  dsimp only
  walk_at "W"
  refine b_ops G S.up Bk.I ?_
  walk_at "W"
  refine item_list (hl.at fun o e => S.up _ _ e) (by omega) (by omega) ht ?_ (by with_unfolding_all rfl)
  walk_at "W"
  rw [if_neg (by simpa using ho)]
  walk_at "W"
  refine b_yes G S.up Bk.I hr fun ty => ?_
  walk_at "W"
  rw [if_neg (by simp; omega)]
  walk_at "W"
  refine b_no G S.up Bk.I hr fun tn => ?_
  walk_at "W"
  rw [if_neg (by simp; omega)]
  walk_at "W"
  refine b_meth (f := 243) G S.up Bk.I (by decide) (by k_is) (by k_is) (by k_is) ?_
  refine callWith_K (Gnd.K G) (by k_is) ?_ (by exact rfl) (by exact rfl)
  walk_at "W"
  refine r_tuple (fun s₃ a q₃ fa Ua ea => ?_) (by exact (by decide : 1 ≤ sizeLine))
  replace S := S.grown Ua
  walk_at "W"
  refine ⟨Frag.In.keeps G.K S.up, wpAny_call ?_⟩
  exact c_make_old (n := ⟨"not", [t], 0⟩) (G.up S.up) (Bk.up S.up) r' hi0 hi (key_of1 ea) fun s₄ t₄ q₄ U₄ => h s₄ t₄ (by walk_at "Q") (S.up.trans U₄)
end
theorem ints_key {w : World} {h : Heap} {aa : Addr} {vs : List Value} {xs : List Int} {n : Nat} (e : h.get? aa = some (tupO vs.toArray n)) (hi : IntsAre vs xs) : IsTupleKey (iK pw w) h xs aa := by
  refine ⟨_, _, _, e, rfl, rfl, ?_⟩
  show ItemsAre (iK pw w) xs vs
  clear e
  induction hi with
  | nil => exact .nil
  | cons m t _ ih => exact .cons (by simp [intKind, Value.isInt]) ih

theorem grd_none {g h₀ h : Heap} {X : List Addr} {b : Addr} {o : Obj} (e : h₀.get? b = some o) (e' : g.get? b = none) : (grd g h₀ h X).get? b = none := by
  cases q : (grd g h₀ h X).get? b with
  | none => rfl
  | some x =>
    rcases (grd_of q).2 with ⟨o', z⟩ | ⟨z, _⟩
    · rw [e'] at z; cases z
    · rw [e] at z; cases z

/-- what or_of (and_of) of the numbers xs is, where it stands -/
def Joins (B : List Node) (isOr : Bool) (xs : List Int) (r : Int) : Prop :=
  (xs = [] ∧ r = if isOr then 2 else 1) ∨ (∃ x, xs = [x] ∧ r = x) ∨ (2 ≤ xs.length ∧ ∃ i : Nat, 0 < i ∧ B[i]? = some ⟨if isOr then "or" else "and", xs, 0⟩ ∧ r = i)

theorem c_or_old {w : World} {A : Around} {s : Shared} {bk : BkA} {B : List Node} {R : Result → Shared → Prop} {k : Nat} {l : Addr} {xs : List Int} {rv : Int} (G : Gnd w s.heap) (Bk : BankAt w s.heap bk B) (hr : bk.ready = true) (r : Rm A (k + 3)) (hl : IntL s.heap l xs)
    (hx : ∀ x ∈ xs, 0 ≤ x ∧ x.toNat < B.length) (hlen : xs.length ≤ 1000) (hj : Joins B true xs rv) (h : ∀ s' t, Same s s' → Up s.heap s'.heap → R (.ok (.ret (.int rv t))) s') :
    codeAny (model pw w) A (.call (.ref 341) ⟨[.ref bk.x, .ref l], []⟩) R s := by
  obtain ⟨vs, hlv, hi⟩ := id hl
  have hlen' := hi.length
  have z : sizeLine = 16777216 := rfl
  refine' call0 (g := s.heap) (wl := []) (binds := [("self", .ref bk.x), ("some", .ref l)]) G (Up.refl _) (by simp) (by simp) r (by k_is) (by k_is) (by exact BindsTo.of_eq rfl) (by exact locs rfl) ?_ (by exact rfl) (by exact rfl) (by exact rfl) (by decide)
  intro A' L s₁ q r' S U₁ fr
  k_unmd
  walk_at "W"
  refine b_meth (f := 271) G S.up Bk.I (by decide) (by k_is) (by k_is) (by k_is) ?_
  walk_at "C"
  refine c_want_all (k := k) (G.up S.up) (Bk.up S.up) r' (hl.up S.up) hx fun s₂ q₂ U₂ => ?_
  replace S := S.grown U₂
  dsimp only
  walk_at "W"
  refine len_list_any (hlv.at fun o e => S.up _ _ e) (by simp; omega) fun s₃ t₃ q₃ e₃ => ?_
  rw [← e₃] at S
  walk_at "W"
  rcases hj with ⟨rfl, rfl⟩ | ⟨x, rfl, rfl⟩ | ⟨h2, i, hi0, hin, rfl⟩
  · rw [if_pos (by simp [hlen'])]
    walk_at "W"
    refine b_no G S.up Bk.I hr fun t => ?_
    exact h _ t (by walk_at "Q") S.up
  · rw [if_neg (by simp [hlen'])]
    walk_at "W"
    refine len_list_any (hlv.at fun o e => S.up _ _ e) (by simp; omega) fun s₄ t₄ q₄ e₄ => ?_
    dsimp only at e₄
    rw [← e₄] at S
    walk_at "W"
    rw [if_pos (by simp [hlen'])]
    walk_at "W"
    obtain ⟨t, ht⟩ := hi.get 0 rv rfl
    refine item_list (hlv.at fun o e => S.up _ _ e) (by decide) (by decide) (by simpa using ht) ?_ (by with_unfolding_all rfl)
    exact h _ t (by walk_at "Q") S.up
  · rw [if_neg (by simp only [List.size_toArray, beq_iff_eq]; omega)]
    walk_at "W"
    refine len_list_any (hlv.at fun o e => S.up _ _ e) (by simp; omega) fun s₄ t₄ q₄ e₄ => ?_
    dsimp only at e₄
    rw [← e₄] at S
    walk_at "W"
    rw [if_neg (by simp only [List.size_toArray, beq_iff_eq]; omega)]
    walk_at "W"
    refine b_meth (f := 243) G S.up Bk.I (by decide) (by k_is) (by k_is) (by k_is) ?_
    refine callWith_K (Gnd.K G) (by k_is) ?_ (by exact rfl) (by exact rfl)
    walk_at "W"
    refine call_tuple_list (hlv.at fun o e => S.up _ _ e) (fun h' hk => ?_) (by simp [z]; omega)
    have ea : (h'.push (tupO vs.toArray 0)).get? h'.objs.size = some (tupO vs.toArray 0) := Heap.get?_push_size _ rfl
    have U₅ : Up s.heap (h'.push (tupO vs.toArray 0)) := fun b o e => Heap.get?_push_of_some _ (hk b o (S.up b o e))
    have S₅ : Sd s.heap L (fun y => List.lookup y ([("self", Value.ref bk.x), ("some", Value.ref l)] : List (Str × Value)).reverse) [] (h'.push (tupO vs.toArray 0)) := S.grown fun b o e => Heap.get?_push_of_some _ (hk b o e)
    clear S
    walk_at "W"
    refine ⟨Frag.In.keeps G.K U₅, wpAny_call ?_⟩
    exact c_make_old (k := k) (n := ⟨"or", xs, 0⟩) (G.up U₅) (Bk.up U₅) (r'.less (by omega)) hi0 hin (ints_key ea hi) fun s₆ t₆ q₆ U₆ => h s₆ t₆ (by walk_at "Q") (U₅.trans U₆)

theorem c_or_new {w : World} {A : Around} {s : Shared} {g : Heap} {bk : BkA} {B : List Node} {wl : List (Addr × Obj)} {R : Result → Shared → Prop} {k : Nat} {l : Addr} {xs : List Int}
    (G : Gnd w g) (U : Up g s.heap) (Bk : BankW w g bk B wl) (hw : ∀ p ∈ wl, s.heap.get? p.1 = some p.2 ∧ g.get? p.1 = none) (r : Rm A (k + 3)) (hl : IntL g l xs) (hx : ∀ x ∈ xs, 0 ≤ x ∧ x.toNat < B.length) (hlen : xs.length ≤ 1000) (h2 : 2 ≤ xs.length)
    (hn : ∀ i : Nat, 0 < i → B[i]? ≠ some ⟨"or", xs, 0⟩) (hsm : B.length < 1000)
    (h : ∀ s' t g' wl', Same s s' → Grow g s.heap g' s'.heap → Eff (wl.map (·.1)) s.heap s'.heap → BankW w g' bk (B ++ [⟨"or", xs, 0⟩]) wl' → wl'.map (·.1) = wl.map (·.1) → (∀ p ∈ wl', s'.heap.get? p.1 = some p.2) →
      R (.ok (.ret (.int (B.length : Int) t))) s') :
    codeAny (model pw w) A (.call (.ref 341) ⟨[.ref bk.x, .ref l], []⟩) R s := by
  obtain ⟨vs, hlv, hi⟩ := id hl
  have hlen' := hi.length
  have z : sizeLine = 16777216 := rfl
  have Ug := gmax_le (wl := wl) U fun p hp => (hw p hp).2
  refine' call0 (g := gmax s.heap wl) (wl := wl) (binds := [("self", .ref bk.x), ("some", .ref l)]) (G.up Ug) (gmax_up _ _) (fun p hp => ⟨(hw p hp).1, gmax_none hp⟩) Bk.nd r (by k_is) (by k_is) (by exact BindsTo.of_eq rfl) (by exact locs rfl) ?_ (by exact rfl) (by exact rfl) (by exact rfl) (by decide)
  intro A' L s₁ q r' S U₁ fr
  have G' := G.up Ug
  have Bk' := Bk.up Ug
  k_unmd
  walk_at "W"
  refine b_meth (f := 271) G' S.up Bk'.I (by decide) (by k_is) (by k_is) (by k_is) ?_
  walk_at "C"
  refine c_want_all (k := k) (G'.up S.up) (Bk'.at S.up fun p hp => S.get hp) r' (hl.up (Ug.trans S.up)) hx fun s₂ q₂ U₂ => ?_
  replace S := S.grown U₂
  dsimp only
  walk_at "W"
  refine len_list_any (hlv.at fun o e => S.up _ _ (Ug _ _ e)) (by simp; omega) fun s₃ t₃ q₃ e₃ => ?_
  rw [← e₃] at S
  walk_at "W"
  rw [if_neg (by simp only [List.size_toArray, beq_iff_eq]; omega)]
  walk_at "W"
  refine len_list_any (hlv.at fun o e => S.up _ _ (Ug _ _ e)) (by simp; omega) fun s₄ t₄ q₄ e₄ => ?_
  dsimp only at e₄
  rw [← e₄] at S
  walk_at "W"
  rw [if_neg (by simp only [List.size_toArray, beq_iff_eq]; omega)]
  walk_at "W"
  refine b_meth (f := 243) G' S.up Bk'.I (by decide) (by k_is) (by k_is) (by k_is) ?_
  refine callWith_K (Gnd.K G') (by k_is) ?_ (by exact rfl) (by exact rfl)
  walk_at "W"
  refine call_tuple_list (hlv.at fun o e => S.up _ _ (Ug _ _ e)) (fun h' hk => ?_) (by simp [z]; omega)
  have ea : (h'.push (tupO vs.toArray 0)).get? h'.objs.size = some (tupO vs.toArray 0) := Heap.get?_push_size _ rfl
  have U₅ : Up s₄.heap (h'.push (tupO vs.toArray 0)) := fun b o e => Heap.get?_push_of_some _ (hk b o e)
  have hfr : s.heap.get? h'.objs.size = none := by
    cases e : s.heap.get? h'.objs.size with
    | none => rfl
    | some o => 
      obtain ⟨o', e'⟩ : ∃ o', s₄.heap.get? h'.objs.size = some o' := by
        by_cases hb : h'.objs.size ∈ wl.map (·.1)
        · obtain ⟨p, hp, ep⟩ := List.mem_map.mp hb
          exact ⟨p.2, ep ▸ S.get hp⟩
        · exact ⟨o, S.up _ _ (gmax_get e hb)⟩
      exact absurd (Heap.lt_size (hk _ _ e')) (Nat.lt_irrefl _)
  have S₅ := S.grown U₅
  clear S
  walk_at "W"
  refine ⟨Frag.In.keeps G'.K S₅.up, wpAny_call ?_⟩
  have Gr : Grow g s.heap (grd g s.heap (h'.push (tupO vs.toArray 0)) []) (h'.push (tupO vs.toArray 0)) := grow_grd (Ug.trans S₅.up)
  have Ef : Eff (wl.map (·.1)) s.heap (h'.push (tupO vs.toArray 0)) := eff_of S₅.up fun p hp => ⟨_, S₅.get hp⟩
  refine c_make_new (k := k) (n := ⟨"or", xs, 0⟩) (G.up Gr.le) Gr.up (Bk.up Gr.le) (fun p hp => ⟨S₅.get hp, grd_none (hw p hp).1 (hw p hp).2⟩) (r'.less (by omega)) hn hsm (ints_key (grd_get ea (.inr ⟨hfr, by simp⟩)) hi) fun s₆ t₆ g₆ wl₆ q₆ Gr₆ Ef₆ Bk₆ e₆ a₆ => ?_
  exact h s₆ t₆ g₆ wl₆ (by walk_at "Q") (Gr.trans Ef Gr₆) (Ef.trans Ef₆) Bk₆ e₆ a₆

theorem c_and_old {w : World} {A : Around} {s : Shared} {bk : BkA} {B : List Node} {R : Result → Shared → Prop} {k : Nat} {l : Addr} {xs : List Int} {rv : Int} (G : Gnd w s.heap) (Bk : BankAt w s.heap bk B) (hr : bk.ready = true) (r : Rm A (k + 3)) (hl : IntL s.heap l xs)
    (hx : ∀ x ∈ xs, 0 ≤ x ∧ x.toNat < B.length) (hlen : xs.length ≤ 1000) (hj : Joins B false xs rv) (h : ∀ s' t, Same s s' → Up s.heap s'.heap → R (.ok (.ret (.int rv t))) s') :
    codeAny (model pw w) A (.call (.ref 334) ⟨[.ref bk.x, .ref l], []⟩) R s := by
  obtain ⟨vs, hlv, hi⟩ := id hl
  have hlen' := hi.length
  have z : sizeLine = 16777216 := rfl
  refine' call0 (g := s.heap) (wl := []) (binds := [("self", .ref bk.x), ("some", .ref l)]) G (Up.refl _) (by simp) (by simp) r (by k_is) (by k_is) (by exact BindsTo.of_eq rfl) (by exact locs rfl) ?_ (by exact rfl) (by exact rfl) (by exact rfl) (by decide)
  intro A' L s₁ q r' S U₁ fr
  k_unmd
  walk_at "W"
  refine b_meth (f := 271) G S.up Bk.I (by decide) (by k_is) (by k_is) (by k_is) ?_
  walk_at "C"
  refine c_want_all (k := k) (G.up S.up) (Bk.up S.up) r' (hl.up S.up) hx fun s₂ q₂ U₂ => ?_
  replace S := S.grown U₂
  dsimp only
  walk_at "W"
  refine len_list_any (hlv.at fun o e => S.up _ _ e) (by simp; omega) fun s₃ t₃ q₃ e₃ => ?_
  rw [← e₃] at S
  walk_at "W"
  rcases hj with ⟨rfl, rfl⟩ | ⟨x, rfl, rfl⟩ | ⟨h2, i, hi0, hin, rfl⟩
  · rw [if_pos (by simp [hlen'])]
    walk_at "W"
    refine b_yes G S.up Bk.I hr fun t => ?_
    exact h _ t (by walk_at "Q") S.up
  · rw [if_neg (by simp [hlen'])]
    walk_at "W"
    refine len_list_any (hlv.at fun o e => S.up _ _ e) (by simp; omega) fun s₄ t₄ q₄ e₄ => ?_
    dsimp only at e₄
    rw [← e₄] at S
    walk_at "W"
    rw [if_pos (by simp [hlen'])]
    walk_at "W"
    obtain ⟨t, ht⟩ := hi.get 0 rv rfl
    refine item_list (hlv.at fun o e => S.up _ _ e) (by decide) (by decide) (by simpa using ht) ?_ (by with_unfolding_all rfl)
    exact h _ t (by walk_at "Q") S.up
  · rw [if_neg (by simp only [List.size_toArray, beq_iff_eq]; omega)]
    walk_at "W"
    refine len_list_any (hlv.at fun o e => S.up _ _ e) (by simp; omega) fun s₄ t₄ q₄ e₄ => ?_
    dsimp only at e₄
    rw [← e₄] at S
    walk_at "W"
    rw [if_neg (by simp only [List.size_toArray, beq_iff_eq]; omega)]
    walk_at "W"
    refine b_meth (f := 243) G S.up Bk.I (by decide) (by k_is) (by k_is) (by k_is) ?_
    refine callWith_K (Gnd.K G) (by k_is) ?_ (by exact rfl) (by exact rfl)
    walk_at "W"
    refine call_tuple_list (hlv.at fun o e => S.up _ _ e) (fun h' hk => ?_) (by simp [z]; omega)
    have ea : (h'.push (tupO vs.toArray 0)).get? h'.objs.size = some (tupO vs.toArray 0) := Heap.get?_push_size _ rfl
    have U₅ : Up s.heap (h'.push (tupO vs.toArray 0)) := fun b o e => Heap.get?_push_of_some _ (hk b o (S.up b o e))
    have S₅ : Sd s.heap L (fun y => List.lookup y ([("self", Value.ref bk.x), ("some", Value.ref l)] : List (Str × Value)).reverse) [] (h'.push (tupO vs.toArray 0)) := S.grown fun b o e => Heap.get?_push_of_some _ (hk b o e)
    clear S
    walk_at "W"
    refine ⟨Frag.In.keeps G.K U₅, wpAny_call ?_⟩
    exact c_make_old (k := k) (n := ⟨"and", xs, 0⟩) (G.up U₅) (Bk.up U₅) (r'.less (by omega)) hi0 hin (ints_key ea hi) fun s₆ t₆ q₆ U₆ => h s₆ t₆ (by walk_at "Q") (U₅.trans U₆)

theorem c_and_new {w : World} {A : Around} {s : Shared} {g : Heap} {bk : BkA} {B : List Node} {wl : List (Addr × Obj)} {R : Result → Shared → Prop} {k : Nat} {l : Addr} {xs : List Int}
    (G : Gnd w g) (U : Up g s.heap) (Bk : BankW w g bk B wl) (hw : ∀ p ∈ wl, s.heap.get? p.1 = some p.2 ∧ g.get? p.1 = none) (r : Rm A (k + 3)) (hl : IntL g l xs) (hx : ∀ x ∈ xs, 0 ≤ x ∧ x.toNat < B.length) (hlen : xs.length ≤ 1000) (h2 : 2 ≤ xs.length)
    (hn : ∀ i : Nat, 0 < i → B[i]? ≠ some ⟨"and", xs, 0⟩) (hsm : B.length < 1000)
    (h : ∀ s' t g' wl', Same s s' → Grow g s.heap g' s'.heap → Eff (wl.map (·.1)) s.heap s'.heap → BankW w g' bk (B ++ [⟨"and", xs, 0⟩]) wl' → wl'.map (·.1) = wl.map (·.1) → (∀ p ∈ wl', s'.heap.get? p.1 = some p.2) →
      R (.ok (.ret (.int (B.length : Int) t))) s') :
    codeAny (model pw w) A (.call (.ref 334) ⟨[.ref bk.x, .ref l], []⟩) R s := by
  obtain ⟨vs, hlv, hi⟩ := id hl
  have hlen' := hi.length
  have z : sizeLine = 16777216 := rfl
  have Ug := gmax_le (wl := wl) U fun p hp => (hw p hp).2
  refine' call0 (g := gmax s.heap wl) (wl := wl) (binds := [("self", .ref bk.x), ("some", .ref l)]) (G.up Ug) (gmax_up _ _) (fun p hp => ⟨(hw p hp).1, gmax_none hp⟩) Bk.nd r (by k_is) (by k_is) (by exact BindsTo.of_eq rfl) (by exact locs rfl) ?_ (by exact rfl) (by exact rfl) (by exact rfl) (by decide)
  intro A' L s₁ q r' S U₁ fr
  have G' := G.up Ug
  have Bk' := Bk.up Ug
  k_unmd
  walk_at "W"
  refine b_meth (f := 271) G' S.up Bk'.I (by decide) (by k_is) (by k_is) (by k_is) ?_
  walk_at "C"
  refine c_want_all (k := k) (G'.up S.up) (Bk'.at S.up fun p hp => S.get hp) r' (hl.up (Ug.trans S.up)) hx fun s₂ q₂ U₂ => ?_
  replace S := S.grown U₂
  dsimp only
  walk_at "W"
  refine len_list_any (hlv.at fun o e => S.up _ _ (Ug _ _ e)) (by simp; omega) fun s₃ t₃ q₃ e₃ => ?_
  rw [← e₃] at S
  walk_at "W"
  rw [if_neg (by simp only [List.size_toArray, beq_iff_eq]; omega)]
  walk_at "W"
  refine len_list_any (hlv.at fun o e => S.up _ _ (Ug _ _ e)) (by simp; omega) fun s₄ t₄ q₄ e₄ => ?_
  dsimp only at e₄
  rw [← e₄] at S
  walk_at "W"
  rw [if_neg (by simp only [List.size_toArray, beq_iff_eq]; omega)]
  walk_at "W"
  refine b_meth (f := 243) G' S.up Bk'.I (by decide) (by k_is) (by k_is) (by k_is) ?_
  refine callWith_K (Gnd.K G') (by k_is) ?_ (by exact rfl) (by exact rfl)
  walk_at "W"
  refine call_tuple_list (hlv.at fun o e => S.up _ _ (Ug _ _ e)) (fun h' hk => ?_) (by simp [z]; omega)
  have ea : (h'.push (tupO vs.toArray 0)).get? h'.objs.size = some (tupO vs.toArray 0) := Heap.get?_push_size _ rfl
  have U₅ : Up s₄.heap (h'.push (tupO vs.toArray 0)) := fun b o e => Heap.get?_push_of_some _ (hk b o e)
  have hfr : s.heap.get? h'.objs.size = none := by
    cases e : s.heap.get? h'.objs.size with
    | none => rfl
    | some o => 
      obtain ⟨o', e'⟩ : ∃ o', s₄.heap.get? h'.objs.size = some o' := by
        by_cases hb : h'.objs.size ∈ wl.map (·.1)
        · obtain ⟨p, hp, ep⟩ := List.mem_map.mp hb
          exact ⟨p.2, ep ▸ S.get hp⟩
        · exact ⟨o, S.up _ _ (gmax_get e hb)⟩
      exact absurd (Heap.lt_size (hk _ _ e')) (Nat.lt_irrefl _)
  have S₅ := S.grown U₅
  clear S
  walk_at "W"
  refine ⟨Frag.In.keeps G'.K S₅.up, wpAny_call ?_⟩
  have Gr : Grow g s.heap (grd g s.heap (h'.push (tupO vs.toArray 0)) []) (h'.push (tupO vs.toArray 0)) := grow_grd (Ug.trans S₅.up)
  have Ef : Eff (wl.map (·.1)) s.heap (h'.push (tupO vs.toArray 0)) := eff_of S₅.up fun p hp => ⟨_, S₅.get hp⟩
  refine c_make_new (k := k) (n := ⟨"and", xs, 0⟩) (G.up Gr.le) Gr.up (Bk.up Gr.le) (fun p hp => ⟨S₅.get hp, grd_none (hw p hp).1 (hw p hp).2⟩) (r'.less (by omega)) hn hsm (ints_key (grd_get ea (.inr ⟨hfr, by simp⟩)) hi) fun s₆ t₆ g₆ wl₆ q₆ Gr₆ Ef₆ Bk₆ e₆ a₆ => ?_
  exact h s₆ t₆ g₆ wl₆ (by walk_at "Q") (Gr.trans Ef Gr₆) (Ef.trans Ef₆) Bk₆ e₆ a₆

/-- a dict object, as pairs -/
def DictO {w : World} {K : Type} [DecidableEq K] (knd : PySem.KeyKind pw w K) (kvs : List (K × Value)) (o : Obj) : Prop :=
  ∃ es ep, o.ExactDict ∧ o.data = .dict es ep ∧ KeysOf knd es ∧ Pairs knd es.toList kvs ∧ (kvs.map (·.1)).Nodup
section
variable {w : World} {K : Type} [DecidableEq K] {knd : PySem.KeyKind pw w K} {kvs : List (K × Value)} {o : Obj} {h : Heap} {d : Addr}
theorem DictO.at (x : DictO knd kvs o) (e : h.get? d = some o) : h.DictOf knd d kvs := let ⟨es, ep, r⟩ := x; ⟨o, es, ep, e, r⟩
theorem dictO_of (x : h.DictOf knd d kvs) : ∃ o, h.get? d = some o ∧ DictO knd kvs o := let ⟨o, es, ep, e, r⟩ := x; ⟨o, e, es, ep, r⟩
theorem DictO.nodup (x : DictO knd kvs o) : (kvs.map (·.1)).Nodup := let ⟨_, _, _, _, _, _, n⟩ := x; n
theorem DictO.empty : DictO knd [] ({ cls := .type "dict", data := .dict #[] } : Obj) := by
  obtain ⟨o, es, ep, e, r⟩ := Heap.DictOf.new (knd := knd) (K := K) ({} : Heap)
  have e2 : (({} : Heap).push { cls := .type "dict", data := .dict #[] }).get? ({} : Heap).objs.size = some { cls := .type "dict", data := .dict #[] } := Heap.get?_push_size _ rfl
  rw [e2] at e
  cases e
  exact ⟨es, ep, r⟩
variable {A : Around} {E : Value → Shared → Prop} {s : Shared} {g : Heap} {L : Addr} {m : Str → Option Value} {rest : List (Addr × Obj)} {k : K} {key v : Value}
theorem r_setitem {Q : Unit → Shared → Prop} (S : Sd g L m ((d, o) :: rest) s.heap) (x : DictO knd kvs o) (hkey : knd.is k key = true)
    (h : ∀ s' o', Same s s' → Sd g L m ((d, o') :: rest) s'.heap → DictO knd (stored kvs k v) o' → Heap.SameBut d s.heap s'.heap → Q () s') (hsz : kvs.length ≤ sizeLine) : wpAny (model pw w) A (setItem (.ref d) key v) Q E s := by
  have hm := x.at (S.get (.head _))
  unfold setItem
  try with_reducible refine wpAny_holding ?_
  refine wpAny_bind (wpAny_sequenceKey hm.typeIs (by decide) ?_)
  refine wpAny_bind (wpAny_callSpecial?_slot (name := Str.ofString "__setitem__") hm.typeIs slot_dict_setitem
    (wpAny_call_entry slot_dict_setitem hm.typeIs entry_dict_setitem ?_ (args_dict_setitem _ _ _)))
  show wpAny _ _ (Builtin.Dict.notOrdered "__setitem__" ⟨[.ref d, key, v], []⟩ >>= _) _ _ s
  refine wpAny_bind (wpAny_notOrdered_dict hm.typeIs ?_)
  show wpAny _ _ (dictSet d key v >>= _) _ _ s
  exact wpAny_bind (wpAny_dictSet_pairs (hsz := hsz) hkey hm fun h' hm' hs' => wpAny_pure ⟨.none, rfl, wpAny_pure (by
    obtain ⟨o', e', x'⟩ := dictO_of hm'
    exact h { s with heap := h', toks := s.toks + 1 } o' ⟨rfl, rfl⟩ (S.upd hs' e') x' hs')⟩)
theorem item_dict {value slice : PySem.Expr} {Q : Value → Shared → Prop} (hm : s.heap.DictOf knd d kvs) (hkey : knd.is k key = true) (hv : valueAt kvs k = some v) (h : Q v { s with toks := s.toks + 1 })
    (hs : subscripted slice false (.ref d) key = operate [.ref d, key] (getItem (.ref d) key)) : wpAny (model pw w) A (subscriptTail value slice (.ref d) key) Q E s :=
  tail_any hm.mapOf.typeIs slot_dict_getitem.lookup (wpAny_getItem_of hkey hm.mapOf hv h) hs
end

def TapeO (w : World) (cl : Addr) (k : Int) (o : Obj) : Prop := ∃ t, DictO (sK pw w) [("cells", .ref cl), ("spot", .int k t)] o

theorem c_draw {w : World} {A : Around} {s : Shared} {g : Heap} {R : Result → Shared → Prop} {n : Nat} {tp cl : Addr} {ot : Obj} {k wd : Int} {u : Tok} {cs : List Int}
    (G : Gnd w g) (U : Up g s.heap) (hT : TapeO w cl k ot) (ht : s.heap.get? tp = some ot) (hg : g.get? tp = none) (hc : IntL g cl cs) (hcs : cs.length ≤ 1000) (hk0 : 0 ≤ k) (hk : k ≤ 1000000) (hw : 0 < wd) (r : Rm A (n + 1))
    (h : ∀ s' d t o', Same s s' → Eff [tp] s.heap s'.heap → s'.heap.get? tp = some o' → TapeO w cl (k + 1) o' → 0 ≤ d → d < wd → R (.ok (.ret (.int d t))) s') :
    codeAny (model pw w) A (.call (.ref 765) ⟨[.ref tp, .int wd u], []⟩) R s := by
  obtain ⟨tt, hD⟩ := hT
  obtain ⟨vs, hcl, hi⟩ := hc
  have hlen := hi.length
  have Ug := gmax_le (wl := [(tp, ot)]) U fun p hp => by rw [List.mem_singleton.mp hp]; exact hg
  replace G := G.up Ug
  refine' call0 (g := gmax s.heap [(tp, ot)]) (wl := [(tp, ot)]) (binds := [("tape", .ref tp), ("wide", .int wd u)]) G (gmax_up _ _) (fun p hp => ⟨by rw [List.mem_singleton.mp hp]; exact ht, gmax_none hp⟩) (by simp) r (by k_is) (by k_is)
    (by exact BindsTo.of_eq rfl) (by exact locs rfl) ?_ (by exact rfl) (by exact rfl) (by exact rfl) (by decide)
  intro A' L s₁ q r' S U₁ fr
  k_unmd
  walk_at "W"
  refine item_dict (hD.at (S.get (.head _))) (strKind_is pw w _ _) (v := .int k tt) rfl ?_ (by with_unfolding_all rfl)
  refine r_st (s := ⟨s₁.heap, _, _, _, _⟩) S (fun s₂ q₂ S₂ hs₂ => ?_) (by exact rfl) (by exact rfl) (by exact rfl)
  clear S
  walk_at "W"
  refine r_setitem (s := ⟨s₂.heap, _, _, _, _⟩) S₂ hD (strKind_is pw w _ _) (fun s₃ o₃ q₃ S₃ hD₃ hs₃ => ?_) (by simp [sizeLine])
  clear S₂
  walk_at "W"
  obtain ⟨t₃, hD₃'⟩ : ∃ t₃, DictO (sK pw w) [("cells", .ref cl), ("spot", .int (k + 1) t₃)] o₃ := ⟨_, hD₃⟩
  clear hD₃
  have hcl₃ : s₃.heap.IsList cl vs.toArray := hcl.at fun o e => S₃.up _ _ (Ug _ _ e)
  refine item_dict (hD₃'.at (S₃.get (.head _))) (strKind_is pw w _ _) (v := .ref cl) rfl ?_ (by with_unfolding_all rfl)
  walk_at "W"
  refine len_list_any hcl₃ (by simp; omega) fun s₄ t₄ q₄ e₄ => ?_
  dsimp only at e₄
  rw [← e₄] at S₃ hcl₃
  walk_at "W"
  have Ef : ∀ s' : Shared, s'.heap = s₄.heap → Eff [tp] s.heap s'.heap := fun s' e => by rw [e]; exact eff_of (wl := [(tp, ot)]) S₃.up fun p hp => by rw [List.mem_singleton.mp hp]; exact ⟨_, S₃.get (.head _)⟩
  by_cases hlt : k < (vs.toArray.size : Int)
  · rw [if_pos (by simpa using hlt)]
    walk_at "W"
    refine item_dict (hD₃'.at (S₃.get (.head _))) (strKind_is pw w _ _) (v := .ref cl) rfl ?_ (by with_unfolding_all rfl)
    walk_at "W"
    have hk' : k.toNat < cs.length := by simp at hlt; omega
    obtain ⟨ti, hti⟩ := hi.get k.toNat cs[k.toNat] (by simp [hk'])
    refine item_list hcl₃ hk0 (by omega) (by simpa using hti) ?_ (by with_unfolding_all rfl)
    walk_at "W"
    refine mod_int' (by omega) ?_
    exact h _ _ _ o₃ (by walk_at "Q") (Ef _ rfl) (S₃.get (.head _)) ⟨_, hD₃'⟩ (fmod_lo _ hw) (fmod_hi _ hw)
  · rw [if_neg (by simpa using hlt)]
    walk_at "W"
    refine mul_int ?_ (.of_left (intBits_le_64 (by omega) (by omega)))
    walk_at "W"
    refine mul_int ?_ (.of_left (intBits_le_64 (by omega) (by omega)))
    walk_at "W"
    refine mul_int ?_ (.of_left (intBits_le_64 (by omega) (by omega)))
    walk_at "W"
    refine mod_int' (by omega) ?_
    walk_at "W"
    refine mod_int' (by omega) ?_
    exact h _ _ _ o₃ (by walk_at "Q") (Ef _ rfl) (S₃.get (.head _)) ⟨_, hD₃'⟩ (fmod_lo _ hw) (fmod_hi _ hw)
section
variable {w : World} {A : Around} {E : Value → Shared → Prop} {R : Result → Shared → Prop} {s : Shared}

/-- a comprehension's turns, whatever the target -/
theorem comp_turns {elt target iter : Expr} {ifs : List Expr} {scope : Scope} {pos : Pos} {it acc : Value} {env : Env} (I : Nat → Shared → Prop)
    (turn : ∀ n s, I n s → wpAny (model pw w) A (pyNext it) (fun r s₁ => match r with
      | none => R (.ok .next) s₁
      | some v => wpAny (model pw w) A (letOwnedTupleGo target it v) (fun _ s₁' => wpAny (model pw w) A (assign target env v) (fun _ s₂ =>
          wpAny (model pw w) A (forIn ifs true fun c r => if r = true then do let ok ← isTrue c env (eval c env); pure (ForInStep.yield ok) else pure (ForInStep.yield r)) (fun ok s₃ =>
            if ok = true then wpAny (model pw w) A (eval elt env) (fun x s₄ =>
              wpAny (model pw w) A (call (.builtin "list.append") [acc, x]) (fun _ s₅ => ∃ m, m < n ∧ I m s₅) (fun _ _ => False) s₄) (fun _ _ => False) s₃
            else ∃ m, m < n ∧ I m s₃) (fun _ _ => False) s₂) (fun _ _ => False) s₁') (fun _ _ => False) s₁) (fun _ _ => False) s)
    (n : Nat) (h : I n s) : codeAny (model pw w) A (.compLoop (.ListComp elt [⟨target, iter, ifs, 0⟩] scope pos) 0 it acc env) R s := by
  refine codeAny_loop rfl I (fun n s hI => ?_) n h
  show wpAny _ A ((compTurn (.ListComp elt [⟨target, iter, ifs, 0⟩] scope pos) 0 it acc env).onRaise (fun x => do noteFrame x env; theTreesLotGoes x)) _ _ s
  refine wpAny_noted ?_
  rw [compTurn_list]
  refine wpAny_bind (wpAny_standAt (wpAny_bind (wpAny_mono (turn n s hI) (fun r s₁ h₁ => ?_) fun _ _ e => e.elim)))
  cases r with
  | none => exact wpAny_pure h₁
  | some v =>
    refine wpAny_bind (wpAny_mono h₁ (fun _ s₁' h₁' => ?_) fun _ _ e => e.elim)
    refine wpAny_bind (wpAny_mono h₁' (fun _ s₂ h₂ => wpAny_bind (wpAny_mono h₂ (fun ok s₃ h₃ => ?_) fun _ _ e => e.elim)) fun _ _ e => e.elim)
    cases ok with
    | false => exact wpAny_pure ⟨rfl, h₃⟩
    | true => exact wpAny_bind (wpAny_bind (wpAny_mono h₃ (fun x s₄ h₄ => wpAny_bind (wpAny_mono h₄ (fun _ s₅ h₅ => wpAny_pure (wpAny_pure ⟨rfl, h₅⟩)) fun _ _ e => e.elim)) fun _ _ e => e.elim))

/-- the frame's own names go over to a ground -/
theorem Sd.into {g h : Heap} {L : Addr} {m : Str → Option Value} {news : List (Addr × Obj)} (S : Sd g L m news h) :
    ∃ g', Up g g' ∧ Up g' h ∧ g'.Ns L m ∧ (∀ p ∈ news, g'.get? p.1 = none) ∧ (∀ b o, g'.get? b = some o → b = L ∨ ∃ o', g.get? b = some o') := by
  have hn := S.ns
  obtain ⟨oL, es, ep, hL, r⟩ := hn
  refine ⟨sel h fun b => (g.get? b).isSome || b == L, fun b x e => sel_get (S.up b x e) (by rw [e]; rfl), fun b x e => (sel_of e).1, ⟨oL, es, ep, sel_get hL (by simp), r⟩, fun p hp => ?_, fun b x e => ?_⟩
  · cases q : (sel h fun b => (g.get? b).isSome || b == L).get? p.1 with
    | none => rfl
    | some x =>
      have := (sel_of q).2
      rw [(S.nw p hp).2.2] at this
      simp at this
      exact absurd this (S.nw p hp).2.1
  · have := (sel_of e).2
    simp only [Bool.or_eq_true, beq_iff_eq] at this
    rcases this with q | q
    · exact .inr (Option.isSome_iff_exists.mp q)
    · exact .inl q

/-- the block's env, with its own cells -/
def compEnvD (scope : Scope) (cl : List (Str × Addr)) (C : Addr) (env : Env) : Env :=
  { scope := relabel scope env, locals := C, globals := env.globals, cells := cl, qual := env.qual, func := none, code := env.code, frame := env.frame, builtins := env.builtins }

theorem comp_env {scope : Scope} {G : Addr} {cl : List (Str × Addr)} {q : Str} {env : Env} {Q : Env → Shared → Prop}
    (h : Q { scope := scope, locals := s.heap.objs.size, globals := G, cells := cellsFrom (s.heap.objs.size + 1) scope.names cl, qual := q, func := none, code := env.code, frame := env.frame, builtins := env.builtins }
      { s with heap := pushCells (s.heap.push { cls := .type "dict", data := .dict #[] }) scope.names }) :
    wpAny (model pw w) A (newFunctionEnv scope G cl [] q none .none (some env)) Q E s := by
  simp only [newFunctionEnv, Option.isSome_some, if_true]
  refine wpAny_bind (wpAny_alloc ?_)
  refine wpAny_bind (wpAny_layCells _ (fun name kind cells => by cases hkc : kind == NameKind.cell <;> simp [hkc]) _ _ _ _ ?_)
  rw [show ({ s with heap := s.heap.push { cls := .type "dict", data := .dict #[] } } : Shared).heap.objs.size = s.heap.objs.size + 1 from Heap.size_push ..]
  rw [List.forIn_nil]
  exact wpAny_bind (wpAny_pure (wpAny_pure h))
end

/-- the cell that a block has for itself, or none -/
def CW (cx : Option Str) (C : Addr) (cw : List (Addr × Obj)) : Prop := match cx with
  | none => cw = []
  | some _ => ∃ o v, cw = [(C + 1, o)] ∧ o.data = .cell v

def clX (cx : Option Str) (n : Nat) (cl : List (Str × Addr)) : List (Str × Addr) := match cx with
  | none => cl
  | some x => (x, n) :: cl
def puX (cx : Option Str) (h : Heap) : Heap := match cx with
  | none => h
  | some _ => h.push { cls := .type "cell", data := .cell none }

/-- how a turn ends -/
def CNext (s₁ : Shared) (g : Heap) (C D I : Addr) (nD : Nat) (oI : Obj) (cx : Option Str) (accO : List Value) (J : List Value → List (Addr × Obj) → Prop) (acc : List Value) (s₂ : Shared) : Prop :=
  ∃ m' cw' news', CW cx C cw' ∧ Same s₁ s₂ ∧ Sd g C m' ((D, lstO accO.toArray nD) :: (I, oI) :: (cw' ++ news')) s₂.heap ∧ J acc news'

section
variable {w : World} {A : Around} {E : Value → Shared → Prop} {s : Shared} {env : Env} {g : Heap} {L : Addr} {m : Str → Option Value} {news : List (Addr × Obj)} {elt target iter : Expr} {ifs : List Expr} {scope : Scope} {pos : Pos} {cl : List (Str × Addr)} {Q : Value → Shared → Prop}

theorem comp_core {I : Addr} {fp : List Addr} {n : Nat} {P : Nat → Value → Prop} {St : Nat → Heap → Prop} {oI : Obj} (cx : Option Str)
    (hcf : ∀ n, cellsFrom n scope.names cl = clX cx n cl)
    (hpc : ∀ h, pushCells h scope.names = puX cx h)
    (W : Walks pw w A I fp [I] n P St) (hI : ∀ i h, St i h → ∃ o, h.get? I = some o) (hst : St 0 s.heap)
    (S : Sd g L m ((I, oI) :: news) s.heap) (hfp : ∀ b ∈ fp, b = I ∨ ∃ o, g.get? b = some o) (J : Nat → List Value → List (Addr × Obj) → Prop) (h0 : J 0 [] news) (hsz : ∀ i acc news, J i acc news → acc.length ≤ i) (hn : n ≤ 100000)
    (step : ∀ g₁ C D nD i v mC acc cw news₁ s₁ oI, Up g g₁ → g₁.Ns L m → i < n → P i v → J i acc news₁ → CW cx C cw → Same s s₁ → St (i + 1) s₁.heap → Sd g₁ C mC ((D, lstO acc.toArray nD) :: (I, oI) :: (cw ++ news₁)) s₁.heap →
      wpAny (model pw w) A (letOwnedTupleGo target (.ref I) v) (fun _ s₂ => wpAny (model pw w) A (assign target (compEnvD scope (clX cx (C + 1) cl) C env) v) (fun _ s₃ =>
        wpAny (model pw w) A (forIn ifs true fun c r => if r = true then do let ok ← isTrue c (compEnvD scope (clX cx (C + 1) cl) C env) (eval c (compEnvD scope (clX cx (C + 1) cl) C env)); pure (ForInStep.yield ok) else pure (ForInStep.yield r)) (fun ok s₄ =>
          if ok = true then wpAny (model pw w) A (eval elt (compEnvD scope (clX cx (C + 1) cl) C env)) (fun y s₅ => CNext s₁ g₁ C D I nD oI cx acc (J (i + 1)) (acc ++ [y]) s₅) (fun _ _ => False) s₄
          else CNext s₁ g₁ C D I nD oI cx acc (J (i + 1)) acc s₄) (fun _ _ => False) s₃) (fun _ _ => False) s₂) (fun _ _ => False) s₁)
    (done : ∀ D nD acc news' s', Same s s' → Sd g L m ((D, lstO acc.toArray nD) :: news') s'.heap → J n acc news' → Q (.ref D) s') :
    wpAny (model pw w) A (newList []) (fun acc s₃ => wpAny (model pw w) A (newFunctionEnv scope env.globals cl [] env.qual none .none (some env)) (fun cenv s₄ =>
      codeAny (model pw w) A (.compStart (.ListComp elt [⟨target, iter, ifs, 0⟩] scope pos) 0 (.ref I) acc { cenv with scope := relabel scope env }) (compPost (model pw w) A E none Q acc cenv.locals) s₄) E s₃) E s := by
  obtain ⟨g₁, Ug, Ugh, hnL, hoff, hdom⟩ := S.into
  refine r_list (fun s₃ D q₃ fD U₃ eD => ?_) (by simp [sizeLine])
  refine comp_env ?_
  have fr : ∀ {h : Heap} {a : Addr}, h.objs.size ≤ a → h.get? a = none := fun {h a} ha => by
    cases q : h.get? a with
    | none => rfl
    | some o => exact absurd (Heap.lt_size q) (Nat.not_lt.mpr ha)
  have noneUp : ∀ {a b : Heap} {c : Addr}, Up a b → b.get? c = none → a.get? c = none := fun {a b c} U e => by
    cases q : a.get? c with
    | none => rfl
    | some o => rw [U _ _ q] at e; cases e
  have U₁₃ : Up g₁ s₃.heap := Ugh.trans U₃
  -- the frame of the block
  have key : ∃ cw mC, CW cx s₃.heap.objs.size cw ∧ Sd g₁ s₃.heap.objs.size mC ((D, lstO #[] 0) :: (I, oI) :: (cw ++ news)) (pushCells (s₃.heap.push { cls := .type "dict", data := .dict #[] }) scope.names) := by
    have base : Sd g₁ s₃.heap.objs.size (fun _ => none) ((D, lstO #[] 0) :: (I, oI) :: news) (s₃.heap.push { cls := .type "dict", data := .dict #[] }) := by
      refine ⟨Heap.Ns.new _ _, U₁₃.trans (Up.push _ _), noneUp U₁₃ (size_none _), fun p hp => ?_, ?_⟩
      · rcases List.mem_cons.mp hp with rfl | hp
        · exact ⟨Up.push _ _ _ _ eD, (fun e => by have := size_none s₃.heap; rw [← e, eD] at this; cases this), noneUp Ugh fD⟩
        · have e1 := (S.nw p hp).1
          have e2 := U₃ _ _ e1
          refine ⟨Up.push _ _ _ _ e2, fun e => ?_, hoff p hp⟩
          have := size_none s₃.heap; rw [← e, e2] at this; cases this
      · rw [List.map_cons, List.nodup_cons]
        refine ⟨fun hm => ?_, S.nd⟩
        obtain ⟨p, hp, e⟩ := List.mem_map.mp hm
        have := (S.nw p hp).1
        simp only at e
        rw [e, fD] at this; cases this
    rw [hpc]
    unfold puX
    cases cx with
    | none => exact ⟨[], _, rfl, base⟩
    | some x =>
      refine ⟨[(s₃.heap.objs.size + 1, { cls := .type "cell", data := .cell none })], fun _ => none, ⟨{ cls := .type "cell", data := .cell none }, none, rfl, rfl⟩, ?_⟩
      have := base.push { cls := .type "cell", data := .cell none } rfl
      rw [Heap.size_push] at this
      exact this.perm (((List.Perm.swap _ _ _).trans (List.Perm.cons _ (List.Perm.swap _ _ _))))
  obtain ⟨cw, mC, hcw, S₄⟩ := key
  have hfp₁ : ∀ b ∈ fp, b = I ∨ ∃ o, g₁.get? b = some o := fun b hb => (hfp b hb).imp id fun ⟨o, e⟩ => ⟨o, Ug _ _ e⟩
  -- an iterator's state stays with the ledger
  have stay : ∀ {i : Nat} {h h' : Heap} {C C' : Addr} {m₁ m₂ : Str → Option Value} {l₁ l₂ : List (Addr × Obj)} {o : Obj}, St i h → Sd g₁ C m₁ l₁ h → Sd g₁ C' m₂ l₂ h' → (I, o) ∈ l₁ → (I, o) ∈ l₂ → St i h' := fun {i h h' C C' m₁ m₂ l₁ l₂ o} st a b h1 h2 =>
    W.frame _ _ _ st fun b' hb' o' e' => by
      rcases hfp₁ b' hb' with rfl | ⟨o'', e''⟩
      · rw [a.get h1] at e'; cases e'; exact b.get h2
      · rw [a.up _ _ e''] at e'; cases e'; exact b.up _ _ e''
  have SI : Sd g L m ((I, oI) :: news) s.heap := S
  have hst₄ : St 0 (pushCells (s₃.heap.push { cls := .type "dict", data := .dict #[] }) scope.names) := by
    refine W.frame _ _ _ hst fun b' hb' o' e' => ?_
    rcases hfp₁ b' hb' with rfl | ⟨o'', e''⟩
    · rw [S.get (.head _)] at e'; cases e'; exact S₄.get (.tail _ (.head _))
    · rw [Ugh _ _ e''] at e'; cases e'; exact S₄.up _ _ e''
  have hce : ({ scope := relabel scope env, locals := s₃.heap.objs.size, globals := env.globals, cells := cellsFrom (s₃.heap.objs.size + 1) scope.names cl, qual := env.qual, func := none, code := env.code, frame := env.frame, builtins := env.builtins } : Env) =
      compEnvD scope (clX cx (s₃.heap.objs.size + 1) cl) s₃.heap.objs.size env := by
    unfold compEnvD; rw [hcf]
  dsimp only
  rw [hce]
  generalize hCdef : s₃.heap.objs.size = C at S₄ hcw ⊢
  have loop : ∀ s₅ : Shared, Same s s₅ → s₅.heap = pushCells (s₃.heap.push { cls := .type "dict", data := .dict #[] }) scope.names →
      codeAny (model pw w) A (.compLoop (.ListComp elt [⟨target, iter, ifs, 0⟩] scope pos) 0 (.ref I) (.ref D) (compEnvD scope (clX cx (C + 1) cl) C env)) (compPost (model pw w) A E none Q (.ref D) C) s₅ := by
    intro s₅ q₅ e₅
    refine comp_turns (fun k s' => ∃ i mC acc nD oI cw news₁, i ≤ n ∧ k = n + 1 - i ∧ Same s s' ∧ St i s'.heap ∧ CW cx C cw ∧ Sd g₁ C mC ((D, lstO acc.toArray nD) :: (I, oI) :: (cw ++ news₁)) s'.heap ∧ J i acc news₁) ?_ (n + 1)
      ⟨0, mC, [], 0, oI, cw, news, Nat.zero_le _, rfl, q₅, by rw [e₅]; exact hst₄, hcw, by rw [e₅]; exact S₄, h0⟩
    rintro k s' ⟨i, mC', acc, nD, oI', cw', news₁, hi, rfl, q, hst', hcw', S', hJ⟩
    by_cases hlt : i < n
    · refine W.item i _ _ _ hlt hst' fun v h₁ tk₁ hPv hst₁ hk₁ => ?_
      obtain ⟨oI₂, hoI₂⟩ := hI _ _ hst₁
      have S₁ : Sd g₁ C mC' ((D, lstO acc.toArray nD) :: (I, oI₂) :: (cw' ++ news₁)) h₁ := by
        have S'' := S'.front2
        have hIn := S''.nw _ (.head _)
        have nd := S''.nd
        rw [List.map_cons, List.nodup_cons] at nd
        have hs₁ : Heap.ExtBut I s'.heap h₁ := fun b o hb e => hk₁ b o (by simpa using hb) e
        refine Sd.front2 ⟨S''.ns.extBut hs₁ (Ne.symm hIn.2.1), fun b o e => hs₁ b o (fun z => by rw [z, hIn.2.2] at e; cases e) (S''.up b o e), S''.off, fun p hp => ?_, S''.nd⟩
        rcases List.mem_cons.mp hp with rfl | hp
        · exact ⟨hoI₂, hIn.2⟩
        · exact ⟨hs₁ p.1 p.2 (fun z => nd.1 (List.mem_map.mpr ⟨p, hp, z⟩)) (S''.nw p (.tail _ hp)).1, (S''.nw p (.tail _ hp)).2⟩
      have fin : ∀ acc' nD' s'', Same s s'' → (∃ m' cw' news', CW cx C cw' ∧ Sd g₁ C m' ((D, lstO acc'.toArray nD') :: (I, oI₂) :: (cw' ++ news')) s''.heap ∧ J (i + 1) acc' news') →
          ∃ k', k' < n + 1 - i ∧ ∃ i' mC acc nD oI cw news₁, i' ≤ n ∧ k' = n + 1 - i' ∧ Same s s'' ∧ St i' s''.heap ∧ CW cx C cw ∧ Sd g₁ C mC ((D, lstO acc.toArray nD) :: (I, oI) :: (cw ++ news₁)) s''.heap ∧ J i' acc news₁ := fun acc' nD' s'' q'' ⟨m', cw', news', hc', S'', hJ'⟩ =>
        ⟨n + 1 - (i + 1), by omega, i + 1, m', acc', nD', oI₂, cw', news', hlt, rfl, q'', stay (h := h₁) hst₁ S₁ S'' (.tail _ (.head _)) (.tail _ (.head _)), hc', S'', hJ'⟩
      refine wpAny_mono (step g₁ C D nD i v mC' acc cw' news₁ { s' with heap := h₁, toks := tk₁ } oI₂ Ug hnL hlt hPv hJ hcw' (by walk_at "Q") hst₁ S₁) (fun _ s₂ h₂ => ?_) fun _ _ e => e
      refine wpAny_mono h₂ (fun _ s₃' h₃ => wpAny_mono h₃ (fun ok s₄ h₄ => ?_) fun _ _ e => e) fun _ _ e => e
      cases ok with
      | false =>
        simp only [Bool.false_eq_true, if_false] at h₄ ⊢
        obtain ⟨m', cw'', news', hc', q', S'', hJ'⟩ := h₄
        exact fin acc nD s₄ (by walk_at "Q") ⟨m', cw'', news', hc', S'', hJ'⟩
      | true =>
        simp only [if_true] at h₄ ⊢
        refine wpAny_mono h₄ (fun y s₅ h₅ => ?_) fun _ _ e => e
        obtain ⟨m', cw'', news', hc', q', S'', hJ'⟩ := h₅
        have hl := hsz _ _ _ hJ
        refine r_append S'' (fun s₆ n₆ q₆ S₆ hs₆ => ?_) (by simp [sizeLine]; omega)
        refine fin (acc ++ [y]) n₆ s₆ (by walk_at "Q") ⟨m', cw'', news', hc', ?_, hJ'⟩
        rw [show (acc ++ [y]).toArray = acc.toArray.push y by simp]
        exact S₆
    · have hin : i = n := by omega
      subst hin
      refine W.done _ _ _ hst' fun h₁ tk₁ hk₁ => ?_
      have S'' := S'.front2
      have hIn := S''.nw _ (.head _)
      have nd := S''.nd
      rw [List.map_cons, List.nodup_cons] at nd
      have hs₁ : Heap.ExtBut I s'.heap h₁ := fun b o hb e => hk₁ b o (by simpa using hb) e
      have T : Sd g₁ C mC' ((D, lstO acc.toArray nD) :: (cw' ++ news₁)) h₁ :=
        ⟨S''.ns.extBut hs₁ (Ne.symm hIn.2.1), fun b o e => hs₁ b o (fun z => by rw [z, hIn.2.2] at e; cases e) (S''.up b o e), S''.off, fun p hp =>
          ⟨hs₁ p.1 p.2 (fun z => nd.1 (List.mem_map.mpr ⟨p, hp, z⟩)) (S''.nw p (.tail _ hp)).1, (S''.nw p (.tail _ hp)).2⟩, nd.2⟩
      refine ⟨mC', T.ns, fun h' hs' => ?_⟩
      have T' : Sd g L m ((D, lstO acc.toArray nD) :: news₁) h' := by
        have hCg : ∀ b o, g₁.get? b = some o → b ≠ C := fun b o e z => by rw [z, T.off] at e; cases e
        have hup : Up g₁ h' := fun b o e => (hs'.2 b (hCg b o e)).trans (T.up b o e)
        have sub : ((D, lstO acc.toArray nD) :: news₁).Sublist ((D, lstO acc.toArray nD) :: (cw' ++ news₁)) := (List.sublist_append_right _ _).cons₂ _
        refine ⟨hnL.keeps hup, Ug.trans hup, S.off, fun p hp => ?_, (sub.map _).nodup T.nd⟩
        have hp' := T.nw p (sub.subset hp)
        refine ⟨(hs'.2 p.1 hp'.2.1).trans hp'.1, fun e => ?_, noneUp Ug hp'.2.2⟩
        obtain ⟨oL, _, _, hL, _⟩ := hnL
        rw [e, hL] at hp'
        cases hp'.2.2
      exact done D nD acc news₁ { s' with heap := h', toks := tk₁ } (by walk_at "Q") T' hJ
  refine codeAny_compStart_list (loop _ (by walk_at "Q") rfl) (W.self 0 _ _ _ hst₄ (loop _ (by walk_at "Q") rfl))
end
section
variable {w : World} {A : Around} {E : Value → Shared → Prop} {s : Shared} {env : Env} {g : Heap} {L : Addr} {m : Str → Option Value} {news : List (Addr × Obj)} {elt target iter : Expr} {ifs : List Expr} {scope : Scope} {pos : Pos} {cl : List (Str × Addr)} {Q : Value → Shared → Prop}

/-- a comprehension from its source on -/
def CompFrom (w : World) (A : Around) (E : Value → Shared → Prop) (env : Env) (elt target iter : Expr) (ifs : List Expr) (scope : Scope) (pos : Pos) (cl : List (Str × Addr)) (Q : Value → Shared → Prop) (xv : Value) (s₁ : Shared) : Prop :=
  wpAny (model pw w) A (pyIter xv) (fun it s => wpAny (model pw w) A (newList []) (fun acc s₃ => wpAny (model pw w) A (newFunctionEnv scope env.globals cl [] env.qual none .none (some env)) (fun cenv s₄ =>
      codeAny (model pw w) A (.compStart (.ListComp elt [⟨target, iter, ifs, 0⟩] scope pos) 0 it acc { cenv with scope := relabel scope env }) (compPost (model pw w) A E none Q acc cenv.locals) s₄) E s₃) E s) E s₁

theorem r_comp (cl : List (Str × Addr)) (hclos : closureFor scope env = pure cl) (hkind : scope.kind = .function) (hnames : ∀ x ∈ scope.names, x.2 = .local → scope.names.lookup x.1 = some .local) (hs : ∀ x, foldedSetIterable iter env x = pure x)
    (h : wpAny (model pw w) A (eval iter env) (CompFrom w A E env elt target iter ifs scope pos cl Q) E s) :
    wpAny (model pw w) A (eval (.ListComp elt [⟨target, iter, ifs, 0⟩] scope pos) env) Q E s := by
  rw [eval_ListComp]
  exact wpAny_comprehension_free (use := none) rfl hs hclos hkind hnames h

/-- a turn's obligation -/
def CTurn (w : World) (A : Around) (env : Env) (elt target : Expr) (ifs : List Expr) (scope : Scope) (cl : List (Str × Addr)) (cx : Option Str) (g₁ : Heap) (C D I : Addr) (nD : Nat) (oI : Obj) (acc : List Value) (J : List Value → List (Addr × Obj) → Prop) (v : Value) (s₁ : Shared) : Prop :=
  wpAny (model pw w) A (letOwnedTupleGo target (.ref I) v) (fun _ s₂ => wpAny (model pw w) A (assign target (compEnvD scope (clX cx (C + 1) cl) C env) v) (fun _ s₃ =>
    wpAny (model pw w) A (forIn ifs true fun c r => if r = true then do let ok ← isTrue c (compEnvD scope (clX cx (C + 1) cl) C env) (eval c (compEnvD scope (clX cx (C + 1) cl) C env)); pure (ForInStep.yield ok) else pure (ForInStep.yield r)) (fun ok s₄ =>
      if ok = true then wpAny (model pw w) A (eval elt (compEnvD scope (clX cx (C + 1) cl) C env)) (fun y s₅ => CNext s₁ g₁ C D I nD oI cx acc J (acc ++ [y]) s₅) (fun _ _ => False) s₄
      else CNext s₁ g₁ C D I nD oI cx acc J acc s₄) (fun _ _ => False) s₃) (fun _ _ => False) s₂) (fun _ _ => False) s₁

theorem cf_list {l : Addr} {vs : Array Value} (cx : Option Str) (hcf : ∀ n, cellsFrom n scope.names cl = clX cx n cl) (hpc : ∀ h, pushCells h scope.names = puX cx h) (hh : A.handled = none) (S : Sd g L m news s.heap) (hl : g.IsList l vs)
    (J : Nat → List Value → List (Addr × Obj) → Prop) (h0 : J 0 [] news) (hsz : ∀ i acc news, J i acc news → acc.length ≤ i) (hn : vs.size ≤ 100000)
    (step : ∀ g₁ C D I nD i v mC acc cw news₁ s₁ oI, Up g g₁ → g₁.Ns L m → i < vs.size → vs[i]? = some v → s₁.heap.IsListIter I l (i + 1) → J i acc news₁ → CW cx C cw → Same s s₁ → Sd g₁ C mC ((D, lstO acc.toArray nD) :: (I, oI) :: (cw ++ news₁)) s₁.heap →
      CTurn w A env elt target ifs scope cl cx g₁ C D I nD oI acc (J (i + 1)) v s₁)
    (done : ∀ D nD acc news' s', Same s s' → Sd g L m ((D, lstO acc.toArray nD) :: news') s'.heap → J vs.size acc news' → Q (.ref D) s') :
    CompFrom w A E env elt target iter ifs scope pos cl Q (.ref l) s := by
  have hls : s.heap.IsList l vs := hl.at fun o e => S.up _ _ e
  obtain ⟨ol, hol, _⟩ := id hl
  have hne : l ≠ s.heap.objs.size := Nat.ne_of_lt (Heap.lt_size (S.up _ _ hol))
  refine wpAny_pyIter_list hls ?_
  refine comp_core (s := { s with heap := _ }) (oI := _) cx hcf hpc (Walks.list hh _ l hne vs) (fun i h st => let ⟨o, e, _⟩ := st.1; ⟨o, e⟩) ⟨⟨_, Heap.get?_push_size _ rfl, rfl, rfl⟩, hls.push _⟩ (S.push _ rfl) (fun b hb => ?_) J h0 hsz hn
    (fun g₁ C D nD i v mC acc cw news₁ s₁ oI a b c d e f q st z => step g₁ C D _ nD i v mC acc cw news₁ s₁ oI a b c d st.1 e f ⟨q.1, q.2⟩ z) fun D nD acc news' s' q b c => done D nD acc news' s' ⟨q.1, q.2⟩ b c
  simp only [List.mem_cons, List.not_mem_nil, or_false] at hb
  rcases hb with rfl | rfl
  · exact .inl rfl
  · exact .inr ⟨ol, hol⟩

theorem rangeSize_nat (n : Nat) : Builtin.Range.rangeSize 0 n 1 = n := by
  unfold Builtin.Range.rangeSize
  rw [if_pos (by omega)]
  split
  · rw [Int.ediv_one]; omega
  · omega

theorem cf_range {r : Addr} {n : Nat} {t u v : Tok} (cx : Option Str) (hcf : ∀ n, cellsFrom n scope.names cl = clX cx n cl) (hpc : ∀ h, pushCells h scope.names = puX cx h) (hh : A.handled = none) (S : Sd g L m news s.heap) (hr : IsRange s.heap r 0 n 1 t u v)
    (J : Nat → List Value → List (Addr × Obj) → Prop) (h0 : J 0 [] news) (hsz : ∀ i acc news, J i acc news → acc.length ≤ i) (hn : n ≤ 1000) (hsm : Builtin.Range.small 0 n 1 = true)
    (step : ∀ g₁ C D I nD i v mC acc cw news₁ s₁ oI, Up g g₁ → g₁.Ns L m → i < n → (∃ t, v = .int (i : Int) t) → J i acc news₁ → CW cx C cw → Same s s₁ → Sd g₁ C mC ((D, lstO acc.toArray nD) :: (I, oI) :: (cw ++ news₁)) s₁.heap →
      CTurn w A env elt target ifs scope cl cx g₁ C D I nD oI acc (J (i + 1)) v s₁)
    (done : ∀ D nD acc news' s', Same s s' → Sd g L m ((D, lstO acc.toArray nD) :: news') s'.heap → J n acc news' → Q (.ref D) s') :
    CompFrom w A E env elt target iter ifs scope pos cl Q (.ref r) s := by
  refine wpAny_pyIter_range hr hsm ?_
  rw [rangeSize_nat]
  refine comp_core (s := { s with heap := _ }) (oI := _) cx hcf hpc (Walks.range hh _ 0 1 n) (fun i h st => ⟨_, st⟩) (by
      have e := Heap.get?_push_size s.heap (o := { cls := .type "range_iterator", data := .fields #[rawInt 0, rawInt (n : Int), rawInt 1] }) rfl
      show IsRangeIter _ _ (0 + ((0 : Nat) : Int) * 1) ((n : Int) - ((0 : Nat) : Int)) 1
      rw [show (0 : Int) + ((0 : Nat) : Int) * 1 = 0 by simp, show (n : Int) - ((0 : Nat) : Int) = n by simp]
      exact e) (S.push _ rfl) (fun b hb => .inl (by simpa using hb)) J h0 hsz (by omega)
    (fun g₁ C D nD i v mC acc cw news₁ s₁ oI a b c d e f q st z => step g₁ C D _ nD i v mC acc cw news₁ s₁ oI a b c (by obtain ⟨t, e⟩ := d; exact ⟨t, by rw [e]; simp⟩) e f ⟨q.1, q.2⟩ z) fun D nD acc news' s' q b c => done D nD acc news' s' ⟨q.1, q.2⟩ b c
end
section
variable {w : World} {A : Around} {E : Value → Shared → Prop} {s : Shared} {env : Env}
theorem up_of_new {h h' : Heap} (x : Heap.ExtBut h.objs.size h h') : Up h h' := fun b o e => x b o (Nat.ne_of_lt (Heap.lt_size e)) e
theorem r_assign2 {e1 e2 : PySem.Expr} {k : Nat} {tpos : Pos} {t : Addr} {a b : Value} {Q : Unit → Shared → Prop} (hh : A.handled = none) (ht : s.heap.IsTuple t #[a, b])
    (h : ∀ s', Same s s' → Up s.heap s'.heap → wpAny (model pw w) A (assign e1 env a) (fun _ s₂ => wpAny (model pw w) A (assign e2 env b) Q E s₂) E s')
    (ha : assignEach [e1, e2] env = [(false, assign e1 env), (false, assign e2 env)]) :
    wpAny (model pw w) A (assign (.Tuple [e1, e2] k tpos) env (.ref t)) Q E s := by
  refine wpAny_assign_Tuple hh ht (by rw [ha]; rfl) (by rw [ha]; rfl) fun h' hx => ?_
  rw [ha]
  exact wpAny_assignInOrder_more (wpAny_mono (h { s with heap := h' } ⟨rfl, rfl⟩ (up_of_new hx)) (fun _ s₂ h₂ => wpAny_assignInOrder_more (wpAny_mono h₂ (fun _ s₃ h₃ => wpAny_assignInOrder_none h₃) fun _ _ e => e)) fun _ _ e => e)
end

theorem cells3 {cm : Str → Option Value} {n1 n2 n3 : Str} {c1 c2 c3 : Addr} {cells : List (Addr × Obj)} (x : CellsAre cm [(n1, c1), (n2, c2), (n3, c3)] cells) :
    ∃ o1 o2 o3, cells = [(c1, o1), (c2, o2), (c3, o3)] ∧ o1.data = .cell (cm n1) ∧ o2.data = .cell (cm n2) ∧ o3.data = .cell (cm n3) := by
  cases x with | cons h r => obtain ⟨o2, o3, rfl, h2, h3⟩ := r.two; exact ⟨_, o2, o3, rfl, h, h2, h3⟩

theorem Sd.cells1 {g h : Heap} {L : Nat} {m : Str → Option Value} {wl : List (Addr × Obj)} {o1 : Obj} {h₀ : Heap} (S : Sd g L m wl h) (hL : ∀ a, L ≤ a → h₀.get? a = none ∧ g.get? a = none ∧ ∀ p ∈ wl, p.1 ≠ a)
    (e1 : h.get? (L + 1) = some o1) : Sd g L m ((L + 1, o1) :: wl) h :=
  S.cons e1 (show L + 1 ≠ L by omega) (hL _ (by omega)).2.1 (hL _ (by omega)).2.2
theorem Sd.cells2 {g h : Heap} {L : Nat} {m : Str → Option Value} {wl : List (Addr × Obj)} {o1 o2 : Obj} {h₀ : Heap} (S : Sd g L m wl h) (hL : ∀ a, L ≤ a → h₀.get? a = none ∧ g.get? a = none ∧ ∀ p ∈ wl, p.1 ≠ a)
    (e1 : h.get? (L + 1 + 1) = some o1) (e2 : h.get? (L + 1) = some o2) : Sd g L m ((L + 1 + 1, o1) :: (L + 1, o2) :: wl) h := by
  refine (S.cells1 hL e2).cons e1 (show L + 1 + 1 ≠ L by omega) (hL _ (by omega)).2.1 fun p hp => ?_
  rcases List.mem_cons.mp hp with rfl | hp
  · show L + 1 ≠ L + 1 + 1; omega
  · exact (hL _ (by omega)).2.2 p hp
theorem Sd.cells3 {g h : Heap} {L : Nat} {m : Str → Option Value} {wl : List (Addr × Obj)} {o1 o2 o3 : Obj} {h₀ : Heap} (S : Sd g L m wl h) (hL : ∀ a, L ≤ a → h₀.get? a = none ∧ g.get? a = none ∧ ∀ p ∈ wl, p.1 ≠ a)
    (e1 : h.get? (L + 1 + 1 + 1) = some o1) (e2 : h.get? (L + 1 + 1) = some o2) (e3 : h.get? (L + 1) = some o3) : Sd g L m ((L + 1 + 1 + 1, o1) :: (L + 1 + 1, o2) :: (L + 1, o3) :: wl) h := by
  refine (S.cells2 hL e2 e3).cons e1 (show L + 1 + 1 + 1 ≠ L by omega) (hL _ (by omega)).2.1 fun p hp => ?_
  rcases List.mem_cons.mp hp with rfl | hp
  · show L + 1 + 1 ≠ L + 1 + 1 + 1; omega
  · rcases List.mem_cons.mp hp with rfl | hp
    · show L + 1 ≠ L + 1 + 1 + 1; omega
    · exact (hL _ (by omega)).2.2 p hp

section
variable {g g' h h' : Heap} {L : Addr} {m : Str → Option Value}
theorem Sd.eff1 {d : Addr} {o o' : Obj} {rest : List (Addr × Obj)} (S : Sd g L m ((d, o) :: rest) h) (E : Eff [d] h h') (e : h'.get? d = some o') : Sd g L m ((d, o') :: rest) h' := by
  have D := S.nw (d, o) (.head _)
  have nd := S.nd
  rw [List.map_cons, List.nodup_cons] at nd
  have ex : ∀ b x, b ≠ d → h.get? b = some x → h'.get? b = some x := fun b x hb q => E.ext b x (by simpa using hb) q
  refine ⟨S.ns.extBut (fun b o hb q => ex b o hb q) (Ne.symm D.2.1), fun b x q => ex b x (fun z => by rw [z, D.2.2] at q; cases q) (S.up b x q), S.off, fun p hp => ?_, by rw [List.map_cons, List.nodup_cons]; exact nd⟩
  rcases List.mem_cons.mp hp with rfl | hp
  · exact ⟨e, D.2⟩
  · exact ⟨ex p.1 p.2 (fun z => nd.1 (List.mem_map.mpr ⟨p, hp, z⟩)) (S.nw p (.tail _ hp)).1, (S.nw p (.tail _ hp)).2⟩
theorem Sd.effW {wl wl' rest : List (Addr × Obj)} (S : Sd g L m (wl ++ rest) h) (E : Eff (wl.map (·.1)) h h') (em : wl'.map (·.1) = wl.map (·.1)) (ew : ∀ p ∈ wl', h'.get? p.1 = some p.2) (Gr : Grow g h g' h') : Sd g' L m (wl' ++ rest) h' := by
  obtain ⟨oL, es, ep, hL, r⟩ := S.ns
  have off : ∀ b o, h.get? b = some o → g.get? b = none → g'.get? b = none := fun b o e e' => by
    cases q : g'.get? b with
    | none => rfl
    | some x =>
      rcases Gr.fresh b x q with ⟨_, z⟩ | z
      · rw [e'] at z; cases z
      · rw [e] at z; cases z
  have nd := S.nd
  rw [List.map_append] at nd
  have dj := (List.nodup_append.mp nd).2.2
  have hLW : L ∉ wl.map (·.1) := fun hm => by
    obtain ⟨p, hp, e⟩ := List.mem_map.mp hm
    exact (S.nw p (List.mem_append_left _ hp)).2.1 e
  refine ⟨⟨oL, es, ep, E.ext L oL hLW hL, r⟩, Gr.up, off L oL hL S.off, fun p hp => ?_, by rw [List.map_append, em]; exact nd⟩
  rcases List.mem_append.mp hp with hp | hp
  · have : p.1 ∈ wl.map (·.1) := em ▸ List.mem_map_of_mem hp
    obtain ⟨q, hq, e⟩ := List.mem_map.mp this
    have hq' := S.nw q (List.mem_append_left _ hq)
    exact ⟨ew p hp, e ▸ hq'.2.1, e ▸ off _ _ hq'.1 hq'.2.2⟩
  · have hp' := S.nw p (List.mem_append_right _ hp)
    exact ⟨E.ext _ _ (fun hm => dj _ hm _ (List.mem_map_of_mem hp) rfl) hp'.1, hp'.2.1, off _ _ hp'.1 hp'.2.2⟩
end

/-- a literal: its number, its truths -/
def litN (k : Nat) (b : Bool) : Int := if b then 8 + k else 3 + k
def litT (k : Nat) (b : Bool) : List Bool := (List.range 32).map fun w => (w / 2 ^ k % 2 == 1) != b
def BoolL (h : Heap) (l : Addr) (bs : List Bool) : Prop := h.IsList l (bs.map Value.bool).toArray
/-- a pair of a number and truths -/
def PairAt (h : Heap) (v : Value) (x : Int × List Bool) : Prop := ∃ a tk r, v = .ref a ∧ h.IsTuple a #[.int x.1 tk, .ref r] ∧ BoolL h r x.2
theorem BoolL.up {h h' : Heap} {l : Addr} {bs : List Bool} (x : BoolL h l bs) (U : Up h h') : BoolL h' l bs := Heap.IsList.at x fun o e => U _ _ e
theorem tup_up {h h' : Heap} {a : Addr} {vs : Array Value} (x : h.IsTuple a vs) (U : Up h h') : h'.IsTuple a vs := x.at fun o e => U _ _ e
theorem PairAt.up {h h' : Heap} {v : Value} {x : Int × List Bool} (p : PairAt h v x) (U : Up h h') : PairAt h' v x := let ⟨a, tk, r, e, t, b⟩ := p; ⟨a, tk, r, e, tup_up t U, b.up U⟩
theorem paired_up {α : Type} {h h' : Heap} {R : Heap → Value → α → Prop} (hR : ∀ v x, R h v x → R h' v x) {vs : List Value} {xs : List α} (p : Paired (R h) vs xs) : Paired (R h') vs xs := by
  induction p with
  | nil => exact .nil
  | cons a _ ih => exact .cons (hR _ _ a) ih
/-- a list of pairs -/
def RowL (h : Heap) (l : Addr) (xs : List (Int × List Bool)) : Prop := ∃ vs, h.IsList l vs.toArray ∧ Paired (PairAt h) vs xs
theorem RowL.up {h h' : Heap} {l : Addr} {xs : List (Int × List Bool)} (x : RowL h l xs) (U : Up h h') : RowL h' l xs := let ⟨vs, a, b⟩ := x; ⟨vs, a.at fun o e => U _ _ e, paired_up (fun _ _ p => p.up U) b⟩
/-- the pool -/
def PoolL (h : Heap) (l : Addr) : Prop := ∃ a0 a1 a2 a3 a4 : Addr, h.IsList l #[.ref a0, .ref a1, .ref a2, .ref a3, .ref a4] ∧ ∀ (k : Nat) (a : Addr), [a0, a1, a2, a3, a4][k]? = some a → RowL h a [(litN k false, litT k false), (litN k true, litT k true)]
theorem PoolL.up {h h' : Heap} {l : Addr} (x : PoolL h l) (U : Up h h') : PoolL h' l := let ⟨a0, a1, a2, a3, a4, a, b⟩ := x; ⟨a0, a1, a2, a3, a4, a.at fun o e => U _ _ e, fun k a e => (b k a e).up U⟩
/-- a literal of the pool -/
abbrev Lit := Nat × Bool
def litP (l : Lit) : Int × List Bool := (litN l.1 l.2, litT l.1 l.2)

theorem PoolL.get {h : Heap} {l : Addr} (x : PoolL h l) {j : Nat} (hj : j < 5) : ∃ (vs : Array Value) (a : Addr), h.IsList l vs ∧ vs[j]? = some (.ref a) ∧ ∀ b : Bool, ∃ (vs' : Array Value) (v : Value), h.IsList a vs' ∧ vs'[b.toNat]? = some v ∧ PairAt h v (litP (j, b)) := by
  obtain ⟨a0, a1, a2, a3, a4, hl, hr⟩ := x
  have fin : ∀ a, [a0, a1, a2, a3, a4][j]? = some a → ∀ b : Bool, ∃ (vs' : Array Value) (v : Value), h.IsList a vs' ∧ vs'[b.toNat]? = some v ∧ PairAt h v (litP (j, b)) := fun a e b => by
    obtain ⟨vs', hl', hp⟩ := hr j a e
    cases hp with
    | cons p0 r =>
      cases r with
      | cons p1 r =>
        cases r
        cases b
        · exact ⟨_, _, hl', rfl, p0⟩
        · exact ⟨_, _, hl', rfl, p1⟩
  have : j = 0 ∨ j = 1 ∨ j = 2 ∨ j = 3 ∨ j = 4 := by omega
  rcases this with rfl | rfl | rfl | rfl | rfl
  · exact ⟨_, a0, hl, rfl, fin a0 rfl⟩
  · exact ⟨_, a1, hl, rfl, fin a1 rfl⟩
  · exact ⟨_, a2, hl, rfl, fin a2 rfl⟩
  · exact ⟨_, a3, hl, rfl, fin a3 rfl⟩
  · exact ⟨_, a4, hl, rfl, fin a4 rfl⟩

/-- lists of literals that a row may be: apart from each other, few -/
def IsRow (R : List Lit) : Prop := 2 ≤ R.length ∧ R.length ≤ 4 ∧ (R.map (·.1)).Nodup ∧ ∀ l ∈ R, l.1 < 5

theorem row_of {R : List Lit} {F : Nat} (h2 : 2 ≤ R.length) (h4 : R.length ≤ 4) (h : ∀ (j : Nat) (l : Lit), R[j]? = some l → l.1 = (F + j) % 5) : IsRow R := by
  refine ⟨h2, h4, ?_, fun l hl => ?_⟩
  · rw [List.Nodup, List.pairwise_iff_getElem]
    intro i j hi hj hij e
    simp only [List.length_map] at hi hj
    simp only [List.getElem_map] at e
    have e1 := h i _ (List.getElem?_eq_getElem hi)
    have e2 := h j _ (List.getElem?_eq_getElem hj)
    omega
  · obtain ⟨j, hj⟩ := List.mem_iff_getElem?.mp hl
    have := h j l hj
    omega

structure RowS (w : World) (g : Heap) (cl tp : Addr) (k : Int) (F i : Nat) (acc : List Value) (news : List (Addr × Obj)) (o : Obj) (k' : Int) (row : List Lit) : Prop where
  e : news = [(tp, o)]
  hT : TapeO w cl k' o
  k1 : k + 2 ≤ k'
  k2 : k' ≤ k + 2 + i
  hp : Paired (PairAt g) acc (row.map litP)
  hl : row.length = i
  ha : acc.length = i
  hr : ∀ (j : Nat) (l : Lit), row[j]? = some l → l.1 = (F + j) % 5
theorem c_row {w : World} {A : Around} {s : Shared} {g : Heap} {R : Result → Shared → Prop} {n : Nat} {tp cl pl : Addr} {ot : Obj} {k : Int} {cs : List Int}
    (G : Gnd w g) (U : Up g s.heap) (hT : TapeO w cl k ot) (ht : s.heap.get? tp = some ot) (hg : g.get? tp = none) (hc : IntL g cl cs) (hcs : cs.length ≤ 1000) (hk0 : 0 ≤ k) (hk : k ≤ 900000) (hp : PoolL g pl) (r : Rm A (n + 2))
    (h : ∀ s' l o' row k', Same s s' → Eff [tp] s.heap s'.heap → s'.heap.get? tp = some o' → TapeO w cl k' o' → k ≤ k' → k' ≤ k + 6 → s.heap.get? l = none → (∃ vs n, s'.heap.get? l = some (lstO (List.toArray vs) n) ∧ Paired (PairAt g) vs (row.map litP)) → IsRow row → R (.ok (.ret (.ref l))) s') :
    codeAny (model pw w) A (.call (.ref 782) ⟨[.ref tp, .ref pl], []⟩) R s := by
  have Ug := gmax_le (wl := [(tp, ot)]) U fun p hp => by rw [List.mem_singleton.mp hp]; exact hg
  replace G := G.up Ug
  refine' call1 (g := gmax s.heap [(tp, ot)]) (wl := [(tp, ot)]) (binds := [("tape", .ref tp), ("pool", .ref pl)]) G (gmax_up _ _) (fun p hp => ⟨by rw [List.mem_singleton.mp hp]; exact ht, gmax_none hp⟩) (by simp) r (by k_is) (by k_is)
    (by exact BindsTo.of_eq rfl) (by exact rfl) (by decide +kernel) ?_ (by exact rfl) (by exact rfl) (by exact rfl)
  intro A' L s₁ cells q r' S U₁ hL hcells hC
  have hC' : CellsAre _ [(Str.ofString "first", L + 1 + 1 + 1), (Str.ofString "pool", L + 1 + 1), (Str.ofString "tape", L + 1)] cells := hC
  obtain ⟨o1, o2, o3, rfl, d1, d2, d3⟩ := cells3 hC'
  replace d2 : o2.data = .cell (some (.ref pl)) := d2
  replace d3 : o3.data = .cell (some (.ref tp)) := d3
  have S₁ := Sd.cells3 S hL (hcells (L + 1 + 1 + 1, o1) (by simp)) (hcells (L + 1 + 1, o2) (by simp)) (hcells (L + 1, o3) (by simp))
  clear S hC hC' hcells
  obtain ⟨g₁, Ug₁, c2, S₂, dm₁⟩ := S₁.front2.root
  obtain ⟨g₂, Ug₂, c3, S₃, dm₂⟩ := S₂.front2.root
  clear S₁ S₂
  replace G := (G.up Ug₁).up Ug₂
  k_unmd
  walk_at "S"
  first | refine Assign_Tuple ?_ | refine Assign_Tuple_swapped ?_
  walk_at "W"
  refine callWith_K (Gnd.K G) (by k_is) ?_ (by exact rfl) (by exact rfl)
  walk_at "S"
  refine r_cell (S₃.up _ _ c3) d3 ?_ (by exact rfl) (by exact rfl) (by exact rfl) (by decide)
  walk_at "W"
  refine ⟨Frag.In.keeps (Gnd.K G) S₃.up, wpAny_call ?_⟩
  have Ugg := Ug.trans (Ug₁.trans Ug₂)
  replace S₃ := S₃.front2
  refine c_draw (n := n) G S₃.up hT (S₃.get (.head _)) (S₃.nw _ (.head _)).2.2 (hc.up Ugg) hcs hk0 (by omega) (by decide) (r'.less (by omega)) fun s₄ dd dt o₄ q₄ E₄ e₄ T₄ hd0 hd1 => ?_
  have S₄ := S₃.eff1 E₄ e₄
  clear S₃
  dsimp only
  walk_at "W"
  refine callWith_K (Gnd.K G) (by k_is) ?_ (by exact rfl) (by exact rfl)
  walk_at "S"
  refine r_cell (S₄.up _ _ c3) d3 ?_ (by exact rfl) (by exact rfl) (by exact rfl) (by decide)
  walk_at "W"
  refine ⟨Frag.In.keeps (Gnd.K G) S₄.up, wpAny_call ?_⟩
  refine c_draw (n := n) G S₄.up T₄ (S₄.get (.head _)) (S₄.nw _ (.head _)).2.2 (hc.up Ugg) hcs (by omega) (by omega) (by decide) (r'.less (by omega)) fun s₅ ff ft o₅ q₅ E₅ e₅ T₅ hf0 hf1 => ?_
  have S₅ := S₄.eff1 E₅ e₅
  clear S₄
  dsimp only
  walk_at "W"
  refine r_tuple (fun s₆ a₆ q₆ fa₆ U₆ e₆ => ?_) (by exact (by decide : 2 ≤ sizeLine))
  have S₆ := S₅.grown U₆
  refine r_assign2 r'.handled (a := .int (2 + dd) _) (b := .int ff ft) ⟨_, e₆, rfl, _, rfl⟩ (fun s₇ q₇ U₇ => ?_) (by exact rfl)
  have S₇ := S₆.grown U₇
  clear S₅ S₆
  refine wpAny_assign_Name (r_st S₇ (fun s₈ q₈ S₈ hs₈ => ?_) (by exact rfl) (by exact rfl) (by exact rfl))
  refine wpAny_assign_Name (r_stC S₈.front2 d1 (fun s₉ o₉ q₉ S₉ d₉ hs₉ => ?_) (by exact rfl) (by exact rfl) (by exact rfl))
  clear S₇ S₈
  obtain ⟨g₃, Ug₃, c1, S₁₀, dm₃⟩ := S₉.root
  clear S₉
  replace G := G.up Ug₃
  replace c2 := Ug₃ _ _ (Ug₂ _ _ c2)
  replace c3 := Ug₃ _ _ c3
  walk_at "S"; walk_at "S"
  refine r_comp [(Str.ofString "tape", L + 1), (Str.ofString "pool", L + 1 + 1), (Str.ofString "first", L + 1 + 1 + 1)] (by with_unfolding_all rfl) (by exact rfl) (by decide) (by intro _; rfl) ?_
  walk_at "W"
  obtain ⟨N, hN⟩ : ∃ N : Nat, 2 + dd = N := ⟨(2 + dd).toNat, by omega⟩
  rw [hN]
  refine call_range_1 ?_
  have S₁₁ := S₁₀.grown (Up.push s₉.heap { cls := .type "range", data := .fields #[.int 0 s₉.toks, .int N s₄.toks, .int 1 (s₉.toks + 1)] })
  clear S₁₀
  obtain ⟨F, hF⟩ : ∃ F : Nat, ff = F := ⟨ff.toNat, by omega⟩
  subst hF
  refine cf_range none (by intro _; rfl) (by intro _; rfl) r'.handled S₁₁ (IsRange.new _ _ _ _ _ _ _) (fun i acc news => ∃ o k' row, RowS w g cl tp k F i acc news o k' row)
    ⟨o₅, k + 1 + 1, [], rfl, T₅, by omega, by simp; omega, .nil, rfl, rfl, fun j l e => by simp at e⟩ (fun i acc news ⟨_, _, _, _, _, _, _, _, _, e, _⟩ => by omega) (by omega) ?_ ?_ ?_
  · have : N = 2 ∨ N = 3 ∨ N = 4 := by omega
    rcases this with rfl | rfl | rfl <;> decide
  · rintro g₄ C D I nD i v mC acc cw news₁ s₁₂ oI Ug₄ hnL hi ⟨tv, rfl⟩ ⟨ot', k', row, rfl, T', hk1, hk2, hpa, hrl, hal, hrow⟩ rfl q₁₂ S₁₂
    unfold CTurn
    refine wpAny_pure ?_
    refine wpAny_assign_Name (r_st S₁₂ (fun s₁₃ q₁₃ S₁₃ hs₁₃ => ?_) (by exact rfl) (by exact rfl) (by exact rfl))
    refine wpAny_tests_nil ?_
    rw [if_pos rfl]
    clear S₁₂
    replace G := G.up Ug₄
    walk_at "W"
    refine r_cell (S₁₃.up _ _ (Ug₄ _ _ c2)) d2 ?_ (by exact rfl) (by exact rfl) (by exact rfl) (by decide)
    walk_at "W"
    refine r_cell (S₁₃.up _ _ (Ug₄ _ _ c1)) d₉ ?_ (by exact rfl) (by exact rfl) (by exact rfl) (by decide)
    walk_at "W"
    refine mod_int' (by decide) ?_
    rw [show Int.fmod ((F : Int) + (i : Int)) 5 = (((F + i) % 5 : Nat) : Int) by rw [Int.fmod_eq_emod_of_nonneg _ (by decide)]; omega]
    obtain ⟨pvs, pa, hpl, hpv, hpb⟩ := hp.get (j := (F + i) % 5) (by omega)
    refine item_list (hpl.at fun o e => S₁₃.up _ _ (Ug₄ _ _ (Ug₃ _ _ (Ugg _ _ e)))) (by omega) (by omega) (by rw [Int.toNat_natCast]; exact hpv) ?_ (by with_unfolding_all rfl)
    walk_at "W"
    refine callWith_K (Gnd.K G) (by k_is) ?_ (by exact rfl) (by exact rfl)
    walk_at "S"
    refine r_cell (S₁₃.up _ _ (Ug₄ _ _ c3)) d3 ?_ (by exact rfl) (by exact rfl) (by exact rfl) (by decide)
    walk_at "W"
    refine ⟨Frag.In.keeps (Gnd.K G) S₁₃.up, wpAny_call ?_⟩
    have S₁₄ := S₁₃.front3
    clear S₁₃
    refine c_draw (n := n) G S₁₄.up T' (S₁₄.get (.head _)) (S₁₄.nw _ (.head _)).2.2 (hc.up (Ugg.trans (Ug₃.trans Ug₄))) hcs (by omega) (by omega) (by decide) (r'.less (by omega)) fun s₁₅ ee et o₁₅ q₁₅ E₁₅ e₁₅ T₁₅ he0 he1 => ?_
    have S₁₅ := S₁₄.eff1 E₁₅ e₁₅
    clear S₁₄
    dsimp only
    walk_at "W"
    obtain ⟨bvs, bv, hbl, hbv, hbp⟩ := hpb (ee == 1)
    have hee : (ee == 1).toNat = ee.toNat := by
      have : ee = 0 ∨ ee = 1 := by omega
      rcases this with rfl | rfl <;> rfl
    rw [hee] at hbv
    refine item_list (hbl.at fun o e => S₁₅.up _ _ (Ug₄ _ _ (Ug₃ _ _ (Ugg _ _ e)))) he0 (by omega) hbv ?_ (by with_unfolding_all rfl)
    refine ⟨_, [], [(tp, o₁₅)], rfl, by walk_at "Q", S₁₅.front3.front3, o₁₅, _, row ++ [((F + i) % 5, ee == 1)], rfl, T₁₅, by omega, by omega, ?_, by simp [hrl], by simp [hal], fun j l e => ?_⟩
    · rw [List.map_append]
      exact hpa.snoc hbp
    · rcases Nat.lt_trichotomy j row.length with hj | hj | hj
      · rw [List.getElem?_append_left hj] at e
        exact hrow j l e
      · subst hj
        rw [List.getElem?_append_right (Nat.le_refl _)] at e
        simp at e
        subst e
        rw [hrl]
      · rw [List.getElem?_eq_none (by simp; omega)] at e; cases e
  · rintro D nD acc news' s₁₂ q₁₂ S₁₂ ⟨ot', k', row, rfl, T', hk1, hk2, hpa, hrl, hal, hrow⟩
    have Um : Up (gmax s.heap [(tp, ot)]) g₃ := Ug₁.trans (Ug₂.trans Ug₃)
    refine h s₁₂ D ot' row k' (by walk_at "Q") (eff_of (Um.trans S₁₂.up) fun p hp => by rw [List.mem_singleton.mp hp]; exact ⟨_, S₁₂.get (.tail _ (.head _))⟩) (S₁₂.get (.tail _ (.head _))) T' (by omega) (by omega) ?_ ⟨acc, _, S₁₂.get (.head _), hpa⟩ (row_of (by omega) (by omega) hrow)
    have nd := S₁₂.nd
    cases e : s.heap.get? D with
    | none => rfl
    | some o =>
      have := Um _ _ (gmax_get (wl := [(tp, ot)]) e (by simp at nd ⊢; exact nd))
      rw [(S₁₂.nw _ (.head _)).2.2] at this; cases this
section
variable {w : World} {A : Around} {E : Value → Shared → Prop} {s : Shared} {env : Env} {g : Heap} {L : Addr} {m : Str → Option Value} {news : List (Addr × Obj)} {x : Str} {px : Pos} {body : List Stmt}
theorem r_for_range {Q : Flow → Shared → Prop} {r : Addr} {n : Nat} {t u v : Tok} (hh : A.handled = none) (S : Sd g L m news s.heap) (hr : IsRange s.heap r 0 n 1 t u v) (hsm : Builtin.Range.small 0 n 1 = true)
    (J : Nat → Heap → (Str → Option Value) → List (Addr × Obj) → Prop) (h0 : J 0 g m news)
    (hx : env.kindOf x = some .local) (hL : env.locals = L) (hp : (env.scope.kind == .class || (env.scope.kind == .module && env.locals != env.globals)) = false)
    (step : ∀ I i v g₁ m₁ news₁ s₁ oI, i < n → (∃ t, v = .int (i : Int) t) → J i g₁ m₁ news₁ → Up g g₁ → Same s s₁ → Sd g₁ L (fun y => if y = x then some v else m₁ y) ((I, oI) :: news₁) s₁.heap →
      wpAny (model pw w) A (execs body env) (fun fl s₂ => (fl = .next ∨ fl = .cont) ∧ ∃ g₂ m₂ news₂, Up g₁ g₂ ∧ Same s₁ s₂ ∧ Sd g₂ L m₂ ((I, oI) :: news₂) s₂.heap ∧ J (i + 1) g₂ m₂ news₂) (fun _ _ => False) s₁)
    (done : ∀ g₁ m₁ news₁ s₁, Same s s₁ → Up g g₁ → Sd g₁ L m₁ news₁ s₁.heap → J n g₁ m₁ news₁ → Q .next s₁) :
    wpAny (model pw w) A (pyIter (.ref r)) (fun it s₂ => codeAny (model pw w) A (.forLoop (.Name x px) it body [] env) (fun r s' => match r with | .ok f => Q f s' | .error e => cameBackBy (model pw w) A env E e s') s₂) E s := by
  refine wpAny_pyIter_range hr hsm ?_
  rw [rangeSize_nat]
  refine r_loop (s := { s with heap := _ }) (Walks.range hh _ 0 1 n) (fun i h st => ⟨_, st⟩) (by
      have e := Heap.get?_push_size s.heap (o := { cls := .type "range_iterator", data := .fields #[rawInt 0, rawInt (n : Int), rawInt 1] }) rfl
      show IsRangeIter _ _ (0 + ((0 : Nat) : Int) * 1) ((n : Int) - ((0 : Nat) : Int)) 1
      rw [show (0 : Int) + ((0 : Nat) : Int) * 1 = 0 by simp, show (n : Int) - ((0 : Nat) : Int) = n by simp]
      exact e) (S.push _ rfl) (fun b hb => .inl (by simpa using hb)) J h0 hx hL hp
    (fun i v g₁ m₁ news₁ s₁ oI a b c d q f => step _ i v g₁ m₁ news₁ s₁ oI a (by obtain ⟨t, e⟩ := b; exact ⟨t, by rw [e]; simp⟩) c d ⟨q.1, q.2⟩ f) fun g₁ m₁ news₁ s₁ q b c d => done g₁ m₁ news₁ s₁ ⟨q.1, q.2⟩ b c d
theorem r_swap2 {n1 n2 : Str} {t : Addr} {a b : Value} {Q : Unit → Shared → Prop} (hh : A.handled = none) (ht : s.heap.IsTuple t #[a, b])
    (h : ∀ s', Same s s' → Up s.heap s'.heap → wpAny (model pw w) A (storeName env n2 b) (fun _ s₂ => wpAny (model pw w) A (storeName env n1 a) Q E s₂) E s') :
    wpAny (model pw w) A (unpackItems (.ref t) 2 none) (fun items s₂ => wpAny (model pw w) A (assignInOrder (([n1, n2] : List Str).reverse.map fun n => bindName env n) items.reverse) Q E s₂) E s := by
  have key : ∀ h', Heap.ExtBut s.heap.objs.size s.heap h' → wpAny (model pw w) A (assignInOrder [fun v => bindName env n2 v, fun v => bindName env n1 v] [b, a]) Q E { s with heap := h' } := fun h' hx => by
    refine wpAny_assignInOrder_more ?_
    refine wpAny_bindName ?_
    refine wpAny_mono (h { s with heap := h' } ⟨rfl, rfl⟩ (up_of_new hx)) (fun _ s₂ h₂ => ?_) fun _ _ e => e
    refine wpAny_assignInOrder_more ?_
    refine wpAny_bindName ?_
    exact wpAny_mono h₂ (fun _ s₃ h₃ => wpAny_assignInOrder_none h₃) fun _ _ e => e
  have e : (([n1, n2] : List Str).reverse.map fun n => bindName env n) = [fun v => bindName env n2 v, fun v => bindName env n1 v] := rfl
  rw [e]
  exact wpAny_unpackItems_tuple (items := #[a, b]) hh ht (fun h' hx => key h' hx)
end

/-- singles: apart from each other, few -/
def IsSingles (R : List Lit) : Prop := R.length ≤ 3 ∧ (R.map (·.1)).Nodup ∧ ∀ l ∈ R, l.1 < 5

structure SingS (w : World) (g : Heap) (cl tp tl fl pl : Addr) (k : Int) (i : Nat) (m : Str → Option Value) (news : List (Addr × Obj)) (o : Obj) (k' : Int) (row : List Lit) (fvs tvs : List Value) (nf nt : Nat) : Prop where
  e : news = [(tp, o), (tl, lstO (List.toArray tvs) nt), (fl, lstO (List.toArray fvs) nf)]
  hT : TapeO w cl k' o
  k1 : k + 1 ≤ k'
  k2 : k' ≤ k + 1 + 2 * i
  hp : Paired (PairAt g) fvs (row.map litP)
  hi : IntsAre tvs (row.map fun l => (l.1 : Int))
  hl : row.length ≤ i
  nd : (row.map (·.1)).Nodup
  h5 : ∀ l ∈ row, l.1 < 5
  m1 : m "found" = some (.ref fl)
  m2 : m "taken" = some (.ref tl)
  m3 : m "tape" = some (.ref tp)
  m4 : m "pool" = some (.ref pl)
theorem c_singles {w : World} {A : Around} {s : Shared} {g : Heap} {R : Result → Shared → Prop} {n : Nat} {tp cl pl : Addr} {ot : Obj} {k : Int} {cs : List Int}
    (G : Gnd w g) (U : Up g s.heap) (hT : TapeO w cl k ot) (ht : s.heap.get? tp = some ot) (hg : g.get? tp = none) (hc : IntL g cl cs) (hcs : cs.length ≤ 1000) (hk0 : 0 ≤ k) (hk : k ≤ 900000) (hp : PoolL g pl) (r : Rm A (n + 2))
    (h : ∀ s' l o' row k', Same s s' → Eff [tp] s.heap s'.heap → s'.heap.get? tp = some o' → TapeO w cl k' o' → k ≤ k' → k' ≤ k + 7 → s.heap.get? l = none → (∃ vs n, s'.heap.get? l = some (lstO (List.toArray vs) n) ∧ Paired (PairAt g) vs (row.map litP)) → IsSingles row → R (.ok (.ret (.ref l))) s') :
    codeAny (model pw w) A (.call (.ref 777) ⟨[.ref tp, .ref pl], []⟩) R s := by
  have Ug := gmax_le (wl := [(tp, ot)]) U fun p hp => by rw [List.mem_singleton.mp hp]; exact hg
  replace G := G.up Ug
  refine' call0 (g := gmax s.heap [(tp, ot)]) (wl := [(tp, ot)]) (binds := [("tape", .ref tp), ("pool", .ref pl)]) G (gmax_up _ _) (fun p hp => ⟨by rw [List.mem_singleton.mp hp]; exact ht, gmax_none hp⟩) (by simp) r (by k_is) (by k_is)
    (by exact BindsTo.of_eq rfl) (by exact locs rfl) ?_ (by exact rfl) (by exact rfl) (by exact rfl) (by decide)
  intro A' L s₁ q r' S U₁ fr
  k_unmd
  walk_at "S"
  refine Assign_Tuple_swapped (names := [Str.ofString "found", Str.ofString "taken"]) ?_
  walk_at "W"
  refine r_list (fun s₂ fl q₂ fa₂ U₂ e₂ => ?_) (by exact (by decide : 0 ≤ sizeLine))
  have S₂ := S.add fa₂ U₂ e₂
  clear S
  walk_at "W"
  refine r_list (fun s₃ tl q₃ fa₃ U₃ e₃ => ?_) (by exact (by decide : 0 ≤ sizeLine))
  have S₃ := S₂.add fa₃ U₃ e₃
  clear S₂
  walk_at "W"
  refine r_tuple (fun s₄ ta q₄ fa₄ U₄ e₄ => ?_) (by exact (by decide : 2 ≤ sizeLine))
  have S₄ := S₃.grown U₄
  clear S₃
  refine r_swap2 (n1 := Str.ofString "found") (n2 := Str.ofString "taken") r'.handled (a := .ref fl) (b := .ref tl) ⟨_, e₄, rfl, _, rfl⟩ fun s₅ q₅ U₅ => ?_
  have S₅ := S₄.grown U₅
  clear S₄
  refine r_st S₅ (fun s₆ q₆ S₆ hs₆ => ?_) (by exact rfl) (by exact rfl) (by exact rfl)
  refine r_st S₆ (fun s₇ q₇ S₇ hs₇ => ?_) (by exact rfl) (by exact rfl) (by exact rfl)
  clear S₅ S₆
  walk_at "S"
  refine wpAny_For ?_ (by intro _; rfl)
  walk_at "W"
  replace S₇ := S₇.front3
  walk_at "C"
  have Um := Ug
  refine c_draw (n := n) G S₇.up hT (S₇.get (.head _)) (S₇.nw _ (.head _)).2.2 (hc.up Um) hcs hk0 (by omega) (by decide) (r'.less (by omega)) fun s₈ dd dt o₈ q₈ E₈ e₈ T₈ hd0 hd1 => ?_
  have S₈ := S₇.eff1 E₈ e₈
  clear S₇
  dsimp only
  walk_at "W"
  obtain ⟨N, rfl⟩ : ∃ N : Nat, dd = N := ⟨dd.toNat, by omega⟩
  refine call_range_1 ?_
  have S₉ := S₈.grown (Up.push s₈.heap { cls := .type "range", data := .fields #[.int 0 s₈.toks, .int N dt, .int 1 (s₈.toks + 1)] })
  clear S₈
  refine r_for_range r'.handled S₉ (IsRange.new _ _ _ _ _ _ _) ?_ (fun i g₁ m news => ∃ o k' row fvs tvs nf nt, SingS w g cl tp tl fl pl k i m news o k' row fvs tvs nf nt)
    ⟨o₈, k + 1, [], [], [], _, _, rfl, T₈, by omega, by simp, .nil, .nil, by simp, by simp, by simp, rfl, rfl, rfl, rfl⟩ rfl rfl rfl ?_ ?_
  · have : N = 0 ∨ N = 1 ∨ N = 2 ∨ N = 3 := by omega
    rcases this with rfl | rfl | rfl | rfl <;> decide
  · rintro I i v g₁ m₁ news₁ s₁₀ oI hi ⟨tv, rfl⟩ ⟨o, k', row, fvs, tvs, nf, nt, rfl, T', hk1, hk2, hpa, hia, hrl, hnd, h5, m1, m2, m3, m4⟩ Ug₁ q₁₀ S₁₀
    replace G := G.up Ug₁
    replace Um := Um.trans Ug₁
    walk_at "S"
    refine Assign_Tuple_swapped (names := [Str.ofString "place", Str.ofString "sign"]) ?_
    walk_at "W"
    replace S₁₀ := S₁₀.front2
    walk_at "C"
    refine c_draw (n := n) G S₁₀.up T' (S₁₀.get (.head _)) (S₁₀.nw _ (.head _)).2.2 (hc.up Um) hcs (by omega) (by omega) (by decide) (r'.less (by omega)) fun s₁₁ pp pt o₁₁ q₁₁ E₁₁ e₁₁ T₁₁ hp0 hp1 => ?_
    have S₁₁ := S₁₀.eff1 E₁₁ e₁₁
    clear S₁₀
    dsimp only
    walk_at "W"
    walk_at "C"
    refine c_draw (n := n) G S₁₁.up T₁₁ (S₁₁.get (.head _)) (S₁₁.nw _ (.head _)).2.2 (hc.up Um) hcs (by omega) (by omega) (by decide) (r'.less (by omega)) fun s₁₂ gg gt o₁₂ q₁₂ E₁₂ e₁₂ T₁₂ hg0 hg1 => ?_
    have S₁₂ := S₁₁.eff1 E₁₂ e₁₂
    clear S₁₁
    dsimp only
    walk_at "W"
    refine r_tuple (fun s₁₃ ta₂ q₁₃ fa₁₃ U₁₃ e₁₃ => ?_) (by exact (by decide : 2 ≤ sizeLine))
    have S₁₃ := S₁₂.grown U₁₃
    clear S₁₂
    refine r_swap2 (n1 := Str.ofString "place") (n2 := Str.ofString "sign") r'.handled (a := .int pp pt) (b := .int gg gt) ⟨_, e₁₃, rfl, _, rfl⟩ fun s₁₄ q₁₄ U₁₄ => ?_
    have S₁₄ := S₁₃.grown U₁₄
    clear S₁₃
    refine r_st S₁₄ (fun s₁₅ q₁₅ S₁₅ hs₁₅ => ?_) (by exact rfl) (by exact rfl) (by exact rfl)
    refine r_st S₁₅ (fun s₁₆ q₁₆ S₁₆ hs₁₆ => ?_) (by exact rfl) (by exact rfl) (by exact rfl)
    clear S₁₄ S₁₅
    obtain ⟨P, rfl⟩ : ∃ P : Nat, pp = P := ⟨pp.toNat, by omega⟩
    walk_at "W"
    refine notin_list_ints (lst_is (S₁₆.get (a := tl) (o := lstO tvs.toArray nt) (by simp))) hia ?_
    walk_at "W"
    by_cases hin : ((row.map fun l => (l.1 : Int)).any (· == (P : Int))) = true
    · rw [hin, if_neg (by decide)]
      walk_at "W"
      exact ⟨.inl rfl, g₁, _, [(tp, o₁₂), (tl, lstO tvs.toArray nt), (fl, lstO fvs.toArray nf)], Up.refl _, by walk_at "Q", S₁₆.front2, o₁₂, _, row, fvs, tvs, nf, nt, rfl, T₁₂, by omega, by omega, hpa, hia, by omega, hnd, h5, m1, m2, m3, m4⟩
    · rw [Bool.not_eq_true] at hin
      rw [hin, if_pos (by decide)]
      have hlr : row.length ≤ 3 := by omega
      have hl1 := hia.length
      rw [List.length_map] at hl1
      walk_at "W"
      replace S₁₆ := S₁₆.front3
      refine m_append (S₁₆.get (.head _)) ?_
      walk_at "W"
      refine r_append S₁₆ (fun s₁₇ n₁₇ q₁₇ S₁₇ hs₁₇ => ?_) (by simp [sizeLine]; omega)
      clear S₁₆
      walk_at "W"
      replace S₁₇ := S₁₇.front4
      refine m_append (S₁₇.get (.head _)) ?_
      walk_at "W"
      obtain ⟨pvs, pa, hpl, hpv, hpb⟩ := hp.get (j := P) (by omega)
      refine item_list (hpl.at fun o e => S₁₇.up _ _ (Um _ _ e)) (by omega) (by omega) (by rw [Int.toNat_natCast]; exact hpv) ?_ (by with_unfolding_all rfl)
      walk_at "W"
      obtain ⟨bvs, bv, hbl, hbv, hbp⟩ := hpb (gg == 1)
      have hee : (gg == 1).toNat = gg.toNat := by
        have : gg = 0 ∨ gg = 1 := by omega
        rcases this with rfl | rfl <;> rfl
      rw [hee] at hbv
      refine item_list (hbl.at fun o e => S₁₇.up _ _ (Um _ _ e)) hg0 (by omega) hbv ?_ (by with_unfolding_all rfl)
      walk_at "W"
      have hl2 := hpa.length
      rw [List.length_map] at hl2
      refine r_append S₁₇ (fun s₁₈ n₁₈ q₁₈ S₁₈ hs₁₈ => ?_) (by simp [sizeLine]; omega)
      clear S₁₇
      walk_at "W"
      refine ⟨.inl rfl, g₁, (fun y => if y = Str.ofString "place" then some (Value.int (↑P) pt) else if y = Str.ofString "sign" then some (Value.int gg gt) else if y = Str.ofString "lap" then some (Value.int (↑i) tv) else m₁ y), [(tp, o₁₂), (tl, lstO (tvs ++ [Value.int P pt]).toArray n₁₇), (fl, lstO (fvs ++ [bv]).toArray n₁₈)], Up.refl _, by walk_at "Q", by simpa using (S₁₈.front4.front4.front2.front3.front2.perm (.cons _ (((List.Perm.swap _ _ _).trans (.cons _ (.swap _ _ _))))) : Sd _ _ _ _ _), o₁₂, _, row ++ [(P, gg == 1)], _, _, _, _, rfl, T₁₂, by omega, by omega, ?_, ?_, by simp; omega, ?_, ?_, m1, m2, m3, m4⟩
      · rw [List.map_append]
        exact hpa.snoc hbp
      · rw [List.map_append]
        exact IntsAre.append (ms := [(P : Int)]) hia (by first | exact IntsAre.cons _ _ IntsAre.nil | exact IntsAre.cons _ _ _ IntsAre.nil | (constructor; constructor))
      · rw [List.map_append, List.nodup_append]
        refine ⟨hnd, by simp, fun a ha b hb e => ?_⟩
        simp only [List.map_cons, List.map_nil, List.mem_singleton] at hb
        subst hb e
        rw [← Bool.not_eq_true] at hin
        refine hin (List.any_eq_true.mpr ?_)
        obtain ⟨x, hx, e⟩ := List.mem_map.mp ha
        exact ⟨(a : Int), List.mem_map.mpr ⟨x, hx, by rw [e]⟩, by simp⟩
      · intro l hl
        rcases List.mem_append.mp hl with hl | hl
        · exact h5 l hl
        · rw [List.mem_singleton.mp hl]; show P < 5; omega
  · rintro g₁ m₁ news₁ s₁₀ q₁₀ Ug₁ S₁₀ ⟨o, k', row, fvs, tvs, nf, nt, rfl, T', hk1, hk2, hpa, hia, hrl, hnd, h5, m1, m2, m3, m4⟩
    replace G := G.up Ug₁
    walk_at "W"
    have Um : Up (gmax s.heap [(tp, ot)]) g₁ := Ug₁
    refine h s₁₀ fl o row k' (by walk_at "Q") (eff_of (Um.trans S₁₀.up) fun p hp => by rw [List.mem_singleton.mp hp]; exact ⟨_, S₁₀.get (.head _)⟩) (S₁₀.get (.head _)) T' (by omega) (by omega) ?_ ⟨fvs, _, S₁₀.get (a := fl) (o := lstO fvs.toArray nf) (by simp), hpa⟩ ⟨by omega, hnd, h5⟩
    have nd := S₁₀.nd
    cases e : s.heap.get? fl with
    | none => rfl
    | some o =>
      have := Um _ _ (gmax_get (wl := [(tp, ot)]) e (by simp at nd ⊢; exact fun z => nd.1.2 z.symm))
      rw [(S₁₀.nw (fl, lstO fvs.toArray nf) (by simp)).2.2] at this; cases this
theorem refKey_str {e : DictEntry} {n : Str} (h : e.key.isStr n = true) : e.refKey = false := by
  obtain ⟨h1, k, v⟩ := e
  cases k <;> first | rfl | (simp [Value.isStr] at h)
theorem isStr_inj {v : Value} {a b : Str} (h : v.isStr a = true) : v.isStr b = (b == a) := by
  cases v with
  | str s t =>
    have e : s = a := eq_of_beq h
    subst e
    show (s == b) = (b == s)
    by_cases hb : s = b
    · subst hb; rfl
    · rw [beq_eq_false_iff_ne.mpr hb, beq_eq_false_iff_ne.mpr fun q => hb q.symm]
  | _ => simp [Value.isStr] at h

/-- the dict of an object as a function of the name -/
def DictF (es : List DictEntry) (F : Str → Option Value) : Prop := es.any (·.refKey) = false ∧ ∀ nm, (es.find? (·.key.isStr nm)).map (·.val) = F nm
theorem DictF.nil : DictF [] fun _ => none := ⟨rfl, fun _ => rfl⟩
theorem DictF.getL {es : List DictEntry} {F : Str → Option Value} (D : DictF es F) (nm : Str) : getL nm es = some (F nm) := by
  unfold PySem.W.getL
  have := D.2 nm
  cases e : es.find? (·.key.isStr nm) with
  | none => rw [e] at this; simp only [Option.map_none] at this; rw [← this, D.1]; rfl
  | some x => rw [e] at this; simp only [Option.map_some] at this; rw [← this]
theorem putL_find' {name : Str} {hsh : Int} {tk : Tok} {v : Value} {nm : Str} : ∀ es : List DictEntry, ((putL name hsh (.str name tk) v es).find? (·.key.isStr nm)).map (·.val) = if nm = name then some v else (es.find? (·.key.isStr nm)).map (·.val)
  | [] => by
    by_cases h : nm = name
    · subst h; simp [putL, Value.isStr]
    · have : (name == nm) = false := by simpa using fun e => h e.symm
      simp [putL, Value.isStr, this, h]
  | e :: r => by
    have ih := putL_find' (name := name) (hsh := hsh) (tk := tk) (v := v) (nm := nm) r
    unfold putL
    cases he : e.key.isStr name with
    | true =>
      simp only [if_true]
      by_cases h : nm = name
      · subst h; rw [if_pos rfl, List.find?_cons]; simp only [he]; rfl
      · have hf : e.key.isStr nm = false := by rw [isStr_inj he]; simpa using h
        rw [if_neg h, List.find?_cons, List.find?_cons]; simp only [hf]
    | false =>
      simp only [Bool.false_eq_true, if_false]
      rw [List.find?_cons, List.find?_cons]
      cases hn : e.key.isStr nm with
      | true =>
        have : nm ≠ name := fun q => by rw [q, he] at hn; cases hn
        simp only [if_neg this]
      | false => simp only; exact ih
theorem putL_any {name : Str} {hsh : Int} {tk : Tok} {v : Value} : ∀ {es : List DictEntry}, es.any (·.refKey) = false → (putL name hsh (.str name tk) v es).any (·.refKey) = false
  | [], _ => rfl
  | e :: r, h => by
    rw [List.any_cons, Bool.or_eq_false_iff] at h
    unfold putL
    split
    · rw [List.any_cons, Bool.or_eq_false_iff]; exact h
    · rw [List.any_cons, Bool.or_eq_false_iff]; exact ⟨h.1, putL_any h.2⟩
theorem putL_len {name : Str} {hsh : Int} {k v : Value} : ∀ {es : List DictEntry}, (putL name hsh k v es).length ≤ es.length + 1
  | [] => by simp [putL]
  | e :: r => by
    have := putL_len (name := name) (hsh := hsh) (k := k) (v := v) (es := r)
    unfold putL
    split <;> simp only [List.length_cons] at this ⊢ <;> omega
theorem DictF.put {es : List DictEntry} {F : Str → Option Value} (D : DictF es F) (name : Str) (hsh : Int) (tk : Tok) (v : Value) : DictF (putL name hsh (.str name tk) v es) fun y => if y = name then some v else F y :=
  ⟨putL_any D.1, fun nm => by rw [putL_find', D.2 nm]⟩

section
variable {w : World} {A : Around} {E : Value → Shared → Prop} {s : Shared} {g : Heap} {L : Addr} {m : Str → Option Value} {rest : List (Addr × Obj)} {x C dx : Addr} {es : List DictEntry} {n : Nat} {name : Str} {v : Value} {F : Str → Option Value}
theorem r_set {Q : Unit → Shared → Prop} (G : Gnd w g) (S : Sd g L m ((dx, dictOf es n) :: rest) s.heap) (hx : g.get? x = some (instObj C dx)) (hsz : g.objs.size ≤ L) (D : DictF es F) (hl : es.length ≤ 900)
    (hs : findIn (Mine.top.hd.heap_39 w.params) (.ref C) "__setattr__" = some (some (.builtin "object.__setattr__"))) (hp : plainOver (Mine.top.hd.heap_39 w.params) C = true) (ht : takerIn (Mine.top.hd.heap_39 w.params) C name = some none) (hh : hasDictIn (Mine.top.hd.heap_39 w.params) C = true)
    (h : ∀ s' es' n', Same s s' → Sd g L m ((dx, dictOf es' n') :: rest) s'.heap → DictF es' (fun y => if y = name then some v else F y) → es'.length ≤ es.length + 1 → Q () s') :
    wpAny (model pw w) A (setAttr (.ref x) name v) Q E s := by
  have nd := S.nd
  rw [List.map_cons, List.nodup_cons] at nd
  refine set_dict (F := ⟨S.ns, S.up, hsz⟩) G.K S.nw ⟨S.up _ _ hx, rfl, rfl, S.get (.head _)⟩ rfl hs hp ht hh (by rw [D.getL]; rfl) rfl (.head fun p hp e => nd.1 (List.mem_map.mpr ⟨p, hp, e⟩)) (by have := putL_len (name := name) (hsh := PyData.keyHash w.params name) (k := .str name (s.toks + 1)) (v := v) (es := es); omega) fun h' F' N' => ?_
  exact h { s with heap := h', toks := s.toks + 2 } _ _ ⟨rfl, rfl⟩ ⟨F'.ns, F'.keep, S.off, N', S.nd⟩ (D.put _ _ _ _) putL_len
end

theorem call0s {w : World} {A : Around} {s : Shared} {g : Heap} {R : Result → Shared → Prop} {name qual : Str} {params : Arguments} {body : List Stmt} {scope : Scope} {dV kV doc pm cdv ct oc : Value} {an od : Option Addr} {osl : Array (Option Value)} {f : Addr} {args : Args} {binds : List (Str × Value)} {n : Nat}
    {wl : List (Addr × Obj)} (G : Gnd w g) (U : Up g s.heap) (hw : ∀ p ∈ wl, s.heap.get? p.1 = some p.2 ∧ g.get? p.1 = none) (hnd : (wl.map (·.1)).Nodup) (r : Rm A (n + 1))
    (ho : (Mine.top.hd.heap_39 w.params).lookup f = some ⟨oc, od, .func (fnOf name qual params body scope dV kV doc pm an cdv ct), osl⟩) (hcd : codeIn (Mine.top.hd.heap_39 w.params) cdv qual = true)
    (hbind : BindsTo s (fnOf name qual params body scope dV kV doc pm an cdv ct) args binds) (hloc : ∀ y ∈ binds, scope.names.lookup y.1 = some .local)
    (h : ∀ A' s₁, Same s s₁ → Rm A' n → Sd g s.heap.objs.size (fun y => binds.reverse.lookup y) wl s₁.heap → Up s.heap s₁.heap →
      wpAny (model pw w) A' (execs body (envOf qual scope s.heap.objs.size f cdv)) (fun fl s' => R (.ok (.ret (match fl with | .ret v => v | _ => .none))) s') (fun _ _ => False) s₁)
    (hco : scope.isCoroutine = false) (hgen : scope.isGenerator = false) (hk : scope.kind = .function)
    (hcell : ∀ x ∈ scope.names, x.2 ≠ .cell) : codeAny (model pw w) A (.call (.ref f) args) R s := by
  have X := G.K.keeps U
  refine codeAny_call_def (fd := fnOf name qual params body scope dV kV doc pm an cdv ct) (body := body) (binds := binds) r.lim (X _ _ ho) rfl (G.lim.keeps U) (codeRec_of X hcd) rfl hbind hcell hloc (fun h₁ hns hk₁ => ?_) hco hgen hk
  have fr := size_none s.heap
  have off : ∀ b, s.heap.get? b = none → g.get? b = none := fun b e => by
    cases q : g.get? b with
    | none => rfl
    | some o => rw [U _ _ q] at e; cases e
  refine wpAny_mono (h _ { s with heap := h₁, toks := s.toks + binds.length } ⟨rfl, rfl⟩ (r.deeper _) ⟨hns, U.trans hk₁, off _ fr, fun p hp => ⟨hk₁ _ _ (hw p hp).1, fun e => ?_, (hw p hp).2⟩, hnd⟩ hk₁) (fun _ _ y => y) fun _ _ y => y.elim
  have := (hw p hp).1
  rw [e, fr] at this; cases this
theorem gmax_size (h : Heap) (wl : List (Addr × Obj)) : (gmax h wl).objs.size = h.objs.size := hideAll_size _ _

/-- a new object, its __init__ still to come -/
theorem r_make {w : World} {A : Around} {s : Shared} {g : Heap} {C fI : Addr} {rest : List Value} {R : Result → Shared → Prop} {n : Nat} (G : Gnd w g) (U : Up g s.heap) (r : Rm A (n + 1)) (hm : makesIn (Mine.top.hd.heap_39 w.params) C = true)
    (hi : findIn (Mine.top.hd.heap_39 w.params) (.ref C) "__init__" = some (some (.ref fI))) (hf : isFn (Mine.top.hd.heap_39 w.params) (.ref fI) = true)
    (h : ∀ A' s' x dx, Rm A' n → Same s s' → Up s.heap s'.heap → s.heap.get? x = none → s.heap.get? dx = none → x ≠ dx → s'.heap.get? x = some (instObj C dx) → s'.heap.get? dx = some (dictOf [] 0) →
      codeAny (model pw w) A' (.call (.ref fI) ⟨.ref x :: rest, []⟩) (InitBack x R) s') :
    codeAny (model pw w) A (.call (.ref C) ⟨rest, []⟩) R s := by
  have X := G.K.keeps U
  obtain ⟨hh, gn, d, t, os⟩ := s
  refine make_core (makes_of X hm) (looks_findIn X hi) (fun self => bind_fn X self (beq_iff_eq.mp hf)) (.inl rfl) ?_
  have r' : Rm (A.under (.builtin "type.__call__" ⟨.ref C :: rest, []⟩)) n := ⟨by have := r.depth; show A.depth + 1 + n < 900; omega, by have := r.units; show A.units + 1 + 10 * n < 9000; omega, r.handled⟩
  have e1 : (hh.objs.size + 1 : Nat) ≠ hh.objs.size := by omega
  refine h _ ⟨_, gn, d, t, os⟩ (hh.objs.size + 1) hh.objs.size r' ⟨rfl, rfl⟩ (fun b o e => Heap.get?_push_of_some _ (Heap.get?_push_of_some _ e)) ?_ (size_none _) e1 (by heap_get) (by heap_get)
  cases e : hh.get? (hh.objs.size + 1) with
  | none => rfl
  | some o =>
    have : hh.objs.size + 1 < hh.objs.size := Heap.lt_size e
    omega
/-- what stands in h beside the ground, L and dx -/
def others (h g0 : Heap) (L dx : Addr) : List (Addr × Obj) := (List.range h.objs.size).filterMap fun b => if b = dx ∨ b = L then none else match g0.get? b with | some _ => none | none => (h.get? b).map fun o => (b, o)
theorem mem_others {h g0 : Heap} {L dx : Addr} {p : Addr × Obj} (hp : p ∈ others h g0 L dx) : p.1 ≠ dx ∧ p.1 ≠ L ∧ g0.get? p.1 = none ∧ h.get? p.1 = some p.2 := by
  obtain ⟨b, hb, e⟩ := List.mem_filterMap.mp hp
  split at e
  · cases e
  · rename_i hn
    split at e
    · cases e
    · rename_i hg
      obtain ⟨o, ho, e'⟩ := Option.map_eq_some_iff.mp e
      cases e'
      exact ⟨fun q => hn (.inl q), fun q => hn (.inr q), hg, ho⟩
theorem others_mem {h g0 : Heap} {L dx b : Addr} {o : Obj} (h1 : b ≠ dx) (h2 : b ≠ L) (h3 : g0.get? b = none) (h4 : h.get? b = some o) : (b, o) ∈ others h g0 L dx := by
  refine List.mem_filterMap.mpr ⟨b, List.mem_range.mpr (Heap.lt_size h4), ?_⟩
  rw [if_neg (by rintro (q | q); exact h1 q; exact h2 q), h3]
  simp only [h4, Option.map_some]

theorem Sd.unroot {g h : Heap} {L d : Addr} {o : Obj} {m : Str → Option Value} {news : List (Addr × Obj)} (S : Sd g L m news h) (e : g.get? d = some o) : Sd (hideAll g [d]) L m ((d, o) :: news) h := by
  have no : ∀ b, g.get? b = none → (hideAll g [d]).get? b = none := fun b q => hide_none _ q
  refine ⟨S.ns, fun b x q => S.up b x (of_hideAll _ q), no _ S.off, fun p hp => ?_, ?_⟩
  · rcases List.mem_cons.mp hp with rfl | hp
    · exact ⟨S.up _ _ e, (fun q => by rw [show d = L from q, S.off] at e; cases e), hideAll_none [d] (List.mem_singleton.mpr rfl)⟩
    · exact ⟨(S.nw p hp).1, (S.nw p hp).2.1, no _ (S.nw p hp).2.2⟩
  · rw [List.map_cons, List.nodup_cons]
    refine ⟨fun hm => ?_, S.nd⟩
    obtain ⟨p, hp, q⟩ := List.mem_map.mp hm
    have := (S.nw p hp).2.2
    simp only at q
    rw [q, e] at this; cases this

section
variable {w : World} {A : Around} {E : Value → Shared → Prop} {s : Shared} {g g0 : Heap} {L : Addr} {m : Str → Option Value} {rest : List (Addr × Obj)} {x C dx : Addr} {es : List DictEntry} {n : Nat} {name : Str} {v : Value} {F : Str → Option Value}
theorem r_set' {Q : Unit → Shared → Prop} (G : Gnd w g0) (hsz : g0.objs.size ≤ L) (U : Up g0 g) (S : Sd g L m ((dx, dictOf es n) :: rest) s.heap) (hx : s.heap.get? x = some (instObj C dx)) (D : DictF es F) (hl : es.length ≤ 900)
    (hs : findIn (Mine.top.hd.heap_39 w.params) (.ref C) "__setattr__" = some (some (.builtin "object.__setattr__"))) (hp : plainOver (Mine.top.hd.heap_39 w.params) C = true) (ht : takerIn (Mine.top.hd.heap_39 w.params) C name = some none) (hh : hasDictIn (Mine.top.hd.heap_39 w.params) C = true)
    (h : ∀ s' es' n', Same s s' → Sd g L m ((dx, dictOf es' n') :: rest) s'.heap → DictF es' (fun y => if y = name then some v else F y) → es'.length ≤ es.length + 1 → (∀ b o, b ≠ dx → b ≠ L → s.heap.get? b = some o → s'.heap.get? b = some o) → Q () s') :
    wpAny (model pw w) A (setAttr (.ref x) name v) Q E s := by
  have nd := S.nd
  rw [List.map_cons, List.nodup_cons] at nd
  have hd := S.nw _ (.head _)
  have og : ∀ b, g.get? b = none → g0.get? b = none := fun b q => by
    cases z : g0.get? b with
    | none => rfl
    | some o => rw [U _ _ z] at q; cases q
  have N : News g0 L s.heap ((dx, dictOf es n) :: others s.heap g0 L dx) := fun p hp => by
    rcases List.mem_cons.mp hp with rfl | hp
    · exact ⟨hd.1, hd.2.1, og _ hd.2.2⟩
    · have := mem_others hp; exact ⟨this.2.2.2, this.2.1, this.2.2.1⟩
  have X : Fr g0 L s.heap m := ⟨S.ns, U.trans S.up, hsz⟩
  obtain ⟨oL, esL, epL, hL, rL⟩ := S.ns
  refine set_dict (F := X) G.K N ⟨hx, rfl, rfl, hd.1⟩ rfl hs hp ht hh (by rw [D.getL]; rfl) rfl (.head fun p hp => (mem_others hp).1) (by have := putL_len (name := name) (hsh := PyData.keyHash w.params name) (k := .str name (s.toks + 1)) (v := v) (es := es); omega) fun h' F' N' => ?_
  have kb : ∀ b o, b ≠ dx → b ≠ L → s.heap.get? b = some o → h'.get? b = some o := fun b o h1 h2 e => by
    cases z : g0.get? b with
    | some o' =>
      have := (U.trans S.up) _ _ z
      rw [e] at this; cases this
      exact F'.keep _ _ z
    | none => exact (N' (b, o) (List.mem_cons_of_mem _ (others_mem h1 h2 z e))).1
  refine h { s with heap := h', toks := s.toks + 2 } (putL name (PyData.keyHash w.params name) (.str name (s.toks + 1)) v es) (putN name es n) ⟨rfl, rfl⟩ ⟨F'.ns, fun b o e => kb b o (fun q => by rw [q, hd.2.2] at e; cases e) (fun q => by rw [q, S.off] at e; cases e) (S.up b o e), S.off, fun p hp => ?_, S.nd⟩ (D.put _ _ _ _) putL_len kb
  rcases List.mem_cons.mp hp with rfl | hp
  · exact ⟨(N' _ (.head _)).1, hd.2⟩
  · have z := S.nw p (.tail _ hp)
    exact ⟨kb _ _ (fun q => nd.1 (List.mem_map.mpr ⟨p, hp, q⟩)) z.2.1 z.1, z.2⟩
end

/-- tuples that stand in g stand in g₂ -/
def SeqO (o : Obj) : Prop := ∃ vs n, o.data = .seq vs n
def TupUp (g g₂ : Heap) : Prop := ∀ b o, g.get? b = some o → SeqO o → g₂.get? b = some o
theorem TupUp.of_up {g g₂ : Heap} (U : Up g g₂) : TupUp g g₂ := fun b o e _ => U b o e
theorem TupUp.trans {a b c : Heap} (x : TupUp a b) (y : TupUp b c) : TupUp a c := fun d o e q => y d o (x d o e q) q
theorem IsTupleKey.tup {w : World} {g g₂ : Heap} {ks : List Int} {a : Addr} (x : IsTupleKey (iK pw w) g ks a) (T : TupUp g g₂) : IsTupleKey (iK pw w) g₂ ks a := by
  obtain ⟨o, items, n, ho, hc, hd, r⟩ := x
  exact ⟨o, items, n, T _ _ ho ⟨_, _, hd⟩, hc, hd, r⟩
theorem IsNode.tup {w : World} {g g₂ : Heap} {n : Node} {a : Addr} (x : IsNode pw w g n a) (T : TupUp g g₂) : IsNode pw w g₂ n a := by
  obtain ⟨o, e, t1, aa, t3, t4, ho, hc, hd, hk⟩ := x
  exact ⟨o, e, t1, aa, t3, t4, T _ _ ho ⟨_, _, hd⟩, hc, hd, IsTupleKey.tup hk T⟩
/-- the bank in another house -/
theorem BankW.move {w : World} {g g₂ : Heap} {bk bk' : BkA} {B : List Node} {wl : List (Addr × Obj)} (x : BankW w g bk B wl) (T : TupUp g g₂) (I : BankI g₂ bk') (e1 : bk'.ops = bk.ops) (e2 : bk'.args = bk.args) (e3 : bk'.sorts = bk.sorts) (e4 : bk'.datas = bk.datas) (e5 : bk'.nums = bk.nums) : BankW w g₂ bk' B wl := by
  obtain ⟨vo, no, va, na, vs, ns, vd, nd, on, es, ep, xs, e, h1, h2, h3, h4, h5, h6, h7, h8, h9, h10⟩ := x.ex
  refine ⟨I, ⟨vo, no, va, na, vs, ns, vd, nd, on, es, ep, xs, by rw [e1, e2, e3, e4, e5]; exact e, h1, ⟨h2.1, fun i n q => ?_⟩, h3, h4, h5, h6, h7, fun y hy => (h8 y hy).tup T, h9, h10⟩, x.nd, by rw [e5]; exact x.top, x.small⟩
  obtain ⟨a, z, k⟩ := h2.2 i n q
  exact ⟨a, z, IsTupleKey.tup k T⟩
structure BkF (bk : BkA) (F : Str → Option Value) : Prop where
  ops : F "term_ops" = some (.ref bk.ops)
  args : F "term_args" = some (.ref bk.args)
  sorts : F "term_sorts" = some (.ref bk.sorts)
  datas : F "term_datas" = some (.ref bk.datas)
  nums : F "numbers" = some (.ref bk.nums)
  yes : bk.ready = true → ∃ t, F "true_number" = some (.int 1 t)
  no : bk.ready = true → ∃ t, F "false_number" = some (.int 2 t)
  meths : ∀ nm ∈ bankMeths, F nm = none
theorem BkF.d {bk : BkA} {F : Str → Option Value} {es : List DictEntry} (x : BkF bk F) (D : DictF es F) : BkD bk es where
  ops := by rw [D.getL, x.ops]
  args := by rw [D.getL, x.args]
  sorts := by rw [D.getL, x.sorts]
  datas := by rw [D.getL, x.datas]
  nums := by rw [D.getL, x.nums]
  yes := fun hr => let ⟨t, e⟩ := x.yes hr; ⟨t, by rw [D.getL, e]⟩
  no := fun hr => let ⟨t, e⟩ := x.no hr; ⟨t, by rw [D.getL, e]⟩
  meths := fun nm hm => by rw [D.getL, x.meths nm hm]

/-- the bank's tuples stand wherever those of h do -/
def BX (w : World) (P : Addr → Prop) (h : Heap) (bk : BkA) (B : List Node) (wl : List (Addr × Obj)) : Prop :=
  ∀ g₂ bk', bk'.ops = bk.ops → bk'.args = bk.args → bk'.sorts = bk.sorts → bk'.datas = bk.datas → bk'.nums = bk.nums →
    (∀ b o, P b → h.get? b = some o → SeqO o → g₂.get? b = some o) → BankI g₂ bk' → BankW w g₂ bk' B wl
theorem BX.of_make {w : World} {g hb h₁ g' h₂ : Heap} {X : List Addr} {bk : BkA} {B : List Node} {wl : List (Addr × Obj)} (Bk : BankW w g' bk B wl) (Gr : Grow (grd g hb h₁ X) h₁ g' h₂) (Ub : ∀ b, h₁.get? b = none → hb.get? b = none) (hX : ∀ b ∈ X, ∃ o, h₁.get? b = some o) :
    BX w (fun b => (∃ o, g.get? b = some o) ∨ (hb.get? b = none ∧ b ∉ X)) h₂ bk B wl := fun g₂ bk' e1 e2 e3 e4 e5 H I => by
  refine Bk.move (fun b o e hc => H b o ?_ (Gr.up b o e) hc) I e1 e2 e3 e4 e5
  rcases Gr.fresh b o e with ⟨o', e'⟩ | e'
  · exact (grd_of e').2
  · exact .inr ⟨Ub b e', fun hb' => by obtain ⟨o'', z⟩ := hX b hb'; rw [e'] at z; cases z⟩
theorem BX.step {w : World} {P : Addr → Prop} {h₂ h₃ : Heap} {bk : BkA} {B : List Node} {wl : List (Addr × Obj)} (x : BX w P h₂ bk B wl) (k : ∀ b o, P b → h₂.get? b = some o → SeqO o → h₃.get? b = some o) : BX w P h₃ bk B wl :=
  fun g₂ bk' e1 e2 e3 e4 e5 H I => x g₂ bk' e1 e2 e3 e4 e5 (fun b o hp e hc => H b o hp (k b o hp e hc) hc) I

theorem st_make {w : World} {A : Around} {s : Shared} {g hb g0 : Heap} {L : Addr} {m : Str → Option Value} {wl rest : List (Addr × Obj)} {bk : BkA} {B : List Node} {R : Result → Shared → Prop} {k : Nat} {op : Str} {kt : Addr} {t1 t2 t3 : Tok}
    (X : List Addr) (G : Gnd w g) (Ugb : Up g hb) (Ub0 : Up hb g0) (S : Sd g0 L m (wl ++ rest) s.heap) (hX : ∀ b ∈ X, b = L ∨ ∃ p ∈ wl ++ rest, p.1 = b) (hwX : ∀ p ∈ wl, p.1 ∈ X)
    (Bx : BX w (fun b => (∃ o, g.get? b = some o) ∨ (hb.get? b = none ∧ b ∉ X)) s.heap bk B wl) (I : BankI (grd g hb s.heap X) bk)
    (hkt : s.heap.get? kt = some (tupO ([] : List Value).toArray 0)) (hktb : hb.get? kt = none) (hktX : kt ∉ X) (r : Rm A (k + 1)) (hB : ∀ i : Nat, 0 < i → B[i]? ≠ some ⟨op, [], 0⟩) (hsm : B.length < 1000)
    (h : ∀ s' t wl', Same s s' → Sd g0 L m (wl' ++ rest) s'.heap → wl'.map (·.1) = wl.map (·.1) → BX w (fun b => (∃ o, g.get? b = some o) ∨ (hb.get? b = none ∧ b ∉ X)) s'.heap bk (B ++ [⟨op, [], 0⟩]) wl' →
      (∀ b o, b ∉ wl.map (·.1) → s.heap.get? b = some o → s'.heap.get? b = some o) → R (.ok (.ret (.int (B.length : Int) t))) s') :
    codeAny (model pw w) A (.call (.ref 243) ⟨[.ref bk.x, .str op t1, .ref kt, .int 0 t2, .int 0 t3], []⟩) R s := by
  have Us : Up g s.heap := Ugb.trans (Ub0.trans S.up)
  have Gr0 := grow_grd (h₀ := hb) (X := X) Us
  have Bk : BankW w (grd g hb s.heap X) bk B wl := Bx _ bk rfl rfl rfl rfl rfl (fun b o hp e _ => grd_get e hp) I
  refine c_make_new (k := k) (n := ⟨op, [], 0⟩) (G.up Gr0.le) Gr0.up Bk (fun p hp => ⟨S.get (List.mem_append_left _ hp), ?_⟩) r hB hsm (ints_key (grd_get hkt (.inr ⟨hktb, hktX⟩)) IntsAre.nil) fun s' t g' wl' q' Gr E Bk' em ew => ?_
  · cases e : (grd g hb s.heap X).get? p.1 with
    | none => rfl
    | some o =>
      rcases (grd_of e).2 with ⟨o', z⟩ | z
      · have := (S.nw p (List.mem_append_left _ hp)).2.2
        rw [Ub0 _ _ (Ugb _ _ z)] at this; cases this
      · exact absurd (hwX p hp) z.2
  · have kp : ∀ b o, b ∉ wl.map (·.1) → s.heap.get? b = some o → s'.heap.get? b = some o := E.ext
    have U0 : Up g0 s'.heap := fun b o e => kp b o (fun hm => by
      obtain ⟨p, hp, q⟩ := List.mem_map.mp hm
      have := (S.nw p (List.mem_append_left _ hp)).2.2
      rw [q, e] at this; cases this) (S.up b o e)
    refine h s' t wl' q' (S.effW E em ew (Grow.refl U0)) em (BX.of_make Bk' Gr (fun b e => ?_) fun b hb' => ?_) kp
    · cases z : hb.get? b with
      | none => rfl
      | some o => rw [S.up _ _ (Ub0 _ _ z)] at e; cases e
    · rcases hX b hb' with rfl | ⟨p, hp, rfl⟩
      · obtain ⟨oL, _, _, hL, _⟩ := S.ns; exact ⟨oL, hL⟩
      · exact ⟨_, (S.nw p hp).1⟩

structure FunF (fn fa fr : Addr) (F : Str → Option Value) : Prop where
  names : F "fun_names" = some (.ref fn)
  args : F "fun_args" = some (.ref fa)
  results : F "fun_results" = some (.ref fr)
theorem BkF.put {bk : BkA} {F : Str → Option Value} {name : Str} {v : Value} (x : BkF bk F) (hk : name ∉ (["term_ops", "term_args", "term_sorts", "term_datas", "numbers"] : List Str)) (hy : bk.ready = true → name ≠ "true_number" ∧ name ≠ "false_number") (hm : name ∉ bankMeths) :
    BkF bk fun y => if y = name then some v else F y where
  ops := (if_neg fun e => hk (by rw [← e]; simp)).trans x.ops
  args := (if_neg fun e => hk (by rw [← e]; simp)).trans x.args
  sorts := (if_neg fun e => hk (by rw [← e]; simp)).trans x.sorts
  datas := (if_neg fun e => hk (by rw [← e]; simp)).trans x.datas
  nums := (if_neg fun e => hk (by rw [← e]; simp)).trans x.nums
  yes := fun hr => let ⟨t, e⟩ := x.yes hr; ⟨t, (if_neg fun e => (hy hr).1 e.symm).trans e⟩
  no := fun hr => let ⟨t, e⟩ := x.no hr; ⟨t, (if_neg fun e => (hy hr).2 e.symm).trans e⟩
  meths := fun nm hn => (if_neg fun (e : nm = name) => hm (e ▸ hn)).trans (x.meths nm hn)
theorem FunF.put {fn fa fr : Addr} {F : Str → Option Value} {name : Str} {v : Value} (x : FunF fn fa fr F) (hk : name ∉ (["fun_names", "fun_args", "fun_results"] : List Str)) : FunF fn fa fr fun y => if y = name then some v else F y where
  names := (if_neg fun e => hk (by rw [← e]; simp)).trans x.names
  args := (if_neg fun e => hk (by rw [← e]; simp)).trans x.args
  results := (if_neg fun e => hk (by rw [← e]; simp)).trans x.results
theorem BX.mono {w : World} {P P' : Addr → Prop} {h : Heap} {bk : BkA} {B : List Node} {wl : List (Addr × Obj)} (x : BX w P h bk B wl) (k : ∀ b, P b → P' b) : BX w P' h bk B wl :=
  fun g₂ bk' e1 e2 e3 e4 e5 H I => x g₂ bk' e1 e2 e3 e4 e5 (fun b o hp => H b o (k b hp)) I
theorem Sd.pull {g h : Heap} {L : Addr} {m : Str → Option Value} {a b : List (Addr × Obj)} {x : Addr × Obj} (S : Sd g L m (a ++ x :: b) h) : Sd g L m (x :: (a ++ b)) h := S.perm List.perm_middle

theorem r_dict {w : World} {A : Around} {E : Value → Shared → Prop} {s : Shared} {env : Env} {pos : Pos} {Q : Value → Shared → Prop}
    (h : ∀ s' a, Same s s' → s.heap.get? a = none → Up s.heap s'.heap → s'.heap.get? a = some { cls := .type "dict", data := .dict #[] } → s.heap.objs.size ≤ a → Q (.ref a) s') : wpAny (model pw w) A (eval (.Dict [] [] pos) env) Q E s :=
  wpAny_Dict_empty (h { s with heap := s.heap.push _ } _ ⟨rfl, rfl⟩ (size_none _) (Up.push _ _) (Heap.get?_push_size _ rfl) (Nat.le_refl _))

theorem nd_pick {l : List Addr} (h : l.Nodup) (is : List Nat) (hn : is.Nodup) : (is.filterMap (l[·]?)).Nodup := by
  rw [List.Nodup, List.pairwise_filterMap]
  refine List.Pairwise.imp (fun {i j} hij b hb c hc e => hij ?_) hn
  subst e
  obtain ⟨h1, e1⟩ := List.getElem?_eq_some_iff.mp hb
  obtain ⟨h2, e2⟩ := List.getElem?_eq_some_iff.mp hc
  exact (List.getElem_inj h).mp (e1.trans e2.symm)
theorem mem_pick {l : List Addr} (is : List Nat) {b : Addr} (h : b ∈ is.filterMap (l[·]?)) : b ∈ l := by
  obtain ⟨i, _, e⟩ := List.mem_filterMap.mp h
  exact List.mem_of_getElem? e
theorem nd_out {a L : Addr} {xs : List Addr} (h : (a :: xs).Nodup) (hL : a ≠ L) : a ∉ xs ++ [L] := fun hm =>
  (List.mem_append.mp hm).elim (List.nodup_cons.mp h).1 fun q => hL (List.mem_singleton.mp q)
theorem c_bank_init {w : World} {A : Around} {s : Shared} {g hb : Heap} {x dx : Addr} {R : Result → Shared → Prop} {k : Nat}
    (G : Gnd w g) (Uhb : Up g hb) (Us : Up hb s.heap) (hx : s.heap.get? x = some (instObj 629 dx)) (hd : s.heap.get? dx = some (dictOf [] 0)) (hbx : hb.get? x = none) (hbd : hb.get? dx = none) (hne : x ≠ dx) (r : Rm A (k + 3))
    (h : ∀ s' bk wl es n F fn fa fr, Same s s' → Eff [dx] s.heap s'.heap → bk.x = x → bk.d = dx → bk.ready = true → s'.heap.get? dx = some (dictOf es n) → DictF es F → es.length ≤ 100 → BkF bk F → FunF fn fa fr F →
      (∀ p ∈ wl ++ [(fr, lstO ([] : List Value).toArray 0), (fa, lstO ([] : List Value).toArray 0), (fn, lstO ([] : List Value).toArray 0)], s'.heap.get? p.1 = some p.2 ∧ s.heap.get? p.1 = none) →
      (dx :: (wl ++ [(fr, lstO ([] : List Value).toArray 0), (fa, lstO ([] : List Value).toArray 0), (fn, lstO ([] : List Value).toArray 0)]).map (·.1)).Nodup →
      BX w (fun b => (∃ o, g.get? b = some o) ∨ (hb.get? b = none ∧ b ∉ wl.map (·.1) ++ [fr, fa, fn])) s'.heap bk [⟨"", [], 0⟩, ⟨"true", [], 0⟩, ⟨"false", [], 0⟩] wl → R (.ok (.ret .none)) s') :
    codeAny (model pw w) A (.call (.ref 110) ⟨[.ref x], []⟩) R s := by
  have Ug : Up g (gmax s.heap [(dx, dictOf [] 0)]) := gmax_le (Uhb.trans Us) fun p hp => by
    rw [List.mem_singleton.mp hp]
    cases e : g.get? dx with
    | none => rfl
    | some o => rw [Uhb _ _ e] at hbd; cases hbd
  refine' call0s (g := gmax s.heap [(dx, dictOf [] 0)]) (wl := [(dx, dictOf [] 0)]) (binds := [("self", .ref x)]) (G.up Ug) (gmax_up _ _) (fun p hp => ⟨by rw [List.mem_singleton.mp hp]; exact hd, gmax_none hp⟩) (by simp) r (by k_is) (by k_is)
    (by exact BindsTo.of_eq rfl) (by exact locs rfl) ?_ (by exact rfl) (by exact rfl) (by exact rfl) (by decide)
  intro A' s₁ q r' S U₁
  have hxg : (gmax s.heap [(dx, dictOf [] 0)]).get? x = some (instObj 629 dx) := gmax_get hx (by simpa using hne)
  have G0 := G.up Ug
  have hsz : (gmax s.heap [(dx, dictOf [] 0)]).objs.size ≤ s.heap.objs.size := Nat.le_of_eq (gmax_size _ _)
  generalize hg0 : gmax s.heap [(dx, dictOf [] 0)] = g0 at *
  generalize s.heap.objs.size = L at *
  k_unmd
  -- sort_names
  walk_at "S"
  refine plainObj_wpAny_Assign_Attribute ?_ (by with_unfolding_all rfl)
  walk_at "W"
  refine r_list (fun s₂ a₂ q₂ fa₂ U₂ e₂ => ?_) (by exact (by decide : 3 ≤ sizeLine))
  replace S := S.grown U₂
  walk_at "L"
  refine r_set' G0 hsz (Up.refl _) S (S.up _ _ hxg) DictF.nil (by simp) (by k_is) (by k_is) (by k_is) (by k_is) fun s₃ es₃ n₃ q₃ S₃ D₃ l3 k₃ => ?_
  replace l3 : es₃.length ≤ 1 := l3
  clear S
  walk_at "S"
  refine plainObj_wpAny_Assign_Attribute ?_ (by with_unfolding_all rfl)
  walk_at "W"
  refine r_list (fun s₄ a₄ q₄ fa₄ U₄ e₄ => ?_) (by exact (by decide : 3 ≤ sizeLine))
  replace S₃ := S₃.grown U₄
  walk_at "L"
  refine r_set' G0 hsz (Up.refl _) S₃ (S₃.up _ _ hxg) D₃ (Nat.le_trans l3 (by decide)) (by k_is) (by k_is) (by k_is) (by k_is) fun s5 es5 n5 q5 S5 D5 l5 k5 => ?_
  replace l5 : es5.length ≤ 2 := Nat.le_trans l5 (Nat.succ_le_succ l3)
  clear S₃
  walk_at "S"
  refine plainObj_wpAny_Assign_Attribute ?_ (by with_unfolding_all rfl)
  walk_at "W"
  refine r_list (fun s6 fn q6 fa6 U6 e6 => ?_) (by exact (by decide : 0 ≤ sizeLine))
  have S6 := (S5.add fa6 U6 e6).front2
  clear S5
  walk_at "L"
  refine r_set' G0 hsz (Up.refl _) S6 (S6.up _ _ hxg) D5 (Nat.le_trans l5 (by decide)) (by k_is) (by k_is) (by k_is) (by k_is) fun s7 es7 n7 q7 S7 D7 l7 k7 => ?_
  replace l7 : es7.length ≤ 3 := Nat.le_trans l7 (Nat.succ_le_succ l5)
  clear S6
  walk_at "S"
  refine plainObj_wpAny_Assign_Attribute ?_ (by with_unfolding_all rfl)
  walk_at "W"
  refine r_list (fun s8 fa q8 fa8 U8 e8 => ?_) (by exact (by decide : 0 ≤ sizeLine))
  have S8 := (S7.add fa8 U8 e8).front2
  clear S7
  walk_at "L"
  refine r_set' G0 hsz (Up.refl _) S8 (S8.up _ _ hxg) D7 (Nat.le_trans l7 (by decide)) (by k_is) (by k_is) (by k_is) (by k_is) fun s9 es9 n9 q9 S9 D9 l9 k9 => ?_
  replace l9 : es9.length ≤ 4 := Nat.le_trans l9 (Nat.succ_le_succ l7)
  clear S8
  walk_at "S"
  refine plainObj_wpAny_Assign_Attribute ?_ (by with_unfolding_all rfl)
  walk_at "W"
  refine r_list (fun s10 fr q10 fa10 U10 e10 => ?_) (by exact (by decide : 0 ≤ sizeLine))
  have S10 := (S9.add fa10 U10 e10).front2
  clear S9
  walk_at "L"
  refine r_set' G0 hsz (Up.refl _) S10 (S10.up _ _ hxg) D9 (Nat.le_trans l9 (by decide)) (by k_is) (by k_is) (by k_is) (by k_is) fun s11 es11 n11 q11 S11 D11 l11 k11 => ?_
  replace l11 : es11.length ≤ 5 := Nat.le_trans l11 (Nat.succ_le_succ l9)
  clear S10
  walk_at "S"
  refine plainObj_wpAny_Assign_Attribute ?_ (by with_unfolding_all rfl)
  walk_at "W"
  refine r_set' G0 hsz (Up.refl _) S11 (S11.up _ _ hxg) D11 (Nat.le_trans l11 (by decide)) (by k_is) (by k_is) (by k_is) (by k_is) fun s12 es12 n12 q12 S12 D12 l12 k12 => ?_
  replace l12 : es12.length ≤ 6 := Nat.le_trans l12 (Nat.succ_le_succ l11)
  clear S11
  walk_at "S"
  refine plainObj_wpAny_Assign_Attribute ?_ (by with_unfolding_all rfl)
  walk_at "W"
  refine r_list (fun s13 aop q13 fa13 U13 e13 => ?_) (by exact (by decide : 1 ≤ sizeLine))
  have S13 := (S12.add fa13 U13 e13).front2
  clear S12
  walk_at "L"
  refine r_set' G0 hsz (Up.refl _) S13 (S13.up _ _ hxg) D12 (Nat.le_trans l12 (by decide)) (by k_is) (by k_is) (by k_is) (by k_is) fun s14 es14 n14 q14 S14 D14 l14 k14 => ?_
  replace l14 : es14.length ≤ 7 := Nat.le_trans l14 (Nat.succ_le_succ l12)
  clear S13
  walk_at "S"
  refine plainObj_wpAny_Assign_Attribute ?_ (by with_unfolding_all rfl)
  walk_at "W"
  refine r_tuple (fun s15 ta q15 fa15 U15 e15 => ?_) (by exact (by decide : 0 ≤ sizeLine))
  have S15 := (S14.add fa15 U15 e15).front2
  clear S14
  walk_at "W"
  refine r_list (fun s16 aar q16 fa16 U16 e16 => ?_) (by exact (by decide : 1 ≤ sizeLine))
  have S16 := (S15.add fa16 U16 e16).front2
  clear S15
  walk_at "L"
  refine r_set' G0 hsz (Up.refl _) S16 (S16.up _ _ hxg) D14 (Nat.le_trans l14 (by decide)) (by k_is) (by k_is) (by k_is) (by k_is) fun s17 es17 n17 q17 S17 D17 l17 k17 => ?_
  replace l17 : es17.length ≤ 8 := Nat.le_trans l17 (Nat.succ_le_succ l14)
  clear S16
  walk_at "S"
  refine plainObj_wpAny_Assign_Attribute ?_ (by with_unfolding_all rfl)
  walk_at "W"
  refine r_list (fun s18 aso q18 fa18 U18 e18 => ?_) (by exact (by decide : 1 ≤ sizeLine))
  have S18 := (S17.add fa18 U18 e18).front2
  clear S17
  walk_at "L"
  refine r_set' G0 hsz (Up.refl _) S18 (S18.up _ _ hxg) D17 (Nat.le_trans l17 (by decide)) (by k_is) (by k_is) (by k_is) (by k_is) fun s19 es19 n19 q19 S19 D19 l19 k19 => ?_
  replace l19 : es19.length ≤ 9 := Nat.le_trans l19 (Nat.succ_le_succ l17)
  clear S18
  walk_at "S"
  refine plainObj_wpAny_Assign_Attribute ?_ (by with_unfolding_all rfl)
  walk_at "W"
  refine r_list (fun s20 ada q20 fa20 U20 e20 => ?_) (by exact (by decide : 1 ≤ sizeLine))
  have S20 := (S19.add fa20 U20 e20).front2
  clear S19
  walk_at "L"
  refine r_set' G0 hsz (Up.refl _) S20 (S20.up _ _ hxg) D19 (Nat.le_trans l19 (by decide)) (by k_is) (by k_is) (by k_is) (by k_is) fun s21 es21 n21 q21 S21 D21 l21 k21 => ?_
  replace l21 : es21.length ≤ 10 := Nat.le_trans l21 (Nat.succ_le_succ l19)
  clear S20
  walk_at "S"
  refine plainObj_wpAny_Assign_Attribute ?_ (by with_unfolding_all rfl)
  walk_at "W"
  refine r_dict fun s22 anu q22 fa22 U22 e22 hle => ?_
  have S22 := (S21.add fa22 U22 e22).front2
  have btop : (anu == sysModules) = false := by
    have : 110 < s21.heap.objs.size := Heap.lt_size ((G0.K.keeps S21.up) 110 _ (by k_is))
    refine beq_eq_false_iff_ne.mpr fun q => ?_
    have q' : anu = (1 : Nat) := q
    have hle' : (s21.heap.objs.size : Nat) ≤ (anu : Nat) := hle
    rw [q'] at hle'
    omega
  clear S21
  walk_at "L"
  refine r_set' G0 hsz (Up.refl _) S22 (S22.up _ _ hxg) D21 (Nat.le_trans l21 (by decide)) (by k_is) (by k_is) (by k_is) (by k_is) fun s23 es23 n23 q23 S23 D23 l23 k23 => ?_
  replace l23 : es23.length ≤ 11 := Nat.le_trans l23 (Nat.succ_le_succ l21)
  clear S22
  have hL0 : g0.get? L = none := S23.off
  have hgL : g.get? L = none := by
    cases e : g.get? L with
    | none => rfl
    | some o => rw [Ug _ _ e] at hL0; cases hL0
  have Ub0 : Up hb g0 := fun b o e => hg0 ▸ gmax_get (Us _ _ e) (by simp only [List.map_cons, List.map_nil, List.mem_singleton]; intro q; rw [q, hbd] at e; cases e)
  obtain ⟨bk0, hbk⟩ : ∃ bk : BkA, bk = ⟨x, dx, aop, aar, aso, ada, anu, false⟩ := ⟨_, rfl⟩
  obtain ⟨F23, D23', BF, FF⟩ : ∃ F, DictF es23 F ∧ BkF bk0 F ∧ FunF fn fa fr F := by
    refine ⟨_, D23, ⟨by rw [hbk]; rfl, by rw [hbk]; rfl, by rw [hbk]; rfl, by rw [hbk]; rfl, by rw [hbk]; rfl, fun hr => (by rw [hbk] at hr; cases hr), fun hr => (by rw [hbk] at hr; cases hr), fun nm hm => ?_⟩, ⟨rfl, rfl, rfl⟩⟩
    simp only [bankMeths, List.mem_cons, List.not_mem_nil, or_false] at hm
    rcases hm with rfl | rfl | rfl | rfl | rfl | rfl | rfl | rfl | rfl | rfl | rfl | rfl | rfl | rfl <;> rfl
  have l23' : es23.length ≤ 12 := Nat.le_succ_of_le l23
  clear D23 l3 l5 l7 l9 l11 l12 l14 l17 l19 l21 l23
  have I0 : ∀ (g₂ : Heap) (es : List DictEntry) (n : Nat) (F : Str → Option Value), g₂.get? x = some (instObj 629 dx) → g₂.get? dx = some (dictOf es n) → DictF es F → BkF bk0 F → BankI g₂ bk0 := fun g₂ es n F h1 h2 h3 h4 => ⟨by rw [hbk]; exact h1, es, n, by rw [hbk]; exact h2, h4.d h3⟩
  -- true
  walk_at "S"
  refine plainObj_wpAny_Assign_Attribute ?_ (by with_unfolding_all rfl)
  walk_at "W"
  rw [show x = bk0.x by rw [hbk]]
  refine b_meth (f := 243) (bk := bk0) (G0.up S23.up) (Up.refl _) (I0 _ _ _ _ (S23.up _ _ hxg) (S23.get (.head _)) D23' BF) (by decide) (by k_is) (by k_is) (by k_is) ?_
  refine callWith_K (Gnd.K G0) (by k_is) ?_ (by exact rfl) (by exact rfl)
  walk_at "W"
  refine r_tuple (fun s24 kt1 q24 fa24 U24 e24 => ?_) (by exact (by decide : 0 ≤ sizeLine))
  have S24 := (S23.add fa24 U24 e24).front2
  clear S23
  walk_at "W"
  refine ⟨Frag.In.keeps (Gnd.K G0) S24.up, wpAny_call ?_⟩
  obtain ⟨wl0, hwl0⟩ : ∃ wl : List (Addr × Obj), wl = [(aop, lstO [Value.str (Str.ofString "") s12.toks].toArray 0), (aar, lstO [Value.ref ta].toArray 0), (aso, lstO [Value.int 0 291].toArray 0), (ada, lstO [Value.int 0 s19.toks].toArray 0), (anu, ({ cls := .type "dict", data := .dict #[] } : Obj))] := ⟨_, rfl⟩
  have T24 : Sd g0 L (fun y => List.lookup y ([(Str.ofString "self", Value.ref x)] : List (Str × Value)).reverse) (wl0 ++ (dx, dictOf es23 n23) :: (kt1, tupO ([] : List Value).toArray 0) :: [(ta, tupO ([] : List Value).toArray 0), (fr, lstO ([] : List Value).toArray 0), (fa, lstO ([] : List Value).toArray 0), (fn, lstO ([] : List Value).toArray 0)]) s24.heap := by
    rw [hwl0]
    exact Sd.pull (a := [_, _, _, _, _, _, _]) (Sd.pull (a := [_, _, _, _, _]) (Sd.pull (a := [_, _, _, _]) (Sd.pull (a := [_, _, _]) (Sd.pull (a := [_, _]) S24))))
  clear S24
  have hmap0 : wl0.map (·.1) = [aop, aar, aso, ada, anu] := by rw [hwl0]; rfl
  have ndT : ([aop, aar, aso, ada, anu, dx, kt1, ta, fr, fa, fn] : List Addr).Nodup := by
    have z := T24.nd
    rw [List.map_append, hmap0] at z
    exact z
  have hbn : ∀ {b : Addr}, g0.get? b = none → hb.get? b = none := fun {b} e => by
    cases z : hb.get? b with
    | none => rfl
    | some o => rw [Ub0 _ _ z] at e; cases e
  have BX0 : BX w (fun b => (∃ o, g.get? b = some o) ∨ (hb.get? b = none ∧ b ∉ [aop, aar, aso, ada, anu, fn, fa, fr, L])) s24.heap bk0 [⟨"", [], 0⟩] wl0 := by
    intro g₂ bk' f1 f2 f3 f4 f5 H I
    have hta : g₂.get? ta = some (tupO ([] : List Value).toArray 0) := H ta _ (.inr ⟨hbn (T24.nw (ta, tupO ([] : List Value).toArray 0) (List.mem_append_right _ (.tail _ (.tail _ (.head _))))).2.2, ?_⟩) (T24.get (List.mem_append_right _ (.tail _ (.tail _ (.head _))))) ⟨_, _, rfl⟩
    · refine ⟨I, ⟨_, _, _, _, _, _, _, _, _, _, _, [], by rw [f1, f2, f3, f4, f5, hbk]; exact hwl0, ⟨rfl, fun i n e => ?_⟩, ⟨rfl, fun i n e => ?_⟩, ⟨rfl, fun i n e => ?_⟩, rfl, ⟨rfl, rfl, rfl⟩, rfl, rfl, (fun y hy => nomatch hy), List.nodup_nil, ⟨rfl, fun i n e => ?_⟩⟩, ?_, by rw [f5, hbk]; exact btop, by simp⟩
      · cases i with
        | zero => simp at e; subst e; exact ⟨_, rfl⟩
        | succ i => simp at e
      · cases i with
        | zero => simp at e; subst e; exact ⟨ta, rfl, ints_key hta IntsAre.nil⟩
        | succ i => simp at e
      · cases i with
        | zero => simp at e; subst e; exact ⟨_, rfl⟩
        | succ i => simp at e
      · simp at e
      · have := T24.nd
        rw [List.map_append] at this
        exact (List.nodup_append.mp this).1
    · exact nd_out (xs := [aop, aar, aso, ada, anu, fn, fa, fr]) (nd_pick ndT [7, 0, 1, 2, 3, 4, 10, 9, 8] (by decide)) (T24.nw (ta, tupO ([] : List Value).toArray 0) (List.mem_append_right _ (.tail _ (.tail _ (.head _))))).2.1
  have hX0 : ∀ b ∈ [aop, aar, aso, ada, anu, fn, fa, fr, L], b = L ∨ ∃ p ∈ wl0 ++ (dx, dictOf es23 n23) :: (kt1, tupO ([] : List Value).toArray 0) :: [(ta, tupO ([] : List Value).toArray 0), (fr, lstO ([] : List Value).toArray 0), (fa, lstO ([] : List Value).toArray 0), (fn, lstO ([] : List Value).toArray 0)], p.1 = b := by
    intro b hb'
    have hm : b = L ∨ b ∈ (wl0 ++ (dx, dictOf es23 n23) :: (kt1, tupO ([] : List Value).toArray 0) :: [(ta, tupO ([] : List Value).toArray 0), (fr, lstO ([] : List Value).toArray 0), (fa, lstO ([] : List Value).toArray 0), (fn, lstO ([] : List Value).toArray 0)]).map (·.1) := by
      rw [List.map_append, hmap0]
      rcases List.mem_append.mp (show b ∈ [aop, aar, aso, ada, anu, fn, fa, fr] ++ [L] from hb') with h | h
      · exact .inr (mem_pick (l := [aop, aar, aso, ada, anu, dx, kt1, ta, fr, fa, fn]) [0, 1, 2, 3, 4, 10, 9, 8] h)
      · exact .inl (List.mem_singleton.mp h)
    rcases hm with h | h
    · exact .inl h
    · obtain ⟨p, hp, e⟩ := List.mem_map.mp h
      exact .inr ⟨p, hp, e⟩
  have hXg : ∀ b ∈ [aop, aar, aso, ada, anu, fn, fa, fr, L], g0.get? b = none := fun b hb' => by
    rcases hX0 b hb' with rfl | ⟨p, hp, rfl⟩
    · exact hL0
    · exact (T24.nw p hp).2.2
  have hxX : x ∉ [aop, aar, aso, ada, anu, fn, fa, fr, L] := fun hm => by have := hXg x hm; rw [hxg] at this; cases this
  have hdX : dx ∉ [aop, aar, aso, ada, anu, fn, fa, fr, L] := nd_out (xs := [aop, aar, aso, ada, anu, fn, fa, fr]) (nd_pick ndT [5, 0, 1, 2, 3, 4, 10, 9, 8] (by decide)) (T24.nw (dx, dictOf es23 n23) (List.mem_append_right _ (.head _))).2.1
  have hkX : kt1 ∉ [aop, aar, aso, ada, anu, fn, fa, fr, L] := nd_out (xs := [aop, aar, aso, ada, anu, fn, fa, fr]) (nd_pick ndT [6, 0, 1, 2, 3, 4, 10, 9, 8] (by decide)) (T24.nw (kt1, tupO ([] : List Value).toArray 0) (List.mem_append_right _ (.tail _ (.head _)))).2.1
  have hPL : ∀ b, ((∃ o, g.get? b = some o) ∨ (hb.get? b = none ∧ b ∉ [aop, aar, aso, ada, anu, fn, fa, fr, L])) → b ≠ L := fun b hp q => by
    rcases hp with ⟨o, e⟩ | ⟨_, e⟩
    · rw [q, hgL] at e; cases e
    · exact e (q ▸ List.mem_append_right [aop, aar, aso, ada, anu, fn, fa, fr] (.head _))
  refine st_make (k := k + 1) [aop, aar, aso, ada, anu, fn, fa, fr, L] G Uhb Ub0 T24 hX0 (fun p hp => ?_) BX0 (I0 _ _ _ _ (grd_get (T24.up _ _ hxg) (.inr ⟨hbx, hxX⟩)) (grd_get (T24.get (a := dx) (o := dictOf es23 n23) (List.mem_append_right _ (.head _))) (.inr ⟨hbd, hdX⟩)) D23' BF)
    (T24.get (a := kt1) (o := tupO ([] : List Value).toArray 0) (List.mem_append_right _ (.tail _ (.head _)))) (hbn (T24.nw (kt1, tupO ([] : List Value).toArray 0) (List.mem_append_right _ (.tail _ (.head _)))).2.2) hkX r' (fun i hi => ?_) (by decide) fun s26 t26 wl1 q26 S26 em1 BX1 kp1 => ?_
  · have : p.1 ∈ wl0.map (·.1) := List.mem_map_of_mem hp
    rw [hmap0] at this
    exact List.mem_append_left [fn, fa, fr, L] this
  · cases i with
    | zero => cases hi
    | succ i => simp
  dsimp only
  walk_at "W"
  have S27 := S26.perm List.perm_middle
  clear S26
  refine r_set' G0 hsz (Up.refl _) S27 (S27.up _ _ hxg) D23' (by omega) (by k_is) (by k_is) (by k_is) (by k_is) fun s28 es28 n28 q28 S28 D28 l28 k28 => ?_
  have BX2 := BX1.step fun b o hp e hc => k28 b o (fun q => by rw [q, S27.get (.head _)] at e; rw [← Option.some.inj e] at hc; obtain ⟨_, _, hc⟩ := hc; cases hc) (hPL b hp) e
  clear S27 BX1 BX0
  have hrd : bk0.ready = false := by rw [hbk]
  obtain ⟨F28, D28', BF28, FF28, ty, hty⟩ : ∃ F, DictF es28 F ∧ BkF bk0 F ∧ FunF fn fa fr F ∧ ∃ t, F "true_number" = some (.int 1 t) :=
    ⟨_, D28, BF.put (by decide) (fun hr => (by rw [hrd] at hr; cases hr)) (by decide), FF.put (by decide), _, rfl⟩
  clear D28 D23' BF FF
  have hmap1 : wl1.map (·.1) = [aop, aar, aso, ada, anu] := em1.trans hmap0
  -- false
  walk_at "S"
  refine plainObj_wpAny_Assign_Attribute ?_ (by with_unfolding_all rfl)
  walk_at "W"
  rw [show x = bk0.x by rw [hbk]]
  refine b_meth (f := 243) (bk := bk0) (G0.up S28.up) (Up.refl _) (I0 _ _ _ _ (S28.up _ _ hxg) (S28.get (.head _)) D28' BF28) (by decide) (by k_is) (by k_is) (by k_is) ?_
  refine callWith_K (Gnd.K G0) (by k_is) ?_ (by exact rfl) (by exact rfl)
  walk_at "W"
  refine r_tuple (fun s29 kt2 q29 fa29 U29 e29 => ?_) (by exact (by decide : 0 ≤ sizeLine))
  have S29 := S28.add fa29 U29 e29
  clear S28
  walk_at "W"
  refine ⟨Frag.In.keeps (Gnd.K G0) S29.up, wpAny_call ?_⟩
  have T29 := S29.perm (((List.Perm.cons _ (List.perm_middle (a := (dx, dictOf es28 n28)) (l₁ := wl1)).symm).trans List.perm_middle.symm))
  have hX1 : ∀ b ∈ [aop, aar, aso, ada, anu, fn, fa, fr, L], b = L ∨ ∃ p ∈ wl1 ++ (kt2, tupO ([] : List Value).toArray 0) :: (dx, dictOf es28 n28) :: (kt1, tupO ([] : List Value).toArray 0) :: [(ta, tupO ([] : List Value).toArray 0), (fr, lstO ([] : List Value).toArray 0), (fa, lstO ([] : List Value).toArray 0), (fn, lstO ([] : List Value).toArray 0)], p.1 = b := by
    intro b hb'
    have hm : b = L ∨ b ∈ (wl1 ++ (kt2, tupO ([] : List Value).toArray 0) :: (dx, dictOf es28 n28) :: (kt1, tupO ([] : List Value).toArray 0) :: [(ta, tupO ([] : List Value).toArray 0), (fr, lstO ([] : List Value).toArray 0), (fa, lstO ([] : List Value).toArray 0), (fn, lstO ([] : List Value).toArray 0)]).map (·.1) := by
      rw [List.map_append, hmap1]
      rcases List.mem_append.mp (show b ∈ [aop, aar, aso, ada, anu, fn, fa, fr] ++ [L] from hb') with h | h
      · exact .inr (mem_pick (l := [aop, aar, aso, ada, anu, kt2, dx, kt1, ta, fr, fa, fn]) [0, 1, 2, 3, 4, 11, 10, 9] h)
      · exact .inl (List.mem_singleton.mp h)
    rcases hm with h | h
    · exact .inl h
    · obtain ⟨p, hp, e⟩ := List.mem_map.mp h
      exact .inr ⟨p, hp, e⟩
  have ndU : ([aop, aar, aso, ada, anu, kt2, dx, kt1, ta, fr, fa, fn] : List Addr).Nodup := by
    have z := T29.nd
    rw [List.map_append, hmap1] at z
    exact z
  have hkX2 : kt2 ∉ [aop, aar, aso, ada, anu, fn, fa, fr, L] := nd_out (xs := [aop, aar, aso, ada, anu, fn, fa, fr]) (nd_pick ndU [5, 0, 1, 2, 3, 4, 11, 10, 9] (by decide)) (T29.nw (kt2, tupO ([] : List Value).toArray 0) (List.mem_append_right _ (.head _))).2.1
  refine st_make (k := k + 1) [aop, aar, aso, ada, anu, fn, fa, fr, L] G Uhb Ub0 T29 hX1 (fun p hp => ?_) (BX2.step fun b o _ e _ => U29 b o e) (I0 _ _ _ _ (grd_get (T29.up _ _ hxg) (.inr ⟨hbx, hxX⟩)) (grd_get (T29.get (a := dx) (o := dictOf es28 n28) (List.mem_append_right _ (.tail _ (.head _)))) (.inr ⟨hbd, hdX⟩)) D28' BF28)
    (T29.get (a := kt2) (o := tupO ([] : List Value).toArray 0) (List.mem_append_right _ (.head _))) (hbn (T29.nw (kt2, tupO ([] : List Value).toArray 0) (List.mem_append_right _ (.head _))).2.2) hkX2 r' (fun i hi => ?_) (by decide) fun s30 t30 wl2 q30 S30 em2 BX3 kp3 => ?_
  · have : p.1 ∈ wl1.map (·.1) := List.mem_map_of_mem hp
    rw [hmap1] at this
    exact List.mem_append_left [fn, fa, fr, L] this
  · cases i with
    | zero => cases hi
    | succ i => cases i with
      | zero => simp; decide
      | succ i => simp
  dsimp only
  walk_at "W"
  have hmap2 : wl2.map (·.1) = [aop, aar, aso, ada, anu] := em2.trans hmap1
  have S31 := S30.perm ((List.perm_middle (a := (kt2, tupO ([] : List Value).toArray 0))).trans ((List.Perm.cons _ List.perm_middle).trans (.swap _ _ _)))
  clear S30
  refine r_set' G0 hsz (Up.refl _) S31 (S31.up _ _ hxg) D28' (by omega) (by k_is) (by k_is) (by k_is) (by k_is) fun s32 es32 n32 q32 S32 D32 l32 k32 => ?_
  have BX4 := BX3.step fun b o hp e hc => k32 b o (fun q => by rw [q, S31.get (.head _)] at e; rw [← Option.some.inj e] at hc; obtain ⟨_, _, hc⟩ := hc; cases hc) (hPL b hp) e
  clear S31 BX3 BX2
  walk_at "W"
  obtain ⟨bk1, hbk1⟩ : ∃ bk : BkA, bk = ⟨x, dx, aop, aar, aso, ada, anu, true⟩ := ⟨_, rfl⟩
  have sub : List.Sublist ((dx, dictOf es32 n32) :: (wl2 ++ [(fr, lstO ([] : List Value).toArray 0), (fa, lstO ([] : List Value).toArray 0), (fn, lstO ([] : List Value).toArray 0)])) _ := .cons_cons _ (.cons (kt2, tupO ([] : List Value).toArray 0) ((List.Sublist.refl wl2).append (.cons (kt1, tupO ([] : List Value).toArray 0) (.cons (ta, tupO ([] : List Value).toArray 0) (.refl _)))))
  have S33 := S32.sub sub
  clear S32 sub
  have nd3 := S33.nd
  subst hbk hbk1
  refine h s32 ⟨x, dx, aop, aar, aso, ada, anu, true⟩ wl2 es32 n32 _ fn fa fr (by walk_at "Q") (eff_of (wl := [(dx, dictOf [] 0)]) (by rw [hg0]; exact S33.up) fun p hp => ⟨dictOf es32 n32, by rw [List.mem_singleton.mp hp]; exact S33.get (.head _)⟩) rfl rfl rfl (S33.get (.head _)) D32 (by omega)
    ⟨(if_neg (by decide)).trans BF28.ops, (if_neg (by decide)).trans BF28.args, (if_neg (by decide)).trans BF28.sorts, (if_neg (by decide)).trans BF28.datas, (if_neg (by decide)).trans BF28.nums, fun _ => ⟨ty, (if_neg (by decide)).trans hty⟩, fun _ => ⟨_, if_pos rfl⟩,
      fun nm hn => (if_neg fun (e : nm = "false_number") => absurd (e ▸ hn) (by decide)).trans (BF28.meths nm hn)⟩ (FF28.put (by decide)) (fun p hp => ?_) nd3 (BX.mono (fun g₂ bk' e1 e2 e3 e4 e5 => BX4 g₂ bk' e1 e2 e3 e4 e5) fun b hp => ?_)
  · have z := S33.nw p (.tail _ hp)
    refine ⟨z.1, ?_⟩
    cases e : s.heap.get? p.1 with
    | none => rfl
    | some o =>
      have hne' : p.1 ≠ dx := fun q => by
        rw [List.map_cons, List.nodup_cons] at nd3
        exact nd3.1 (List.mem_map.mpr ⟨p, hp, q⟩)
      have := hg0 ▸ gmax_get (wl := [(dx, dictOf [] 0)]) e (by simpa using hne')
      rw [z.2.2] at this; cases this
  · rcases hp with hp | ⟨h1, h2⟩
    · exact .inl hp
    · refine .inr ⟨h1, fun hm => h2 ?_⟩
      rw [hmap2] at hm
      exact mem_pick (l := [aop, aar, aso, ada, anu, fn, fa, fr, L]) [0, 1, 2, 3, 4, 7, 6, 5] hm
theorem call0k {w : World} {A : Around} {s : Shared} {g : Heap} {R : Result → Shared → Prop} {name qual : Str} {params : Arguments} {body : List Stmt} {scope : Scope} {dV kV doc pm cdv ct oc : Value} {an od : Option Addr} {osl : Array (Option Value)} {f cc : Addr} {args : Args} {binds : List (Str × Value)} {n : Nat}
    {wl : List (Addr × Obj)} (G : Gnd w g) (U : Up g s.heap) (hw : ∀ p ∈ wl, s.heap.get? p.1 = some p.2 ∧ g.get? p.1 = none) (hnd : (wl.map (·.1)).Nodup) (r : Rm A (n + 1))
    (ho : (Mine.top.hd.heap_39 w.params).lookup f = some ⟨oc, od, .func (ksFn name qual params body scope dV kV doc pm an cdv ct cc), osl⟩) (hcd : codeIn (Mine.top.hd.heap_39 w.params) cdv qual = true)
    (hbind : BindsTo s (ksFn name qual params body scope dV kV doc pm an cdv ct cc) args binds) (hloc : ∀ y ∈ binds, scope.names.lookup y.1 = some .local)
    (h : ∀ A' s₁, Same s s₁ → Rm A' n → Sd g s.heap.objs.size (fun y => binds.reverse.lookup y) wl s₁.heap → Up s.heap s₁.heap →
      _root_.PySem.wpAt (model pw w) A' (.func body (ksEnv qual scope s.heap.objs.size f cdv cc)) (execs body (ksEnv qual scope s.heap.objs.size f cdv cc)) (fun fl s' => R (.ok (.ret (match fl with | .ret v => v | _ => .none))) s') (fun _ _ => False) s₁)
    (hco : scope.isCoroutine = false) (hgen : scope.isGenerator = false) (hk : scope.kind = .function)
    (hcell : ∀ x ∈ scope.names, x.2 ≠ .cell) : codeAny (model pw w) A (.call (.ref f) args) R s := by
  have X := G.K.keeps U
  refine ks_codeAny_call_defAt (fd := ksFn name qual params body scope dV kV doc pm an cdv ct cc) (body := body) (binds := binds) r.lim (X _ _ ho) rfl (G.lim.keeps U) (codeRec_of X hcd) rfl hbind hcell hloc (fun h₁ hns hk₁ => ?_) hco hgen hk
  have fr := size_none s.heap
  have off : ∀ b, s.heap.get? b = none → g.get? b = none := fun b e => by
    cases q : g.get? b with
    | none => rfl
    | some o => rw [U _ _ q] at e; cases e
  refine ks_wpAt_mono (h _ { s with heap := h₁, toks := s.toks + binds.length } ⟨rfl, rfl⟩ (r.deeper _) ⟨hns, U.trans hk₁, off _ fr, fun p hp => ⟨hk₁ _ _ (hw p hp).1, fun e => ?_, (hw p hp).2⟩, hnd⟩ hk₁) (fun _ _ y => y) fun _ _ y => y.elim
  have := (hw p hp).1
  rw [e, fr] at this; cases this

theorem Sd.join {g h h' : Heap} {L : Addr} {m : Str → Option Value} {news news' new : List (Addr × Obj)} (S : Sd g L m news h) (S' : Sd g L m news' h') (ha : ∀ p ∈ news', ∃ o, h.get? p.1 = some o) (hn : ∀ p ∈ new, h'.get? p.1 = some p.2 ∧ h.get? p.1 = none) (nd : (new.map (·.1)).Nodup) : Sd g L m (new ++ news') h' := by
  refine ⟨S'.ns, S'.up, S'.off, fun p hp => ?_, ?_⟩
  · rcases List.mem_append.mp hp with hp | hp
    · refine ⟨(hn p hp).1, fun e => ?_, ?_⟩
      · obtain ⟨oL, _, _, hL, _⟩ := S.ns
        have := (hn p hp).2
        rw [e, hL] at this; cases this
      · cases q : g.get? p.1 with
        | none => rfl
        | some o =>
          have := (hn p hp).2
          rw [S.up _ _ q] at this; cases this
    · exact S'.nw p hp
  · rw [List.map_append, List.nodup_append]
    refine ⟨nd, S'.nd, fun a ha' b hb' e => ?_⟩
    obtain ⟨p, hp, rfl⟩ := List.mem_map.mp ha'
    obtain ⟨p', hp', rfl⟩ := List.mem_map.mp hb'
    obtain ⟨o, z⟩ := ha p' hp'
    rw [← e, (hn p hp).2] at z; cases z

abbrev funs (fn fa fr : Addr) : List (Addr × Obj) := [(fr, lstO ([] : List Value).toArray 0), (fa, lstO ([] : List Value).toArray 0), (fn, lstO ([] : List Value).toArray 0)]

theorem c_tb_init {w : World} {A : Around} {s : Shared} {g hb : Heap} {x dx : Addr} {R : Result → Shared → Prop} {k : Nat}
    (G : Gnd w g) (Uhb : Up g hb) (Us : Up hb s.heap) (hx : s.heap.get? x = some (instObj 629 dx)) (hd : s.heap.get? dx = some (dictOf [] 0)) (hbx : hb.get? x = none) (hbd : hb.get? dx = none) (hne : x ≠ dx) (r : Rm A (k + 4))
    (h : ∀ s' bk wl es n F fn fa fr, Same s s' → Eff [dx] s.heap s'.heap → bk.x = x → bk.d = dx → bk.ready = true → s'.heap.get? dx = some (dictOf es n) → DictF es F → BkF bk F → FunF fn fa fr F →
      (∀ p ∈ wl ++ funs fn fa fr, s'.heap.get? p.1 = some p.2 ∧ s.heap.get? p.1 = none) → (dx :: (wl ++ funs fn fa fr).map (·.1)).Nodup →
      BX w (fun b => (∃ o, g.get? b = some o) ∨ (hb.get? b = none ∧ b ∉ wl.map (·.1) ++ [fr, fa, fn])) s'.heap bk [⟨"", [], 0⟩, ⟨"true", [], 0⟩, ⟨"false", [], 0⟩] wl → R (.ok (.ret .none)) s') :
    codeAny (model pw w) A (.call (.ref 528) ⟨[.ref x], []⟩) R s := by
  have Ug : Up g (gmax s.heap [(dx, dictOf [] 0)]) := gmax_le (Uhb.trans Us) fun p hp => by
    rw [List.mem_singleton.mp hp]
    cases e : g.get? dx with
    | none => rfl
    | some o => rw [Uhb _ _ e] at hbd; cases hbd
  refine' call0k (g := gmax s.heap [(dx, dictOf [] 0)]) (wl := [(dx, dictOf [] 0)]) (binds := [("self", .ref x)]) (G.up Ug) (gmax_up _ _) (fun p hp => ⟨by rw [List.mem_singleton.mp hp]; exact hd, gmax_none hp⟩) (by simp) r (by k_is) (by k_is)
    (by exact BindsTo.of_eq rfl) (by exact locs rfl) ?_ (by exact rfl) (by exact rfl) (by exact rfl) (by decide)
  intro A' s₁ q r' S U₁
  have hxg : (gmax s.heap [(dx, dictOf [] 0)]).get? x = some (instObj 629 dx) := gmax_get hx (by simpa using hne)
  have G0 := G.up Ug
  have hsz : (gmax s.heap [(dx, dictOf [] 0)]).objs.size ≤ s.heap.objs.size := Nat.le_of_eq (gmax_size _ _)
  generalize hg0 : gmax s.heap [(dx, dictOf [] 0)] = g0 at *
  generalize s.heap.objs.size = L at *
  k_unmd
  refine ks_wpAt_execs_cons ?_
  refine ks_wpAt_Expr_any ?_
  refine ks_wpAt_MethodCall ?_
  obtain ⟨tp, tl, tm, mg, mb, T⟩ := G0.T
  have F₁ : Fr g0 L s₁.heap _ := ⟨S.ns, S.up, hsz⟩
  refine ks_node (C := 629) (odx := some (dictOf [] 0)) F₁ G0.K S.nw T (by k_is) rfl rfl ⟨S.up _ _ hxg, rfl, rfl, S.get (.head _)⟩ (by k_is) rfl (by decide +kernel) (by k_is) (by k_is) (by k_is) (by k_is) (by decide +kernel) rfl rfl rfl rfl (by decide +kernel) PyProof.Rows.Boot.«super» ?_
  intro so h' F' N' l'
  refine ks_method (C := 629) (odx := some (dictOf [] 0)) F' G0.K N' (.head _) ⟨F'.keep _ _ hxg, rfl, rfl, (N' (dx, dictOf [] 0) (by simp)).1⟩ (by k_is) (by ks_is) (by k_is) (by decide) ?_
  intro qm h'' F'' N'' l''
  have S₄ : Sd g0 L (fun y => List.lookup y ([("self", Value.ref x)] : List (Str × Value)).reverse) [(dx, dictOf [] 0)] h'' := ⟨F''.ns, F''.keep, S.off, fun p hp => N'' p (by simp at hp ⊢; exact .inr (.inr hp)), S.nd⟩
  refine callWith_M0 (K := Mine.top.hd.heap_39 w.params) ⟨(N'' _ (.head _)).1, G0.K.keeps F''.keep⟩ (by k_is) ?_
  refine call_meth N'' (.head _) ?_
  have Ub0 : Up hb g0 := fun b o e => hg0 ▸ gmax_get (Us _ _ e) (by simp only [List.map_cons, List.map_nil, List.mem_singleton]; intro q; rw [q, hbd] at e; cases e)
  refine c_bank_init (k := k) G Uhb (Ub0.trans S₄.up) (S₄.up _ _ hxg) (S₄.get (.head _)) hbx hbd hne r' fun s₅ bk wl es n F fn fa fr q₅ E₅ e1 e2 e3 hdx D l₅ BF FF hl nd BX₅ => ?_
  have S₅ := S₄.eff1 E₅ hdx
  have nd' : ((wl ++ funs fn fa fr).map (·.1)).Nodup := (List.nodup_cons.mp nd).2
  have S₆ := Sd.pull (b := []) (S₄.join S₅ (fun p hp => ⟨dictOf [] 0, by rw [List.mem_singleton.mp hp]; exact S₄.get (.head _)⟩) hl nd')
  clear S₅
  dsimp only
  refine wpAt_of_wpAny ?_
  walk_at "S"
  refine plainObj_wpAny_Assign_Attribute ?_ (by with_unfolding_all rfl)
  walk_at "W"
  refine r_dict fun s₇ bv q₇ fa₇ U₇ e₇ hle => ?_
  have S₇ := S₆.grown U₇
  clear S₆
  walk_at "L"
  refine r_set' G0 hsz (Up.refl _) S₇ (S₇.up _ _ hxg) D (by omega) (by k_is) (by k_is) (by k_is) (by k_is) fun s₈ es₈ n₈ q₈ S₈ D₈ l₈ k₈ => ?_
  walk_at "W"
  have BX₈ := BX₅.step fun b o hp e hc => k₈ b o (fun q => by rw [q, hdx] at e; rw [← Option.some.inj e] at hc; obtain ⟨_, _, hc⟩ := hc; cases hc) (fun q => by
    obtain ⟨oL, _, _, hL, hdL, _⟩ := S₇.ns
    have := U₇ _ _ e
    rw [q] at this
    rw [show _ = oL from Option.some.inj (this.symm.trans hL)] at hc
    obtain ⟨_, _, hc⟩ := hc
    rw [hdL] at hc; cases hc) (U₇ _ _ e)
  have hdn : ∀ p ∈ wl ++ funs fn fa fr, p.1 ≠ dx := fun p hp q => (List.nodup_cons.mp nd).1 (List.mem_map.mpr ⟨p, hp, q⟩)
  refine h s₈ bk wl es₈ n₈ _ fn fa fr (by walk_at "Q") (eff_of (wl := [(dx, dictOf [] 0)]) (by rw [hg0]; exact S₈.up) fun p hp => ⟨dictOf es₈ n₈, by rw [List.mem_singleton.mp hp]; exact S₈.get (.head _)⟩) e1 e2 e3 (S₈.get (.head _)) D₈
    (BF.put (by decide) (fun _ => ⟨by decide, by decide⟩) (by decide)) (FF.put (by decide)) (fun p hp => ⟨(S₈.nw p (List.mem_cons_of_mem _ (by rw [List.append_nil]; exact hp))).1, ?_⟩) nd BX₈
  cases e : s.heap.get? p.1 with
  | none => rfl
  | some o =>
    have z0 : g0.get? p.1 = some o := hg0 ▸ gmax_get (wl := [(dx, dictOf [] 0)]) e (by simpa using hdn p hp)
    have z := S₄.up _ _ z0
    have y : h''.get? p.1 = none := (hl p hp).2
    rw [z] at y; cases y

structure FunI (g : Heap) (bk : BkA) (fn fa fr : Addr) : Prop where
  inst : g.get? bk.x = some (instObj 629 bk.d)
  dict : ∃ es n, g.get? bk.d = some (dictOf es n) ∧ getL "fun_names" es = some (some (.ref fn)) ∧ getL "fun_args" es = some (some (.ref fa)) ∧ getL "fun_results" es = some (some (.ref fr))
theorem FunI.up {g h : Heap} {bk : BkA} {fn fa fr : Addr} (x : FunI g bk fn fa fr) (U : Up g h) : FunI h bk fn fa fr := ⟨U _ _ x.inst, let ⟨es, n, a, b⟩ := x.dict; ⟨es, n, U _ _ a, b⟩⟩

/-- TermBank() -/
theorem c_TermBank {w : World} {A : Around} {s : Shared} {g : Heap} {R : Result → Shared → Prop} {k : Nat} (G : Gnd w g) (U : Up g s.heap) (r : Rm A (k + 5))
    (h : ∀ s' bk wl fn fa fr g', Same s s' → Up s.heap s'.heap → Grow g s.heap g' s'.heap → bk.ready = true → BankW w g' bk [⟨"", [], 0⟩, ⟨"true", [], 0⟩, ⟨"false", [], 0⟩] wl → FunI g' bk fn fa fr →
      (∀ p ∈ wl ++ funs fn fa fr, s'.heap.get? p.1 = some p.2 ∧ s.heap.get? p.1 = none ∧ g'.get? p.1 = none) → ((wl ++ funs fn fa fr).map (·.1)).Nodup → R (.ok (.ret (.ref bk.x))) s') :
    codeAny (model pw w) A (.call (.ref 629) ⟨[], []⟩) R s := by
  refine r_make (n := k + 4) G U r (by k_is) (fI := 528) (by k_is) (by k_is) fun A' s₁ x dx r' q U₁ hx0 hd0 hne hx hd => ?_
  refine c_tb_init (k := k) G U U₁ hx hd hx0 hd0 hne r' fun s₂ bk wl es n F fn fa fr q₂ E e1 e2 e3 hdx D BF FF hl nd BX₂ => ?_
  have Ud : Up s.heap s₂.heap := fun b o e => E.ext b o (fun hm => by rw [List.mem_singleton.mp hm, hd0] at e; cases e) (U₁ _ _ e)
  have hx2 : s₂.heap.get? x = some (instObj 629 dx) := E.ext _ _ (fun hm => hne (List.mem_singleton.mp hm)) hx
  have hls : ∀ p ∈ wl ++ funs fn fa fr, s.heap.get? p.1 = none := fun p hp => by
    cases e : s.heap.get? p.1 with
    | none => rfl
    | some o =>
      have y := (hl p hp).2
      rw [U₁ _ _ e] at y; cases y
  have eX : (wl ++ funs fn fa fr).map (·.1) = wl.map (·.1) ++ [fr, fa, fn] := by rw [List.map_append]; rfl
  have hxX : x ∉ wl.map (·.1) ++ [fr, fa, fn] := fun hm => by
    rw [← eX] at hm
    obtain ⟨p, hp, rfl⟩ := List.mem_map.mp hm
    have y := (hl p hp).2
    rw [hx] at y; cases y
  have hdX : dx ∉ wl.map (·.1) ++ [fr, fa, fn] := fun hm => by
    rw [← eX] at hm
    exact (List.nodup_cons.mp nd).1 hm
  have Gr := grow_grd (g := g) (h₀ := s.heap) (h := s₂.heap) (X := wl.map (·.1) ++ [fr, fa, fn]) (U.trans Ud)
  have gx : (grd g s.heap s₂.heap (wl.map (·.1) ++ [fr, fa, fn])).get? bk.x = some (instObj 629 bk.d) := by rw [e1, e2]; exact grd_get hx2 (.inr ⟨hx0, hxX⟩)
  have gd : (grd g s.heap s₂.heap (wl.map (·.1) ++ [fr, fa, fn])).get? bk.d = some (dictOf es n) := by rw [e2]; exact grd_get hdx (.inr ⟨hd0, hdX⟩)
  refine ⟨rfl, ?_⟩
  rw [← e1]
  refine h s₂ bk wl fn fa fr _ (by walk_at "Q") Ud Gr e3 (BX₂ _ bk rfl rfl rfl rfl rfl (fun b o hp e _ => grd_get e hp) ⟨gx, es, n, gd, BF.d D⟩) ⟨gx, es, n, gd, by rw [D.getL, FF.names], by rw [D.getL, FF.args], by rw [D.getL, FF.results]⟩
    (fun p hp => ⟨(hl p hp).1, hls p hp, ?_⟩) (List.nodup_cons.mp nd).2
  cases e : (grd g s.heap s₂.heap (wl.map (·.1) ++ [fr, fa, fn])).get? p.1 with
  | none => rfl
  | some o =>
    rcases (grd_of e).2 with ⟨o', z⟩ | ⟨_, z⟩
    · have y := hls p hp
      rw [U _ _ z] at y; cases y
    · exact absurd (eX ▸ List.mem_map_of_mem hp) z
/-- what lay at the call's start lies on -/
theorem Sd.kept {h₀ h : Heap} {L : Addr} {m : Str → Option Value} {wl : List (Addr × Obj)} {news : List (Addr × Obj)} (S : Sd (gmax h₀ wl) L m news h) (hw : ∀ p ∈ wl, ∃ o, h.get? p.1 = some o) {a : Addr} (e : h.get? a = none) : h₀.get? a = none := by
  cases q : h₀.get? a with
  | none => rfl
  | some o =>
    by_cases hb : a ∈ wl.map (·.1)
    · obtain ⟨p, hp, rfl⟩ := List.mem_map.mp hb
      obtain ⟨o', z⟩ := hw p hp
      rw [e] at z; cases z
    · rw [S.up _ _ (gmax_get q hb)] at e; cases e

section
variable {w : World} {A : Around} {s : Shared} {g : Heap} {bk : BkA} {B : List Node} {wl : List (Addr × Obj)} {R : Result → Shared → Prop} {k : Nat}
theorem c_not_new {t : Int} {u : Tok} {n : Node} (G : Gnd w g) (U : Up g s.heap) (Bk : BankW w g bk B wl) (hr : bk.ready = true) (hw : ∀ p ∈ wl, s.heap.get? p.1 = some p.2 ∧ g.get? p.1 = none) (r : Rm A (k + 2)) (h0 : 3 ≤ t) (hn : B[t.toNat]? = some n) (ho : n.op ≠ "not")
    (hi : ∀ i : Nat, 0 < i → B[i]? ≠ some ⟨"not", [t], 0⟩) (hsm : B.length < 1000)
    (h : ∀ s' t' g' wl', Same s s' → Grow g s.heap g' s'.heap → Eff (wl.map (·.1)) s.heap s'.heap → BankW w g' bk (B ++ [⟨"not", [t], 0⟩]) wl' → wl'.map (·.1) = wl.map (·.1) → (∀ p ∈ wl', s'.heap.get? p.1 = some p.2) →
      R (.ok (.ret (.int (B.length : Int) t'))) s') : codeAny (model pw w) A (.call (.ref 327) ⟨[.ref bk.x, .int t u], []⟩) R s := by
  have Ug := gmax_le (wl := wl) U fun p hp => (hw p hp).2
  have hlt := (List.getElem?_eq_some_iff.mp hn).1
  have hsm' := Bk.small
  refine' call0 (g := gmax s.heap wl) (wl := wl) (binds := [("self", .ref bk.x), ("t", .int t u)]) (G.up Ug) (gmax_up _ _) (fun p hp => ⟨(hw p hp).1, gmax_none hp⟩) Bk.nd r (by k_is) (by k_is) (by exact BindsTo.of_eq rfl) (by exact locs rfl) ?_ (by exact rfl) (by exact rfl) (by exact rfl) (by decide)
  intro A' L s₁ q r' S U₁ fr
  have G' := G.up Ug
  have Bk' := Bk.up Ug
  k_unmd
  walk_at "W"
  refine b_meth (f := 264) G' S.up Bk'.I (by decide) (by k_is) (by k_is) (by k_is) ?_
  walk_at "C"
  refine c_want (G'.up S.up) (Bk'.at S.up fun p hp => S.get hp) r' (by omega) hn fun s₂ q₂ U₂ => ?_
  replace S := S.grown U₂
  obtain ⟨vs, hl, hops⟩ := (Bk'.at S.up fun p hp => S.get hp).ops
  obtain ⟨t', ht⟩ := hops.2 _ _ hn
  dsimp only
  walk_at "W"
  refine b_ops G' S.up Bk'.I ?_
  walk_at "W"
  refine item_list hl (by omega) (by omega) ht ?_ (by with_unfolding_all rfl)
  walk_at "W"
  rw [if_neg (by simpa using ho)]
  walk_at "W"
  refine b_yes G' S.up Bk'.I hr fun ty => ?_
  walk_at "W"
  rw [if_neg (by simp; omega)]
  walk_at "W"
  refine b_no G' S.up Bk'.I hr fun tn => ?_
  walk_at "W"
  rw [if_neg (by simp; omega)]
  walk_at "W"
  refine b_meth (f := 243) G' S.up Bk'.I (by decide) (by k_is) (by k_is) (by k_is) ?_
  refine callWith_K (Gnd.K G') (by k_is) ?_ (by exact rfl) (by exact rfl)
  walk_at "W"
  refine r_tuple (fun s₃ a q₃ fa Ua ea => ?_) (by exact (by decide : 1 ≤ sizeLine))
  have hfr : s.heap.get? a = none := S.kept (fun p hp => ⟨_, S.get hp⟩) fa
  replace S := S.grown Ua
  walk_at "W"
  refine ⟨Frag.In.keeps G'.K S.up, wpAny_call ?_⟩
  have Gr : Grow g s.heap (grd g s.heap s₃.heap []) s₃.heap := grow_grd (Ug.trans S.up)
  have Ef : Eff (wl.map (·.1)) s.heap s₃.heap := eff_of S.up fun p hp => ⟨_, S.get hp⟩
  refine c_make_new (k := k) (n := ⟨"not", [t], 0⟩) (G.up Gr.le) Gr.up (Bk.up Gr.le) (fun p hp => ⟨S.get hp, grd_none (hw p hp).1 (hw p hp).2⟩) r' hi hsm (key_of1 (grd_get ea (.inr ⟨hfr, by simp⟩))) fun s₆ t₆ g₆ wl₆ q₆ Gr₆ Ef₆ Bk₆ e₆ a₆ => ?_
  exact h s₆ t₆ g₆ wl₆ (by walk_at "Q") (Gr.trans Ef Gr₆) (Ef.trans Ef₆) Bk₆ e₆ a₆

theorem c_eq_new {a b : Int} {ua ub : Tok} {na nb : Node} (G : Gnd w g) (U : Up g s.heap) (Bk : BankW w g bk B wl) (hr : bk.ready = true) (hw : ∀ p ∈ wl, s.heap.get? p.1 = some p.2 ∧ g.get? p.1 = none) (r : Rm A (k + 2)) (ha : 0 ≤ a) (hab : a < b) (hna : B[a.toNat]? = some na) (hnb : B[b.toNat]? = some nb)
    (hi : ∀ i : Nat, 0 < i → B[i]? ≠ some ⟨"=", [a, b], 0⟩) (hsm : B.length < 1000)
    (h : ∀ s' t' g' wl', Same s s' → Grow g s.heap g' s'.heap → Eff (wl.map (·.1)) s.heap s'.heap → BankW w g' bk (B ++ [⟨"=", [a, b], 0⟩]) wl' → wl'.map (·.1) = wl.map (·.1) → (∀ p ∈ wl', s'.heap.get? p.1 = some p.2) →
      R (.ok (.ret (.int (B.length : Int) t'))) s') : codeAny (model pw w) A (.call (.ref 369) ⟨[.ref bk.x, .int a ua, .int b ub], []⟩) R s := by
  have Ug := gmax_le (wl := wl) U fun p hp => (hw p hp).2
  have hlta := (List.getElem?_eq_some_iff.mp hna).1
  have hltb := (List.getElem?_eq_some_iff.mp hnb).1
  have hsm' := Bk.small
  refine' call0 (g := gmax s.heap wl) (wl := wl) (binds := [("self", .ref bk.x), ("a", .int a ua), ("b", .int b ub)]) (G.up Ug) (gmax_up _ _) (fun p hp => ⟨(hw p hp).1, gmax_none hp⟩) Bk.nd r (by k_is) (by k_is) (by exact BindsTo.of_eq rfl) (by exact locs rfl) ?_ (by exact rfl) (by exact rfl) (by exact rfl) (by decide)
  intro A' L s₁ q r' S U₁ fr
  have G' := G.up Ug
  have Bk' := Bk.up Ug
  k_unmd
  walk_at "W"
  refine b_meth (f := 264) G' S.up Bk'.I (by decide) (by k_is) (by k_is) (by k_is) ?_
  refine callWith_K (Gnd.K G') (by k_is) ?_ (by exact rfl) (by exact rfl)
  walk_at "W"
  refine b_sorts G' S.up Bk'.I ?_
  walk_at "W"
  obtain ⟨vs, hl, hz⟩ := (Bk'.at S.up fun p hp => S.get hp).sorts
  obtain ⟨tz, htz⟩ := hz.2 _ _ hna
  refine item_list (hl.at fun o e => e) ha (by omega) htz ?_ (by with_unfolding_all rfl)
  walk_at "W"
  refine ⟨Frag.In.keeps (Gnd.K G') S.up, wpAny_call ?_⟩
  refine c_want (G'.up S.up) (Bk'.at S.up fun p hp => S.get hp) r' (by omega) hnb fun s₂ q₂ U₂ => ?_
  replace S := S.grown U₂
  dsimp only
  walk_at "W"
  rw [if_neg (by simp; omega)]
  walk_at "W"
  refine b_meth (f := 243) G' S.up Bk'.I (by decide) (by k_is) (by k_is) (by k_is) ?_
  refine callWith_K (Gnd.K G') (by k_is) ?_ (by exact rfl) (by exact rfl)
  walk_at "W"
  refine min_two_ints r'.handled fun h₃ k₃ u₃ => ?_
  replace S := S.grown u₃
  rw [if_neg (by omega)]
  walk_at "W"
  refine max_two_ints r'.handled fun h₄ k₄ u₄ => ?_
  replace S := S.grown u₄
  rw [if_pos (by omega)]
  walk_at "W"
  refine r_tuple (fun s₅ kt q₅ fa Ua ea => ?_) (by exact (by decide : 2 ≤ sizeLine))
  have hfr : s.heap.get? kt = none := S.kept (fun p hp => ⟨_, S.get hp⟩) fa
  replace S := S.grown Ua
  walk_at "W"
  refine ⟨Frag.In.keeps G'.K S.up, wpAny_call ?_⟩
  have Gr : Grow g s.heap (grd g s.heap s₅.heap []) s₅.heap := grow_grd (Ug.trans S.up)
  have Ef : Eff (wl.map (·.1)) s.heap s₅.heap := eff_of S.up fun p hp => ⟨_, S.get hp⟩
  refine c_make_new (k := k) (n := ⟨"=", [a, b], 0⟩) (G.up Gr.le) Gr.up (Bk.up Gr.le) (fun p hp => ⟨S.get hp, grd_none (hw p hp).1 (hw p hp).2⟩) r' hi hsm (ints_key (grd_get ea (.inr ⟨hfr, by simp⟩)) (.cons _ _ (.cons _ _ .nil))) fun s₆ t₆ g₆ wl₆ q₆ Gr₆ Ef₆ Bk₆ e₆ a₆ => ?_
  exact h s₆ t₆ g₆ wl₆ (by walk_at "Q") (Gr.trans Ef Gr₆) (Ef.trans Ef₆) Bk₆ e₆ a₆
end
section
variable {w : World} {A : Around} {s : Shared} {bk : BkA} {B : List Node} {R : Result → Shared → Prop} {k : Nat}
theorem c_want_allT {l : Addr} {vs : List Value} {xs : List Int} {u' : Tok} {wv : Value} (G : Gnd w s.heap) (Bk : BankAt w s.heap bk B) (r : Rm A (k + 2)) (hl : s.heap.IsTuple l vs.toArray) (hi : IntsAre vs xs) (hx : ∀ x ∈ xs, 0 ≤ x ∧ x.toNat < B.length)
    (h : ∀ s', Same s s' → Up s.heap s'.heap → R (.ok (.ret .none)) s') : codeAny (model pw w) A (.call (.ref 271) ⟨[.ref bk.x, .ref l, .int 0 u', wv], []⟩) R s := by
  refine' call0 (g := s.heap) (wl := []) (binds := [("self", .ref bk.x), ("some", .ref l), ("s", .int 0 u'), ("where", wv)]) G (Up.refl _) (by simp) (by simp) r (by k_is) (by k_is) (by exact BindsTo.of_eq rfl) (by exact locs rfl) ?_ (by exact rfl) (by exact rfl) (by exact rfl) (by decide)
  intro A' L s₁ q r' S U₁ fr
  k_unmd
  walk_at "S"
  refine wpAny_For ?_ (by intro _; rfl)
  walk_at "L"
  refine r_for_tuple r'.handled S hl (fun _ _ m news => news = [] ∧ m "self" = some (.ref bk.x) ∧ m "s" = some (.int 0 u') ∧ m "where" = some wv) ⟨rfl, rfl, rfl, rfl⟩ rfl rfl rfl ?_ ?_
  · rintro I i v g₁ m₁ news₁ s₂ oI hlt hv ⟨rfl, e1, e2, e3⟩ U₂ q₂ S₂
    have hlt' : i < xs.length := by have := hi.length; simp at hlt; omega
    obtain ⟨t, ht⟩ := hi.get i xs[i] (by simp [hlt'])
    have hv' : v = .int xs[i] t := by simp at hv; rw [hv] at ht; exact Option.some.inj ht
    subst hv'
    have G₁ := G.up U₂
    have hb := hx xs[i] (by simp)
    walk_at "W"
    refine b_meth (f := 264) G₁ S₂.up (Bk.I.up U₂) (by decide) (by k_is) (by k_is) (by k_is) ?_
    clear G
    walk_at "C"
    refine c_want (G₁.up S₂.up) (Bk.up (U₂.trans S₂.up)) r' hb.1 (List.getElem?_eq_getElem hb.2) fun s₃ q₃ U₃ => ?_
    dsimp only
    walk_at "W"
    exact ⟨.inl rfl, g₁, _, [], Up.refl _, by walk_at "Q", S₂.grown U₃, rfl, e1, e2, e3⟩
  · rintro g₁ m₁ news₁ s₂ q₂ U₂ S₂ -
    dsimp only
    walk_at "W"
    exact h _ (by walk_at "Q") (U₂.trans S₂.up)
end

theorem c_iff_new {w : World} {A : Around} {s : Shared} {g : Heap} {bk : BkA} {B : List Node} {wl : List (Addr × Obj)} {R : Result → Shared → Prop} {k : Nat} {a b : Int} {ua ub : Tok} {na nb : Node} (G : Gnd w g) (U : Up g s.heap) (Bk : BankW w g bk B wl) (hr : bk.ready = true) (hw : ∀ p ∈ wl, s.heap.get? p.1 = some p.2 ∧ g.get? p.1 = none) (r : Rm A (k + 3)) (ha : 0 ≤ a) (hab : a < b) (hna : B[a.toNat]? = some na) (hnb : B[b.toNat]? = some nb)
    (hi : ∀ i : Nat, 0 < i → B[i]? ≠ some ⟨"=", [a, b], 0⟩) (hsm : B.length < 1000)
    (h : ∀ s' t' g' wl', Same s s' → Grow g s.heap g' s'.heap → Eff (wl.map (·.1)) s.heap s'.heap → BankW w g' bk (B ++ [⟨"=", [a, b], 0⟩]) wl' → wl'.map (·.1) = wl.map (·.1) → (∀ p ∈ wl', s'.heap.get? p.1 = some p.2) →
      R (.ok (.ret (.int (B.length : Int) t'))) s') : codeAny (model pw w) A (.call (.ref 362) ⟨[.ref bk.x, .int a ua, .int b ub], []⟩) R s := by
  have Ug := gmax_le (wl := wl) U fun p hp => (hw p hp).2
  have hlta := (List.getElem?_eq_some_iff.mp hna).1
  have hltb := (List.getElem?_eq_some_iff.mp hnb).1
  refine' call0 (g := gmax s.heap wl) (wl := wl) (binds := [("self", .ref bk.x), ("a", .int a ua), ("b", .int b ub)]) (G.up Ug) (gmax_up _ _) (fun p hp => ⟨(hw p hp).1, gmax_none hp⟩) Bk.nd r (by k_is) (by k_is) (by exact BindsTo.of_eq rfl) (by exact locs rfl) ?_ (by exact rfl) (by exact rfl) (by exact rfl) (by decide)
  intro A' L s₁ q r' S U₁ fr
  have G' := G.up Ug
  have Bk' := Bk.up Ug
  k_unmd
  walk_at "W"
  refine b_meth (f := 271) G' S.up Bk'.I (by decide) (by k_is) (by k_is) (by k_is) ?_
  refine callWith_K (Gnd.K G') (by k_is) ?_ (by exact rfl) (by exact rfl)
  walk_at "W"
  refine r_tuple (fun s₂ tt q₂ fa Ua ea => ?_) (by exact (by decide : 2 ≤ sizeLine))
  replace S := S.grown Ua
  walk_at "W"
  refine ⟨Frag.In.keeps (Gnd.K G') S.up, wpAny_call ?_⟩
  refine c_want_allT (k := k) (vs := [.int a ua, .int b ub]) (xs := [a, b]) (G'.up S.up) (Bk'.at S.up fun p hp => S.get hp) r' ⟨_, ea, rfl, _, rfl⟩ (.cons _ _ (.cons _ _ .nil)) (fun x hx => ?_) fun s₃ q₃ U₃ => ?_
  · simp only [List.mem_cons, List.not_mem_nil, or_false] at hx
    rcases hx with rfl | rfl
    · exact ⟨ha, hlta⟩
    · exact ⟨by omega, hltb⟩
  replace S := S.grown U₃
  dsimp only
  walk_at "W"
  refine b_meth (f := 369) G' S.up Bk'.I (by decide) (by k_is) (by k_is) (by k_is) ?_
  walk_at "C"
  have Gr : Grow g s.heap (grd g s.heap s₃.heap []) s₃.heap := grow_grd (Ug.trans S.up)
  have Ef : Eff (wl.map (·.1)) s.heap s₃.heap := eff_of S.up fun p hp => ⟨_, S.get hp⟩
  refine c_eq_new (k := k) (G.up Gr.le) Gr.up (Bk.up Gr.le) hr (fun p hp => ⟨S.get hp, grd_none (hw p hp).1 (hw p hp).2⟩) r' ha hab hna hnb hi hsm fun s₆ t₆ g₆ wl₆ q₆ Gr₆ Ef₆ Bk₆ e₆ a₆ => ?_
  exact h s₆ t₆ g₆ wl₆ (by walk_at "Q") (Gr.trans Ef Gr₆) (Ef.trans Ef₆) Bk₆ e₆ a₆
/-- what g' has beyond g -/
def extra (g g' : Heap) : List (Addr × Obj) := (List.range g'.objs.size).filterMap fun b => match g.get? b with | some _ => none | none => (g'.get? b).map fun o => (b, o)
theorem mem_extra {g g' : Heap} {p : Addr × Obj} : p ∈ extra g g' ↔ g.get? p.1 = none ∧ g'.get? p.1 = some p.2 := by
  constructor
  · intro hp
    obtain ⟨b, hb, e⟩ := List.mem_filterMap.mp hp
    split at e
    · cases e
    · rename_i hg
      obtain ⟨o, ho, e'⟩ := Option.map_eq_some_iff.mp e
      cases e'
      exact ⟨hg, ho⟩
  · rintro ⟨h1, h2⟩
    refine List.mem_filterMap.mpr ⟨p.1, List.mem_range.mpr (Heap.lt_size h2), ?_⟩
    rw [h1]
    simp only [h2, Option.map_some]
theorem extra_nodup (g g' : Heap) : ((extra g g').map (·.1)).Nodup := by
  have key : ∀ (b : Addr) (p : Addr × Obj), (match g.get? b with | some _ => none | none => (g'.get? b).map fun o => (b, o)) = some p → p.1 = b := fun b p e => by
    split at e
    · cases e
    · obtain ⟨o, ho, e'⟩ := Option.map_eq_some_iff.mp e
      cases e'; rfl
  rw [List.Nodup, List.pairwise_map]
  refine List.Pairwise.filterMap _ (fun a a' hne b hb b' hb' e => ?_) (List.nodup_range (n := g'.objs.size))
  exact hne ((key a b hb).symm.trans (e.trans (key a' b' hb')))
theorem Sd.ungrow {g g' h : Heap} {L : Addr} {m : Str → Option Value} {news : List (Addr × Obj)} (S : Sd g' L m news h) (U : Up g g') : Sd g L m (extra g g' ++ news) h := by
  have og : ∀ b, g'.get? b = none → g.get? b = none := fun b q => by
    cases z : g.get? b with
    | none => rfl
    | some o => rw [U _ _ z] at q; cases q
  refine ⟨S.ns, U.trans S.up, og _ S.off, fun p hp => ?_, ?_⟩
  · rcases List.mem_append.mp hp with hp | hp
    · have := mem_extra.mp hp
      exact ⟨S.up _ _ this.2, (fun e => by rw [e, S.off] at this; cases this.2), this.1⟩
    · have := S.nw p hp
      exact ⟨this.1, this.2.1, og _ this.2.2⟩
  · rw [List.map_append, List.nodup_append]
    refine ⟨extra_nodup _ _, S.nd, fun a ha b hb e => ?_⟩
    obtain ⟨p, hp, rfl⟩ := List.mem_map.mp ha
    obtain ⟨q, hq, rfl⟩ := List.mem_map.mp hb
    have h1 := (mem_extra.mp hp).2
    have h2 := (S.nw q hq).2.2
    rw [e, h2] at h1; cases h1
theorem extra_up {g g' g₂ : Heap} (U : Up g g₂) (hx : ∀ p ∈ extra g g', g₂.get? p.1 = some p.2) (Ug : Up g g') : Up g' g₂ := fun b o e => by
  cases q : g.get? b with
  | none => exact hx (b, o) (mem_extra.mpr ⟨q, e⟩)
  | some o' =>
    have := Ug _ _ q
    rw [e] at this; cases this
    exact U _ _ q
theorem Sd.rootAll {L : Addr} {m : Str → Option Value} {news : List (Addr × Obj)} {h : Heap} : ∀ {tl : List (Addr × Obj)} {g : Heap}, Sd g L m (tl ++ news) h →
    ∃ g', Up g g' ∧ (∀ p ∈ tl, g'.get? p.1 = some p.2) ∧ Sd g' L m news h ∧ (∀ b x, g'.get? b = some x → b ∈ tl.map (·.1) ∨ ∃ x', g.get? b = some x')
  | [], g, S => ⟨g, Up.refl _, by simp, S, fun b x e => .inr ⟨x, e⟩⟩
  | (a, o) :: tl, g, S => by
    obtain ⟨g₁, U₁, e₁, S₁, d₁⟩ := Sd.root (a := a) (o := o) (news := tl ++ news) S
    obtain ⟨g₂, U₂, e₂, S₂, d₂⟩ := Sd.rootAll S₁
    refine ⟨g₂, U₁.trans U₂, fun p hp => ?_, S₂, fun b x e => ?_⟩
    · rcases List.mem_cons.mp hp with rfl | hp
      · exact U₂ _ _ e₁
      · exact e₂ p hp
    · rcases d₂ b x e with q | ⟨x', q⟩
      · exact .inl (List.mem_cons_of_mem _ q)
      · rcases d₁ b x' q with rfl | q
        · exact .inl (.head _)
        · exact .inr q

theorem Sd.rootAll' {P : Prop} {L : Addr} {m : Str → Option Value} {news : List (Addr × Obj)} {h : Heap} {tl : List (Addr × Obj)} {g : Heap} (S : Sd g L m (tl ++ news) h)
    (k : ∀ g', Up g g' → (∀ p ∈ tl, g'.get? p.1 = some p.2) → Sd g' L m news h → P) : P :=
  let ⟨g', U, e, S', _⟩ := Sd.rootAll S
  k g' U e S'
/-- the three lists of the funs -/
def FunL (fn fa fr : Addr) (N : Nat) (fl : List (Addr × Obj)) : Prop := ∃ vr nr va na vn nn, fl = [(fr, lstO vr nr), (fa, lstO va na), (fn, lstO vn nn)] ∧ vr.size = N ∧ va.size = N ∧ vn.size = N
theorem FunL.fst {fn fa fr : Addr} {N : Nat} {fl : List (Addr × Obj)} (x : FunL fn fa fr N fl) : fl.map (·.1) = [fr, fa, fn] := by obtain ⟨_, _, _, _, _, _, rfl, _⟩ := x; rfl

theorem c_declare {w : World} {A : Around} {s : Shared} {g : Heap} {bk : BkA} {fn fa fr ta : Addr} {fl : List (Addr × Obj)} {N : Nat} {its : Array Value} {name res : Value} {R : Result → Shared → Prop} {k : Nat}
    (G : Gnd w g) (U : Up g s.heap) (I : FunI g bk fn fa fr) (FL : FunL fn fa fr N fl) (hw : ∀ p ∈ fl, s.heap.get? p.1 = some p.2 ∧ g.get? p.1 = none) (hnd : (fl.map (·.1)).Nodup) (r : Rm A (k + 1)) (ht : g.IsTuple ta its) (hN : N ≤ 1000)
    (h : ∀ s' t fl', Same s s' → Eff (fl.map (·.1)) s.heap s'.heap → (∀ p ∈ fl', s'.heap.get? p.1 = some p.2) → FunL fn fa fr (N + 1) fl' → R (.ok (.ret (.int N t))) s') :
    codeAny (model pw w) A (.call (.ref 152) ⟨[.ref bk.x, name, .ref ta, res], []⟩) R s := by
  have z : sizeLine = 16777216 := rfl
  obtain ⟨vr, nr, va, na, vn, nn, rfl, hr, ha, hn⟩ := FL
  have Ug := gmax_le (wl := [(fr, lstO vr nr), (fa, lstO va na), (fn, lstO vn nn)]) U fun p hp => (hw p hp).2
  refine' call0 (g := gmax s.heap [(fr, lstO vr nr), (fa, lstO va na), (fn, lstO vn nn)]) (wl := [(fr, lstO vr nr), (fa, lstO va na), (fn, lstO vn nn)]) (binds := [("self", .ref bk.x), ("name", name), ("arg_sorts", .ref ta), ("result", res)]) (G.up Ug) (gmax_up _ _) (fun p hp => ⟨(hw p hp).1, gmax_none hp⟩) hnd r (by k_is) (by k_is) (by exact BindsTo.of_eq rfl) (by exact locs rfl) ?_ (by exact rfl) (by exact rfl) (by exact rfl) (by decide)
  intro A' L s₁ q r' S U₁ fr'
  have G' := G.up Ug
  have I' := I.up Ug
  obtain ⟨es, n, hd, d1, d2, d3⟩ := I'.dict
  k_unmd
  walk_at "W"
  refine r_attr (attr := none) G' S.up (S.up _ _ I'.inst) (S.up _ _ hd) (by k_is) (by k_is) (by k_is) (by k_is) d1 rfl ?_
  replace S := S.front3
  refine m_append (S.get (.head _)) ?_
  walk_at "W"
  refine r_append S (fun s₂ n₂ q₂ S₂ hs₂ => ?_) (by rw [z]; omega)
  clear S
  walk_at "W"
  refine r_attr (attr := none) G' S₂.up (S₂.up _ _ I'.inst) (S₂.up _ _ hd) (by k_is) (by k_is) (by k_is) (by k_is) d2 rfl ?_
  replace S₂ := S₂.front3
  refine m_append (S₂.get (.head _)) ?_
  walk_at "W"
  refine call_tuple_same (ht.at fun o e => S₂.up _ _ (Ug _ _ e)) ?_
  walk_at "W"
  refine r_append S₂ (fun s₃ n₃ q₃ S₃ hs₃ => ?_) (by rw [z]; omega)
  clear S₂
  walk_at "W"
  refine r_attr (attr := none) G' S₃.up (S₃.up _ _ I'.inst) (S₃.up _ _ hd) (by k_is) (by k_is) (by k_is) (by k_is) d3 rfl ?_
  replace S₃ := S₃.front3
  refine m_append (S₃.get (.head _)) ?_
  walk_at "W"
  refine r_append S₃ (fun s₄ n₄ q₄ S₄ hs₄ => ?_) (by rw [z]; omega)
  clear S₃
  walk_at "W"
  refine r_attr (attr := none) G' S₄.up (S₄.up _ _ I'.inst) (S₄.up _ _ hd) (by k_is) (by k_is) (by k_is) (by k_is) d1 rfl ?_
  walk_at "W"
  refine len_list_any (lst_is (S₄.get (a := fn) (o := lstO (vn.push name) n₂) (by simp))) (by simp; omega) fun s₅ t₅ q₅ e₅ => ?_
  dsimp only at e₅
  rw [← e₅] at S₄
  walk_at "W"
  refine sub_int ?_
  rw [show ((Array.push vn name).size : Int) - 1 = (N : Int) by simp [hn]]
  refine h _ _ [(fr, lstO (vr.push res) n₄), (fa, lstO (va.push (.ref ta)) n₃), (fn, lstO (vn.push name) n₂)] (by walk_at "Q") ?_ (fun p hp => S₄.get hp) ⟨_, _, _, _, _, _, rfl, by simp [hr], by simp [ha], by simp [hn]⟩
  exact eff_of' (wl := [(fr, lstO vr nr), (fa, lstO va na), (fn, lstO vn nn)]) S₄.up (wl' := [(fr, lstO (vr.push res) n₄), (fa, lstO (va.push (.ref ta)) n₃), (fn, lstO (vn.push name) n₂)]) (fun p hp => S₄.get hp) rfl

theorem c_fresh {w : World} {A : Around} {s : Shared} {g : Heap} {bk : BkA} {B : List Node} {wl fl : List (Addr × Obj)} {fn fa fr : Addr} {N : Nat} {name : Value} {u : Tok} {R : Result → Shared → Prop} {k : Nat}
    (G : Gnd w g) (U : Up g s.heap) (Bk : BankW w g bk B wl) (I : FunI g bk fn fa fr) (FL : FunL fn fa fr N fl) (hw : ∀ p ∈ wl ++ fl, s.heap.get? p.1 = some p.2 ∧ g.get? p.1 = none) (hnd : ((wl ++ fl).map (·.1)).Nodup) (r : Rm A (k + 2)) (hN : N ≤ 1000)
    (hi : ∀ i : Nat, 0 < i → B[i]? ≠ some ⟨"app", [], N⟩) (hsm : B.length < 1000)
    (h : ∀ s' t g' wl' fl', Same s s' → Grow g s.heap g' s'.heap → Eff ((wl ++ fl).map (·.1)) s.heap s'.heap → BankW w g' bk (B ++ [⟨"app", [], N⟩]) wl' → wl'.map (·.1) = wl.map (·.1) → FunL fn fa fr (N + 1) fl' → (∀ p ∈ wl' ++ fl', s'.heap.get? p.1 = some p.2) →
      R (.ok (.ret (.int (B.length : Int) t))) s') :
    codeAny (model pw w) A (.call (.ref 166) ⟨[.ref bk.x, name, .int 0 u], []⟩) R s := by
  have Ug := gmax_le (wl := wl ++ fl) U fun p hp => (hw p hp).2
  refine' call0 (g := gmax s.heap (wl ++ fl)) (wl := wl ++ fl) (binds := [("self", .ref bk.x), ("name", name), ("s", .int 0 u)]) (G.up Ug) (gmax_up _ _) (fun p hp => ⟨(hw p hp).1, gmax_none hp⟩) hnd r (by k_is) (by k_is) (by exact BindsTo.of_eq rfl) (by exact locs rfl) ?_ (by exact rfl) (by exact rfl) (by exact rfl) (by decide)
  intro A' L s₁ q r' S U₁ fr'
  have G' := G.up Ug
  have Bk' := Bk.up Ug
  have I' := I.up Ug
  k_unmd
  walk_at "W"
  refine b_meth (f := 243) G' S.up Bk'.I (by decide) (by k_is) (by k_is) (by k_is) ?_
  refine callWith_K (Gnd.K G') (by k_is) ?_ (by exact rfl) (by exact rfl)
  walk_at "W"
  refine r_tuple (fun s₂ a q₂ fa₂ Ua ea => ?_) (by exact (by decide : 0 ≤ sizeLine))
  have hfr : s.heap.get? a = none := S.kept (fun p hp => ⟨_, S.get hp⟩) fa₂
  replace S := S.grown Ua
  walk_at "W"
  refine b_meth (f := 152) G' S.up Bk'.I (by decide) (by k_is) (by k_is) (by k_is) ?_
  refine callWith_K (Gnd.K G') (by k_is) ?_ (by exact rfl) (by exact rfl)
  walk_at "W"
  refine r_tuple (fun s₃ b q₃ fb₃ Ub eb => ?_) (by exact (by decide : 0 ≤ sizeLine))
  replace S := S.grown Ub
  replace ea := Ub _ _ ea
  walk_at "W"
  refine ⟨Frag.In.keeps (Gnd.K G') S.up, wpAny_call ?_⟩
  have nl : ∀ {x : Addr} {vs : Array Value} {n : Nat}, s₃.heap.get? x = some (tupO vs n) → x ∉ fl.map (·.1) := fun {x vs n} e hm => by
    obtain ⟨p, hp, rfl⟩ := List.mem_map.mp hm
    have := S.get (List.mem_append_right _ hp)
    rw [e] at this
    obtain ⟨vr, nr, va, na, vn, nn, rfl, _⟩ := FL
    simp only [List.mem_cons, List.not_mem_nil, or_false] at hp
    rcases hp with rfl | rfl | rfl <;> (injection this with this; injection this with this; exact absurd this (by decide))
  have Uf : Up (gmax s.heap (wl ++ fl)) (gmax s₃.heap fl) := gmax_le S.up fun p hp => gmax_none (List.mem_append_right _ hp)
  have ndf : (fl.map (·.1)).Nodup := by rw [List.map_append] at hnd; exact (List.nodup_append.mp hnd).2.1
  refine c_declare (k := k) (g := gmax s₃.heap fl) (G'.up Uf) (gmax_up _ _) (I'.up Uf) FL (fun p hp => ⟨S.get (List.mem_append_right _ hp), gmax_none hp⟩) ndf r' (its := #[]) ⟨_, gmax_get eb (nl eb), rfl, 0, rfl⟩ hN fun s₄ t₄ fl₄ q₄ E₄ a₄ FL₄ => ?_
  have em : fl₄.map (·.1) = fl.map (·.1) := FL₄.fst.trans FL.fst.symm
  replace ea := E₄.ext _ _ (nl ea) ea
  have S₄ : Sd (gmax s.heap (wl ++ fl)) L _ (fl₄ ++ wl) s₄.heap := Sd.effW (S.perm List.perm_append_comm) E₄ em a₄ (Grow.refl fun b o e => E₄.ext _ _ (fun hm => by
    obtain ⟨p, hp, z⟩ := List.mem_map.mp hm
    rw [← z, gmax_none (List.mem_append_right _ hp)] at e; cases e) (S.up _ _ e))
  clear S
  dsimp only
  walk_at "W"
  refine ⟨Frag.In.keeps G'.K S₄.up, wpAny_call ?_⟩
  have Gr : Grow g s.heap (grd g s.heap s₄.heap []) s₄.heap := grow_grd (Ug.trans S₄.up)
  have Ef : Eff ((wl ++ fl).map (·.1)) s.heap s₄.heap := eff_of S₄.up fun p hp => by
    rcases List.mem_append.mp hp with hp | hp
    · exact ⟨_, S₄.get (List.mem_append_right _ hp)⟩
    · have : p.1 ∈ fl₄.map (·.1) := em ▸ List.mem_map_of_mem hp
      obtain ⟨p', hp', e⟩ := List.mem_map.mp this
      exact ⟨_, e ▸ a₄ p' hp'⟩
  refine c_make_new (k := k) (n := ⟨"app", [], N⟩) (G.up Gr.le) Gr.up (Bk.up Gr.le) (fun p hp => ⟨S₄.get (List.mem_append_right _ hp), grd_none (hw p (List.mem_append_left _ hp)).1 (hw p (List.mem_append_left _ hp)).2⟩) r' hi hsm (ints_key (grd_get ea (.inr ⟨hfr, by simp⟩)) .nil) fun s₆ t₆ g₆ wl₆ q₆ Gr₆ Ef₆ Bk₆ e₆ a₆ => ?_
  refine h s₆ t₆ g₆ wl₆ fl₄ (by walk_at "Q") (Gr.trans Ef Gr₆) (Ef.trans (Ef₆.mono fun d hd => by rw [List.map_append]; exact List.mem_append_left _ hd)) Bk₆ e₆ FL₄ fun p hp => ?_
  rcases List.mem_append.mp hp with hp | hp
  · exact a₆ p hp
  · refine Ef₆.ext _ _ (fun hm => ?_) (a₄ p hp)
    rw [List.map_append] at hnd
    exact (List.nodup_append.mp hnd).2.2 _ hm _ (em ▸ List.mem_map_of_mem hp) rfl
section
variable {w : World} {A : Around} {E : Value → Shared → Prop} {s : Shared} {env : Env} {g : Heap} {L : Addr} {m : Str → Option Value} {news : List (Addr × Obj)} {elt target iter : Expr} {ifs : List Expr} {scope : Scope} {pos : Pos} {cl : List (Str × Addr)} {Q : Value → Shared → Prop}
theorem cf_tuple {l : Addr} {vs : Array Value} (cx : Option Str) (hcf : ∀ n, cellsFrom n scope.names cl = clX cx n cl) (hpc : ∀ h, pushCells h scope.names = puX cx h) (hh : A.handled = none) (S : Sd g L m news s.heap) (hl : g.IsTuple l vs)
    (J : Nat → List Value → List (Addr × Obj) → Prop) (h0 : J 0 [] news) (hsz : ∀ i acc news, J i acc news → acc.length ≤ i) (hn : vs.size ≤ 100000)
    (step : ∀ g₁ C D I nD i v mC acc cw news₁ s₁ oI, Up g g₁ → g₁.Ns L m → i < vs.size → vs[i]? = some v → J i acc news₁ → CW cx C cw → Same s s₁ → Sd g₁ C mC ((D, lstO acc.toArray nD) :: (I, oI) :: (cw ++ news₁)) s₁.heap →
      CTurn w A env elt target ifs scope cl cx g₁ C D I nD oI acc (J (i + 1)) v s₁)
    (done : ∀ D nD acc news' s', Same s s' → Sd g L m ((D, lstO acc.toArray nD) :: news') s'.heap → J vs.size acc news' → Q (.ref D) s') :
    CompFrom w A E env elt target iter ifs scope pos cl Q (.ref l) s := by
  have hls : s.heap.IsTuple l vs := hl.at fun o e => S.up _ _ e
  obtain ⟨ol, hol, _⟩ := id hl
  have hne : l ≠ s.heap.objs.size := Nat.ne_of_lt (Heap.lt_size (S.up _ _ hol))
  refine wpAny_pyIter_tuple hls ?_
  refine comp_core (s := { s with heap := _ }) (oI := _) cx hcf hpc (Walks.tuple hh _ l hne vs) (fun i h st => let ⟨o, e, _⟩ := st.1; ⟨o, e⟩) ⟨⟨_, Heap.get?_push_size _ rfl, rfl, rfl⟩, hls.at fun o e => Heap.get?_push_of_some _ e⟩ (S.push _ rfl) (fun b hb => ?_) J h0 hsz hn
    (fun g₁ C D nD i v mC acc cw news₁ s₁ oI a b c d e f q st z => step g₁ C D _ nD i v mC acc cw news₁ s₁ oI a b c d e f ⟨q.1, q.2⟩ z) fun D nD acc news' s' q b c => done D nD acc news' s' ⟨q.1, q.2⟩ b c
  simp only [List.mem_cons, List.not_mem_nil, or_false] at hb
  rcases hb with rfl | rfl
  · exact .inl rfl
  · exact .inr ⟨ol, hol⟩
end

section
variable {w : World} {A : Around} {E : Value → Shared → Prop} {s : Shared} {env : Env} {g : Heap} {L : Addr} {m : Str → Option Value} {news : List (Addr × Obj)} {target : Expr} {body : List Stmt} {Q : Flow → Shared → Prop}

/-- a for with any target -/
theorem r_loopT {I : Addr} {fp : List Addr} {n : Nat} {P : Nat → Value → Prop} {St : Nat → Heap → Prop} {oI : Obj} (W : Walks pw w A I fp [I] n P St) (hI : ∀ i h, St i h → ∃ o, h.get? I = some o) (hst : St 0 s.heap)
    (S : Sd g L m ((I, oI) :: news) s.heap) (hfp : ∀ b ∈ fp, b = I ∨ ∃ o, g.get? b = some o) (J : Nat → Heap → (Str → Option Value) → List (Addr × Obj) → Prop) (h0 : J 0 g m news)
    (hgo : ∀ v, letOwnedTupleGo target (.ref I) v = pure ())
    (step : ∀ i v g₁ m₁ news₁ s₁ oI, i < n → P i v → J i g₁ m₁ news₁ → Up g g₁ → Same s s₁ → Sd g₁ L m₁ ((I, oI) :: news₁) s₁.heap →
      wpAny (model pw w) A (assign target env v) (fun _ s₂ => wpAny (model pw w) A (execs body env) (fun fl s₃ => (fl = .next ∨ fl = .cont) ∧ ∃ g₂ m₂ news₂, Up g₁ g₂ ∧ Same s₁ s₃ ∧ Sd g₂ L m₂ ((I, oI) :: news₂) s₃.heap ∧ J (i + 1) g₂ m₂ news₂) (fun _ _ => False) s₂) (fun _ _ => False) s₁)
    (done : ∀ g₁ m₁ news₁ s₁, Same s s₁ → Up g g₁ → Sd g₁ L m₁ news₁ s₁.heap → J n g₁ m₁ news₁ → Q .next s₁) :
    codeAny (model pw w) A (.forLoop target (.ref I) body [] env) (fun r s' => match r with | .ok f => Q f s' | .error e => cameBackBy (model pw w) A env E e s') s := by
  refine codeAny_forLoop (fun k s' => ∃ i g₁ m₁ news₁ oI, i ≤ n ∧ k = n + 1 - i ∧ Same s s' ∧ Up g g₁ ∧ St i s'.heap ∧ Sd g₁ L m₁ ((I, oI) :: news₁) s'.heap ∧ J i g₁ m₁ news₁) ?_ (n + 1) ⟨0, g, m, news, oI, Nat.zero_le _, rfl, Same.rfl', Up.refl _, hst, S, h0⟩ hgo
  rintro k s' ⟨i, g₁, m₁, news₁, oI₁, hi, rfl, q, U, hst', S', hJ⟩
  have hIn := S'.nw _ (.head _)
  by_cases hlt : i < n
  · refine W.item i _ _ _ hlt hst' fun v h₁ tk₁ hPv hst₁ hk₁ => ?_
    obtain ⟨oI₂, hoI₂⟩ := hI _ _ hst₁
    have hs₁ : Heap.ExtBut I s'.heap h₁ := fun b o hb e => hk₁ b o (by simpa using hb) e
    have nd := S'.nd
    rw [List.map_cons, List.nodup_cons] at nd
    have S₁ : Sd g₁ L m₁ ((I, oI₂) :: news₁) h₁ := by
      refine ⟨S'.ns.extBut hs₁ (Ne.symm hIn.2.1), fun b o e => hs₁ b o (fun z => by rw [z, hIn.2.2] at e; cases e) (S'.up b o e), S'.off, fun p hp => ?_, S'.nd⟩
      rcases List.mem_cons.mp hp with rfl | hp
      · exact ⟨hoI₂, hIn.2⟩
      · exact ⟨hs₁ p.1 p.2 (fun z => nd.1 (List.mem_map.mpr ⟨p, hp, z⟩)) (S'.nw p (.tail _ hp)).1, (S'.nw p (.tail _ hp)).2⟩
    refine wpAny_mono (step i v g₁ m₁ news₁ { s' with heap := h₁, toks := tk₁ } oI₂ hlt hPv hJ U (by walk_at "Q") S₁) (fun _ s₂ h₂ => ?_) fun _ _ e => e.elim
    refine wpAny_mono h₂ (fun fl s₃ h₃ => ?_) fun _ _ e => e.elim
    obtain ⟨hfl, g₂, m₂, news₂, U₂, q₃, S₃, hJ₃⟩ := h₃
    have hI₃ : St (i + 1) s₃.heap := by
      refine W.frame _ h₁ _ hst₁ fun b hb o e => ?_
      rcases hfp b hb with rfl | ⟨o', e'⟩
      · rw [hoI₂] at e
        cases e
        exact S₃.get (.head _)
      · have e1 := S₁.up _ _ (U _ _ e')
        rw [e] at e1
        cases e1
        exact S₃.up _ _ (U₂ _ _ (U _ _ e'))
    have fin : ∃ k', k' < n + 1 - i ∧ ∃ i' g₁ m₁ news₁ oI, i' ≤ n ∧ k' = n + 1 - i' ∧ Same s s₃ ∧ Up g g₁ ∧ St i' s₃.heap ∧ Sd g₁ L m₁ ((I, oI) :: news₁) s₃.heap ∧ J i' g₁ m₁ news₁ :=
      ⟨n + 1 - (i + 1), by omega, i + 1, g₂, m₂, news₂, oI₂, hlt, rfl, by walk_at "Q", U.trans U₂, hI₃, S₃, hJ₃⟩
    rcases hfl with rfl | rfl
    · exact fin
    · exact fin
  · have hin : i = n := by omega
    subst hin
    refine W.done _ _ _ hst' fun h₁ tk₁ hk₁ => wpAny_execs_nil ?_
    have hs₁ : Heap.ExtBut I s'.heap h₁ := fun b o hb e => hk₁ b o (by simpa using hb) e
    have nd := S'.nd
    rw [List.map_cons, List.nodup_cons] at nd
    refine done g₁ m₁ news₁ { s' with heap := h₁, toks := tk₁ } (by walk_at "Q") U ⟨S'.ns.extBut hs₁ (Ne.symm hIn.2.1), fun b o e => hs₁ b o (fun z => by rw [z, hIn.2.2] at e; cases e) (S'.up b o e), S'.off, fun p hp => ?_, nd.2⟩ hJ
    exact ⟨hs₁ p.1 p.2 (fun z => nd.1 (List.mem_map.mpr ⟨p, hp, z⟩)) (S'.nw p (.tail _ hp)).1, (S'.nw p (.tail _ hp)).2⟩
theorem r_for_rangeT {r : Addr} {n : Nat} {t u v : Tok} (hh : A.handled = none) (S : Sd g L m news s.heap) (hr : IsRange s.heap r 0 n 1 t u v) (hsm : Builtin.Range.small 0 n 1 = true)
    (J : Nat → Heap → (Str → Option Value) → List (Addr × Obj) → Prop) (h0 : J 0 g m news) (hgo : ∀ I v, letOwnedTupleGo target (.ref I) v = pure ())
    (step : ∀ I i v g₁ m₁ news₁ s₁ oI, i < n → (∃ t, v = .int (i : Int) t) → J i g₁ m₁ news₁ → Up g g₁ → Same s s₁ → Sd g₁ L m₁ ((I, oI) :: news₁) s₁.heap →
      wpAny (model pw w) A (assign target env v) (fun _ s₂ => wpAny (model pw w) A (execs body env) (fun fl s₃ => (fl = .next ∨ fl = .cont) ∧ ∃ g₂ m₂ news₂, Up g₁ g₂ ∧ Same s₁ s₃ ∧ Sd g₂ L m₂ ((I, oI) :: news₂) s₃.heap ∧ J (i + 1) g₂ m₂ news₂) (fun _ _ => False) s₂) (fun _ _ => False) s₁)
    (done : ∀ g₁ m₁ news₁ s₁, Same s s₁ → Up g g₁ → Sd g₁ L m₁ news₁ s₁.heap → J n g₁ m₁ news₁ → Q .next s₁) :
    wpAny (model pw w) A (pyIter (.ref r)) (fun it s₂ => codeAny (model pw w) A (.forLoop target it body [] env) (fun r s' => match r with | .ok f => Q f s' | .error e => cameBackBy (model pw w) A env E e s') s₂) E s := by
  refine wpAny_pyIter_range hr hsm ?_
  rw [rangeSize_nat]
  refine r_loopT (s := { s with heap := _ }) (Walks.range hh _ 0 1 n) (fun i h st => ⟨_, st⟩) (by
      have e := Heap.get?_push_size s.heap (o := { cls := .type "range_iterator", data := .fields #[rawInt 0, rawInt (n : Int), rawInt 1] }) rfl
      show IsRangeIter _ _ (0 + ((0 : Nat) : Int) * 1) ((n : Int) - ((0 : Nat) : Int)) 1
      rw [show (0 : Int) + ((0 : Nat) : Int) * 1 = 0 by simp, show (n : Int) - ((0 : Nat) : Int) = n by simp]
      exact e) (S.push _ rfl) (fun b hb => .inl (by simpa using hb)) J h0 (hgo _)
    (fun i v g₁ m₁ news₁ s₁ oI a b c d q f => step _ i v g₁ m₁ news₁ s₁ oI a (by obtain ⟨t, e⟩ := b; exact ⟨t, by rw [e]; simp⟩) c d ⟨q.1, q.2⟩ f) fun g₁ m₁ news₁ s₁ q b c d => done g₁ m₁ news₁ s₁ ⟨q.1, q.2⟩ b c d
end

/-- the bank over whatever holds g and tl -/
def BankX (w : World) (g : Heap) (bk : BkA) (B : List Node) (tl wl : List (Addr × Obj)) : Prop := ∀ g₂, Up g g₂ → (∀ p ∈ tl, g₂.get? p.1 = some p.2) → BankW w g₂ bk B wl
theorem BankX.of {w : World} {g : Heap} {bk : BkA} {B : List Node} {wl : List (Addr × Obj)} (x : BankW w g bk B wl) : BankX w g bk B [] wl := fun _ U _ => x.up U
theorem BankX.mono {w : World} {g : Heap} {bk : BkA} {B : List Node} {tl tl' wl : List (Addr × Obj)} (x : BankX w g bk B tl wl) (h : ∀ p ∈ tl, p ∈ tl') : BankX w g bk B tl' wl := fun g₂ U k => x g₂ U fun p hp => k p (h p hp)
theorem BankX.grown {w : World} {g g' : Heap} {bk : BkA} {B : List Node} {wl : List (Addr × Obj)} (x : BankW w g' bk B wl) (U : Up g g') : BankX w g bk B (extra g g') wl := fun _ U₂ k => x.up (extra_up U₂ k U)

/-- of h: g and the entries tl -/
def gsel (g h : Heap) (tl : List (Addr × Obj)) : Heap := sel h fun b => (g.get? b).isSome || (tl.map (·.1)).contains b
section
variable {g gF h : Heap} {L : Addr} {m : Str → Option Value} {hd tl rest : List (Addr × Obj)}
theorem gsel_le (U : Up g h) : Up g (gsel g h tl) := fun b x e => sel_get (U b x e) (by rw [e]; rfl)
theorem gsel_up : Up (gsel g h tl) h := fun b x e => (sel_of e).1
theorem gsel_tl (k : ∀ p ∈ tl, h.get? p.1 = some p.2) : ∀ p ∈ tl, (gsel g h tl).get? p.1 = some p.2 := fun p hp => sel_get (k p hp) (by
  rw [Bool.or_eq_true]; right
  exact List.contains_iff_mem.mpr (List.mem_map_of_mem hp))
theorem gsel_of {b : Addr} {x : Obj} (e : (gsel g h tl).get? b = some x) : b ∈ tl.map (·.1) ∨ ∃ x', g.get? b = some x' := by
  have := (sel_of e).2
  rw [Bool.or_eq_true] at this
  rcases this with q | q
  · exact .inr (Option.isSome_iff_exists.mp q)
  · exact .inl (List.contains_iff_mem.mp q)
theorem gsel_none {b : Addr} (h1 : g.get? b = none) (h2 : b ∉ tl.map (·.1)) : (gsel g h tl).get? b = none := by
  cases q : (gsel g h tl).get? b with
  | none => rfl
  | some x =>
    rcases gsel_of q with z | ⟨x', z⟩
    · exact absurd z h2
    · rw [h1] at z; cases z
theorem Sd.sink {x : Addr × Obj} (S : Sd g L m (x :: (hd ++ (tl ++ rest))) h) : Sd g L m (hd ++ ((x :: tl) ++ rest)) h := S.perm List.perm_middle.symm
theorem Sd.stepX {g₂ h' : Heap} {wl wl' : List (Addr × Obj)} (S : Sd gF L m (hd ++ (tl ++ (wl ++ rest))) h) (Ug : Up g gF) (Gr : Grow (gsel g h tl) h g₂ h') (E : Eff (wl.map (·.1)) h h') (em : wl'.map (·.1) = wl.map (·.1)) (ew : ∀ p ∈ wl', h'.get? p.1 = some p.2) :
    Sd gF L m (hd ++ (extra g g₂ ++ (wl' ++ rest))) h' ∧ (∀ p ∈ tl, p ∈ extra g g₂) := by
  have htl : ∀ p ∈ tl, p ∈ hd ++ (tl ++ (wl ++ rest)) := fun p hp => List.mem_append_right _ (List.mem_append_left _ hp)
  have hwl : ∀ p ∈ wl, p ∈ hd ++ (tl ++ (wl ++ rest)) := fun p hp => List.mem_append_right _ (List.mem_append_right _ (List.mem_append_left _ hp))
  have hhd : ∀ p ∈ hd, p ∈ hd ++ (tl ++ (wl ++ rest)) := fun p hp => List.mem_append_left _ hp
  have hre : ∀ p ∈ rest, p ∈ hd ++ (tl ++ (wl ++ rest)) := fun p hp => List.mem_append_right _ (List.mem_append_right _ (List.mem_append_right _ hp))
  have nd := S.nd
  simp only [List.map_append] at nd
  have nd1 := List.nodup_append.mp nd
  have nd2 := List.nodup_append.mp nd1.2.1
  have nd3 := List.nodup_append.mp nd2.2.1
  have og : ∀ b, gF.get? b = none → g.get? b = none := fun b q => by
    cases z : g.get? b with
    | none => rfl
    | some o => rw [Ug _ _ z] at q; cases q
  have hLn : L ∉ wl.map (·.1) := fun hm => by
    obtain ⟨p, hp, e⟩ := List.mem_map.mp hm
    exact (S.nw p (hwl p hp)).2.1 e
  -- where an entry of g₂ comes from
  have src : ∀ b x, g₂.get? b = some x → g.get? b = none → b ∈ tl.map (·.1) ∨ h.get? b = none := fun b x e e' => by
    rcases Gr.fresh b x e with ⟨o', z⟩ | z
    · rcases gsel_of z with z | ⟨x', z⟩
      · exact .inl z
      · rw [e'] at z; cases z
    · exact .inr z
  obtain ⟨oL, es, ep, hL, r⟩ := S.ns
  have keep : ∀ p, p ∈ hd ∨ p ∈ rest → h'.get? p.1 = some p.2 := fun p hp => by
    rcases hp with hp | hp
    · exact E.ext _ _ (fun hm => nd1.2.2 _ (List.mem_map_of_mem hp) _ (List.mem_append_right _ (List.mem_append_left _ hm)) rfl) (S.get (hhd p hp))
    · exact E.ext _ _ (fun hm => nd3.2.2 _ hm _ (List.mem_map_of_mem hp) rfl) (S.get (hre p hp))
  have hx : ∀ p ∈ extra g g₂, h'.get? p.1 = some p.2 ∧ p.1 ≠ L ∧ gF.get? p.1 = none := fun p hp => by
    have z := mem_extra.mp hp
    refine ⟨Gr.up _ _ z.2, fun e => ?_, ?_⟩
    · rcases src _ _ z.2 z.1 with q | q
      · obtain ⟨p', hp', e'⟩ := List.mem_map.mp q
        exact (S.nw p' (htl p' hp')).2.1 (e'.trans e)
      · rw [e, hL] at q; cases q
    · cases q : gF.get? p.1 with
      | none => rfl
      | some o =>
        rcases src _ _ z.2 z.1 with y | y
        · obtain ⟨p', hp', e'⟩ := List.mem_map.mp y
          have := (S.nw p' (htl p' hp')).2.2
          rw [e', q] at this; cases this
        · rw [S.up _ _ q] at y; cases y
  have dj : ∀ p ∈ extra g g₂, ∀ b, b ∈ hd.map (·.1) ∨ b ∈ wl.map (·.1) ∨ b ∈ rest.map (·.1) → p.1 ≠ b := fun p hp b hb e => by
    have z := mem_extra.mp hp
    rcases src _ _ z.2 z.1 with q | q
    · rw [e] at q
      rcases hb with hb | hb | hb
      · exact nd1.2.2 _ hb _ (List.mem_append_left _ q) rfl
      · exact nd2.2.2 _ q _ (List.mem_append_left _ hb) rfl
      · exact nd2.2.2 _ q _ (List.mem_append_right _ hb) rfl
    · rw [e] at q
      have : ∃ o, h.get? b = some o := by
        rcases hb with hb | hb | hb <;> obtain ⟨p', hp', rfl⟩ := List.mem_map.mp hb
        · exact ⟨_, S.get (hhd p' hp')⟩
        · exact ⟨_, S.get (hwl p' hp')⟩
        · exact ⟨_, S.get (hre p' hp')⟩
      obtain ⟨o, y⟩ := this
      rw [q] at y; cases y
  refine ⟨⟨⟨oL, es, ep, E.ext L oL hLn hL, r⟩, fun b o e => E.ext _ _ (fun hm => ?_) (S.up _ _ e), S.off, fun p hp => ?_, ?_⟩, fun p hp => ?_⟩
  · obtain ⟨p, hp, q⟩ := List.mem_map.mp hm
    have := (S.nw p (hwl p hp)).2.2
    rw [q, e] at this; cases this
  · rcases List.mem_append.mp hp with hp | hp
    · exact ⟨keep p (.inl hp), (S.nw p (hhd p hp)).2⟩
    · rcases List.mem_append.mp hp with hp | hp
      · exact hx p hp
      · rcases List.mem_append.mp hp with hp | hp
        · have : p.1 ∈ wl.map (·.1) := em ▸ List.mem_map_of_mem hp
          obtain ⟨p', hp', e⟩ := List.mem_map.mp this
          have z := S.nw p' (hwl p' hp')
          exact ⟨ew p hp, e ▸ z.2.1, e ▸ z.2.2⟩
        · exact ⟨keep p (.inr hp), (S.nw p (hre p hp)).2⟩
  · simp only [List.map_append, em]
    rw [List.nodup_append, List.nodup_append]
    refine ⟨nd1.1, ⟨extra_nodup _ _, nd2.2.1, fun a ha b hb e => ?_⟩, fun a ha b hb e => ?_⟩
    · obtain ⟨p, hp, rfl⟩ := List.mem_map.mp ha
      rcases List.mem_append.mp hb with hb | hb
      · exact dj p hp b (.inr (.inl hb)) e
      · exact dj p hp b (.inr (.inr hb)) e
    · rcases List.mem_append.mp hb with hb | hb
      · obtain ⟨p, hp, rfl⟩ := List.mem_map.mp hb
        exact dj p hp a (.inl ha) e.symm
      · exact nd1.2.2 _ ha _ (List.mem_append_right _ hb) e
  · refine mem_extra.mpr ⟨og _ (S.nw p (htl p hp)).2.2, Gr.le _ _ (gsel_tl (fun q hq => S.get (htl q hq)) p hp)⟩
end
theorem Sd.stepG {g gF h g₂ h' : Heap} {L : Addr} {m : Str → Option Value} {hd tl wl wl' rest : List (Addr × Obj)} (S : Sd gF L m (hd ++ (wl ++ rest)) h) (Ug : Up g gF) (htg : ∀ p ∈ tl, gF.get? p.1 = some p.2 ∧ g.get? p.1 = none) (Gr : Grow (gsel g h tl) h g₂ h') (E : Eff (wl.map (·.1)) h h') (em : wl'.map (·.1) = wl.map (·.1)) (ew : ∀ p ∈ wl', h'.get? p.1 = some p.2) :
    ∃ gF', Up gF gF' ∧ Sd gF' L m (hd ++ (wl' ++ rest)) h' ∧ (∀ p ∈ extra g g₂, gF'.get? p.1 = some p.2 ∧ g.get? p.1 = none) ∧ (∀ p ∈ tl, p ∈ extra g g₂) ∧ (∀ p ∈ extra g g₂, p.1 ∈ tl.map (·.1) ∨ h.get? p.1 = none) := by
  have hwl : ∀ p ∈ wl, p ∈ hd ++ (wl ++ rest) := fun p hp => List.mem_append_right _ (List.mem_append_left _ hp)
  have hhd : ∀ p ∈ hd, p ∈ hd ++ (wl ++ rest) := fun p hp => List.mem_append_left _ hp
  have hre : ∀ p ∈ rest, p ∈ hd ++ (wl ++ rest) := fun p hp => List.mem_append_right _ (List.mem_append_right _ hp)
  have nd := S.nd
  simp only [List.map_append] at nd
  have nd1 := List.nodup_append.mp nd
  have nd3 := List.nodup_append.mp nd1.2.1
  have hLn : L ∉ wl.map (·.1) := fun hm => by
    obtain ⟨p, hp, e⟩ := List.mem_map.mp hm
    exact (S.nw p (hwl p hp)).2.1 e
  have tlh : ∀ b, b ∈ tl.map (·.1) → ∃ o, gF.get? b = some o := fun b hb => by obtain ⟨p, hp, rfl⟩ := List.mem_map.mp hb; exact ⟨_, (htg p hp).1⟩
  have src : ∀ b x, g₂.get? b = some x → (∃ o, gF.get? b = some o) ∨ h.get? b = none := fun b x e => by
    rcases Gr.fresh b x e with ⟨o', z⟩ | z
    · rcases gsel_of z with z | ⟨x', z⟩
      · exact .inl (tlh b z)
      · exact .inl ⟨x', Ug _ _ z⟩
    · exact .inr z
  obtain ⟨oL, es, ep, hL, r⟩ := S.ns
  have hg : ∀ b o, gF.get? b = some o → h'.get? b = some o := fun b o e => E.ext _ _ (fun hm => by
    obtain ⟨p, hp, q⟩ := List.mem_map.mp hm
    have := (S.nw p (hwl p hp)).2.2
    rw [q, e] at this; cases this) (S.up _ _ e)
  have off : ∀ b, gF.get? b = none → (∃ o, h.get? b = some o) → (sel h' fun b => (gF.get? b).isSome || (g₂.get? b).isSome).get? b = none := fun b h1 ⟨o, h2⟩ => by
    cases q : (sel h' fun b => (gF.get? b).isSome || (g₂.get? b).isSome).get? b with
    | none => rfl
    | some x =>
      have := (sel_of q).2
      rw [h1] at this
      simp only [Option.isSome_none, Bool.false_or] at this
      obtain ⟨y, hy⟩ := Option.isSome_iff_exists.mp this
      rcases src b y hy with ⟨o', z⟩ | z
      · rw [h1] at z; cases z
      · rw [h2] at z; cases z
  have dom : ∀ p ∈ hd ++ (wl' ++ rest), h'.get? p.1 = some p.2 ∧ p.1 ≠ L ∧ gF.get? p.1 = none ∧ ∃ o, h.get? p.1 = some o := fun p hp => by
    have cas : ∀ p ∈ hd ++ rest, p ∈ hd ++ (wl ++ rest) → p.1 ∉ wl.map (·.1) → h'.get? p.1 = some p.2 ∧ p.1 ≠ L ∧ gF.get? p.1 = none ∧ ∃ o, h.get? p.1 = some o := fun p _ h1 h2 =>
      ⟨E.ext _ _ h2 (S.get h1), (S.nw p h1).2.1, (S.nw p h1).2.2, _, S.get h1⟩
    rcases List.mem_append.mp hp with hp | hp
    · exact cas p (List.mem_append_left _ hp) (hhd p hp) fun hm => nd1.2.2 _ (List.mem_map_of_mem hp) _ (List.mem_append_left _ hm) rfl
    · rcases List.mem_append.mp hp with hp | hp
      · have : p.1 ∈ wl.map (·.1) := em ▸ List.mem_map_of_mem hp
        obtain ⟨p', hp', e⟩ := List.mem_map.mp this
        have z := S.nw p' (hwl p' hp')
        exact ⟨ew p hp, e ▸ z.2.1, e ▸ z.2.2, p'.2, e ▸ z.1⟩
      · exact cas p (List.mem_append_right _ hp) (hre p hp) fun hm => nd3.2.2 _ hm _ (List.mem_map_of_mem hp) rfl
  refine ⟨sel h' fun b => (gF.get? b).isSome || (g₂.get? b).isSome, fun b o e => sel_get (hg b o e) (by rw [e]; rfl), ⟨⟨oL, es, ep, E.ext L oL hLn hL, r⟩, fun b o e => (sel_of e).1, off L S.off ⟨oL, hL⟩, fun p hp => ?_, by simp only [List.map_append, em]; exact nd⟩, fun p hp => ?_, fun p hp => ?_, fun p hp => ?_⟩
  · have z := dom p hp
    exact ⟨z.1, z.2.1, off _ z.2.2.1 z.2.2.2⟩
  · have z := mem_extra.mp hp
    exact ⟨sel_get (Gr.up _ _ z.2) (by rw [z.2]; simp), z.1⟩
  · exact mem_extra.mpr ⟨(htg p hp).2, Gr.le _ _ (gsel_tl (fun q hq => S.up _ _ (htg q hq).1) p hp)⟩
  · have z := mem_extra.mp hp
    rcases Gr.fresh _ _ z.2 with ⟨o', y⟩ | y
    · rcases gsel_of y with y | ⟨x', y⟩
      · exact .inl y
      · rw [z.1] at y; cases y
    · exact .inr y

theorem kept' {h₀ h : Heap} {wl : List (Addr × Obj)} (U : Up (gmax h₀ wl) h) (hw : ∀ a ∈ wl.map (·.1), ∃ o, h.get? a = some o) {a : Addr} (e : h.get? a = none) : h₀.get? a = none := by
  cases q : h₀.get? a with
  | none => rfl
  | some o =>
    by_cases hb : a ∈ wl.map (·.1)
    · obtain ⟨o', z⟩ := hw a hb
      rw [e] at z; cases z
    · rw [U _ _ (gmax_get q hb)] at e; cases e

def baseB (i : Nat) : List Node := [⟨"", [], 0⟩, ⟨"true", [], 0⟩, ⟨"false", [], 0⟩] ++ (List.range i).map fun j => ⟨"app", [], (j : Int)⟩
def notB (i : Nat) : List Node := (baseB 4 ++ [⟨"=", [3, 4], 0⟩]) ++ (List.range i).map fun j => ⟨"not", [((3 + j : Nat) : Int)], 0⟩
abbrev poolB : List Node := notB 5
theorem baseB_succ (i : Nat) : baseB i ++ [⟨"app", [], (i : Int)⟩] = baseB (i + 1) := by
  unfold baseB; rw [List.range_succ, List.map_append, ← List.append_assoc]; rfl
theorem notB_succ (i : Nat) : notB i ++ [⟨"not", [((3 + i : Nat) : Int)], 0⟩] = notB (i + 1) := by
  unfold notB; rw [List.range_succ, List.map_append, ← List.append_assoc]; rfl
theorem not_mem_get {B : List Node} {n : Node} (h : n ∉ B) : ∀ i : Nat, 0 < i → B[i]? ≠ some n := fun _ _ e => h (List.mem_of_getElem? e)
theorem not_in {n : Node} {B : List Node} (h : (B.all fun b => !(decide (n.op = b.op) && decide (n.args = b.args) && decide (n.data = b.data))) = true) : n ∉ B := fun hm => by
  have := List.all_eq_true.mp h n hm
  simp at this
theorem baseB_new {i : Nat} (h : i < 4) : (⟨"app", [], (i : Int)⟩ : Node) ∉ baseB i := by
  have : i = 0 ∨ i = 1 ∨ i = 2 ∨ i = 3 := by omega
  rcases this with rfl | rfl | rfl | rfl <;> exact not_in (by decide)
theorem notB_new {i : Nat} (h : i < 5) : (⟨"not", [((3 + i : Nat) : Int)], 0⟩ : Node) ∉ notB i := by
  have : i = 0 ∨ i = 1 ∨ i = 2 ∨ i = 3 ∨ i = 4 := by omega
  rcases this with rfl | rfl | rfl | rfl | rfl <;> exact not_in (by decide)
theorem notB_at {i k : Nat} (h : k < 5) : ∃ n, (notB i)[3 + k]? = some n ∧ n.op ≠ "not" := by
  have hl : 3 + k < (baseB 4 ++ [⟨"=", [3, 4], 0⟩] : List Node).length := by show 3 + k < 8; omega
  unfold notB
  rw [List.getElem?_append_left hl]
  have : k = 0 ∨ k = 1 ∨ k = 2 ∨ k = 3 ∨ k = 4 := by omega
  rcases this with rfl | rfl | rfl | rfl | rfl <;> exact ⟨_, rfl, by decide⟩
theorem baseB_len (i : Nat) : (baseB i).length = 3 + i := by simp [baseB]; omega
theorem notB_len (i : Nat) : (notB i).length = 8 + i := by simp [notB, baseB]; omega

theorem bit_eq (v k : Nat) (h : k < 5) : (((v : Int).fdiv (2 ^ (k : Int).toNat)).fmod 2 == 1) = (v / 2 ^ k % 2 == 1) := by
  rw [Int.toNat_natCast]
  have : (2 : Int) ^ k = ((2 ^ k : Nat) : Int) := by simp
  rw [this, Int.fdiv_eq_ediv_of_nonneg _ (Int.natCast_nonneg _), Int.fmod_eq_emod_of_nonneg _ (by decide)]
  have e : ((v : Int) / ((2 ^ k : Nat) : Int)) % 2 = ((v / 2 ^ k % 2 : Nat) : Int) := by simp
  rw [e]
  by_cases q : v / 2 ^ k % 2 = 1
  · rw [q]; rfl
  · rw [beq_eq_false_iff_ne.mpr q, beq_eq_false_iff_ne]; omega

/-- a value that is a list of pairs -/
def RowV (h : Heap) (v : Value) (xs : List (Int × List Bool)) : Prop := ∃ a, v = .ref a ∧ RowL h a xs
def poolRow (k : Nat) : List (Int × List Bool) := [(litN k false, litT k false), (litN k true, litT k true)]
theorem poolL_of {h : Heap} {l : Addr} {vs : List Value} (hl : h.IsList l vs.toArray) (p : Paired (RowV h) vs ((List.range 5).map poolRow)) : PoolL h l := by
  have e : (List.range 5).map poolRow = [poolRow 0, poolRow 1, poolRow 2, poolRow 3, poolRow 4] := rfl
  rw [e] at p
  cases p with | cons p0 p => cases p with | cons p1 p => cases p with | cons p2 p => cases p with | cons p3 p => cases p with | cons p4 p =>
  cases p
  obtain ⟨a0, rfl, r0⟩ := p0
  obtain ⟨a1, rfl, r1⟩ := p1
  obtain ⟨a2, rfl, r2⟩ := p2
  obtain ⟨a3, rfl, r3⟩ := p3
  obtain ⟨a4, rfl, r4⟩ := p4
  refine ⟨a0, a1, a2, a3, a4, hl, fun k a hk => ?_⟩
  match k, hk with
  | 0, hk => cases hk; exact r0
  | 1, hk => cases hk; exact r1
  | 2, hk => cases hk; exact r2
  | 3, hk => cases hk; exact r3
  | 4, hk => cases hk; exact r4
  | k + 5, hk => simp at hk
section
variable {w : World} {A : Around} {E : Value → Shared → Prop} {s : Shared} {env : Env} {g : Heap} {L : Addr} {m : Str → Option Value} {news : List (Addr × Obj)} {elt target iter : Expr} {ifs : List Expr} {scope : Scope} {pos : Pos} {cl : List (Str × Addr)} {Q : Value → Shared → Prop}
theorem comp_coreP {post : Value → Addr → Result → Shared → Prop} {I : Addr} {fp : List Addr} {n : Nat} {P : Nat → Value → Prop} {St : Nat → Heap → Prop} {oI : Obj} (cx : Option Str)
    (hcf : ∀ n, cellsFrom n scope.names cl = clX cx n cl)
    (hpc : ∀ h, pushCells h scope.names = puX cx h)
    (W : Walks pw w A I fp [I] n P St) (hI : ∀ i h, St i h → ∃ o, h.get? I = some o) (hst : St 0 s.heap)
    (S : Sd g L m ((I, oI) :: news) s.heap) (hfp : ∀ b ∈ fp, b = I ∨ ∃ o, g.get? b = some o) (J : Nat → List Value → List (Addr × Obj) → Prop) (h0 : J 0 [] news) (hsz : ∀ i acc news, J i acc news → acc.length ≤ i) (hn : n ≤ 100000)
    (step : ∀ g₁ C D nD i v mC acc cw news₁ s₁ oI, Up g g₁ → g₁.Ns L m → i < n → P i v → J i acc news₁ → CW cx C cw → Same s s₁ → St (i + 1) s₁.heap → Sd g₁ C mC ((D, lstO acc.toArray nD) :: (I, oI) :: (cw ++ news₁)) s₁.heap →
      wpAny (model pw w) A (letOwnedTupleGo target (.ref I) v) (fun _ s₂ => wpAny (model pw w) A (assign target (compEnvD scope (clX cx (C + 1) cl) C env) v) (fun _ s₃ =>
        wpAny (model pw w) A (forIn ifs true fun c r => if r = true then do let ok ← isTrue c (compEnvD scope (clX cx (C + 1) cl) C env) (eval c (compEnvD scope (clX cx (C + 1) cl) C env)); pure (ForInStep.yield ok) else pure (ForInStep.yield r)) (fun ok s₄ =>
          if ok = true then wpAny (model pw w) A (eval elt (compEnvD scope (clX cx (C + 1) cl) C env)) (fun y s₅ => CNext s₁ g₁ C D I nD oI cx acc (J (i + 1)) (acc ++ [y]) s₅) (fun _ _ => False) s₄
          else CNext s₁ g₁ C D I nD oI cx acc (J (i + 1)) acc s₄) (fun _ _ => False) s₃) (fun _ _ => False) s₂) (fun _ _ => False) s₁)
    (done : ∀ D nD acc news' s' C oC mC, Same s s' → Sd g L m ((D, lstO acc.toArray nD) :: (C, oC) :: news') s'.heap → (∀ h : Heap, h.get? C = some oC → h.Ns C mC) → J n acc news' → post (.ref D) C (.ok .next) s') :
    wpAny (model pw w) A (newList []) (fun acc s₃ => wpAny (model pw w) A (newFunctionEnv scope env.globals cl [] env.qual none .none (some env)) (fun cenv s₄ =>
      codeAny (model pw w) A (.compStart (.ListComp elt [⟨target, iter, ifs, 0⟩] scope pos) 0 (.ref I) acc { cenv with scope := relabel scope env }) (post acc cenv.locals) s₄) E s₃) E s := by
  obtain ⟨g₁, Ug, Ugh, hnL, hoff, hdom⟩ := S.into
  refine r_list (fun s₃ D q₃ fD U₃ eD => ?_) (by simp [sizeLine])
  refine comp_env ?_
  have fr : ∀ {h : Heap} {a : Addr}, h.objs.size ≤ a → h.get? a = none := fun {h a} ha => by
    cases q : h.get? a with
    | none => rfl
    | some o => exact absurd (Heap.lt_size q) (Nat.not_lt.mpr ha)
  have noneUp : ∀ {a b : Heap} {c : Addr}, Up a b → b.get? c = none → a.get? c = none := fun {a b c} U e => by
    cases q : a.get? c with
    | none => rfl
    | some o => rw [U _ _ q] at e; cases e
  have U₁₃ : Up g₁ s₃.heap := Ugh.trans U₃
  -- the frame of the block
  have key : ∃ cw mC, CW cx s₃.heap.objs.size cw ∧ Sd g₁ s₃.heap.objs.size mC ((D, lstO #[] 0) :: (I, oI) :: (cw ++ news)) (pushCells (s₃.heap.push { cls := .type "dict", data := .dict #[] }) scope.names) := by
    have base : Sd g₁ s₃.heap.objs.size (fun _ => none) ((D, lstO #[] 0) :: (I, oI) :: news) (s₃.heap.push { cls := .type "dict", data := .dict #[] }) := by
      refine ⟨Heap.Ns.new _ _, U₁₃.trans (Up.push _ _), noneUp U₁₃ (size_none _), fun p hp => ?_, ?_⟩
      · rcases List.mem_cons.mp hp with rfl | hp
        · exact ⟨Up.push _ _ _ _ eD, (fun e => by have := size_none s₃.heap; rw [← e, eD] at this; cases this), noneUp Ugh fD⟩
        · have e1 := (S.nw p hp).1
          have e2 := U₃ _ _ e1
          refine ⟨Up.push _ _ _ _ e2, fun e => ?_, hoff p hp⟩
          have := size_none s₃.heap; rw [← e, e2] at this; cases this
      · rw [List.map_cons, List.nodup_cons]
        refine ⟨fun hm => ?_, S.nd⟩
        obtain ⟨p, hp, e⟩ := List.mem_map.mp hm
        have := (S.nw p hp).1
        simp only at e
        rw [e, fD] at this; cases this
    rw [hpc]
    unfold puX
    cases cx with
    | none => exact ⟨[], _, rfl, base⟩
    | some x =>
      refine ⟨[(s₃.heap.objs.size + 1, { cls := .type "cell", data := .cell none })], fun _ => none, ⟨{ cls := .type "cell", data := .cell none }, none, rfl, rfl⟩, ?_⟩
      have := base.push { cls := .type "cell", data := .cell none } rfl
      rw [Heap.size_push] at this
      exact this.perm (((List.Perm.swap _ _ _).trans (List.Perm.cons _ (List.Perm.swap _ _ _))))
  obtain ⟨cw, mC, hcw, S₄⟩ := key
  have hfp₁ : ∀ b ∈ fp, b = I ∨ ∃ o, g₁.get? b = some o := fun b hb => (hfp b hb).imp id fun ⟨o, e⟩ => ⟨o, Ug _ _ e⟩
  -- an iterator's state stays with the ledger
  have stay : ∀ {i : Nat} {h h' : Heap} {C C' : Addr} {m₁ m₂ : Str → Option Value} {l₁ l₂ : List (Addr × Obj)} {o : Obj}, St i h → Sd g₁ C m₁ l₁ h → Sd g₁ C' m₂ l₂ h' → (I, o) ∈ l₁ → (I, o) ∈ l₂ → St i h' := fun {i h h' C C' m₁ m₂ l₁ l₂ o} st a b h1 h2 =>
    W.frame _ _ _ st fun b' hb' o' e' => by
      rcases hfp₁ b' hb' with rfl | ⟨o'', e''⟩
      · rw [a.get h1] at e'; cases e'; exact b.get h2
      · rw [a.up _ _ e''] at e'; cases e'; exact b.up _ _ e''
  have SI : Sd g L m ((I, oI) :: news) s.heap := S
  have hst₄ : St 0 (pushCells (s₃.heap.push { cls := .type "dict", data := .dict #[] }) scope.names) := by
    refine W.frame _ _ _ hst fun b' hb' o' e' => ?_
    rcases hfp₁ b' hb' with rfl | ⟨o'', e''⟩
    · rw [S.get (.head _)] at e'; cases e'; exact S₄.get (.tail _ (.head _))
    · rw [Ugh _ _ e''] at e'; cases e'; exact S₄.up _ _ e''
  have hce : ({ scope := relabel scope env, locals := s₃.heap.objs.size, globals := env.globals, cells := cellsFrom (s₃.heap.objs.size + 1) scope.names cl, qual := env.qual, func := none, code := env.code, frame := env.frame, builtins := env.builtins } : Env) =
      compEnvD scope (clX cx (s₃.heap.objs.size + 1) cl) s₃.heap.objs.size env := by
    unfold compEnvD; rw [hcf]
  dsimp only
  rw [hce]
  generalize hCdef : s₃.heap.objs.size = C at S₄ hcw ⊢
  have loop : ∀ s₅ : Shared, Same s s₅ → s₅.heap = pushCells (s₃.heap.push { cls := .type "dict", data := .dict #[] }) scope.names →
      codeAny (model pw w) A (.compLoop (.ListComp elt [⟨target, iter, ifs, 0⟩] scope pos) 0 (.ref I) (.ref D) (compEnvD scope (clX cx (C + 1) cl) C env)) (post (.ref D) C) s₅ := by
    intro s₅ q₅ e₅
    refine comp_turns (fun k s' => ∃ i mC acc nD oI cw news₁, i ≤ n ∧ k = n + 1 - i ∧ Same s s' ∧ St i s'.heap ∧ CW cx C cw ∧ Sd g₁ C mC ((D, lstO acc.toArray nD) :: (I, oI) :: (cw ++ news₁)) s'.heap ∧ J i acc news₁) ?_ (n + 1)
      ⟨0, mC, [], 0, oI, cw, news, Nat.zero_le _, rfl, q₅, by rw [e₅]; exact hst₄, hcw, by rw [e₅]; exact S₄, h0⟩
    rintro k s' ⟨i, mC', acc, nD, oI', cw', news₁, hi, rfl, q, hst', hcw', S', hJ⟩
    by_cases hlt : i < n
    · refine W.item i _ _ _ hlt hst' fun v h₁ tk₁ hPv hst₁ hk₁ => ?_
      obtain ⟨oI₂, hoI₂⟩ := hI _ _ hst₁
      have S₁ : Sd g₁ C mC' ((D, lstO acc.toArray nD) :: (I, oI₂) :: (cw' ++ news₁)) h₁ := by
        have S'' := S'.front2
        have hIn := S''.nw _ (.head _)
        have nd := S''.nd
        rw [List.map_cons, List.nodup_cons] at nd
        have hs₁ : Heap.ExtBut I s'.heap h₁ := fun b o hb e => hk₁ b o (by simpa using hb) e
        refine Sd.front2 ⟨S''.ns.extBut hs₁ (Ne.symm hIn.2.1), fun b o e => hs₁ b o (fun z => by rw [z, hIn.2.2] at e; cases e) (S''.up b o e), S''.off, fun p hp => ?_, S''.nd⟩
        rcases List.mem_cons.mp hp with rfl | hp
        · exact ⟨hoI₂, hIn.2⟩
        · exact ⟨hs₁ p.1 p.2 (fun z => nd.1 (List.mem_map.mpr ⟨p, hp, z⟩)) (S''.nw p (.tail _ hp)).1, (S''.nw p (.tail _ hp)).2⟩
      have fin : ∀ acc' nD' s'', Same s s'' → (∃ m' cw' news', CW cx C cw' ∧ Sd g₁ C m' ((D, lstO acc'.toArray nD') :: (I, oI₂) :: (cw' ++ news')) s''.heap ∧ J (i + 1) acc' news') →
          ∃ k', k' < n + 1 - i ∧ ∃ i' mC acc nD oI cw news₁, i' ≤ n ∧ k' = n + 1 - i' ∧ Same s s'' ∧ St i' s''.heap ∧ CW cx C cw ∧ Sd g₁ C mC ((D, lstO acc.toArray nD) :: (I, oI) :: (cw ++ news₁)) s''.heap ∧ J i' acc news₁ := fun acc' nD' s'' q'' ⟨m', cw', news', hc', S'', hJ'⟩ =>
        ⟨n + 1 - (i + 1), by omega, i + 1, m', acc', nD', oI₂, cw', news', hlt, rfl, q'', stay (h := h₁) hst₁ S₁ S'' (.tail _ (.head _)) (.tail _ (.head _)), hc', S'', hJ'⟩
      refine wpAny_mono (step g₁ C D nD i v mC' acc cw' news₁ { s' with heap := h₁, toks := tk₁ } oI₂ Ug hnL hlt hPv hJ hcw' (by walk_at "Q") hst₁ S₁) (fun _ s₂ h₂ => ?_) fun _ _ e => e
      refine wpAny_mono h₂ (fun _ s₃' h₃ => wpAny_mono h₃ (fun ok s₄ h₄ => ?_) fun _ _ e => e) fun _ _ e => e
      cases ok with
      | false =>
        simp only [Bool.false_eq_true, if_false] at h₄ ⊢
        obtain ⟨m', cw'', news', hc', q', S'', hJ'⟩ := h₄
        exact fin acc nD s₄ (by walk_at "Q") ⟨m', cw'', news', hc', S'', hJ'⟩
      | true =>
        simp only [if_true] at h₄ ⊢
        refine wpAny_mono h₄ (fun y s₅ h₅ => ?_) fun _ _ e => e
        obtain ⟨m', cw'', news', hc', q', S'', hJ'⟩ := h₅
        have hl := hsz _ _ _ hJ
        refine r_append S'' (fun s₆ n₆ q₆ S₆ hs₆ => ?_) (by simp [sizeLine]; omega)
        refine fin (acc ++ [y]) n₆ s₆ (by walk_at "Q") ⟨m', cw'', news', hc', ?_, hJ'⟩
        rw [show (acc ++ [y]).toArray = acc.toArray.push y by simp]
        exact S₆
    · have hin : i = n := by omega
      subst hin
      refine W.done _ _ _ hst' fun h₁ tk₁ hk₁ => ?_
      have S'' := S'.front2
      have hIn := S''.nw _ (.head _)
      have nd := S''.nd
      rw [List.map_cons, List.nodup_cons] at nd
      have hs₁ : Heap.ExtBut I s'.heap h₁ := fun b o hb e => hk₁ b o (by simpa using hb) e
      have T : Sd g₁ C mC' ((D, lstO acc.toArray nD) :: (cw' ++ news₁)) h₁ :=
        ⟨S''.ns.extBut hs₁ (Ne.symm hIn.2.1), fun b o e => hs₁ b o (fun z => by rw [z, hIn.2.2] at e; cases e) (S''.up b o e), S''.off, fun p hp =>
          ⟨hs₁ p.1 p.2 (fun z => nd.1 (List.mem_map.mpr ⟨p, hp, z⟩)) (S''.nw p (.tail _ hp)).1, (S''.nw p (.tail _ hp)).2⟩, nd.2⟩
      obtain ⟨oC, esC, epC, hC, rC⟩ := T.ns
      have T' : Sd g L m ((D, lstO acc.toArray nD) :: (C, oC) :: news₁) h₁ := by
        have sub : ((D, lstO acc.toArray nD) :: news₁).Sublist ((D, lstO acc.toArray nD) :: (cw' ++ news₁)) := (List.sublist_append_right _ _).cons₂ _
        have B : Sd g L m ((D, lstO acc.toArray nD) :: news₁) h₁ := by
          refine ⟨hnL.keeps T.up, Ug.trans T.up, S.off, fun p hp => ?_, (sub.map _).nodup T.nd⟩
          have hp' := T.nw p (sub.subset hp)
          refine ⟨hp'.1, fun e => ?_, noneUp Ug hp'.2.2⟩
          obtain ⟨oL, _, _, hL, _⟩ := hnL
          rw [e, hL] at hp'
          cases hp'.2.2
        refine (B.cons hC (fun e => ?_) (noneUp Ug T.off) fun p hp => (T.nw p (sub.subset hp)).2.1).front2
        obtain ⟨oL, _, _, hL, _⟩ := hnL
        have := T.off
        rw [e, hL] at this; cases this
      exact done D nD acc news₁ { s' with heap := h₁, toks := tk₁ } C oC mC' (by walk_at "Q") T' (fun h e => ⟨oC, esC, epC, e, rC⟩) hJ
  refine codeAny_compStart_list (loop _ (by walk_at "Q") rfl) (W.self 0 _ _ _ hst₄ (loop _ (by walk_at "Q") rfl))
/-- a comprehension from its source on, whatever is done with it -/
def CompFromP (w : World) (A : Around) (E : Value → Shared → Prop) (env : Env) (elt target iter : Expr) (ifs : List Expr) (scope : Scope) (pos : Pos) (cl : List (Str × Addr)) (post : Value → Addr → Result → Shared → Prop) (xv : Value) (s₁ : Shared) : Prop :=
  wpAny (model pw w) A (pyIter xv) (fun it s => wpAny (model pw w) A (newList []) (fun acc s₃ => wpAny (model pw w) A (newFunctionEnv scope env.globals cl [] env.qual none .none (some env)) (fun cenv s₄ =>
      codeAny (model pw w) A (.compStart (.ListComp elt [⟨target, iter, ifs, 0⟩] scope pos) 0 it acc { cenv with scope := relabel scope env }) (post acc cenv.locals) s₄) E s₃) E s) E s₁

theorem r_compA {y : Str} {py spos : Pos} {Q : Flow → Shared → Prop} (cl : List (Str × Addr)) (hsw : swapsWith (.ListComp elt [⟨target, iter, ifs, 0⟩] scope pos) (some (.Name y py)) spos.line env = pure true)
    (hclos : closureFor scope env = pure cl) (hkind : scope.kind = .function) (hnames : ∀ x ∈ scope.names, x.2 = .local → scope.names.lookup x.1 = some .local) (hs : ∀ x, foldedSetIterable iter env x = pure x)
    (h : wpAny (model pw w) A (eval iter env) (CompFromP w A E env elt target iter ifs scope pos cl (compPost (model pw w) A E (some (assign (.Name y py) env)) (fun _ s' => Q .next s'))) E s) :
    wpAny (model pw w) A (exec (.Assign [.Name y py] (.ListComp elt [⟨target, iter, ifs, 0⟩] scope pos) spos) env) Q E s := by
  rw [exec_Assign_Name_used _ _ _ _ hsw]
  refine wpAny_bind (wpAny_standAt (wpAny_bind ?_))
  show wpAny _ A (do let _ ← comprehension (.ListComp elt [⟨target, iter, ifs, 0⟩] scope pos) scope env _ (newList []) false (eval iter env) (some (assign (.Name y py) env))) _ _ s
  exact wpAny_bind (wpAny_mono (wpAny_comprehension_free (use := some (assign (.Name y py) env)) (Q := fun _ s' => Q .next s') rfl hs hclos hkind hnames h) (fun _ s' hq => wpAny_pure (wpAny_pure hq)) fun _ _ e => e)

/-- the name's store at a comprehension's end -/
theorem r_useA {y : Str} {py : Pos} {D C : Addr} {oD oC : Obj} {mC : Str → Option Value} {Q : Shared → Prop} (S : Sd g L m ((D, oD) :: (C, oC) :: news) s.heap) (hC : ∀ h : Heap, h.get? C = some oC → h.Ns C mC)
    (hx : env.kindOf y = some .local) (hL : env.locals = L) (hp : (env.scope.kind == .class || (env.scope.kind == .module && env.locals != env.globals)) = false)
    (h : ∀ s', Same s s' → Sd g L (fun z => if z = y then some (.ref D) else m z) ((D, oD) :: news) s'.heap → Q s') :
    compPost (model pw w) A E (some (assign (.Name y py) env)) (fun _ s' => Q s') (.ref D) C (.ok .next) s := by
  show wpAny (model pw w) A (assign (.Name y py) env (.ref D)) _ E s
  refine wpAny_assign_Name (r_st S (fun s₁ q₁ S₁ hs₁ => ?_) hx hL hp)
  refine ⟨mC, hC _ (S₁.get (by simp)), fun h' hs' => h { s₁ with heap := h' } ⟨q₁.1, q₁.2⟩ ?_⟩
  have S₂ := S₁.front2
  have hIn := S₂.nw _ (.head _)
  have nd := S₂.nd
  rw [List.map_cons, List.nodup_cons] at nd
  refine ⟨S₂.ns.sameBut hs' (Ne.symm hIn.2.1), fun b x e => (hs'.2 b fun q => by rw [q, hIn.2.2] at e; cases e).trans (S₂.up b x e), S₂.off, fun p hp => ⟨(hs'.2 p.1 fun q => nd.1 (List.mem_map.mpr ⟨p, hp, q⟩)).trans (S₂.nw p (.tail _ hp)).1, (S₂.nw p (.tail _ hp)).2⟩, nd.2⟩
/-- nothing is done at a comprehension's end -/
theorem r_useN {D C : Addr} {oD oC : Obj} {mC : Str → Option Value} {Q : Value → Shared → Prop} (S : Sd g L m ((D, oD) :: (C, oC) :: news) s.heap) (hC : ∀ h : Heap, h.get? C = some oC → h.Ns C mC)
    (h : ∀ s', Same s s' → Sd g L m ((D, oD) :: news) s'.heap → Q (.ref D) s') :
    compPost (model pw w) A E none Q (.ref D) C (.ok .next) s := by
  refine ⟨mC, hC _ (S.get (by simp)), fun h' hs' => h { s with heap := h' } ⟨rfl, rfl⟩ ?_⟩
  have S₂ := S.front2
  have hIn := S₂.nw _ (.head _)
  have nd := S₂.nd
  rw [List.map_cons, List.nodup_cons] at nd
  exact ⟨S₂.ns.sameBut hs' (Ne.symm hIn.2.1), fun b x e => (hs'.2 b fun q => by rw [q, hIn.2.2] at e; cases e).trans (S₂.up b x e), S₂.off, fun p hp => ⟨(hs'.2 p.1 fun q => nd.1 (List.mem_map.mpr ⟨p, hp, q⟩)).trans (S₂.nw p (.tail _ hp)).1, (S₂.nw p (.tail _ hp)).2⟩, nd.2⟩

theorem cfU_list {post : Value → Addr → Result → Shared → Prop} {l : Addr} {vs : Array Value} (cx : Option Str) (hcf : ∀ n, cellsFrom n scope.names cl = clX cx n cl) (hpc : ∀ h, pushCells h scope.names = puX cx h) (hh : A.handled = none) (S : Sd g L m news s.heap) (hl : g.IsList l vs)
    (J : Nat → List Value → List (Addr × Obj) → Prop) (h0 : J 0 [] news) (hsz : ∀ i acc news, J i acc news → acc.length ≤ i) (hn : vs.size ≤ 100000)
    (step : ∀ g₁ C D I nD i v mC acc cw news₁ s₁ oI, Up g g₁ → g₁.Ns L m → i < vs.size → vs[i]? = some v → s₁.heap.IsListIter I l (i + 1) → J i acc news₁ → CW cx C cw → Same s s₁ → Sd g₁ C mC ((D, lstO acc.toArray nD) :: (I, oI) :: (cw ++ news₁)) s₁.heap →
      CTurn w A env elt target ifs scope cl cx g₁ C D I nD oI acc (J (i + 1)) v s₁)
    (done : ∀ D nD acc news' s' C oC mC, Same s s' → Sd g L m ((D, lstO acc.toArray nD) :: (C, oC) :: news') s'.heap → (∀ h : Heap, h.get? C = some oC → h.Ns C mC) → J vs.size acc news' → post (.ref D) C (.ok .next) s') :
    CompFromP w A E env elt target iter ifs scope pos cl post (.ref l) s := by
  have hls : s.heap.IsList l vs := hl.at fun o e => S.up _ _ e
  obtain ⟨ol, hol, _⟩ := id hl
  have hne : l ≠ s.heap.objs.size := Nat.ne_of_lt (Heap.lt_size (S.up _ _ hol))
  refine wpAny_pyIter_list hls ?_
  refine comp_coreP (s := { s with heap := _ }) (oI := _) cx hcf hpc (Walks.list hh _ l hne vs) (fun i h st => let ⟨o, e, _⟩ := st.1; ⟨o, e⟩) ⟨⟨_, Heap.get?_push_size _ rfl, rfl, rfl⟩, hls.push _⟩ (S.push _ rfl) (fun b hb => ?_) J h0 hsz hn
    (fun g₁ C D nD i v mC acc cw news₁ s₁ oI a b c d e f q st z => step g₁ C D _ nD i v mC acc cw news₁ s₁ oI a b c d st.1 e f ⟨q.1, q.2⟩ z) fun D nD acc news' s' C oC mC q b c d => done D nD acc news' s' C oC mC ⟨q.1, q.2⟩ b c d
  simp only [List.mem_cons, List.not_mem_nil, or_false] at hb
  rcases hb with rfl | rfl
  · exact .inl rfl
  · exact .inr ⟨ol, hol⟩

theorem cfU_range {post : Value → Addr → Result → Shared → Prop} {r : Addr} {n : Nat} {t u v : Tok} (cx : Option Str) (hcf : ∀ n, cellsFrom n scope.names cl = clX cx n cl) (hpc : ∀ h, pushCells h scope.names = puX cx h) (hh : A.handled = none) (S : Sd g L m news s.heap) (hr : IsRange s.heap r 0 n 1 t u v)
    (J : Nat → List Value → List (Addr × Obj) → Prop) (h0 : J 0 [] news) (hsz : ∀ i acc news, J i acc news → acc.length ≤ i) (hn : n ≤ 1000) (hsm : Builtin.Range.small 0 n 1 = true)
    (step : ∀ g₁ C D I nD i v mC acc cw news₁ s₁ oI, Up g g₁ → g₁.Ns L m → i < n → (∃ t, v = .int (i : Int) t) → J i acc news₁ → CW cx C cw → Same s s₁ → Sd g₁ C mC ((D, lstO acc.toArray nD) :: (I, oI) :: (cw ++ news₁)) s₁.heap →
      CTurn w A env elt target ifs scope cl cx g₁ C D I nD oI acc (J (i + 1)) v s₁)
    (done : ∀ D nD acc news' s' C oC mC, Same s s' → Sd g L m ((D, lstO acc.toArray nD) :: (C, oC) :: news') s'.heap → (∀ h : Heap, h.get? C = some oC → h.Ns C mC) → J n acc news' → post (.ref D) C (.ok .next) s') :
    CompFromP w A E env elt target iter ifs scope pos cl post (.ref r) s := by
  refine wpAny_pyIter_range hr hsm ?_
  rw [rangeSize_nat]
  refine comp_coreP (s := { s with heap := _ }) (oI := _) cx hcf hpc (Walks.range hh _ 0 1 n) (fun i h st => ⟨_, st⟩) (by
      have e := Heap.get?_push_size s.heap (o := { cls := .type "range_iterator", data := .fields #[rawInt 0, rawInt (n : Int), rawInt 1] }) rfl
      show IsRangeIter _ _ (0 + ((0 : Nat) : Int) * 1) ((n : Int) - ((0 : Nat) : Int)) 1
      rw [show (0 : Int) + ((0 : Nat) : Int) * 1 = 0 by simp, show (n : Int) - ((0 : Nat) : Int) = n by simp]
      exact e) (S.push _ rfl) (fun b hb => .inl (by simpa using hb)) J h0 hsz (by omega)
    (fun g₁ C D nD i v mC acc cw news₁ s₁ oI a b c d e f q st z => step g₁ C D _ nD i v mC acc cw news₁ s₁ oI a b c (by obtain ⟨t, e⟩ := d; exact ⟨t, by rw [e]; simp⟩) e f ⟨q.1, q.2⟩ z) fun D nD acc news' s' C oC mC q b c d => done D nD acc news' s' C oC mC ⟨q.1, q.2⟩ b c d
theorem cfU_tuple {post : Value → Addr → Result → Shared → Prop} {l : Addr} {vs : Array Value} (cx : Option Str) (hcf : ∀ n, cellsFrom n scope.names cl = clX cx n cl) (hpc : ∀ h, pushCells h scope.names = puX cx h) (hh : A.handled = none) (S : Sd g L m news s.heap) (hl : g.IsTuple l vs)
    (J : Nat → List Value → List (Addr × Obj) → Prop) (h0 : J 0 [] news) (hsz : ∀ i acc news, J i acc news → acc.length ≤ i) (hn : vs.size ≤ 100000)
    (step : ∀ g₁ C D I nD i v mC acc cw news₁ s₁ oI, Up g g₁ → g₁.Ns L m → i < vs.size → vs[i]? = some v → J i acc news₁ → CW cx C cw → Same s s₁ → Sd g₁ C mC ((D, lstO acc.toArray nD) :: (I, oI) :: (cw ++ news₁)) s₁.heap →
      CTurn w A env elt target ifs scope cl cx g₁ C D I nD oI acc (J (i + 1)) v s₁)
    (done : ∀ D nD acc news' s' C oC mC, Same s s' → Sd g L m ((D, lstO acc.toArray nD) :: (C, oC) :: news') s'.heap → (∀ h : Heap, h.get? C = some oC → h.Ns C mC) → J vs.size acc news' → post (.ref D) C (.ok .next) s') :
    CompFromP w A E env elt target iter ifs scope pos cl post (.ref l) s := by
  have hls : s.heap.IsTuple l vs := hl.at fun o e => S.up _ _ e
  obtain ⟨ol, hol, _⟩ := id hl
  have hne : l ≠ s.heap.objs.size := Nat.ne_of_lt (Heap.lt_size (S.up _ _ hol))
  refine wpAny_pyIter_tuple hls ?_
  refine comp_coreP (s := { s with heap := _ }) (oI := _) cx hcf hpc (Walks.tuple hh _ l hne vs) (fun i h st => let ⟨o, e, _⟩ := st.1; ⟨o, e⟩) ⟨⟨_, Heap.get?_push_size _ rfl, rfl, rfl⟩, hls.at fun o e => Heap.get?_push_of_some _ e⟩ (S.push _ rfl) (fun b hb => ?_) J h0 hsz hn
    (fun g₁ C D nD i v mC acc cw news₁ s₁ oI a b c d e f q st z => step g₁ C D _ nD i v mC acc cw news₁ s₁ oI a b c d e f ⟨q.1, q.2⟩ z) fun D nD acc news' s' C oC mC q b c d => done D nD acc news' s' C oC mC ⟨q.1, q.2⟩ b c d
  simp only [List.mem_cons, List.not_mem_nil, or_false] at hb
  rcases hb with rfl | rfl
  · exact .inl rfl
  · exact .inr ⟨ol, hol⟩
end
theorem boolAt {bs : List Bool} {j : Nat} {v : Value} (h : (bs.map Value.bool).toArray[j]? = some v) : ∃ b, bs[j]? = some b ∧ v = .bool b := by
  rw [List.getElem?_toArray, List.getElem?_map] at h
  obtain ⟨b, e, rfl⟩ := Option.map_eq_some_iff.mp h
  exact ⟨b, e, rfl⟩
theorem BankX.consOf {w : World} {g g₂ : Heap} {bk : BkA} {B : List Node} {tl wl : List (Addr × Obj)} {a : Addr} {o : Obj} (x : BankX w g bk B tl wl) (_ : g₂.get? a = some o) : BankX w g bk B ((a, o) :: tl) wl := x.mono fun _ hp => List.mem_cons_of_mem _ hp
theorem pow_small {k : Nat} (h : k < 5) : ((2 : Int) ^ (k : Int).toNat).natAbs < 1073741824 := by
  have : k = 0 ∨ k = 1 ∨ k = 2 ∨ k = 3 ∨ k = 4 := by omega
  rcases this with rfl | rfl | rfl | rfl | rfl <;> decide
theorem BoolL.of {h : Heap} {l : Addr} {bs : List Bool} {n : Nat} (e : h.get? l = some (lstO (bs.map Value.bool).toArray n)) : BoolL h l bs := lst_is e
theorem intBits2 : Builtin.Int.intBits 2 = 2 := by decide +kernel
theorem r_range1 {w : World} {A : Around} {E : Value → Shared → Prop} {s : Shared} {n : Int} {t : Tok} {Q : Value → Shared → Prop} (h : ∀ s' r u v x, Same s s' → Up s.heap s'.heap → IsRange s'.heap r 0 n 1 u v x → Q (.ref r) s') : wpAny (model pw w) A (call (.type "range") [.int n t]) Q E s :=
  call_range_1 (h ⟨_, _, _, _, _⟩ _ _ _ _ ⟨rfl, rfl⟩ (Up.push _ _) (IsRange.new _ _ _ _ _ _ _))
theorem Sd.re {g h : Heap} {L : Addr} {m : Str → Option Value} {n n' : List (Addr × Obj)} (S : Sd g L m n h) (e : n = n') : Sd g L m n' h := e ▸ S
theorem kept3 {h₀ h g₁ : Heap} {L : Addr} {m : Str → Option Value} {nw wl fl wl' fl' : List (Addr × Obj)} (U : Up (gmax h₀ (wl ++ fl)) g₁) (S : Sd g₁ L m (nw ++ (wl' ++ fl')) h) (e1 : wl'.map (·.1) = wl.map (·.1)) (e2 : fl'.map (·.1) = fl.map (·.1)) {a : Addr} (e : h.get? a = none) : h₀.get? a = none :=
  kept' (U.trans S.up) (fun b hb => by
    rw [List.map_append, ← e1, ← e2, ← List.map_append] at hb
    obtain ⟨p, hp, rfl⟩ := List.mem_map.mp hb
    exact ⟨_, S.get (List.mem_append_right _ hp)⟩) e
theorem fresh_of {h₀ : Heap} {wl : List (Addr × Obj)} {a : Addr} (h1 : (gmax h₀ wl).get? a = none) (h2 : a ∉ wl.map (·.1)) : h₀.get? a = none := by
  cases q : h₀.get? a with
  | none => rfl
  | some o => rw [gmax_get q h2] at h1; cases h1
structure PoolS (w : World) (g h₀ : Heap) (L F D : Addr) (bk : BkA) (wl fl' : List (Addr × Obj)) (tvs : List Value) (n₉ i : Nat) (g₁ : Heap) (news₁ tl wl' : List (Addr × Obj)) (ok : Obj) (fvs : List Value) (nF : Nat) : Prop where
  e : news₁ = (L + 1 + 1, ok) :: (F, lstO (List.toArray fvs) nF) :: (D, lstO tvs.toArray n₉) :: (wl' ++ fl')
  hd : ∃ v, ok.data = .cell v
  ht : ∀ p ∈ tl, g₁.get? p.1 = some p.2 ∧ g.get? p.1 = none ∧ h₀.get? p.1 = none
  BX : BankX w g bk (notB i) tl wl'
  em : wl'.map (·.1) = wl.map (·.1)
  hf : fvs.length = i
  hr : ∀ g₂ : Heap, (∀ p ∈ tl, g₂.get? p.1 = some p.2) → Paired (RowV g₂) fvs ((List.range i).map poolRow)
theorem c_pool {w : World} {A : Around} {s : Shared} {g : Heap} {bk : BkA} {wl fl : List (Addr × Obj)} {fn fa fr : Addr} {R : Result → Shared → Prop} {k : Nat}
    (G : Gnd w g) (U : Up g s.heap) (Bk : BankW w g bk (baseB 0) wl) (hr : bk.ready = true) (I : FunI g bk fn fa fr) (FL : FunL fn fa fr 0 fl) (hw : ∀ p ∈ wl ++ fl, s.heap.get? p.1 = some p.2 ∧ g.get? p.1 = none) (hnd : ((wl ++ fl).map (·.1)).Nodup) (r : Rm A (k + 4))
    (h : ∀ s' l g' wl', Same s s' → Grow g s.heap g' s'.heap → Eff ((wl ++ fl).map (·.1)) s.heap s'.heap → BankW w g' bk poolB wl' → wl'.map (·.1) = wl.map (·.1) → (∀ p ∈ wl', s'.heap.get? p.1 = some p.2) → PoolL g' l → R (.ok (.ret (.ref l))) s') :
    codeAny (model pw w) A (.call (.ref 770) ⟨[.ref bk.x], []⟩) R s := by
  have z : sizeLine = 16777216 := rfl
  have Ug := gmax_le (wl := wl ++ fl) U fun p hp => (hw p hp).2
  refine' call1 (g := gmax s.heap (wl ++ fl)) (wl := wl ++ fl) (binds := [("bank", .ref bk.x)]) (G.up Ug) (gmax_up _ _) (fun p hp => ⟨(hw p hp).1, gmax_none hp⟩) hnd r (by k_is) (by k_is)
    (by exact BindsTo.of_eq rfl) (by exact rfl) (by decide +kernel) ?_ (by exact rfl) (by exact rfl) (by exact rfl)
  intro A' L s₁ cells q r' S U₁ hL hcells hC
  have hC' : CellsAre _ [(Str.ofString "k", L + 1 + 1), (Str.ofString "bank", L + 1)] cells := hC
  obtain ⟨o2, o1, rfl, d2, d1⟩ := hC'.two
  replace d1 : o1.data = .cell (some (.ref bk.x)) := d1
  have S₁ := Sd.cells2 S hL (hcells (L + 1 + 1, o2) (by simp)) (hcells (L + 1, o1) (by simp))
  clear S hC hC' hcells
  obtain ⟨gF, UgF, c1, S₂, dmF⟩ := S₁.front2.root
  clear S₁
  have Gc := G
  have UgF' := Ug.trans UgF
  replace G := G.up UgF'
  have If := I.up UgF'
  have aliveW : ∀ a ∈ (wl ++ fl).map (·.1), ∃ o, s₁.heap.get? a = some o := fun a ha => by obtain ⟨p, hp, rfl⟩ := List.mem_map.mp ha; exact ⟨_, S₂.get (.tail _ hp)⟩
  k_unmd
  walk_at "S"
  refine r_compA [(Str.ofString "bank", L + 1)] (by with_unfolding_all rfl) (by with_unfolding_all rfl) (by exact rfl) (by decide) (by intro _; rfl) ?_
  walk_at "W"
  refine r_tuple (fun s₃ ta q₃ fa₃ U₃ e₃ => ?_) (by exact (by decide : 4 ≤ sizeLine))
  have S₃ := S₂.add fa₃ U₃ e₃
  clear S₂
  obtain ⟨gT, UgT, eT, S₄, dmT⟩ := S₃.root
  clear S₃
  refine cfU_tuple none (by intro _; rfl) (by intro _; rfl) r'.handled S₄ ⟨_, eT, rfl, _, rfl⟩ (fun i acc news => ∃ tl wl' fl', news = (L + 1 + 1, o2) :: (tl ++ ((wl' ++ fl') ++ [])) ∧ BankX w g bk (baseB i) tl wl' ∧ wl'.map (·.1) = wl.map (·.1) ∧ FunL fn fa fr i fl' ∧ IntsAre acc ((List.range i).map fun j => ((3 + j : Nat) : Int)) ∧ acc.length = i)
    ⟨[], wl, fl, by simp, BankX.of Bk, rfl, FL, .nil, rfl⟩ (fun i acc news ⟨_, _, _, _, _, _, _, _, e⟩ => by omega) (by simp) ?_ ?_
  · rintro g₁ C D I₁ nD i v mC acc cw news₁ s₅ oI Ug₁ hnL hi hv ⟨tl, wl', fl', rfl, BX, em, FL', hia, hal⟩ rfl q₅ S₅
    have UgX : Up g g₁ := UgF'.trans (UgT.trans Ug₁)
    unfold CTurn
    refine wpAny_pure ?_
    refine wpAny_assign_Name (r_st S₅ (fun s₆ q₆ S₆ hs₆ => ?_) (by exact rfl) (by exact rfl) (by exact rfl))
    refine wpAny_tests_nil ?_
    rw [if_pos rfl]
    clear S₅
    replace G := G.up (UgT.trans Ug₁)
    walk_at "S"
    refine r_cell (S₆.up _ _ (Ug₁ _ _ (UgT _ _ c1))) d1 ?_ (by exact rfl) (by exact rfl) (by exact rfl) (by decide)
    refine b_meth (f := 166) G S₆.up (Bk.I.up UgX) (by decide) (by k_is) (by k_is) (by k_is) ?_
    walk_at "C"
    have hS : Sd g₁ C _ ([(D, lstO acc.toArray nD), (I₁, oI), (L + 1 + 1, o2)] ++ (tl ++ ((wl' ++ fl') ++ []))) s₆.heap := S₆
    have htl : ∀ p ∈ tl, s₆.heap.get? p.1 = some p.2 := fun p hp => hS.get (by simp [hp])
    have nd := hS.nd
    simp only [List.map_append, List.append_nil] at nd
    have nd2 := List.nodup_append.mp (List.nodup_append.mp nd).2.1
    refine c_fresh (k := k) (Gc.up (gsel_le (UgX.trans S₆.up))) gsel_up (BX _ (gsel_le (UgX.trans S₆.up)) (gsel_tl htl)) (I.up (gsel_le (UgX.trans S₆.up))) FL' (fun p hp => ⟨hS.get (by simp at hp ⊢; rcases hp with hp | hp <;> simp [hp]), gsel_none ?_ ?_⟩) ?_ (r'.less (by omega)) (by simp at hi; omega) (not_mem_get (baseB_new (by simpa using hi))) (by rw [baseB_len]; simp at hi; omega) fun s₇ t₇ g₂ wl₂ fl₂ q₇ Gr E Bk₂ em₂ FL₂ ew₂ => ?_
    · have := (hS.nw p (by simp at hp ⊢; rcases hp with hp | hp <;> simp [hp])).2.2
      cases y : g.get? p.1 with
      | none => rfl
      | some o => rw [UgX _ _ y] at this; cases this
    · intro hm
      refine nd2.2.2 _ hm _ ?_ rfl
      rw [← List.map_append]; exact List.mem_map_of_mem hp
    · rw [List.map_append]; exact nd2.2.1
    · have emA : (wl₂ ++ fl₂).map (·.1) = (wl' ++ fl').map (·.1) := by rw [List.map_append, List.map_append, em₂, FL₂.fst, FL'.fst]
      obtain ⟨S₇, -⟩ := hS.stepX UgX Gr E emA ew₂
      refine ⟨_, [], _, rfl, by walk_at "Q", S₇, extra g g₂, wl₂, fl₂, rfl, BankX.grown (baseB_succ i ▸ Bk₂) ((gsel_le (UgX.trans S₆.up)).trans Gr.le), em₂.trans em, FL₂, ?_, by simp [hal]⟩
      rw [List.range_succ, List.map_append, baseB_len]
      exact IntsAre.append hia (.cons _ _ .nil)
  · rintro D nD acc news' s₅ C oC mC q₅ S₅ hC ⟨tl, wl', fl', rfl, BX, em, FL', hia, hal⟩
    refine r_useA S₅ hC (by exact rfl) (by exact rfl) (by exact rfl) fun s₆ q₆ S₆ => ?_
    clear S₅ hC
    replace BX : BankX w g bk (baseB 4) tl wl' := BX
    replace FL' : FunL fn fa fr 4 fl' := FL'
    replace hia : IntsAre acc [3, 4, 5, 6] := hia
    replace hal : acc.length = 4 := hal
    have ef : fl'.map (·.1) = fl.map (·.1) := FL'.fst.trans FL.fst.symm
    obtain ⟨t0, h0⟩ := hia.get 0 3 rfl
    obtain ⟨t1, h1⟩ := hia.get 1 4 rfl
    have GT := G.up UgT
    have UgX : Up g gT := UgF'.trans UgT
    have UgM : Up (gmax s.heap (wl ++ fl)) gT := UgF.trans UgT
    replace c1 := UgT _ _ c1
    clear G
    dsimp only
    walk_at "W"
    refine m_append (S₆.get (.head _)) ?_
    walk_at "W"
    refine r_cell (S₆.up _ _ c1) d1 ?_ (by exact rfl) (by exact rfl) (by exact rfl) (by decide)
    refine b_meth (f := 362) GT S₆.up (Bk.I.up UgX) (by decide) (by k_is) (by k_is) (by k_is) ?_
    refine callWith_K (Gnd.K GT) (by k_is) ?_ (by exact rfl) (by exact rfl)
    walk_at "W"
    refine item_list (lst_is (S₆.get (.head _))) (by decide) (by decide) (by simpa using h0) ?_ (by with_unfolding_all rfl)
    walk_at "W"
    refine item_list (lst_is (S₆.get (.head _))) (by decide) (by decide) (by simpa using h1) ?_ (by with_unfolding_all rfl)
    walk_at "W"
    refine ⟨Frag.In.keeps (Gnd.K GT) S₆.up, wpAny_call ?_⟩
    have hS := S₆.re (n' := [(D, lstO acc.toArray nD), (L + 1 + 1, o2)] ++ (tl ++ (wl' ++ fl'))) (by simp)
    clear S₆
    have htl : ∀ p ∈ tl, s₆.heap.get? p.1 = some p.2 := fun p hp => hS.get (by simp [hp])
    have nd := hS.nd
    simp only [List.map_append] at nd
    have nd2 := List.nodup_append.mp (List.nodup_append.mp nd).2.1
    refine c_iff_new (k := k) (Gc.up (gsel_le (UgX.trans hS.up))) gsel_up (BX _ (gsel_le (UgX.trans hS.up)) (gsel_tl htl)) hr (fun p hp => ⟨hS.get (by simp [hp]), gsel_none ?_ ?_⟩) (r'.less (by omega)) (by decide) (by decide) (na := ⟨"app", [], 0⟩) rfl (nb := ⟨"app", [], 1⟩) rfl (not_mem_get (not_in (by decide))) (by rw [baseB_len]; omega) fun s₇ t₇ g₂ wl₂ q₇ Gr E Bk₂ em₂ ew₂ => ?_
    · have := (hS.nw p (by simp [hp])).2.2
      cases y : g.get? p.1 with
      | none => rfl
      | some o => rw [UgX _ _ y] at this; cases this
    · intro hm
      exact nd2.2.2 _ hm _ (List.mem_append_left _ (List.mem_map_of_mem hp)) rfl
    obtain ⟨S₇, -⟩ := hS.stepX UgX Gr E em₂ ew₂
    have BX₂ : BankX w g bk (notB 0) (extra g g₂) wl₂ := BankX.grown Bk₂ ((gsel_le (UgX.trans hS.up)).trans Gr.le)
    clear hS nd nd2 htl Gr E Bk₂ BX ew₂
    generalize extra g g₂ = tl₂ at *
    have em : wl₂.map (·.1) = wl.map (·.1) := em₂.trans em
    refine Sd.rootAll' (S₇.perm (List.perm_append_comm_assoc _ _ _)) fun g₃ Ug₃ e₃' S₈ => ?_
    have htl : ∀ p ∈ tl₂, g₃.get? p.1 = some p.2 ∧ g.get? p.1 = none ∧ s.heap.get? p.1 = none := fun p hp => by
      have n1 := (S₇.nw p (by simp [hp])).2.2
      refine ⟨e₃' p hp, ?_, fresh_of (wl := wl ++ fl) ?_ fun hm => ?_⟩
      · cases y : g.get? p.1 with
        | none => rfl
        | some o => rw [UgX _ _ y] at n1; cases n1
      · cases y : (gmax s.heap (wl ++ fl)).get? p.1 with
        | none => rfl
        | some o => rw [UgM _ _ y] at n1; cases n1
      · have nd := S₇.nd
        simp only [List.map_append] at nd
        rw [List.map_append, ← em, ← ef] at hm
        exact (List.nodup_append.mp (List.nodup_append.mp nd).2.1).2.2 _ (List.mem_map_of_mem hp) _ hm rfl
    clear S₇ e₃'
    replace S₈ : Sd g₃ L _ ((D, lstO acc.toArray nD) :: (L + 1 + 1, o2) :: (wl₂ ++ fl')) s₇.heap := S₈
    dsimp only
    walk_at "W"
    refine r_append S₈ (fun s₉ n₉ q₉ S₉ hs₉ => ?_) (by rw [z]; simp [hal])
    clear S₈
    have hia' : IntsAre (acc ++ [.int (baseB 4).length t₇]) [3, 4, 5, 6, 7] := IntsAre.append (ms := [7]) hia (.cons _ _ .nil)
    have hal' : (acc ++ [Value.int (baseB 4).length t₇]).length = 5 := by simp [hal]
    rw [show acc.toArray.push (Value.int (baseB 4).length t₇) = (acc ++ [Value.int (baseB 4).length t₇]).toArray by simp] at S₉
    generalize acc ++ [Value.int (baseB 4).length t₇] = tvs at S₉ hia' hal'
    replace GT := GT.up Ug₃
    replace c1 := Ug₃ _ _ c1
    replace UgM := UgM.trans Ug₃
    replace UgX := UgX.trans Ug₃
    walk_at "W"
    refine r_list (fun s₁₀ F q₁₀ fa₁₀ U₁₀ e₁₀ => ?_) (by exact (by decide : 0 ≤ sizeLine))
    have hF : s.heap.get? F = none := kept3 (nw := [_, _]) UgM S₉ em ef fa₁₀
    have S₁₀ := S₉.add fa₁₀ U₁₀ e₁₀
    clear S₉
    refine r_st S₁₀ (fun s₁₁ q₁₁ S₁₁ hs₁₁ => ?_) (by exact rfl) (by exact rfl) (by exact rfl)
    clear S₁₀
    walk_at "S"
    refine wpAny_For ?_ (by intro _; rfl)
    walk_at "W"
    refine r_range1 fun s₁₂ rr ru rv rx q₁₂ U₁₂ hrr => ?_
    have S₁₂ := S₁₁.grown U₁₂
    clear S₁₁
    replace S₁₂ := S₁₂.front3
    refine r_for_rangeT r'.handled (n := 5) S₁₂ hrr (by decide) (fun i g₁ m₁ news₁ => m₁ "things" = some (.ref D) ∧ m₁ "found" = some (.ref F) ∧ ∃ tl wl' ok fvs nF, PoolS w g s.heap L F D bk wl fl' tvs n₉ i g₁ news₁ tl wl' ok fvs nF)
      ?_ (by intro _ _; rfl) ?_ ?_
    · exact ⟨rfl, rfl, tl₂, wl₂, o2, [], _, rfl, ⟨_, d2⟩, htl, BX₂, em, rfl, fun _ _ => .nil⟩
    · rintro I₂ i v g₁ m₁ news₁ s₁₃ oI hi ⟨tv, rfl⟩ ⟨m1, m2, tl, wl', ok, fvs, nF, rfl, ⟨v0, dk⟩, htl, BX, em, hfl, hrows⟩ Ug₁ q₁₃ S₁₃
      replace GT := GT.up Ug₁
      replace c1 := Ug₁ _ _ c1
      have UgM₁ := UgM.trans Ug₁
      have UgX₁ := UgX.trans Ug₁
      have tadd : ∀ {g₂ : Heap} {tl : List (Addr × Obj)} {a : Addr} {o : Obj}, (∀ p ∈ tl, g₂.get? p.1 = some p.2 ∧ g.get? p.1 = none ∧ s.heap.get? p.1 = none) → g₂.get? a = some o → s.heap.get? a = none → (∀ p ∈ (a, o) :: tl, g₂.get? p.1 = some p.2 ∧ g.get? p.1 = none ∧ s.heap.get? p.1 = none) := fun {g₂ tl a o} h1 h2 h3 p hp => by
        rcases List.mem_cons.mp hp with rfl | hp
        · refine ⟨h2, ?_, h3⟩
          cases y : g.get? a with
          | none => rfl
          | some o => rw [U _ _ y] at h3; cases h3
        · exact h1 p hp
      have tup : ∀ {g₁ g₂ : Heap} {tl : List (Addr × Obj)}, Up g₁ g₂ → (∀ p ∈ tl, g₁.get? p.1 = some p.2 ∧ g.get? p.1 = none ∧ s.heap.get? p.1 = none) → (∀ p ∈ tl, g₂.get? p.1 = some p.2 ∧ g.get? p.1 = none ∧ s.heap.get? p.1 = none) := fun {g₁ g₂ tl} u h1 p hp => ⟨u _ _ (h1 p hp).1, (h1 p hp).2⟩
      refine wpAny_assign_Name (r_stC S₁₃.front2 dk (fun s₁₄ o₁₄ q₁₄ S₁₄ d₁₄ hs₁₄ => ?_) (by exact rfl) (by exact rfl) (by exact rfl))
      clear S₁₃ dk
      walk_at "S"
      refine r_compA [(Str.ofString "k", L + 1 + 1)] (by with_unfolding_all rfl) (by with_unfolding_all rfl) (by exact rfl) (by decide) (by intro _; rfl) ?_
      walk_at "W"
      refine r_range1 fun s₁₅ r5 u5 v5 x5 q₁₅ U₁₅ hr5 => ?_
      have S₁₅ := S₁₄.grown U₁₅
      clear S₁₄
      refine cfU_range (n := 32) none (by intro _; rfl) (by intro _; rfl) r'.handled S₁₅ hr5 (fun j acc news => news = (L + 1 + 1, o₁₄) :: (I₂, oI) :: (F, lstO (List.toArray fvs) nF) :: (D, lstO tvs.toArray n₉) :: (wl' ++ fl') ∧ acc = (List.range j).map fun w => Value.bool (w / 2 ^ i % 2 == 1)) ⟨rfl, rfl⟩ (fun j acc news ⟨_, e⟩ => by rw [e]; simp) (by decide) (by decide) ?_ ?_
      · rintro g₄ C₁ D₁ I₄ nD₁ j v mC acc' cw news₁ s₁₆ oI₄ Ug₄ hnL hj ⟨tj, rfl⟩ ⟨rfl, rfl⟩ rfl q₁₆ S₁₆
        unfold CTurn
        refine wpAny_pure ?_
        refine wpAny_assign_Name (r_st S₁₆ (fun s₁₇ q₁₇ S₁₇ hs₁₇ => ?_) (by exact rfl) (by exact rfl) (by exact rfl))
        refine wpAny_tests_nil ?_
        rw [if_pos rfl]
        clear S₁₆
        walk_at "W"
        refine r_cell (S₁₇.get (a := L + 1 + 1) (o := o₁₄) (by simp)) d₁₄ ?_ (by exact rfl) (by exact rfl) (by exact rfl) (by decide)
        refine pow_int (by omega) (by rw [intBits2]; omega) ?_
        refine floordiv_int (Int.ne_of_gt (Int.pow_pos (by decide))) ?_ (.inl (PyProof.noPylong_small (pow_small hi)))
        walk_at "W"
        refine mod_int' (by decide) ?_
        walk_at "W"
        rw [bit_eq j i hi]
        refine ⟨_, [], _, rfl, by walk_at "Q", S₁₇, rfl, by rw [List.range_succ, List.map_append]; rfl⟩
      · rintro D₁ nD₁ acc' news' s₁₆ C₁ oC₁ mC₁ q₁₆ S₁₆ hC₁ ⟨rfl, rfl⟩
        refine r_useA S₁₆ hC₁ (by exact rfl) (by exact rfl) (by exact rfl) fun s₁₇ q₁₇ S₁₇ => ?_
        clear S₁₆ hC₁
        have eR : (List.range 32).map (fun w => Value.bool (w / 2 ^ i % 2 == 1)) = (litT i false).map Value.bool := by simp [litT]
        rw [eR] at S₁₇
        clear eR
        have fD₁ : s.heap.get? D₁ = none := by
          have n1 := (S₁₇.nw _ (.head _)).2.2
          refine fresh_of (wl := wl ++ fl) ?_ fun hm => ?_
          · cases y : (gmax s.heap (wl ++ fl)).get? D₁ with
            | none => rfl
            | some o => rw [UgM₁ _ _ y] at n1; cases n1
          · have nd := S₁₇.nd
            rw [List.map_cons, List.nodup_cons] at nd
            refine nd.1 ?_
            rw [List.map_append, ← em, ← ef, ← List.map_append] at hm
            simp only [List.map_cons, List.mem_cons]
            exact .inr (.inr (.inr (.inr hm)))
        refine Sd.root' (S₁₇) fun g₅ Ug₅ eD₁ S₁₈ => ?_
        clear S₁₇
        replace GT := GT.up Ug₅
        replace c1 := Ug₅ _ _ c1
        have UgM₅ := UgM₁.trans Ug₅
        have UgX₅ := UgX₁.trans Ug₅
        replace htl := tadd (tup Ug₅ htl) eD₁ fD₁
        replace BX := BX.consOf eD₁
        dsimp only
        walk_at "W"
        refine m_append (S₁₈.get (a := F) (o := lstO fvs.toArray nF) (by simp)) ?_
        walk_at "W"
        obtain ⟨ti, hti⟩ := hia'.get i (3 + i) (by
          have : i = 0 ∨ i = 1 ∨ i = 2 ∨ i = 3 ∨ i = 4 := by omega
          rcases this with rfl | rfl | rfl | rfl | rfl <;> rfl)
        refine r_cell (S₁₈.get (a := L + 1 + 1) (o := o₁₄) (by simp)) d₁₄ ?_ (by exact rfl) (by exact rfl) (by exact rfl) (by decide)
        refine item_list (lst_is (S₁₈.get (a := D) (o := lstO tvs.toArray n₉) (by simp))) (by omega) (by omega) (by simpa using hti) ?_ (by with_unfolding_all rfl)
        walk_at "W"
        refine r_tuple (fun s₁₉ a₁ q₁₉ fa₁₉ U₁₉ e₁₉ => ?_) (by exact (by decide : 2 ≤ sizeLine))
        have fa₁ : s.heap.get? a₁ = none := kept3 (nw := [_, _, _, _]) UgM₅ S₁₈ em ef fa₁₉
        have S₁₉ := S₁₈.add fa₁₉ U₁₉ e₁₉
        clear S₁₈
        refine Sd.root' (S₁₉) fun g₆ Ug₆ ea₁ S₂₀ => ?_
        clear S₁₉
        replace GT := GT.up Ug₆
        replace c1 := Ug₆ _ _ c1
        replace eD₁ := Ug₆ _ _ eD₁
        have UgM₆ := UgM₅.trans Ug₆
        have UgX₆ := UgX₅.trans Ug₆
        replace htl := tadd (tup Ug₆ htl) ea₁ fa₁
        replace BX := BX.consOf ea₁
        walk_at "W"
        refine r_cell (S₂₀.up _ _ c1) d1 ?_ (by exact rfl) (by exact rfl) (by exact rfl) (by decide)
        refine b_meth (f := 327) GT S₂₀.up (Bk.I.up UgX₆) (by decide) (by k_is) (by k_is) (by k_is) ?_
        refine callWith_K (Gnd.K GT) (by k_is) ?_ (by exact rfl) (by exact rfl)
        walk_at "W"
        refine r_cell (S₂₀.get (a := L + 1 + 1) (o := o₁₄) (by simp)) d₁₄ ?_ (by exact rfl) (by exact rfl) (by exact rfl) (by decide)
        refine item_list (lst_is (S₂₀.get (a := D) (o := lstO tvs.toArray n₉) (by simp))) (by omega) (by omega) (by simpa using hti) ?_ (by with_unfolding_all rfl)
        walk_at "W"
        refine ⟨Frag.In.keeps (Gnd.K GT) S₂₀.up, wpAny_call ?_⟩
        have hS := S₂₀.re (n' := [(L + 1 + 1, o₁₄), (I₂, oI), (F, lstO (List.toArray fvs) nF), (D, lstO tvs.toArray n₉)] ++ (wl' ++ fl')) rfl
        clear S₂₀
        obtain ⟨n0, hn0, hn1⟩ := notB_at (i := i) (k := i) hi
        have e3 : (3 + (i : Int)) = ((3 + i : Nat) : Int) := by omega
        refine c_not_new (k := k) (Gc.up (gsel_le (UgX₆.trans hS.up))) gsel_up (BX _ (gsel_le (UgX₆.trans hS.up)) (gsel_tl fun p hp => hS.up _ _ (htl p hp).1)) hr (fun p hp => ⟨hS.get (by simp [hp]), gsel_none ?_ ?_⟩) (r'.less (by omega)) (by omega) (n := n0) (by rw [show (3 + (i : Int)).toNat = 3 + i by omega]; exact hn0) hn1
          (by rw [e3]; exact not_mem_get (notB_new hi)) (by rw [notB_len]; omega) fun s₂₁ t₂₁ g₂ wl₂₁ q₂₁ Gr E Bk₂ em₂₁ ew₂ => ?_
        · have n1 := (hS.nw p (by simp [hp])).2.2
          cases y : g.get? p.1 with
          | none => rfl
          | some o => rw [UgX₆ _ _ y] at n1; cases n1
        · intro hm
          obtain ⟨p', hp', e⟩ := List.mem_map.mp hm
          have n1 := (hS.nw p (by simp [hp])).2.2
          rw [← e, (htl p' hp').1] at n1; cases n1
        obtain ⟨g₇, Ug₇, S₂₁, hx1, hx2, hx3⟩ := hS.stepG UgX₆ (fun p hp => ⟨(htl p hp).1, (htl p hp).2.1⟩) Gr E em₂₁ ew₂
        have BX₂₁ : BankX w g bk (notB (i + 1)) (extra g g₂) wl₂₁ := BankX.grown (by rw [← notB_succ, ← e3]; exact Bk₂) ((gsel_le (UgX₆.trans hS.up)).trans Gr.le)
        have htl₂₁ : ∀ p ∈ extra g g₂, g₇.get? p.1 = some p.2 ∧ g.get? p.1 = none ∧ s.heap.get? p.1 = none := fun p hp => by
          refine ⟨(hx1 p hp).1, (hx1 p hp).2, ?_⟩
          rcases hx3 p hp with y | y
          · obtain ⟨p', hp', e⟩ := List.mem_map.mp y
            rw [← e]; exact (htl p' hp').2.2
          · exact kept3 (nw := [_, _, _, _]) UgM₆ hS em ef y
        have old : ∀ p ∈ tl, p ∈ extra g g₂ := fun p hp => hx2 p (List.mem_cons_of_mem _ (List.mem_cons_of_mem _ hp))
        have xD₁ := hx2 (D₁, _) (.tail _ (.head _))
        have xa₁ := hx2 (a₁, _) (.head _)
        clear hS BX Gr E Bk₂ ew₂ hx1 hx2 hx3 htl
        have emN := em₂₁.trans em
        generalize extra g g₂ = tlN at *
        replace GT := GT.up Ug₇
        replace c1 := Ug₇ _ _ c1
        replace eD₁ := Ug₇ _ _ eD₁
        have UgM₇ := UgM₆.trans Ug₇
        have UgX₇ := UgX₆.trans Ug₇
        replace S₂₁ : Sd g₇ L _ ((L + 1 + 1, o₁₄) :: (I₂, oI) :: (F, lstO (List.toArray fvs) nF) :: (D, lstO tvs.toArray n₉) :: (wl₂₁ ++ fl')) s₂₁.heap := S₂₁
        rw [show (((notB i).length : Nat) : Int) = litN i true by rw [notB_len]; simp [litN]]
        dsimp only
        walk_at "W"
        refine r_comp [] (by with_unfolding_all rfl) (by exact rfl) (by decide) (by intro _; rfl) ?_
        walk_at "W"
        refine cf_list none (by intro _; rfl) (by intro _; rfl) r'.handled S₂₁ (lst_is eD₁) (fun j acc news => news = (L + 1 + 1, o₁₄) :: (I₂, oI) :: (F, lstO (List.toArray fvs) nF) :: (D, lstO tvs.toArray n₉) :: (wl₂₁ ++ fl') ∧ acc = ((litT i false).take j).map fun b => Value.bool (!b)) ⟨rfl, rfl⟩
          (fun j acc news ⟨_, e⟩ => by rw [e]; simp; omega) (by simp [litT]) ?_ ?_
        · rintro g₈ C₂ D₂ I₅ nD₂ j v mC acc' cw news₁ s₂₂ oI₅ Ug₈ hnL hj hv - ⟨rfl, rfl⟩ rfl q₂₂ S₂₂
          unfold CTurn
          refine wpAny_pure ?_
          refine wpAny_assign_Name (r_st S₂₂ (fun s₂₃ q₂₃ S₂₃ hs₂₃ => ?_) (by exact rfl) (by exact rfl) (by exact rfl))
          refine wpAny_tests_nil ?_
          rw [if_pos rfl]
          clear S₂₂
          obtain ⟨bv, hbv, rfl⟩ := boolAt hv
          obtain ⟨hj', ebv⟩ := List.getElem?_eq_some_iff.mp hbv
          refine UnaryOp_ ?_
          walk_at "L"
          refine not_of (wpAny_truthy_bool ?_)
          exact ⟨_, [], _, rfl, by walk_at "Q", S₂₃, rfl, by rw [← List.take_append_getElem hj', List.map_append, ebv]; rfl⟩
        · rintro D₂ nD₂ acc' news' s₂₂ q₂₂ S₂₂ ⟨rfl, rfl⟩
          have eN : ((litT i false).take ((litT i false).map Value.bool).toArray.size).map (fun b => Value.bool (!b)) = (litT i true).map Value.bool := by
            rw [List.take_of_length_le (by simp)]; simp [litT]
          rw [eN] at S₂₂
          clear eN
          have fD₂ : s.heap.get? D₂ = none := by
            have n1 := (S₂₂.nw _ (.head _)).2.2
            refine fresh_of (wl := wl ++ fl) ?_ fun hm => ?_
            · cases y : (gmax s.heap (wl ++ fl)).get? D₂ with
              | none => rfl
              | some o => rw [UgM₇ _ _ y] at n1; cases n1
            · have nd := S₂₂.nd
              rw [List.map_cons, List.nodup_cons] at nd
              refine nd.1 ?_
              rw [List.map_append, ← emN, ← ef, ← List.map_append] at hm
              simp only [List.map_cons, List.mem_cons]
              exact .inr (.inr (.inr (.inr hm)))
          refine Sd.root' (S₂₂) fun g₈ Ug₈ eD₂ S₂₃ => ?_
          clear S₂₂
          replace GT := GT.up Ug₈
          have UgM₈ := UgM₇.trans Ug₈
          replace htl₂₁ := tadd (tup Ug₈ htl₂₁) eD₂ fD₂
          replace BX₂₁ := BX₂₁.consOf eD₂
          walk_at "W"
          refine r_tuple (fun s₂₄ a₂ q₂₄ fa₂₄ U₂₄ e₂₄ => ?_) (by exact (by decide : 2 ≤ sizeLine))
          have fa₂ : s.heap.get? a₂ = none := kept3 (nw := [_, _, _, _]) UgM₈ S₂₃ emN ef fa₂₄
          have S₂₄ := S₂₃.add fa₂₄ U₂₄ e₂₄
          clear S₂₃
          refine Sd.root' (S₂₄) fun g₉ Ug₉ ea₂ S₂₅ => ?_
          clear S₂₄
          replace GT := GT.up Ug₉
          have UgM₉ := UgM₈.trans Ug₉
          replace htl₂₁ := tadd (tup Ug₉ htl₂₁) ea₂ fa₂
          replace BX₂₁ := BX₂₁.consOf ea₂
          walk_at "W"
          refine r_list (fun s₂₆ ℓ q₂₆ fa₂₆ U₂₆ e₂₆ => ?_) (by exact (by decide : 2 ≤ sizeLine))
          have fℓ : s.heap.get? ℓ = none := kept3 (nw := [_, _, _, _]) UgM₉ S₂₅ emN ef fa₂₆
          have S₂₆ := S₂₅.add fa₂₆ U₂₆ e₂₆
          clear S₂₅
          refine Sd.root' (S₂₆) fun gA UgA eℓ S₂₇ => ?_
          clear S₂₆
          replace htl₂₁ := tadd (tup UgA htl₂₁) eℓ fℓ
          replace BX₂₁ := BX₂₁.consOf eℓ
          walk_at "W"
          refine r_append S₂₇.front3 (fun s₂₈ n₂₈ q₂₈ S₂₈ hs₂₈ => ?_) (by rw [z]; simp [hfl]; omega)
          clear S₂₇
          rw [show fvs.toArray.push (Value.ref ℓ) = (fvs ++ [Value.ref ℓ]).toArray by simp] at S₂₈
          walk_at "W"
          refine ⟨.inl rfl, gA, _, _, Ug₅.trans (Ug₆.trans (Ug₇.trans (Ug₈.trans (Ug₉.trans UgA)))), by walk_at "Q", S₂₈.front3.perm (.cons _ (.swap _ _ _)), m1, m2, _, wl₂₁, o₁₄, fvs ++ [.ref ℓ], _, rfl, ⟨_, d₁₄⟩, htl₂₁, BX₂₁, emN, by simp [hfl], fun g₂ H => ?_⟩
          rw [List.range_succ, List.map_append]
          refine (hrows g₂ fun p hp => H p (.tail _ (.tail _ (.tail _ (old p hp))))).snoc ⟨ℓ, rfl, [.ref a₁, .ref a₂], lst_is (H (ℓ, _) (.head _)), .cons ⟨a₁, _, D₁, rfl, ⟨_, H (a₁, _) (.tail _ (.tail _ (.tail _ xa₁))), rfl, _, rfl⟩, lst_is (H (D₁, _) (.tail _ (.tail _ (.tail _ xD₁))))⟩ (.cons ⟨a₂, t₂₁, D₂, rfl, ⟨_, H (a₂, _) (.tail _ (.head _)), rfl, _, rfl⟩, lst_is (H (D₂, _) (.tail _ (.tail _ (.head _))))⟩ .nil)⟩
    · rintro g₁ m₁ news₁ s₁₃ q₁₃ Ug₁ S₁₃ ⟨m1, m2, tl, wl', ok, fvs, nF, rfl, -, htl, BX, em', hfl, hrows⟩
      have UgM₁ := UgM.trans Ug₁
      walk_at "W"
      have fF : s.heap.get? F = none := hF
      have Us : Up g s₁₃.heap := (UgX.trans Ug₁).trans S₁₃.up
      have tlg : ∀ p ∈ tl, (grd g s.heap s₁₃.heap []).get? p.1 = some p.2 := fun p hp => grd_get (S₁₃.up _ _ (htl p hp).1) (.inr ⟨(htl p hp).2.2, by simp⟩)
      refine h s₁₃ F (grd g s.heap s₁₃.heap []) wl' (by walk_at "Q") (grow_grd Us) (eff_of (UgM₁.trans S₁₃.up) fun p hp => ?_) (BX _ (grow_grd Us).le tlg) em' (fun p hp => S₁₃.get (by simp [hp])) (poolL_of (lst_is (grd_get (S₁₃.get (a := F) (o := lstO fvs.toArray nF) (by simp)) (.inr ⟨fF, by simp⟩))) (hrows _ tlg))
      have hm : p.1 ∈ (wl ++ fl).map (·.1) := List.mem_map_of_mem hp
      rw [List.map_append, ← em', ← ef, ← List.map_append] at hm
      obtain ⟨p', hp', e⟩ := List.mem_map.mp hm
      exact ⟨p'.2, e ▸ S₁₃.get (by simp at hp' ⊢; rcases hp' with hp' | hp' <;> simp [hp'])⟩
section
variable {w : World} {A : Around} {E : Value → Shared → Prop} {s : Shared}
theorem r_sorted_list {l : Addr} {vs : List Value} {ns : List Int} {Q : Value → Shared → Prop} (hl : s.heap.IsList l vs.toArray) (hI : IntsAre vs ns) (h64 : vs.length < 64)
    (h : ∀ s' a vs' ns' n, Same s s' → s.heap.get? a = none → Up s.heap s'.heap → s'.heap.get? a = some (lstO (List.toArray vs') n) → IntsAre vs' ns' → ns'.Perm ns → ns'.Pairwise (· ≤ ·) → Q (.ref a) s') :
    wpAny (model pw w) A (call (.builtin "sorted") [.ref l]) Q E s := by
  refine sorted_ints hl hI h64 fun out ns' a1 a2 a3 => ?_
  obtain ⟨e, he⟩ := sortedAll_at s.heap vs out
  refine h { s with heap := sortedAll s.heap vs out } _ out.toList ns' e ⟨rfl, rfl⟩ ?_ (fun _ _ => sortedAll_old) (by rw [Array.toArray_toList]; exact he) a1 a2 a3
  cases q : s.heap.get? (s.heap.objs.size + 1) with
  | none => rfl
  | some o => exact absurd (Heap.lt_size q) (Nat.not_lt.mpr (Nat.le_succ _))

theorem keys_ints {kvs : List (Int × Value)} {acc : List Value} (hl : acc.length = kvs.length) (hp : ∀ (j : Nat) (v : Value), acc[j]? = some v → ∃ k x, kvs[j]? = some (k, x) ∧ (iK pw w).is k v = true) : IntsAre acc (kvs.map (·.1)) := by
  induction kvs generalizing acc with
  | nil => cases acc with
    | nil => exact .nil
    | cons a r => simp at hl
  | cons kv r ih => cases acc with
    | nil => simp at hl
    | cons a t =>
      obtain ⟨k, x, e, hk⟩ := hp 0 a rfl
      simp at e
      have hk' : Value.isInt k a = true := hk
      cases a <;> simp [Value.isInt] at hk'
      subst hk'
      rw [e]
      exact .cons _ _ (ih (by simpa using hl) fun j v q => hp (j + 1) v (by simpa using q))

theorem r_sorted_dict {d : Addr} {kvs : List (Int × Value)} {Q : Value → Shared → Prop} (hh : A.handled = none) (hd : s.heap.DictOf (iK pw w) d kvs) (lo : (d == sysModules) = false) (h64 : kvs.length < 64)
    (h : ∀ s' a vs' ns' n, Same s s' → s.heap.get? a = none → Up s.heap s'.heap → s'.heap.get? a = some (lstO (List.toArray vs') n) → IntsAre vs' ns' → ns'.Perm (kvs.map (·.1)) → ns'.Pairwise (· ≤ ·) → Q (.ref a) s') :
    wpAny (model pw w) A (call (.builtin "sorted") [.ref d]) Q E s := by
  obtain ⟨ep, hat⟩ := hd.dictAt
  refine call_function_entry kind_sorted plain_sorted entry_sorted (args_sorted1 _) ?_
  unfold Builtin.«sorted»
  refine wpAny_bind (m := checkCount "sorted" 1 1 _) (wpAny_pure ?_)
  have z : sizeLine = 16777216 := rfl
  refine wpAny_bind (kdu_collect (A := A.in1) (kdl_dict (knd := iK pw w) (kvs := kvs) (ep := ep) lo) hh hat (by omega) fun h' tk acc hk hacc => ?_)
  have hl : acc.toList.length = kvs.length := by rw [Array.length_toList]; exact hacc.1
  refine wpAny_bind (wpAny_newList ?_ (by rw [hl]; omega))
  have hI : IntsAre acc.toList (kvs.map (·.1)) := keys_ints (w := w) hl fun j v e => hacc.2 j v (by rw [← Array.getElem?_toList]; exact e)
  have hoL : (h'.push (seqObj "list" acc.toList.toArray 0)).get? h'.objs.size = some (seqObj "list" acc.toList.toArray 0) := Heap.get?_push_size _ rfl
  refine wpAny_bind (wpAny_holding (wpAny_call_entry slot_list_sort ⟨_, hoL, rfl⟩ entry_list_sort (list_sort_tree hoL hI (by rw [hl]; exact h64) fun out ns' a1 a2 a3 => ⟨_, rfl, ?_⟩) (args_list_sort _)))
  refine wpAny_pure ⟨_, rfl, ?_⟩
  obtain ⟨e, he⟩ := sortedHeap_at (out := out) hoL
  have up : ∀ b o, s.heap.get? b = some o → (sortedHeap (h'.push (seqObj "list" acc.toList.toArray 0)) h'.objs.size acc.toList out).get? b = some o := fun b o q => by
    have q' : (h'.push (seqObj "list" acc.toList.toArray 0)).get? b = some o := Heap.get?_push_of_some _ (hk b o q)
    rw [sortedHeap_old (Nat.ne_of_lt (Heap.lt_size (hk b o q))) (Heap.lt_size q')]
    exact q'
  refine h ⟨_, s.gens, s.drawn, _, s.os⟩ h'.objs.size out.toList ns' e ⟨rfl, rfl⟩ ?_ up (by rw [Array.toArray_toList]; exact he) a1 a2 a3
  cases q : s.heap.get? h'.objs.size with
  | none => rfl
  | some o => exact absurd (Heap.lt_size (hk _ _ q)) (Nat.lt_irrefl _)

theorem r_list_dict {d : Addr} {kvs : List (Int × Value)} {Q : Value → Shared → Prop} (hh : A.handled = none) (hd : s.heap.DictOf (iK pw w) d kvs) (lo : (d == sysModules) = false) (h64 : kvs.length < 64)
    (h : ∀ s' a vs' n, Same s s' → s.heap.get? a = none → Up s.heap s'.heap → s'.heap.get? a = some (lstO (List.toArray vs') n) → IntsAre vs' (kvs.map (·.1)) → Q (.ref a) s') :
    wpAny (model pw w) A (call (.type "list") [.ref d]) Q E s := by
  obtain ⟨ep, hat⟩ := hd.dictAt
  have z : sizeLine = 16777216 := rfl
  refine kdl_call (kdl_dict (knd := iK pw w) (kvs := kvs) (ep := ep) lo) hh hat (by omega) fun h' tk acc c hk hD hacc => ?_
  refine h ⟨h', s.gens, s.drawn, tk, s.os⟩ _ acc.toList c ⟨rfl, rfl⟩ (size_none _) hk (by rw [Array.toArray_toList]; exact hD) (keys_ints (w := w) (by rw [Array.length_toList]; exact hacc.1) fun j v e => hacc.2 j v (by rw [← Array.getElem?_toList]; exact e))

theorem r_in_dict {d : Addr} {kvs : List (Int × Value)} {k : Int} {t : Tok} {Q : Value → Shared → Prop} (hd : s.heap.DictOf (iK pw w) d kvs) (lo : (d == sysModules) = false) (h : ∀ s', Same s s' → s'.heap = s.heap → Q (.bool (decide (k ∈ kvs.map (·.1)))) s') :
    wpAny (model pw w) A (compareOp .In (.int k t) (.ref d)) Q E s := by
  refine wpAny_in_of (knd := iK pw w) (k := k) (by simp [intKind, Value.isInt]) lo hd.mapOf ?_
  have e : (valueAt kvs k).isSome = decide (k ∈ kvs.map (·.1)) := by
    unfold valueAt
    rw [Option.isSome_map, Bool.eq_iff_iff, decide_eq_true_iff, List.find?_isSome]
    simp
  rw [e]
  exact h ⟨s.heap, _, _, _, _⟩ ⟨rfl, rfl⟩ rfl
theorem r_notin_dict {d : Addr} {kvs : List (Int × Value)} {k : Int} {t : Tok} {Q : Value → Shared → Prop} (hd : s.heap.DictOf (iK pw w) d kvs) (lo : (d == sysModules) = false) (h : ∀ s', Same s s' → s'.heap = s.heap → Q (.bool (decide (k ∉ kvs.map (·.1)))) s') :
    wpAny (model pw w) A (compareOp .NotIn (.int k t) (.ref d)) Q E s := by
  refine wpAny_notIn_of (knd := iK pw w) (k := k) (by simp [intKind, Value.isInt]) lo hd.mapOf ?_
  have e : (!(valueAt kvs k).isSome) = decide (k ∉ kvs.map (·.1)) := by
    unfold valueAt
    rw [Option.isSome_map, Bool.eq_iff_iff, decide_eq_true_iff, Bool.not_eq_true', Option.isSome_eq_false_iff, Option.isNone_iff_eq_none, List.find?_eq_none]
    simp only [decide_eq_true_eq, List.mem_map, not_exists, not_and]
  rw [e]
  exact h ⟨s.heap, _, _, _, _⟩ ⟨rfl, rfl⟩ rfl

theorem all_eq {α : Type} [DecidableEq α] (xs ys : List α) (hn : xs.length = ys.length) {n : Nat} (e : n = xs.length) : (List.range n).all (fun j => decide (xs[j]? = ys[j]?)) = decide (xs = ys) := by
  subst e
  rw [Bool.eq_iff_iff, List.all_eq_true, decide_eq_true_iff]
  constructor
  · intro H
    refine List.ext_getElem? fun j => ?_
    by_cases hj : j < xs.length
    · simpa using H j (List.mem_range.mpr hj)
    · rw [List.getElem?_eq_none (by omega), List.getElem?_eq_none (by omega)]
  · rintro rfl j _; simp
/-- values that stand for data by =  -/
def EqVia {α : Type} [DecidableEq α] (A : Around) (s : Shared) (vs vs' : List Value) (xs ys : List α) : Prop := vs.length = xs.length ∧ vs'.length = ys.length ∧
  ∀ (j : Nat) (v v' : Value), vs[j]? = some v → vs'[j]? = some v' → PySem.SeqAt.EqAt A s v v' (decide (xs[j]? = ys[j]?))
theorem EqVia.ints {vs vs' : List Value} {xs ys : List Int} (hi : IntsAre vs xs) (hi' : IntsAre vs' ys) : EqVia A s vs vs' xs ys := by
  refine ⟨hi.length, hi'.length, fun j v v' e e' => ?_⟩
  have n1 := hi.length
  have n2 := hi'.length
  have h1 : j < xs.length := by have := (List.getElem?_eq_some_iff.mp e).1; omega
  have h2 : j < ys.length := by have := (List.getElem?_eq_some_iff.mp e').1; omega
  obtain ⟨t1, e1⟩ := hi.get j xs[j] (by simp [h1])
  obtain ⟨t2, e2⟩ := hi'.get j ys[j] (by simp [h2])
  rw [e] at e1; rw [e'] at e2
  cases e1; cases e2
  have : decide (xs[j]? = ys[j]?) = (xs[j] == ys[j]) := by simp [h1, h2]; rfl
  rw [this]
  exact (PySem.MeetsSeq.EqGives.int _ _ _ _).at _ _
theorem EqVia.bools {xs ys : List Bool} : EqVia A s (xs.map Value.bool) (ys.map Value.bool) xs ys := by
  refine ⟨by simp, by simp, fun j v v' e e' => ?_⟩
  rw [List.getElem?_map] at e e'
  obtain ⟨x, hx, rfl⟩ := Option.map_eq_some_iff.mp e
  obtain ⟨y, hy, rfl⟩ := Option.map_eq_some_iff.mp e'
  have : decide (xs[j]? = ys[j]?) = (x == y) := by rw [hx, hy]; cases x <;> cases y <;> rfl
  rw [this]
  exact PySem.SeqAt.EqAt.bool_bool x y
variable {α : Type} [DecidableEq α]
theorem r_eq_list {l l' : Addr} {vs vs' : List Value} {xs ys : List α} {Q : Value → Shared → Prop} (hu : A.units < cLine) (hl : s.heap.IsList l vs.toArray) (hl' : s.heap.IsList l' vs'.toArray) (V : EqVia A.in1 s vs vs' xs ys) (h : Q (.bool (decide (xs = ys))) s) :
    wpAny (model pw w) A (compareOp .Eq (.ref l) (.ref l')) Q E s := by
  obtain ⟨n1, n2, V⟩ := V
  by_cases hn : xs.length = ys.length
  · refine PySem.SeqAt.eq_listAt (e := fun j => decide (xs[j]? = ys[j]?)) hl hl' (by simp; omega) hu (fun j h1 h2 => V j _ _ (by simp at h1 ⊢) (by simp at h2 ⊢)) ?_
    rw [all_eq xs ys hn (by simp [n1])]
    exact h
  · refine PySem.SeqAt.eq_list_lengthsAt hl hl' (by simp; omega) hu ?_
    rw [decide_eq_false (fun e => hn (by rw [e]))] at h
    exact h
theorem r_ne_list {l l' : Addr} {vs vs' : List Value} {xs ys : List α} {Q : Value → Shared → Prop} (hu : A.units < cLine) (hl : s.heap.IsList l vs.toArray) (hl' : s.heap.IsList l' vs'.toArray) (V : EqVia A.in1 s vs vs' xs ys) (h : Q (.bool (decide (xs ≠ ys))) s) :
    wpAny (model pw w) A (compareOp .NotEq (.ref l) (.ref l')) Q E s := by
  obtain ⟨n1, n2, V⟩ := V
  by_cases hn : xs.length = ys.length
  · refine PySem.SeqAt.RcNeAt.lists (e := fun j => decide (xs[j]? = ys[j]?)) hl hl' (by simp; omega) hu (fun j h1 h2 => V j _ _ (by simp at h1 ⊢) (by simp at h2 ⊢)) pw w E Q ?_
    rw [all_eq xs ys hn (by simp [n1])]
    rw [show (!decide (xs = ys)) = decide (xs ≠ ys) by simp]
    exact h
  · refine PySem.SeqAt.RcNeAt.lists_lengths hl hl' (by simp; omega) hu pw w E Q ?_
    have e : decide (xs ≠ ys) = true := decide_eq_true fun e => hn (by rw [e])
    rw [e] at h
    exact h

/-- a bool in a list of bools -/
theorem r_in_bools {l : Addr} {bs : List Bool} {b : Bool} {Q : Value → Shared → Prop} (hl : BoolL s.heap l bs) (h : Q (.bool (decide (b ∈ bs))) s) : wpAny (model pw w) A (compareOp .In (.bool b) (.ref l)) Q E s := by
  refine PySem.SeqAt.in_listAt (fun v => v == Value.bool b) hl (fun y hy => ?_) ?_
  · simp only [List.mem_toArray, List.mem_map] at hy
    obtain ⟨x, _, rfl⟩ := hy
    have : (Value.bool x == Value.bool b) = (x == b) := by cases x <;> cases b <;> rfl
    rw [this]
    exact PySem.SeqAt.EqAt.bool_bool x b
  · have e : (bs.map Value.bool).toArray.any (fun v => v == Value.bool b) = decide (b ∈ bs) := by
      rw [List.any_toArray, List.any_map, Bool.eq_iff_iff, List.any_eq_true, decide_eq_true_iff]
      constructor
      · rintro ⟨x, hx, e⟩
        have : x = b := by cases x <;> cases b <;> first | rfl | (exact absurd e (by decide))
        exact this ▸ hx
      · intro hb
        exact ⟨b, hb, by cases b <;> rfl⟩
    rw [e]; exact h
theorem r_notin_bools {l : Addr} {bs : List Bool} {b : Bool} {Q : Value → Shared → Prop} (hl : BoolL s.heap l bs) (h : Q (.bool (decide (b ∉ bs))) s) : wpAny (model pw w) A (compareOp .NotIn (.bool b) (.ref l)) Q E s := by
  refine PySem.SeqAt.notIn_listAt (fun v => v == Value.bool b) hl (fun y hy => ?_) ?_
  · simp only [List.mem_toArray, List.mem_map] at hy
    obtain ⟨x, _, rfl⟩ := hy
    have : (Value.bool x == Value.bool b) = (x == b) := by cases x <;> cases b <;> rfl
    rw [this]
    exact PySem.SeqAt.EqAt.bool_bool x b
  · have e : (!(bs.map Value.bool).toArray.any (fun v => v == Value.bool b)) = decide (b ∉ bs) := by
      rw [List.any_toArray, List.any_map, Bool.eq_iff_iff, Bool.not_eq_true', ← Bool.not_eq_true, List.any_eq_true, decide_eq_true_iff]
      refine not_congr ⟨?_, ?_⟩
      · rintro ⟨x, hx, e⟩
        have : x = b := by cases x <;> cases b <;> first | rfl | (exact absurd e (by decide))
        exact this ▸ hx
      · intro hb
        exact ⟨b, hb, by cases b <;> rfl⟩
    rw [e]; exact h

/-- any of a list of bools -/
theorem r_any {l : Addr} {bs : List Bool} {Q : Value → Shared → Prop} (hh : A.handled = none) (hl : BoolL s.heap l bs) (h : ∀ s', Same s s' → Up s.heap s'.heap → Q (.bool (decide (true ∈ bs))) s') : wpAny (model pw w) A (call (.builtin "any") [.ref l]) Q E s := by
  refine call_any_walk (wpAny_pyIter_list hl ?_)
  have hlt : l ≠ s.heap.objs.size := by obtain ⟨_, e, _⟩ := hl; exact Nat.ne_of_lt (Heap.lt_size e)
  refine ⟨s.heap.objs.size, _, _, _, _, _, fun j => (bs[j]?).getD false, rfl, Walks.list (A := A.in1) hh _ l hlt (bs.map Value.bool).toArray, ⟨⟨_, Heap.get?_push_size _ rfl, rfl, rfl⟩, Heap.IsList.push hl _⟩, fun i v s Q E hv hq => ?_, fun h' tk hk => ?_⟩
  · obtain ⟨b, hb, rfl⟩ := boolAt hv
    simp only [hb, Option.getD_some] at hq
    exact wpAny_truthy_bool hq
  · have e : (List.range (bs.map Value.bool).toArray.size).any (fun j => (bs[j]?).getD false) = decide (true ∈ bs) := by
      rw [Bool.eq_iff_iff, List.any_eq_true, decide_eq_true_iff]
      constructor
      · rintro ⟨j, _, e⟩
        cases q : bs[j]? with
        | none => rw [q] at e; cases e
        | some b =>
          rw [q] at e
          have : b = true := e
          exact this ▸ List.mem_of_getElem? q
      · intro hb
        obtain ⟨j, hj⟩ := List.mem_iff_getElem?.mp hb
        exact ⟨j, List.mem_range.mpr (by simpa using (List.getElem?_eq_some_iff.mp hj).1), by rw [hj]; rfl⟩
    rw [e]
    exact h ⟨h', _, _, tk, _⟩ ⟨rfl, rfl⟩ fun b o q => hk b o (fun hm => absurd (Heap.lt_size q) (by rw [List.mem_singleton.mp hm]; exact Nat.lt_irrefl _)) (Heap.get?_push_of_some _ q)
end
theorem paired_get {α β : Type} {R : α → β → Prop} {xs : List α} {ys : List β} (p : Paired R xs ys) {i : Nat} {x : α} {y : β} (hx : xs[i]? = some x) (hy : ys[i]? = some y) : R x y := by
  induction p generalizing i with
  | nil => simp at hx
  | cons h _ ih => cases i with
    | zero => simp at hx hy; subst hx hy; exact h
    | succ i => exact ih (by simpa using hx) (by simpa using hy)
section
variable {w : World} {A : Around} {E : Value → Shared → Prop} {s : Shared}
theorem r_pop {g : Heap} {L : Addr} {m : Str → Option Value} {rest : List (Addr × Obj)} {l : Addr} {vs : Array Value} {n k : Nat} {i : Int} {u : Tok} {y : Value} {Q : Value → Shared → Prop} (S : Sd g L m ((l, lstO vs n) :: rest) s.heap) (hik : i = (k : Int)) (hy : vs[k]? = some y) (hsz : vs.size ≤ 1000)
    (h : ∀ s' n', Same s s' → Sd g L m ((l, lstO (vs.eraseIdxIfInBounds k) n') :: rest) s'.heap → Q y s') : wpAny (model pw w) A (call (.builtin "list.pop") [.ref l, .int i u]) Q E s := by
  have hk : k < vs.size := (Array.getElem?_eq_some_iff.mp hy).1
  have z : sizeLine = 16777216 := rfl
  have hl := S.get (.head _)
  have q := PySem.IsL.update (items := vs) (n := n) hl (fun xs => xs.eraseIdxIfInBounds k)
  have f1 : Builtin.List.listFitsIndex i = true := fitsIndex_of (by omega) (by omega)
  have f2 : seqIndex? i vs.size = some k := (seqIndex_of (by omega) (by omega)).trans (by rw [hik, Int.toNat_natCast])
  have T : s.TypeIs (.ref l) "list" := ⟨_, hl, rfl⟩
  have hz : vs.size ≤ sizeLine := by rw [z]; omega
  clear z
  have M := PySem.MeetsSeq.list_pop_at l vs n i u k y f1 f2 hy hz
  refine call_meets PySem.F.slot_list_pop T PySem.F.entry_list_pop (PySem.F.args_list_pop_2 _ _) M ⟨hl, ?_⟩
  exact h ⟨_, _, _, _, _⟩ _ ⟨rfl, rfl⟩ (S.upd (Heap.SameBut.update ..) q)

theorem m_items {d : Addr} {o : Obj} {pl : Sem Bool} {Q : Value × List Value → Shared → Prop} (ho : s.heap.get? d = some o) (hc : o.ExactDict) (h : Q (.builtin "dict.items", [.ref d]) s) :
    wpAny (model pw w) A (getMethod (.ref d) "items" pl) Q E s :=
  getMethod_builtin (T := "dict") ⟨o, ho, hc.1⟩ PySem.F.plainAttrs_dict PySem.F.slot_dict_items PySem.F.type_dict_items (dict_noDict ho hc) h
theorem r_items {d : Addr} {kvs : List (Int × Value)} {Q : Value → Shared → Prop} (hd : s.heap.DictOf (iK pw w) d kvs) (lo : (d == sysModules) = false) (h : ∀ s' v, Same s s' → Up s.heap s'.heap → s'.heap.IsItemsView v d → Q (.ref v) s') :
    wpAny (model pw w) A (call (.builtin "dict.items") [.ref d]) Q E s :=
  call_meetsIn PySem.F.slot_dict_items hd.typeIs PySem.F.entry_dict_items (PySem.F.args_dict_items_1 _) (meets_dict_items (iK pw w) d lo) ⟨⟨kvs, hd⟩, h ⟨_, _, _, _, _⟩ _ ⟨rfl, rfl⟩ (Up.push _ _) ⟨_, Heap.get?_push_size _ rfl, rfl, rfl⟩⟩
/-- a value that is a tuple of a number and a value -/
def KvAt (h : Heap) (v : Value) (kv : Int × Value) : Prop := ∃ T t, v = .ref T ∧ h.IsTuple T #[.int kv.1 t, kv.2]
theorem r_list_items {r d : Addr} {kvs : List (Int × Value)} {Q : Value → Shared → Prop} (hh : A.handled = none) (hv : s.heap.IsItemsView r d) (hd : s.heap.DictOf (iK pw w) d kvs) (h64 : kvs.length < 64)
    (h : ∀ s' a vs n, Same s s' → s.heap.get? a = none → Up s.heap s'.heap → s'.heap.get? a = some (lstO (List.toArray vs) n) → Paired (KvAt s'.heap) vs kvs → Q (.ref a) s') :
    wpAny (model pw w) A (call (.type "list") [.ref r]) Q E s := by
  obtain ⟨ep, hat⟩ := hd.dictAt
  have z : sizeLine = 16777216 := rfl
  refine kdx_call (knd := iK pw w) hh hv hat (by omega) fun h' tk acc c as hk hD hl hG hacc => ?_
  refine h ⟨h', s.gens, s.drawn, tk, s.os⟩ _ (as.map Value.ref) c ⟨rfl, rfl⟩ (size_none _) hk (by rw [← hacc, Array.toArray_toList]; exact hD) ?_
  have pr := hG.pairs
  clear hG hacc hD hk hat hd h
  induction kvs generalizing as with
  | nil => cases as with
    | nil => exact .nil
    | cons a r => simp at hl
  | cons kv r ih => cases as with
    | nil => simp at hl
    | cons a t =>
      obtain ⟨key, k, x, e, hkey, ea⟩ := pr 0 a rfl
      simp at e
      have hk' : Value.isInt k key = true := hkey
      cases key <;> simp [Value.isInt] at hk'
      subst hk'
      subst e
      exact .cons ⟨a, _, rfl, ⟨_, ea, rfl, _, rfl⟩⟩ (ih (by simp at h64; omega) t (by simpa using hl) fun j b q => pr (j + 1) b (by simpa using q))

set_option maxRecDepth 8000 in
theorem noKeys_list {a : Addr} {xs : Array Value} {k : Nat} {Q : Option Value → Shared → Prop} (hx : s.heap.get? a = some (lstO xs k)) (hA : A.handled = none)
    (h : ∀ s', Same s s' → Up s.heap s'.heap → Q none s') : wpAny (model pw w) A (getAttr? (.ref a) "keys") Q E s := by
  obtain ⟨hp, g, d, tk, os⟩ := s
  have hT : ∀ tk', (⟨hp, g, d, tk', os⟩ : Shared).TypeIs (.ref a) "list" := fun _ => ⟨_, hx, rfl⟩
  have f1 := sub_AttributeError
  have f3 := F.slot_list_getattribute.lookup
  have f4 := F.slot_list_getattribute.bind (.ref a)
  have f5 := am_list_getattr_none
  have hmiss : typeLookup (.type "list") "keys" = pure none := am_miss_of_fast (by decide +kernel)
  unfold getAttr? getAttrBy? getAttrBy
  repeat (any_goals (first | assumption | exact hT _ | ((with_reducible show wpAny _ _ (call (Value.builtin "list.__getattribute__") _ _) _ _ _); refine call_meets F.slot_list_getattribute (hT _) am_entry_list_getattribute (F.args_list_getattribute_2 _ _) (meets_getattribute_miss_list a xs k #[] "keys" _ hmiss (by decide) (by decide)) ⟨hx, hA, fun h' tk' e hx' => ?_⟩) | wp_step))
  obtain ⟨t', u', he⟩ := hx'.there
  show wpAny _ _ (getattributeRaised _ _ _ _ _ _ _) _ _ _
  unfold getattributeRaised
  repeat (any_goals (first | assumption | wp_step))
  exact h ⟨h', _, _, tk', _⟩ ⟨rfl, rfl⟩ hx'.keeps

theorem stored_fresh {kvs : List (Int × Value)} {k : Int} {v : Value} (h : k ∉ kvs.map (·.1)) : stored kvs k v = kvs ++ [(k, v)] := by
  unfold stored
  rw [if_neg]
  rw [List.any_eq_true]
  rintro ⟨x, hx, e⟩
  exact h (List.mem_map.mpr ⟨x, hx, of_decide_eq_true e⟩)

theorem plain_upd_loop : plainId "dict.update.loop" = true := by decide +kernel
theorem entry_upd_loop : entryFor table "dict.update.loop" = some Builtin.«dict.update.loop» := entryFor_of_fast (by kernel_rfl)

theorem upd_loop {I l d : Addr} {vs : List Value} {kvs : List (Int × Value)} {h₀ : Heap} (hh : A.handled = none) (hne : l ≠ I) (hdI : d ≠ I) (hdl : d ≠ l) (hp : Paired (KvAt h₀) vs kvs) (hd0 : h₀.get? d = none) (hI0 : h₀.get? I = none) (hnd : (kvs.map (·.1)).Nodup) (hlen : kvs.length < 1000) {R : Result → Shared → Prop} {s₀ : Shared} :
    ∀ (k i : Nat) (s : Shared), kvs.length - i = k → i ≤ kvs.length → Same s₀ s → s.heap.IsListIter I l i → s.heap.IsList l vs.toArray → s.heap.DictOf (iK pw w) d (kvs.take i) → Up h₀ s.heap →
      (∀ s', Same s₀ s' → Up h₀ s'.heap → s'.heap.DictOf (iK pw w) d kvs → R (.ok (.ret .none)) s') →
      ∀ z : Int, codeAny (model pw w) A (.builtin "dict.update.loop" ⟨[.ref d, .ref I, rawInt z, .none], []⟩) R s := by
  have hln := hp.length
  have zz : sizeLine = 16777216 := rfl
  have W := Walks.list (prog := pw) (w := w) (A := A.in1) hh I l hne vs.toArray
  intro k
  induction k with
  | zero =>
    intro i s hk hi q hit hl hd U hR z
    have hin : i = kvs.length := by omega
    subst hin
    refine codeAny_builtin entry_upd_loop ?_
    rw [Around.under_plainId plain_upd_loop _]
    show wpAny _ A.in1 (pyNext (.ref I) >>= _) _ _ s
    refine wpAny_bind (W.done s _ _ (by rw [List.size_toArray, hln]; exact ⟨hit, hl⟩) fun h' tk hk' => ?_)
    have kp : ∀ b o, b ≠ I → s.heap.get? b = some o → h'.get? b = some o := fun b o hb e => hk' b o (by simpa using hb) e
    show wpAny _ _ (Builtin.Dict.addKeywords d [] >>= _) _ _ _
    refine wpAny_bind (wpAny_pure (wpAny_pure (hR ⟨h', _, _, tk, _⟩ (by walk_at "Q") (fun b o e => kp b o (fun x => by rw [x, hI0] at e; cases e) (U _ _ e)) ?_)))
    rw [List.take_length] at hd
    obtain ⟨o, es, ep, e, r⟩ := hd
    exact ⟨o, es, ep, kp d o hdI e, r⟩
  | succ k ih =>
    intro i s hk hi q hit hl hd U hR z
    have hlt : i < kvs.length := by omega
    refine codeAny_builtin entry_upd_loop ?_
    rw [Around.under_plainId plain_upd_loop _]
    show wpAny _ A.in1 (pyNext (.ref I) >>= _) _ _ s
    refine wpAny_bind (W.item i s _ _ (by rw [List.size_toArray, hln]; exact hlt) ⟨hit, hl⟩ fun v h' tk hP hst' hk' => ?_)
    have kp : ∀ b o, b ≠ I → s.heap.get? b = some o → h'.get? b = some o := fun b o hb e => hk' b o (by simpa using hb) e
    have U' : Up h₀ h' := fun b o e => kp b o (fun x => by rw [x, hI0] at e; cases e) (U _ _ e)
    obtain ⟨T, t, rfl, hT⟩ : KvAt h₀ v kvs[i] := by
      have : vs[i]? = some v := by simpa using hP
      exact paired_get hp this (List.getElem?_eq_getElem hlt)
    have hT' := tup_up hT U'
    obtain ⟨oT, hoT, hcT, nT, hdT⟩ := id hT'
    have hd' : h'.DictOf (iK pw w) d (kvs.take i) := by obtain ⟨o, es, ep, e, r⟩ := hd; exact ⟨o, es, ep, kp d o hdI e, r⟩
    refine wpAny_bind (wpAny_holding ?_)
    refine wpAny_bind (wpAny_tryCatch ?_)
    show wpAny _ _ (Builtin.Dict.pairItems (.ref T)) _ _ _
    unfold Builtin.Dict.pairItems
    refine wpAny_bind (wpAny_typeOf ⟨oT, hoT, hcT⟩ ?_)
    rw [if_pos (by decide)]
    refine wpAny_bind (wpAny_seqItems hoT hdT ?_)
    refine wpAny_pure ?_
    show wpAny _ _ (holding _ (dictSet d (.int kvs[i].1 t) kvs[i].2)) _ _ _
    refine wpAny_holding (wpAny_dictSet_pairs (knd := iK pw w) (k := kvs[i].1) (hsz := by rw [List.length_take]; omega) (by simp [intKind, Value.isInt]) hd' fun h'' hm' hs' => ?_)
    have kp' : ∀ b o, b ≠ d → h'.get? b = some o → h''.get? b = some o := fun b o hb e => (hs'.2 b hb).trans e
    have fr : kvs[i].1 ∉ (kvs.take i).map (·.1) := fun hm => by
      obtain ⟨x, hx, e⟩ := List.mem_map.mp hm
      obtain ⟨j, hj, ex⟩ := List.mem_iff_getElem.mp hx
      rw [List.length_take] at hj
      rw [List.getElem_take] at ex
      have := List.pairwise_iff_getElem.mp hnd j i (by simp; omega) (by simpa using hlt) (by omega)
      simp only [List.getElem_map] at this
      exact this (by rw [ex, e])
    rw [stored_fresh fr] at hm'
    have e2 : kvs.take i ++ [(kvs[i].1, kvs[i].2)] = kvs.take (i + 1) := List.take_append_getElem hlt
    rw [e2] at hm'
    refine wpAny_pure ⟨plainId_quiet plain_upd_loop _, ih (i + 1) ⟨h'', _, _, _, _⟩ (by omega) hlt (by walk_at "Q") ?_ ?_ hm' (fun b o e => kp' b o (fun x => by rw [x, hd0] at e; cases e) (U' _ _ e)) hR _⟩
    · obtain ⟨o, e, r⟩ := hst'.1; exact ⟨o, kp' _ _ (fun x => hdI x.symm) e, r⟩
    · obtain ⟨o, e, r⟩ := hst'.2; exact ⟨o, kp' _ _ (fun x => hdl x.symm) e, r⟩

theorem r_dict_pairs {l : Addr} {vs : List Value} {kvs : List (Int × Value)} {n : Nat} {Q : Value → Shared → Prop} (hh : A.handled = none) (hl : s.heap.get? l = some (lstO vs.toArray n)) (hp : Paired (KvAt s.heap) vs kvs) (hnd : (kvs.map (·.1)).Nodup) (hlen : kvs.length < 1000)
    (h : ∀ s' a o, Same s s' → s.heap.get? a = none → s.heap.objs.size ≤ a → Up s.heap s'.heap → s'.heap.get? a = some o → DictO (iK pw w) kvs o → Q (.ref a) s') :
    wpAny (model pw w) A (call (.type "dict") [.ref l]) Q E s := by
  refine callType_codes (Q₁ := fun obj s₁ => obj = .ref s.heap.objs.size ∧ s₁ = { s with heap := s.heap.push { cls := .type "dict", data := .dict #[] } }) F.kt_called_dict (F.kt_typeCall_dict_1 _) F.entry_dict_init (kt_code_dict_new _ ⟨rfl, rfl⟩) ?_
  rintro obj s₁ ⟨rfl, rfl⟩
  have hnew : (s.heap.push { cls := .type "dict", data := .dict #[] }).DictOf (iK pw w) s.heap.objs.size [] := Heap.DictOf.new s.heap
  have hl' : (s.heap.push { cls := .type "dict", data := .dict #[] }).get? l = some (lstO vs.toArray n) := Heap.get?_push_of_some _ hl
  refine ⟨hnew.typeIs, F.args_dict_init_2 _ _, ?_⟩
  unfold Builtin.«dict.__init__»
  refine wpAny_bind ?_
  unfold Builtin.Dict.selfAndRest
  refine wpAny_bind (wpAny_notOrdered_dict hnew.typeIs ?_)
  show wpAny _ _ (pure (s.heap.objs.size, [Value.ref l])) _ _ _
  refine wpAny_pure ?_
  show wpAny _ _ (Builtin.Dict.updateFrom "dict.__init__" s.heap.objs.size (.ref l) [] .none) _ _ _
  unfold Builtin.Dict.updateFrom
  refine wpAny_bind (wpAny_typeOf (lst_is hl').typeIs ?_)
  rw [if_pos (by decide)]
  refine wpAny_bind (noKeys_list hl' hh fun s₂ q₂ U₂ => ?_)
  simp only [Option.isNone_none, if_true]
  refine wpAny_bind (wpAny_rule ?_)
  have hl₂ := lst_is (U₂ _ _ hl')
  refine wpAny_bind (wpAny_pyIter_list hl₂ ?_)
  have hlt : l < s₂.heap.objs.size := Heap.lt_size (U₂ _ _ hl')
  have hdlt : s.heap.objs.size < s₂.heap.objs.size := Heap.lt_size (U₂ _ _ (Heap.get?_push_size _ rfl : (s.heap.push { cls := .type "dict", data := .dict #[] }).get? s.heap.objs.size = some { cls := .type "dict", data := .dict #[] }))
  have hd₂ : (s₂.heap.push { cls := .type "list_iterator", data := .fields #[.ref l, .int 0 0] }).DictOf (iK pw w) s.heap.objs.size (kvs.take 0) := by
    obtain ⟨o, es, ep, e, r⟩ := hnew
    exact ⟨o, es, ep, Heap.get?_push_of_some _ (U₂ _ _ e), r⟩
  have U₀ : Up s.heap s₂.heap := fun b o e => U₂ _ _ (Heap.get?_push_of_some _ e)
  have U₁ : Up s.heap (s₂.heap.push { cls := .type "list_iterator", data := .fields #[.ref l, .int 0 0] }) := fun b o e => Heap.get?_push_of_some _ (U₀ _ _ e)
  refine wpAny_pure ⟨plainId_quiet plain_upd_loop _, upd_loop (A := A.in1) (h₀ := s.heap) (s₀ := s) hh (Nat.ne_of_lt hlt) (Nat.ne_of_lt hdlt) (fun e => ?_) hp (size_none _) ?_ hnd hlen kvs.length 0 { s₂ with heap := s₂.heap.push { cls := .type "list_iterator", data := .fields #[.ref l, .int 0 0] } } rfl (Nat.zero_le _) ⟨q₂.1, q₂.2⟩ ⟨_, Heap.get?_push_size _ rfl, rfl, rfl⟩ (hl₂.push _) hd₂ U₁ (fun s' q' U' D' => ?_) 0⟩
  · rw [← e] at hl
    exact absurd (Heap.lt_size hl) (Nat.lt_irrefl _)
  · cases y : s.heap.get? s₂.heap.objs.size with
    | none => rfl
    | some o => exact absurd (Heap.lt_size (U₀ _ _ y)) (Nat.lt_irrefl _)
  · obtain ⟨o, e, D⟩ := dictO_of D'
    exact ⟨rfl, h s' _ o q' (size_none _) (Nat.le_refl _) U' e D⟩
end
/-- what a call leaves of the bank -/
structure Grew (w : World) (bk : BkA) (g h : Heap) (wl : List (Addr × Obj)) (g' h' : Heap) (B' : List Node) (wl' : List (Addr × Obj)) : Prop where
  gr : Grow g h g' h'
  ef : Eff (wl.map (·.1)) h h'
  bk : BankW w g' bk B' wl'
  em : wl'.map (·.1) = wl.map (·.1)
  ew : ∀ p ∈ wl', h'.get? p.1 = some p.2
abbrev opN (io : Bool) : Str := if io then "or" else "and"

theorem BankW.ne {w : World} {g : Heap} {bk : BkA} {B : List Node} {wl : List (Addr × Obj)} (x : BankW w g bk B wl) : 0 < B.length := by
  obtain ⟨vo, no, va, na, vs, ns, vd, nd, on, es, ep, xs, e, h1, h2, h3, h4, h5, h6, h7, h8, h9, h10⟩ := x.ex
  have := h10.1; omega
section
variable {w : World} {A : Around} {E : Value → Shared → Prop} {s : Shared} {env : Env} {g : Heap} {L : Addr} {m : Str → Option Value} {news : List (Addr × Obj)}
theorem r_pair {x y : Str} {px py tpos : Pos} {k : Nat} {I l T : Addr} {i : Nat} {a b : Value} {Q : Unit → Shared → Prop} (hh : A.handled = none) (S : Sd g L m news s.heap) (hit : s.heap.IsListIter I l i) (hT : s.heap.IsTuple T #[a, b])
    (h : ∀ s', Same s s' → Sd g L (fun z => if z = y then some b else if z = x then some a else m z) news s'.heap → Q () s') (hx : env.kindOf x = some .local) (hy : env.kindOf y = some .local) (hL : env.locals = L)
    (hp : (env.scope.kind == .class || (env.scope.kind == .module && env.locals != env.globals)) = false) :
    wpAny (model pw w) A (letOwnedTupleGo (.Tuple [.Name x px, .Name y py] k tpos) (.ref I) (.ref T)) (fun _ s₂ => wpAny (model pw w) A (assign (.Tuple [.Name x px, .Name y py] k tpos) env (.ref T)) Q E s₂) E s := by
  refine wpAny_letOwnedTupleGo_listiter hit ?_
  refine r_assign2 hh hT (fun s' q U => ?_) rfl
  refine wpAny_assign_Name (r_st (S.grown U) (fun s₂ q₂ S₂ hs₂ => ?_) hx hL hp)
  refine wpAny_assign_Name (r_st S₂ (fun s₃ q₃ S₃ hs₃ => ?_) hy hL hp)
  exact h _ (by walk_at "Q") S₃
end

theorem take_snoc {α : Type} {l : List α} {i : Nat} {x : α} (e : l[i]? = some x) : l.take (i + 1) = l.take i ++ [x] := by
  rw [List.take_add_one, e]; rfl

theorem c_term {w : World} {A : Around} {s : Shared} {g : Heap} {bk : BkA} {B : List Node} {wl : List (Addr × Obj)} {R : Result → Shared → Prop} {k : Nat} {rl : Addr} {rows : List (Int × List Bool)} {io : Bool}
    (G : Gnd w g) (U : Up g s.heap) (Bk : BankW w g bk B wl) (hr : bk.ready = true) (hw : ∀ p ∈ wl, s.heap.get? p.1 = some p.2 ∧ g.get? p.1 = none) (r : Rm A (k + 4)) (hrow : RowL g rl rows) (hx : ∀ x ∈ rows, 0 ≤ x.1 ∧ x.1.toNat < B.length) (hrn : rows.length < 64) (hsm : B.length < 1000)
    (h : ∀ s' rv t g' B' wl' ns, Same s s' → Grew w bk g s.heap wl g' s'.heap B' wl' → ns.Perm (rows.map (·.1)) → ns.Pairwise (· ≤ ·) → Joins B' io ns rv → (B' = B ∨ (2 ≤ ns.length ∧ B' = B ++ [⟨opN io, ns, 0⟩])) → R (.ok (.ret (.int rv t))) s') :
    codeAny (model pw w) A (.call (.ref 787) ⟨[.ref bk.x, .bool io, .ref rl], []⟩) R s := by
  obtain ⟨rvs, hrl, hrp⟩ := hrow
  have hlen := hrp.length
  have Ug := gmax_le (wl := wl) U fun p hp => (hw p hp).2
  refine' call0 (g := gmax s.heap wl) (wl := wl) (binds := [("bank", .ref bk.x), ("is_or", .bool io), ("row", .ref rl)]) (G.up Ug) (gmax_up _ _) (fun p hp => ⟨(hw p hp).1, gmax_none hp⟩) Bk.nd r (by k_is) (by k_is) (by exact BindsTo.of_eq rfl) (by exact locs rfl) ?_ (by exact rfl) (by exact rfl) (by exact rfl) (by decide)
  intro A' L s₁ q r' S U₁ fr
  have G' := G.up Ug
  have Bk' := Bk.up Ug
  k_unmd
  walk_at "W"
  refine r_comp [] (by with_unfolding_all rfl) (by exact rfl) (by decide) (by intro _; rfl) ?_
  walk_at "W"
  refine cf_list none (by intro _; rfl) (by intro _; rfl) r'.handled S (hrl.at fun o e => Ug _ _ e) (fun i acc news => wl = news ∧ IntsAre acc ((rows.take i).map (·.1))) ⟨rfl, .nil⟩ (fun i acc news ⟨_, e⟩ => by have := e.length; simp at this; omega) (by simp; omega) ?_ ?_
  · rintro g₁ C D I nD i v mC acc cw news₁ s₂ oI Ug₁ hnL hi hv hit ⟨rfl, hia⟩ rfl q₂ S₂
    have hi' : i < rows.length := by simp at hi; omega
    obtain ⟨a, tk, rr, rfl, hT, hB⟩ := paired_get hrp (by simpa using hv) (List.getElem?_eq_getElem hi')
    unfold CTurn
    refine r_pair r'.handled S₂ hit (hT.at fun o e => S₂.up _ _ (Ug₁ _ _ (Ug _ _ e))) (fun s₃ q₃ S₃ => ?_) (by exact rfl) (by exact rfl) (by exact rfl) (by exact rfl)
    refine wpAny_tests_nil ?_
    rw [if_pos rfl]
    clear S₂
    walk_at "L"
    refine ⟨_, [], _, rfl, by walk_at "Q", S₃, rfl, ?_⟩
    rw [take_snoc (List.getElem?_eq_getElem hi'), List.map_append]
    exact IntsAre.append hia (.cons _ _ .nil)
  · rintro D nD acc news' s₂ q₂ S₂ ⟨rfl, hia⟩
    rw [show (List.toArray rvs).size = rows.length by simp [hlen], List.take_length] at hia
    have hal := hia.length
    rw [List.length_map] at hal
    walk_at "W"
    refine r_sorted_list (lst_is (S₂.get (.head _))) hia (by omega) fun s₃ a vs' ns n q₃ fa U₃ ea hI hp hs => ?_
    have hfr : s.heap.get? a = none := S₂.kept (fun p hp => ⟨_, S₂.get (.tail _ hp)⟩) fa
    have S₃ := (S₂.sub (List.sublist_cons_self _ _)).grown U₃
    clear S₂
    refine r_st S₃ (fun s₄ q₄ S₄ hs₄ => ?_) (by exact rfl) (by exact rfl) (by exact rfl)
    have ea₄ : s₄.heap.get? a = some (lstO vs'.toArray n) := (hs₄.2 a fun e => by
      obtain ⟨oL, _, _, hL, hd, _⟩ := S₃.ns
      rw [e, hL] at ea
      rw [Option.some.inj ea] at hd
      cases hd).trans ea
    clear S₃ ea
    have hnl : ns.length = rows.length := by rw [hp.length_eq, List.length_map]
    have hx' : ∀ x ∈ ns, 0 ≤ x ∧ x.toNat < B.length := fun x hm => by
      obtain ⟨y, hy, rfl⟩ := List.mem_map.mp (hp.mem_iff.mp hm)
      exact hx y hy
    walk_at "V"
    have Gr₄ : Grow g s.heap (grd g s.heap s₄.heap []) s₄.heap := grow_grd (Ug.trans S₄.up)
    have Ef₄ : Eff (wl.map (·.1)) s.heap s₄.heap := eff_of S₄.up fun p hp => ⟨_, S₄.get hp⟩
    have hIL : IntL s₄.heap a ns := ⟨vs', lst_is ea₄, hI⟩
    have hIg : IntL (grd g s.heap s₄.heap []) a ns := ⟨vs', lst_is (grd_get ea₄ (.inr ⟨hfr, by simp⟩)), hI⟩
    have cold : ∀ rv, Joins B io ns rv → ∀ s₅ t₅, Same s₄ s₅ → Up s₄.heap s₅.heap → R (.ok (.ret (.int rv t₅))) s₅ := fun rv hj s₅ t₅ q₅ U₅ =>
      h s₅ rv t₅ g B wl ns (by walk_at "Q") ⟨Grow.refl (Ug.trans (S₄.up.trans U₅)), Ef₄.trans (Eff.of_up U₅), Bk, rfl, fun p hp => U₅ _ _ (S₄.get hp)⟩ hp hs hj (.inl rfl)
    have cnew : (¬ ∃ rv, Joins B io ns rv) → 2 ≤ ns.length ∧ (∀ i : Nat, 0 < i → B[i]? ≠ some ⟨opN io, ns, 0⟩) := fun hj => by
      have h2 : 2 ≤ ns.length := by
        match ns, hj with
        | [], hj => exact absurd ⟨_, .inl ⟨rfl, rfl⟩⟩ hj
        | [x], hj => exact absurd ⟨_, .inr (.inl ⟨x, rfl, rfl⟩)⟩ hj
        | x :: y :: r, hj => simp
      exact ⟨h2, fun i hi0 hi => hj ⟨_, .inr (.inr ⟨h2, i, hi0, hi, rfl⟩)⟩⟩
    cases io with
    | true =>
      rw [if_pos rfl]
      walk_at "W"
      refine b_meth (f := 341) G' S₄.up Bk'.I (by decide) (by k_is) (by k_is) (by k_is) ?_
      walk_at "C"
      by_cases hj : ∃ rv, Joins B true ns rv
      · obtain ⟨rv, hj⟩ := hj
        exact c_or_old (k := k) (G'.up S₄.up) (Bk'.at S₄.up fun p hp => S₄.get hp) hr r' hIL hx' (by omega) hj (cold rv hj)
      · obtain ⟨h2, hi⟩ := cnew hj
        refine c_or_new (k := k) (G.up Gr₄.le) Gr₄.up (Bk.up Gr₄.le) (fun p hp => ⟨S₄.get hp, grd_none (hw p hp).1 (hw p hp).2⟩) r' hIg hx' (by omega) h2 hi hsm fun s₅ t₅ g₅ wl₅ q₅ Gr₅ Ef₅ Bk₅ em₅ ew₅ => ?_
        exact h s₅ _ t₅ g₅ _ wl₅ ns (by walk_at "Q") ⟨Gr₄.trans Ef₄ Gr₅, Ef₄.trans Ef₅, Bk₅, em₅, ew₅⟩ hp hs (.inr (.inr ⟨h2, B.length, by have := Bk.ne; omega, by simp, rfl⟩)) (.inr ⟨h2, rfl⟩)
    | false =>
      rw [if_neg (by decide)]
      walk_at "W"
      refine b_meth (f := 334) G' S₄.up Bk'.I (by decide) (by k_is) (by k_is) (by k_is) ?_
      walk_at "C"
      by_cases hj : ∃ rv, Joins B false ns rv
      · obtain ⟨rv, hj⟩ := hj
        exact c_and_old (k := k) (G'.up S₄.up) (Bk'.at S₄.up fun p hp => S₄.get hp) hr r' hIL hx' (by omega) hj (cold rv hj)
      · obtain ⟨h2, hi⟩ := cnew hj
        refine c_and_new (k := k) (G.up Gr₄.le) Gr₄.up (Bk.up Gr₄.le) (fun p hp => ⟨S₄.get hp, grd_none (hw p hp).1 (hw p hp).2⟩) r' hIg hx' (by omega) h2 hi hsm fun s₅ t₅ g₅ wl₅ q₅ Gr₅ Ef₅ Bk₅ em₅ ew₅ => ?_
        exact h s₅ _ t₅ g₅ _ wl₅ ns (by walk_at "Q") ⟨Gr₄.trans Ef₄ Gr₅, Ef₄.trans Ef₅, Bk₅, em₅, ew₅⟩ hp hs (.inr (.inr ⟨h2, B.length, by have := Bk.ne; omega, by simp, rfl⟩)) (.inr ⟨h2, rfl⟩)
/-- the truths of all together -/
def joinW (io : Bool) (ts : List (List Bool)) (v : Nat) : Bool := if io then decide (true ∈ ts.map (·.getD v false)) else decide (false ∉ ts.map (·.getD v false))
def joinT (io : Bool) (ts : List (List Bool)) : List Bool := (List.range 32).map (joinW io ts)

theorem item_bools {w : World} {A : Around} {E : Value → Shared → Prop} {s : Shared} {value slice : PySem.Expr} {l : Addr} {bs : List Bool} {k : Nat} {i : Int} {u : Tok} {Q : Value → Shared → Prop} (hl : BoolL s.heap l bs) (hik : i = (k : Int)) (hk : k < bs.length) (hsz : bs.length ≤ 1000) (h : Q (.bool (bs.getD k false)) s)
    (hs : subscripted slice false (.ref l) (.int i u) = operate [.ref l, .int i u] (getItem (.ref l) (.int i u))) :
    wpAny (model pw w) A (subscriptTail value slice (.ref l) (.int i u)) Q E s := by
  refine item_list hl (by omega) (by omega) ?_ h hs
  subst hik
  rw [Int.toNat_natCast, List.getElem?_toArray, List.getElem?_map, List.getElem?_eq_getElem hk]
  simp [List.getD, hk]

theorem c_joined0 {w : World} {A : Around} {s : Shared} {R : Result → Shared → Prop} {k : Nat} {rl : Addr} {rows : List (Int × List Bool)} {io : Bool}
    (G : Gnd w s.heap) (r : Rm A (k + 1)) (hrow : RowL s.heap rl rows) (h32 : ∀ x ∈ rows, x.2.length = 32) (hrn : rows.length < 64)
    (h : ∀ s' l n, Same s s' → Up s.heap s'.heap → s.heap.get? l = none → s'.heap.get? l = some (lstO ((joinT io (rows.map (·.2))).map Value.bool).toArray n) → R (.ok (.ret (.ref l))) s') :
    codeAny (model pw w) A (.call (.ref 792) ⟨[.bool io, .ref rl], []⟩) R s := by
  obtain ⟨rvs, hrl, hrp⟩ := hrow
  have hlen := hrp.length
  refine' call1 (g := s.heap) (wl := []) (binds := [("is_or", .bool io), ("row", .ref rl)]) G (Up.refl _) (by simp) (by simp) r (by k_is) (by k_is)
    (by exact BindsTo.of_eq rfl) (by exact rfl) (by decide +kernel) ?_ (by exact rfl) (by exact rfl) (by exact rfl)
  intro A' L s₁ cells q r' S U₁ hL hcells hC
  have hC' : CellsAre _ [(Str.ofString "row", L + 1 + 1), (Str.ofString "is_or", L + 1)] cells := hC
  obtain ⟨o2, o1, rfl, d2, d1⟩ := hC'.two
  replace d2 : o2.data = .cell (some (.ref rl)) := d2
  replace d1 : o1.data = .cell (some (.bool io)) := d1
  have S₁ := Sd.cells2 S hL (hcells (L + 1 + 1, o2) (by simp)) (hcells (L + 1, o1) (by simp))
  clear S hC hC' hcells
  refine Sd.root' (S₁) fun gF UgF c2 S₂ => ?_
  refine Sd.root' (S₂) fun gG UgG c1 S₃ => ?_
  clear S₁ S₂
  replace c2 := UgG _ _ c2
  have UG := UgF.trans UgG
  k_unmd
  walk_at "S"; walk_at "S"
  refine r_comp [(Str.ofString "row", L + 1 + 1), (Str.ofString "is_or", L + 1)] (by with_unfolding_all rfl) (by exact rfl) (by decide) (by intro _; rfl) ?_
  replace G := G.up UG
  walk_at "W"
  refine r_range1 fun s₄ r4 u4 v4 x4 q₄ U₄ hr4 => ?_
  have S₄ := S₃.grown U₄
  clear S₃
  refine cf_range (n := 32) (some (Str.ofString "world")) (by intro _; rfl) (by intro _; rfl) r'.handled S₄ hr4 (fun i acc news => news = [] ∧ acc = (List.range i).map fun v => Value.bool (joinW io (rows.map (·.2)) v)) ⟨rfl, rfl⟩ (fun i acc news ⟨_, e⟩ => by rw [e]; simp) (by decide) (by decide) ?_ ?_
  · rintro g₅ C D I nD i v mC acc cw news₁ s₅ oI Ug₅ hnL hi ⟨tv, rfl⟩ ⟨rfl, rfl⟩ ⟨ow, vw, rfl, hdw⟩ q₅ S₅
    unfold CTurn
    refine wpAny_pure ?_
    replace S₅ : Sd g₅ C mC ((D, lstO (List.toArray ((List.range i).map fun v => Value.bool (joinW io (rows.map (·.2)) v))) nD) :: (I, oI) :: (C + 1, ow) :: []) s₅.heap := S₅
    refine wpAny_assign_Name (r_stC S₅.front3 hdw (fun s₆ ow' q₆ S₆ dw hs₆ => ?_) (by exact rfl) (by exact rfl) (by exact rfl))
    refine wpAny_tests_nil ?_
    rw [if_pos rfl]
    clear S₅
    walk_at "V"
    refine r_cell (S₆.up _ _ (Ug₅ _ _ c1)) d1 ?_ (by exact rfl) (by exact rfl) (by exact rfl) (by decide)
    walk_at "V"
    cases io with
    | true =>
      rw [if_pos rfl]
      walk_at "V"
      refine r_comp [(Str.ofString "world", C + 1)] (by with_unfolding_all rfl) (by exact rfl) (by decide) (by intro _; rfl) ?_
      walk_at "V"
      refine r_cell (S₆.up _ _ (Ug₅ _ _ c2)) d2 ?_ (by exact rfl) (by exact rfl) (by exact rfl) (by decide)
      refine cf_list none (by intro _; rfl) (by intro _; rfl) r'.handled S₆ (hrl.at fun o e => Ug₅ _ _ (UG _ _ e)) (fun j acc news => news = (C + 1, ow') :: (D, lstO (List.toArray ((List.range i).map fun v => Value.bool (joinW true (rows.map (·.2)) v))) nD) :: (I, oI) :: [] ∧ acc = (rows.take j).map fun x => Value.bool (x.2.getD i false)) ⟨rfl, rfl⟩
        (fun j acc news ⟨_, e⟩ => by rw [e]; simp; omega) (by simp; omega) ?_ ?_
      · rintro g₇ C₂ D₂ I₂ nD₂ j v mC₂ acc₂ cw₂ news₂ s₈ oI₂ Ug₇ hnL₂ hj hv hit ⟨rfl, rfl⟩ rfl q₈ S₈
        have hj' : j < rows.length := by simp at hj; omega
        obtain ⟨a, tk, rr, rfl, hT, hB⟩ := paired_get hrp (by simpa using hv) (List.getElem?_eq_getElem hj')
        unfold CTurn
        refine r_pair r'.handled S₈ hit (hT.at fun o e => S₈.up _ _ (Ug₇ _ _ (Ug₅ _ _ (UG _ _ e)))) (fun s₉ q₉ S₉ => ?_) (by exact rfl) (by exact rfl) (by exact rfl) (by exact rfl)
        refine wpAny_tests_nil ?_
        rw [if_pos rfl]
        clear S₈
        walk_at "W"
        refine r_cell (S₉.get (a := C + 1) (o := ow') (by simp)) dw ?_ (by exact rfl) (by exact rfl) (by exact rfl) (by decide)
        refine item_bools (k := i) (hB.up fun b o e => S₉.up _ _ (Ug₇ _ _ (Ug₅ _ _ (UG _ _ e)))) rfl (by rw [h32 _ (List.getElem_mem hj')]; exact hi) (by rw [h32 _ (List.getElem_mem hj')]; decide) ?_ (by with_unfolding_all rfl)
        refine ⟨_, [], _, rfl, by walk_at "Q", S₉, rfl, ?_⟩
        rw [take_snoc (List.getElem?_eq_getElem hj'), List.map_append]
        rfl
      · rintro D₂ nD₂ acc₂ news₂ s₈ q₈ S₈ ⟨rfl, rfl⟩
        rw [show (List.toArray rvs).size = rows.length by simp [hlen], List.take_length, show (rows.map fun x => Value.bool (x.2.getD i false)) = ((rows.map (·.2)).map (·.getD i false)).map Value.bool by simp] at S₈
        refine r_in_bools (lst_is (S₈.get (.head _))) ?_
        refine ⟨_, [(C + 1, ow')], [], ⟨ow', _, rfl, dw⟩, by walk_at "Q", (S₈.sub (List.sublist_cons_self _ _)).front3.front3, rfl, ?_⟩
        rw [List.range_succ, List.map_append]
        rfl
    | false =>
      rw [if_neg (by decide)]
      walk_at "V"
      refine r_comp [(Str.ofString "world", C + 1)] (by with_unfolding_all rfl) (by exact rfl) (by decide) (by intro _; rfl) ?_
      walk_at "V"
      refine r_cell (S₆.up _ _ (Ug₅ _ _ c2)) d2 ?_ (by exact rfl) (by exact rfl) (by exact rfl) (by decide)
      refine cf_list none (by intro _; rfl) (by intro _; rfl) r'.handled S₆ (hrl.at fun o e => Ug₅ _ _ (UG _ _ e)) (fun j acc news => news = (C + 1, ow') :: (D, lstO (List.toArray ((List.range i).map fun v => Value.bool (joinW false (rows.map (·.2)) v))) nD) :: (I, oI) :: [] ∧ acc = (rows.take j).map fun x => Value.bool (x.2.getD i false)) ⟨rfl, rfl⟩
        (fun j acc news ⟨_, e⟩ => by rw [e]; simp; omega) (by simp; omega) ?_ ?_
      · rintro g₇ C₂ D₂ I₂ nD₂ j v mC₂ acc₂ cw₂ news₂ s₈ oI₂ Ug₇ hnL₂ hj hv hit ⟨rfl, rfl⟩ rfl q₈ S₈
        have hj' : j < rows.length := by simp at hj; omega
        obtain ⟨a, tk, rr, rfl, hT, hB⟩ := paired_get hrp (by simpa using hv) (List.getElem?_eq_getElem hj')
        unfold CTurn
        refine r_pair r'.handled S₈ hit (hT.at fun o e => S₈.up _ _ (Ug₇ _ _ (Ug₅ _ _ (UG _ _ e)))) (fun s₉ q₉ S₉ => ?_) (by exact rfl) (by exact rfl) (by exact rfl) (by exact rfl)
        refine wpAny_tests_nil ?_
        rw [if_pos rfl]
        clear S₈
        walk_at "W"
        refine r_cell (S₉.get (a := C + 1) (o := ow') (by simp)) dw ?_ (by exact rfl) (by exact rfl) (by exact rfl) (by decide)
        refine item_bools (k := i) (hB.up fun b o e => S₉.up _ _ (Ug₇ _ _ (Ug₅ _ _ (UG _ _ e)))) rfl (by rw [h32 _ (List.getElem_mem hj')]; exact hi) (by rw [h32 _ (List.getElem_mem hj')]; decide) ?_ (by with_unfolding_all rfl)
        refine ⟨_, [], _, rfl, by walk_at "Q", S₉, rfl, ?_⟩
        rw [take_snoc (List.getElem?_eq_getElem hj'), List.map_append]
        rfl
      · rintro D₂ nD₂ acc₂ news₂ s₈ q₈ S₈ ⟨rfl, rfl⟩
        rw [show (List.toArray rvs).size = rows.length by simp [hlen], List.take_length, show (rows.map fun x => Value.bool (x.2.getD i false)) = ((rows.map (·.2)).map (·.getD i false)).map Value.bool by simp] at S₈
        refine r_notin_bools (lst_is (S₈.get (.head _))) ?_
        refine ⟨_, [(C + 1, ow')], [], ⟨ow', _, rfl, dw⟩, by walk_at "Q", (S₈.sub (List.sublist_cons_self _ _)).front3.front3, rfl, ?_⟩
        rw [List.range_succ, List.map_append]
        rfl
  · rintro D nD acc news' s₅ q₅ S₅ ⟨rfl, rfl⟩
    refine h s₅ D nD (by walk_at "Q") (UG.trans S₅.up) ?_ ?_
    · cases q : s.heap.get? D with
      | none => rfl
      | some o =>
        have n1 := (S₅.nw _ (.head _)).2.2
        rw [UG _ _ q] at n1; cases n1
    · rw [show (joinT io (rows.map (·.2))).map Value.bool = (List.range 32).map fun v => Value.bool (joinW io (rows.map (·.2)) v) by simp [joinT]]
      exact S₅.get (.head _)
theorem Rm.cl' {A : Around} {n : Nat} (r : Rm A n) : A.units < cLine := by have := r.units; have e : cLine = 9900 := rfl; omega
theorem filter_take {α : Type} {p : α → Bool} {l : List α} {i : Nat} {x : α} (e : l[i]? = some x) : (l.take (i + 1)).filter p = (l.take i).filter p ++ (if p x then [x] else []) := by
  rw [take_snoc e, List.filter_append]
  congr 1
  cases h : p x <;> simp [h]
theorem ints_snoc {vs : List Value} {ns : List Int} {n : Int} {t : Tok} (h : IntsAre vs ns) : IntsAre (vs ++ [.int n t]) (ns ++ [n]) := IntsAre.append h (.cons _ _ .nil)
/-- a world in which it is not so -/
abbrev unW (io : Bool) (ts : List Bool) (v : Nat) : Bool := !(ts.getD v false == io)
abbrev isW (io : Bool) (ts : List Bool) (v : Nat) : Bool := ts.getD v false == io
abbrev keepW (io : Bool) (ws : List Nat) (x : Int × List Bool) : Bool := decide (ws.filter (isW io x.2) ≠ [])

theorem c_due {w : World} {A : Around} {s : Shared} {g : Heap} {bk : BkA} {B : List Node} {wl : List (Addr × Obj)} {R : Result → Shared → Prop} {k : Nat} {rl wa : Addr} {rows : List (Int × List Bool)} {io : Bool} {ws : List Nat}
    (G : Gnd w g) (U : Up g s.heap) (Bk : BankW w g bk B wl) (hr : bk.ready = true) (hw : ∀ p ∈ wl, s.heap.get? p.1 = some p.2 ∧ g.get? p.1 = none) (r : Rm A (k + 5)) (hrow : RowL g rl rows) (hx : ∀ x ∈ rows, 0 ≤ x.1 ∧ x.1.toNat < B.length) (h32 : ∀ x ∈ rows, x.2.length = 32) (hrn : rows.length < 64) (hsm : B.length < 1000)
    (hws : IntL g wa (List.map (fun v : Nat => (v : Int)) ws)) (hw32 : ∀ v ∈ ws, v < 32) (hwn : ws.length < 64)
    (h0 : ws.filter (unW io (joinT io (rows.map (·.2)))) = [] → ∀ s', Same s s' → Up s.heap s'.heap → R (.ok (.ret .none)) s')
    (h1 : ws.filter (unW io (joinT io (rows.map (·.2)))) ≠ [] → ∀ s' T rv g' B' wl' ns, Same s s' → Grew w bk g s.heap wl g' s'.heap B' wl' → ns.Perm ((rows.filter (keepW io ws)).map (·.1)) → ns.Pairwise (· ≤ ·) → Joins B' io ns rv → (B' = B ∨ (2 ≤ ns.length ∧ B' = B ++ [⟨opN io, ns, 0⟩])) →
      PairAt g' (.ref T) (rv, joinT io ((rows.filter (keepW io ws)).map (·.2))) → R (.ok (.ret (.ref T))) s') :
    codeAny (model pw w) A (.call (.ref 797) ⟨[.ref bk.x, .bool io, .ref rl, .ref wa], []⟩) R s := by
  obtain ⟨rvs, hrl, hrp⟩ := id hrow
  have hlen := hrp.length
  obtain ⟨wvs, hwl, hwi⟩ := id hws
  have hwlen := hwi.length
  rw [List.length_map] at hwlen
  have Ug := gmax_le (wl := wl) U fun p hp => (hw p hp).2
  refine' call1 (g := gmax s.heap wl) (wl := wl) (binds := [("bank", .ref bk.x), ("is_or", .bool io), ("row", .ref rl), ("worlds", .ref wa)]) (G.up Ug) (gmax_up _ _) (fun p hp => ⟨(hw p hp).1, gmax_none hp⟩) Bk.nd r (by k_is) (by k_is)
    (by exact BindsTo.of_eq rfl) (by exact rfl) (by decide +kernel) ?_ (by exact rfl) (by exact rfl) (by exact rfl)
  intro A' L s₁ cells q r' S U₁ hL hcells hC
  have hC' : CellsAre _ [(Str.ofString "entire", L + 1 + 1 + 1), (Str.ofString "worlds", L + 1 + 1), (Str.ofString "is_or", L + 1)] cells := hC
  obtain ⟨o3, o2, o1, rfl, d3, d2, d1⟩ := cells3 hC'
  replace d2 : o2.data = .cell (some (.ref wa)) := d2
  replace d1 : o1.data = .cell (some (.bool io)) := d1
  have S₁ := Sd.cells3 S hL (hcells (L + 1 + 1 + 1, o3) (by simp)) (hcells (L + 1 + 1, o2) (by simp)) (hcells (L + 1, o1) (by simp))
  clear S hC hC' hcells
  refine Sd.root' (S₁.front2) fun g₁ Ug₁ c2 S₂ => ?_
  refine Sd.root' (S₂.front2) fun g₂ Ug₂ c1 S₃ => ?_
  clear S₁ S₂
  replace c2 := Ug₂ _ _ c2
  have UM : Up (gmax s.heap wl) g₂ := Ug₁.trans Ug₂
  have UX : Up g g₂ := Ug.trans UM
  have Gc := G
  replace G := G.up UX
  have quiet : ∀ {g₁ h : Heap} {L m nw}, Up (gmax s.heap wl) g₁ → Sd g₁ L m (nw ++ wl) h → Up s.heap h := fun {g₁ h L m nw} u S b o e => by
    by_cases hb : b ∈ wl.map (·.1)
    · obtain ⟨p, hp, rfl⟩ := List.mem_map.mp hb
      have := S.get (List.mem_append_right nw hp)
      rw [(hw p hp).1] at e
      exact (Option.some.inj e) ▸ this
    · exact S.up _ _ (u _ _ (gmax_get e hb))
  k_unmd
  -- entire
  walk_at "V"
  refine callWith_K (Gnd.K G) (by k_is) ?_ (by exact rfl) (by exact rfl)
  walk_at "V"
  refine r_cell (S₃.up _ _ c1) d1 ?_ (by exact rfl) (by exact rfl) (by exact rfl) (by decide)
  walk_at "V"
  refine ⟨Frag.In.keeps (Gnd.K G) S₃.up, wpAny_call ?_⟩
  refine c_joined0 (k := k) (G.up S₃.up) (r'.less (by omega)) ((hrow.up UX).up S₃.up) h32 hrn fun s₄ el nl q₄ U₄ fel eel => ?_
  have S₄ := (S₃.add fel U₄ eel)
  clear S₃
  refine Sd.root' (S₄) fun g₃ Ug₃ eel₃ S₅ => ?_
  clear S₄ eel
  dsimp only
  walk_at "V"
  refine r_stC S₅ d3 (fun s₅ o₅ q₅ S₆ d₅ hs₅ => ?_) (by exact rfl) (by exact rfl) (by exact rfl)
  clear S₅
  refine Sd.root' (S₆) fun g₄ Ug₄ c3 S₇ => ?_
  clear S₆
  replace G := G.up (Ug₃.trans Ug₄)
  replace c1 := Ug₄ _ _ (Ug₃ _ _ c1)
  replace c2 := Ug₄ _ _ (Ug₃ _ _ c2)
  replace eel₃ := Ug₄ _ _ eel₃
  replace UM := UM.trans (Ug₃.trans Ug₄)
  replace UX := UX.trans (Ug₃.trans Ug₄)
  have hj32 : (joinT io (rows.map (·.2))).length = 32 := by simp [joinT]
  generalize joinT io (rows.map (·.2)) = ent at *
  -- the test
  walk_at "V"
  refine r_comp [(Str.ofString "is_or", L + 1), (Str.ofString "entire", L + 1 + 1 + 1)] (by with_unfolding_all rfl) (by exact rfl) (by decide) (by intro _; rfl) ?_
  walk_at "V"
  refine r_cell (S₇.up _ _ c2) d2 ?_ (by exact rfl) (by exact rfl) (by exact rfl) (by decide)
  refine cf_list none (by intro _; rfl) (by intro _; rfl) r'.handled S₇ (hwl.at fun o e => UX _ _ e) (fun i acc news => wl = news ∧ IntsAre acc (List.map (fun v : Nat => (v : Int)) ((ws.take i).filter (unW io ent)))) ⟨rfl, .nil⟩
    (fun i acc news ⟨_, e⟩ => by have := e.length; rw [List.length_map] at this; have h2 := List.length_filter_le (unW io ent) (ws.take i); rw [List.length_take] at h2; omega) (by simp; omega) ?_ ?_
  · rintro g₅ C D I nD i v mC acc cw news₁ s₆ oI Ug₅ hnL hi hv hit ⟨rfl, hia⟩ rfl q₆ S₈
    have hi' : i < ws.length := by simp at hi; omega
    obtain ⟨tv, htv⟩ := hwi.get i (ws[i] : Int) (by simp [hi'])
    have hv' : v = .int (ws[i] : Int) tv := by simp at hv; rw [hv] at htv; exact Option.some.inj htv
    subst hv'
    have hw' := hw32 _ (List.getElem_mem hi')
    unfold CTurn
    refine wpAny_pure ?_
    refine wpAny_assign_Name (r_st S₈ (fun s₇ q₇ S₉ hs₇ => ?_) (by exact rfl) (by exact rfl) (by exact rfl))
    clear S₈
    refine wpAny_tests_one ?_
    walk_at "V"
    refine r_cell (S₉.up _ _ (Ug₅ _ _ c3)) d₅ ?_ (by exact rfl) (by exact rfl) (by exact rfl) (by decide)
    walk_at "V"
    refine item_bools (k := ws[i]) (BoolL.of (S₉.up _ _ (Ug₅ _ _ eel₃))) rfl (by omega) (by omega) ?_ (by with_unfolding_all rfl)
    walk_at "V"
    refine r_cell (S₉.up _ _ (Ug₅ _ _ c1)) d1 ?_ (by exact rfl) (by exact rfl) (by exact rfl) (by decide)
    refine PySem.SeqAt.RcNeAt.bool_bool _ _ _ _ _ _ ?_
    walk_at "V"
    cases hp : unW io ent ws[i] with
    | true =>
      rw [if_pos hp]
      walk_at "V"
      refine ⟨_, [], _, rfl, by walk_at "Q", S₉, rfl, ?_⟩
      rw [filter_take (List.getElem?_eq_getElem hi'), hp, if_pos rfl, List.map_append]
      exact ints_snoc hia
    | false =>
      rw [if_neg (by show ¬ unW io ent ws[i] = true; rw [hp]; decide)]
      refine ⟨_, [], _, rfl, by walk_at "Q", S₉, rfl, ?_⟩
      rw [filter_take (List.getElem?_eq_getElem hi'), hp, if_neg (by decide), List.append_nil]
      exact hia
  · rintro D nD acc news' s₆ q₆ S₈ ⟨rfl, hia⟩
    rw [show (List.toArray wvs).size = ws.length by simp [hwlen], List.take_length] at hia
    walk_at "V"
    refine r_list (fun s₇ D' q₇ fD' U₇ eD' => ?_) (by exact (by decide : 0 ≤ sizeLine))
    have S₉ := S₈.grown U₇
    clear S₈
    walk_at "V"
    refine r_eq_list r'.cl' (lst_is (S₉.get (.head _))) (lst_is eD') (EqVia.ints hia (IntsAre.nil)) ?_
    walk_at "V"
    by_cases hn : ws.filter (unW io ent) = []
    · rw [hn, if_pos (by simp)]
      walk_at "V"
      exact h0 hn _ (by walk_at "Q") (quiet (nw := [_]) UM S₉)
    rw [if_neg (by simpa using hn)]
    replace h1 := h1 hn
    clear h0 hn hia eD'
    walk_at "V"
    replace S₉ := S₉.sub (List.sublist_cons_self _ _)
    refine r_compA [(Str.ofString "worlds", L + 1 + 1), (Str.ofString "is_or", L + 1)] (by with_unfolding_all rfl) (by with_unfolding_all rfl) (by exact rfl) (by decide) (by intro _; rfl) ?_
    walk_at "V"
    refine cfU_list (some (Str.ofString "one")) (by intro _; rfl) (by intro _; rfl) r'.handled S₉ (hrl.at fun o e => UX _ _ e) (fun i acc news => wl = news ∧ Paired (PairAt g) acc ((rows.take i).filter (keepW io ws))) ⟨rfl, .nil⟩
      (fun i acc news ⟨_, e⟩ => by have := e.length; have h2 := List.length_filter_le (keepW io ws) (rows.take i); rw [List.length_take] at h2; omega) (by simp; omega) ?_ ?_
    · rintro g₅ C D₂ I nD₂ i v mC acc₂ cw news₁ s₈ oI Ug₅ hnL hi hv hit ⟨rfl, hpa⟩ ⟨ow, vw, rfl, hdw⟩ q₈ S₁₀
      have hi' : i < rows.length := by simp at hi; omega
      have hPv := paired_get hrp (by simpa using hv) (List.getElem?_eq_getElem hi')
      obtain ⟨a, tk, rr, rfl, hT, hB⟩ := id hPv
      unfold CTurn
      refine wpAny_pure ?_
      replace S₁₀ : Sd g₅ C mC ((D₂, lstO (List.toArray acc₂) nD₂) :: (I, oI) :: (C + 1, ow) :: wl) s₈.heap := S₁₀
      refine wpAny_assign_Name (r_stC S₁₀.front3 hdw (fun s₉ ow' q₉ S₁₁ dw hs₉ => ?_) (by exact rfl) (by exact rfl) (by exact rfl))
      clear S₁₀
      have UX₅ := UX.trans Ug₅
      refine wpAny_tests_one ?_
      walk_at "V"
      refine r_comp [(Str.ofString "one", C + 1), (Str.ofString "is_or", L + 1)] (by with_unfolding_all rfl) (by exact rfl) (by decide) (by intro _; rfl) ?_
      walk_at "V"
      refine r_cell (S₁₁.up _ _ (Ug₅ _ _ c2)) d2 ?_ (by exact rfl) (by exact rfl) (by exact rfl) (by decide)
      refine cf_list none (by intro _; rfl) (by intro _; rfl) r'.handled S₁₁ (hwl.at fun o e => UX₅ _ _ e) (fun j acc news => (C + 1, ow') :: (D₂, lstO (List.toArray acc₂) nD₂) :: (I, oI) :: wl = news ∧ IntsAre acc (List.map (fun v : Nat => (v : Int)) ((ws.take j).filter (isW io (rows[i]).2)))) ⟨rfl, .nil⟩
        (fun j acc news ⟨_, e⟩ => by have := e.length; rw [List.length_map] at this; have h2 := List.length_filter_le (isW io (rows[i]).2) (ws.take j); rw [List.length_take] at h2; omega) (by simp; omega) ?_ ?_
      · rintro g₆ C₃ D₃ I₃ nD₃ j v mC₃ acc₃ cw₃ news₃ s₁₀ oI₃ Ug₆ hnL₃ hj hv₃ hit₃ ⟨rfl, hia⟩ rfl q₁₀ S₁₂
        have hj' : j < ws.length := by simp at hj; omega
        obtain ⟨tv, htv⟩ := hwi.get j (ws[j] : Int) (by simp [hj'])
        have hv' : v = .int (ws[j] : Int) tv := by simp at hv₃; rw [hv₃] at htv; exact Option.some.inj htv
        subst hv'
        have hw' := hw32 _ (List.getElem_mem hj')
        unfold CTurn
        refine wpAny_pure ?_
        refine wpAny_assign_Name (r_st S₁₂ (fun s₁₁ q₁₁ S₁₃ hs₁₁ => ?_) (by exact rfl) (by exact rfl) (by exact rfl))
        clear S₁₂
        have UX₆ := UX₅.trans Ug₆
        refine wpAny_tests_one ?_
        walk_at "V"
        refine r_cell (S₁₃.get (a := C + 1) (o := ow') (by simp)) dw ?_ (by exact rfl) (by exact rfl) (by exact rfl) (by decide)
        walk_at "V"
        refine item_tupleT (hT.at fun o e => S₁₃.up _ _ (UX₆ _ _ e)) (by decide) (by decide) (j := 1) (by simp [seqIndex?]) (by rfl) ?_ (by with_unfolding_all rfl)
        walk_at "V"
        refine item_bools (k := ws[j]) (hB.up fun b o e => S₁₃.up _ _ (UX₆ _ _ e)) rfl (by rw [h32 _ (List.getElem_mem hi')]; exact hw') (by rw [h32 _ (List.getElem_mem hi')]; decide) ?_ (by with_unfolding_all rfl)
        walk_at "V"
        refine r_cell (S₁₃.up _ _ (Ug₆ _ _ (Ug₅ _ _ c1))) d1 ?_ (by exact rfl) (by exact rfl) (by exact rfl) (by decide)
        refine eq_bool ?_
        walk_at "V"
        cases hp : isW io (rows[i]).2 ws[j] with
        | true =>
          rw [if_pos hp]
          walk_at "V"
          refine ⟨_, [], _, rfl, by walk_at "Q", S₁₃, rfl, ?_⟩
          rw [filter_take (List.getElem?_eq_getElem hj'), hp, if_pos rfl, List.map_append]
          exact ints_snoc hia
        | false =>
          rw [if_neg (by show ¬ isW io (rows[i]).2 ws[j] = true; rw [hp]; decide)]
          refine ⟨_, [], _, rfl, by walk_at "Q", S₁₃, rfl, ?_⟩
          rw [filter_take (List.getElem?_eq_getElem hj'), hp, if_neg (by decide), List.append_nil]
          exact hia
      · rintro D₃ nD₃ acc₃ news₃ s₁₀ q₁₀ S₁₂ ⟨rfl, hia⟩
        rw [show (List.toArray wvs).size = ws.length by simp [hwlen], List.take_length] at hia
        walk_at "V"
        refine r_list (fun s₁₁ D₄ q₁₁ fD₄ U₁₁ eD₄ => ?_) (by exact (by decide : 0 ≤ sizeLine))
        have S₁₃ := S₁₂.grown U₁₁
        clear S₁₂
        walk_at "V"
        refine r_ne_list r'.cl' (lst_is (S₁₃.get (.head _))) (lst_is eD₄) (EqVia.ints hia (IntsAre.nil)) ?_
        walk_at "V"
        replace S₁₃ := (S₁₃.sub (List.sublist_cons_self _ _))
        have e1 : decide (List.map (fun v : Nat => (v : Int)) (ws.filter (isW io (rows[i]).2)) ≠ []) = keepW io ws rows[i] := by rw [keepW, decide_eq_decide, ne_eq, ne_eq, List.map_eq_nil_iff]
        rw [e1]
        cases hp : keepW io ws rows[i] with
        | true =>
          rw [if_pos rfl]
          refine r_cell (S₁₃.get (.head _)) dw ?_ (by exact rfl) (by exact rfl) (by exact rfl) (by decide)
          refine ⟨_, [(C + 1, ow')], _, ⟨ow', _, rfl, dw⟩, by walk_at "Q", S₁₃.front3.front3, rfl, ?_⟩
          rw [filter_take (List.getElem?_eq_getElem hi'), hp, if_pos rfl]
          exact hpa.snoc hPv
        | false =>
          rw [if_neg (by decide)]
          refine ⟨_, [(C + 1, ow')], _, ⟨ow', _, rfl, dw⟩, by walk_at "Q", S₁₃.front3.front3, rfl, ?_⟩
          rw [filter_take (List.getElem?_eq_getElem hi'), hp, if_neg (by decide), List.append_nil]
          exact hpa
    · rintro D₂ nD₂ acc₂ news₂ s₈ C₂ oC₂ mC₂ q₈ S₁₀ hC₂ ⟨rfl, hpa⟩
      rw [show (List.toArray rvs).size = rows.length by simp [hlen], List.take_length] at hpa
      refine r_useA S₁₀ hC₂ (by exact rfl) (by exact rfl) (by exact rfl) fun s₉ q₉ S₁₁ => ?_
      clear S₁₀ hC₂
      have fD₂ : s.heap.get? D₂ = none := by
        have n1 := (S₁₁.nw _ (.head _)).2.2
        refine fresh_of (wl := wl) ?_ fun hm => ?_
        · cases y : (gmax s.heap wl).get? D₂ with
          | none => rfl
          | some o => rw [UM _ _ y] at n1; cases n1
        · have nd := S₁₁.nd
          rw [List.map_cons, List.nodup_cons] at nd
          exact nd.1 hm
      refine Sd.root' (S₁₁) fun g₅ Ug₅ eD₅ S₁₂ => ?_
      clear S₁₁
      replace G := G.up Ug₅
      replace c1 := Ug₅ _ _ c1
      replace UM := UM.trans Ug₅
      replace UX := UX.trans Ug₅
      have Bk' := Bk.up UX
      dsimp only
      walk_at "V"
      refine callWith_K (Gnd.K G) (by k_is) ?_ (by exact rfl) (by exact rfl)
      walk_at "V"
      refine r_cell (S₁₂.up _ _ c1) d1 ?_ (by exact rfl) (by exact rfl) (by exact rfl) (by decide)
      walk_at "V"
      refine ⟨Frag.In.keeps (Gnd.K G) S₁₂.up, wpAny_call ?_⟩
      have Gr₉ : Grow g s.heap (grd g s.heap s₉.heap []) s₉.heap := grow_grd (UX.trans S₁₂.up)
      have Ef₉ : Eff (wl.map (·.1)) s.heap s₉.heap := eff_of (UM.trans S₁₂.up) fun p hp => ⟨_, S₁₂.get hp⟩
      have sub : ∀ x ∈ rows.filter (keepW io ws), x ∈ rows := fun x hm => (List.mem_filter.mp hm).1
      have hfl := List.length_filter_le (keepW io ws) rows
      have rowG : RowL (grd g s.heap s₉.heap []) D₂ (rows.filter (keepW io ws)) := ⟨acc₂, lst_is (grd_get (S₁₂.up _ _ eD₅) (.inr ⟨fD₂, by simp⟩)), paired_up (fun _ _ p => p.up Gr₉.le) hpa⟩
      refine c_term (k := k) (Gc.up Gr₉.le) Gr₉.up (Bk.up Gr₉.le) hr (fun p hp => ⟨S₁₂.get hp, grd_none (hw p hp).1 (hw p hp).2⟩) (r'.less (by omega)) rowG (fun x hm => hx x (sub x hm)) (by omega) hsm fun s₁₀ rv t₁₀ gN BN wlN ns q₁₀ Gw hpn hsn hj hB => ?_
      have S₁₃ := Sd.effW (rest := []) (S₁₂.re (by rw [List.append_nil])) Gw.ef Gw.em Gw.ew (Grow.refl fun b o e => Gw.ef.ext _ _ (fun hm => by
        obtain ⟨p, hp, z⟩ := List.mem_map.mp hm
        have n1 := (S₁₂.nw p hp).2.2
        rw [z, e] at n1; cases n1) (S₁₂.up _ _ e))
      clear S₁₂
      dsimp only
      walk_at "V"
      refine callWith_K (Gnd.K G) (by k_is) ?_ (by exact rfl) (by exact rfl)
      walk_at "V"
      refine r_cell (S₁₃.up _ _ c1) d1 ?_ (by exact rfl) (by exact rfl) (by exact rfl) (by decide)
      walk_at "V"
      refine ⟨Frag.In.keeps (Gnd.K G) S₁₃.up, wpAny_call ?_⟩
      refine c_joined0 (k := k) (G.up S₁₃.up) (r'.less (by omega)) ((rowG.up Gw.gr.le).up Gw.gr.up) (fun x hm => h32 x (sub x hm)) (by omega) fun s₁₁ jl nj q₁₁ U₁₁ fj ej => ?_
      have aliveN : ∀ {h : Heap} {m nw}, Sd g₅ L m (nw ++ (wlN ++ [])) h → ∀ a ∈ wl.map (·.1), ∃ o, h.get? a = some o := fun {h m nw} S a ha => by
        rw [← Gw.em] at ha
        obtain ⟨p, hp, rfl⟩ := List.mem_map.mp ha
        exact ⟨_, S.get (List.mem_append_right _ (List.mem_append_left _ hp))⟩
      have fjs : s.heap.get? jl = none := kept' (UM.trans S₁₃.up) (aliveN (nw := []) S₁₃) fj
      have S₁₄ := S₁₃.grown U₁₁
      clear S₁₃
      dsimp only
      walk_at "V"
      refine r_tuple (fun s₁₂ T q₁₂ fT UT eT => ?_) (by exact (by decide : 2 ≤ sizeLine))
      have fTs : s.heap.get? T = none := kept' (UM.trans S₁₄.up) (aliveN (nw := []) S₁₄) fT
      have S₁₅ := S₁₄.grown UT
      clear S₁₄
      have Gr₁₂ : Grow g s.heap (grd g s.heap s₁₂.heap []) s₁₂.heap := grow_grd (UX.trans S₁₅.up)
      have GrN := Gr₉.trans Ef₉ Gw.gr
      refine h1 s₁₂ T rv (grd g s.heap s₁₂.heap []) BN wlN ns (by walk_at "Q") ⟨Gr₁₂, eff_of (UM.trans S₁₅.up) fun p hp => aliveN (nw := []) S₁₅ p.1 (List.mem_map_of_mem hp), Gw.bk.up fun b o e => ?_, Gw.em, fun p hp => S₁₅.get (List.mem_append_left _ hp)⟩ hpn hsn hj hB ⟨T, t₁₀, jl, rfl, ⟨_, grd_get eT (.inr ⟨fTs, by simp⟩), rfl, _, rfl⟩, lst_is (grd_get (UT _ _ ej) (.inr ⟨fjs, by simp⟩))⟩
      refine grd_get (UT _ _ (U₁₁ _ _ (Gw.gr.up _ _ e))) ?_
      rcases GrN.fresh b o e with y | y
      · exact .inl y
      · exact .inr ⟨y, by simp⟩
section
variable {w : World} {A : Around} {E : Value → Shared → Prop} {s : Shared}
theorem nolen_lri : typeLookup (.type "list_reverseiterator") "__len__" = pure none := by rw [typeLookup_type, builtinLookup_eq_fast]; kernel_rfl
theorem hint_lri : typeLookup (.type "list_reverseiterator") "__length_hint__" = pure (some (.builtin "list_reverseiterator.__length_hint__")) := by rw [typeLookup_type, builtinLookup_eq_fast]; kernel_rfl
theorem hint_rev {r : Addr} {Q : Bool → Shared → Prop} (hT : s.TypeIs (.ref r) "list_reverseiterator") (h : Q false s) : wpAny (model pw w) A (Builtin.List.listLengthHint (.ref r)) Q E s := by
  unfold Builtin.List.listLengthHint
  refine wpAny_bind (wpAny_specialOf hT nolen_lri ?_)
  show wpAny _ A (specialOf (Value.ref r) (Str.ofString "__length_hint__") >>= _) _ _ _
  refine wpAny_bind (wpAny_specialOf hT hint_lri ?_)
  generalize hid : ("list_reverseiterator.__length_hint__" : String) = id0
  wp_delta
  rw [show splitId id0 = some ("list_reverseiterator", "__length_hint__") from by subst hid; decide +kernel]
  subst hid
  refine wpAny_bind (wpAny_isInstance (T := "list_reverseiterator") (b := true) hT (by rw [isSubtype_type]; kernel_rfl) ?_)
  refine wpAny_ite_split (fun hab => absurd hab (by decide)) (fun _ => ?_)
  refine wpAny_ite_split (fun _ => ?_) (fun hab => absurd (by decide +kernel) hab)
  exact wpAny_pure h

/-- a reversed list's iterator, just made -/
structure RevIt (h₀ h : Heap) (it l : Addr) (vs : List Value) : Prop where
  up : Up h₀ h
  new : h₀.get? it = none
  it : h.IsRevIter it l ((vs.length : Int) - 1)
  l : h₀.IsList l vs.toArray
theorem r_reversed {l : Addr} {vs : List Value} {Q : Value → Shared → Prop} (hl : s.heap.IsList l vs.toArray) (h : ∀ s' it, Same s s' → RevIt s.heap s'.heap it l vs → Q (.ref it) s') :
    wpAny (model pw w) A (call (.type "reversed") [.ref l]) Q E s := by
  refine call_reversed_list hl (h ⟨_, _, _, _, _⟩ _ ⟨rfl, rfl⟩ ⟨Up.push _ _, size_none _, ⟨_, Heap.get?_push_size _ rfl, rfl, ?_⟩, hl⟩)
  rw [show ((vs.length : Int) - 1) = ((List.toArray vs).size : Int) - 1 by simp]
  rfl

theorem r_list_rev {h₀ : Heap} {it l : Addr} {vs : List Value} {Q : Value → Shared → Prop} (hh : A.handled = none) (x : RevIt h₀ s.heap it l vs) (hlen : vs.length < 1000)
    (h : ∀ s' a n, Same s s' → h₀.get? a = none → Up h₀ s'.heap → s'.heap.get? a = some (lstO vs.reverse.toArray n) → Q (.ref a) s') :
    wpAny (model pw w) A (call (.type "list") [.ref it]) Q E s := by
  have hl : s.heap.IsList l vs.toArray := x.l.at fun o e => x.up _ _ e
  have zz : sizeLine = 16777216 := rfl
  have hlit : l ≠ it := by rintro rfl; obtain ⟨o, e, _⟩ := x.l; rw [x.new] at e; cases e
  have hitlt : it < s.heap.objs.size := by obtain ⟨o, e, _⟩ := x.it; exact Heap.lt_size e
  have hllt : l < s.heap.objs.size := by obtain ⟨o, e, _⟩ := hl; exact Heap.lt_size e
  refine callType_codes (Q₁ := fun obj s₁ => obj = .ref s.heap.objs.size ∧ s₁ = { s with heap := s.heap.push { cls := .type "list", data := .seq #[] } }) PySem.F.called_list (PySem.F.typeCall_list_1 _) PySem.F.entry_list_init
    (code_list_new _ ⟨rfl, rfl⟩) fun obj s₁ h₁ => ?_
  obtain ⟨rfl, rfl⟩ := h₁
  generalize hSz : s.heap.objs.size = S
  have hS : (s.heap.push { cls := .type "list", data := .seq #[] }).get? S = some { cls := .type "list", data := .seq #[] } := hSz ▸ Heap.get?_push_size _ rfl
  have hSit : S ≠ it := by rw [← hSz]; exact Nat.ne_of_gt hitlt
  have hSl : S ≠ l := by rw [← hSz]; exact Nat.ne_of_gt hllt
  have h0S : h₀.get? S = none := by
    cases q : h₀.get? S with
    | none => rfl
    | some o => exact absurd (Heap.lt_size (x.up _ _ q)) (by rw [hSz]; exact Nat.lt_irrefl _)
  refine ⟨⟨_, hS, rfl⟩, PySem.F.args_list_init_2 _ _, ?_⟩
  show wpAny _ _ (do let old ← Builtin.List.listItems (.ref S); Builtin.List.listUpdate (.ref S) (fun _ => #[]); letGo old.toList.reverse; Builtin.List.listExtendWith (.ref S) (.ref it) .none) _ _ _
  refine wpAny_bind ?_
  unfold Builtin.List.listItems
  refine wpAny_bind (wpAny_seqItems hS rfl (wpAny_pure ?_))
  show wpAny _ _ (updateSeq S (fun _ => #[]) >>= fun _ => letGo (#[] : Array Value).toList.reverse >>= fun _ => Builtin.List.listExtendWith (.ref S) (.ref it) .none) _ _ _
  refine wpAny_bind (wpAny_updateSeq hS rfl ?_)
  have hS₂ := Heap.get?_update_self (Obj.mapSeq (fun _ => (#[] : Array Value))) hS rfl
  generalize hH : (s.heap.push { cls := .type "list", data := .seq #[] }).update S (Obj.mapSeq (fun _ => (#[] : Array Value))) = H at hS₂
  have kH : ∀ b o, b ≠ S → s.heap.get? b = some o → H.get? b = some o := fun b o hb e => hH ▸ (Heap.get?_update_other _ _ (Ne.symm hb)).trans (Heap.get?_push_of_some _ e)
  refine wpAny_bind (wpAny_letGo ?_)
  have W := Walks.listRev (prog := pw) (w := w) (A := A.in1.in1) hh it l hlit vs.toArray
  have hit₂ : H.IsRevIter it l ((vs.length : Int) - 1) := x.it.at fun o e => kH _ _ (Ne.symm hSit) e
  have hl₂ : H.IsList l vs.toArray := hl.at fun o e => kH _ _ (Ne.symm hSl) e
  unfold Builtin.List.listExtendWith
  refine wpAny_bind (wpAny_typeOf (T := "list_reverseiterator") hit₂.typeIs ?_)
  have h1 : Builtin.List.listSameRef (.ref S) (.ref it) = false := by simp [Builtin.List.listSameRef, hSit]
  rw [if_neg (by rw [h1]; decide)]
  refine wpAny_bind (wpAny_pyIter_revIter hit₂ ?_)
  refine wpAny_bind (wpAny_holding (hint_rev hit₂.typeIs ?_))
  rw [if_neg (by decide)]
  refine wpAny_pure ⟨plainId_quiet PySem.F.plain_extend_loop _, ?_⟩
  refine codeAny_extend_loopS W.toS (by simp; omega) S (by simp; exact ⟨hSit, hSl⟩) .none vs.toArray.size 0 _ #[] _ rfl (Nat.zero_le _) ⟨Nat.zero_le _, by simpa using hit₂, hl₂⟩ hS₂ (ItemsOf.nil _) fun s' acc' c' hm hS' hacc => ?_
  refine ⟨rfl, ?_⟩
  have e : acc' = vs.reverse.toArray := by
    apply Array.ext
    · simp [hacc.1]
    · intro j h1 h2
      have h3 := hacc.2 j acc'[j] (Array.getElem?_eq_getElem h1)
      have h4 : j < vs.length := by simpa using h2
      simp only [List.size_toArray, List.getElem?_toArray] at h3
      rw [List.getElem?_eq_getElem (by omega)] at h3
      simp only [List.getElem_toArray, List.getElem_reverse]
      exact (Option.some.inj h3).symm
  subst e
  refine h s' S c' ?_ h0S (fun b o q => hm.heap b o (fun hmem => ?_) (kH b o (fun z => by rw [z, h0S] at q; cases q) (x.up _ _ q))) hS'
  · have := Moved.eq_with hm
    rw [this]
    exact ⟨rfl, rfl⟩
  · rcases List.mem_cons.mp hmem with z | z
    · rw [z, h0S] at q; cases q
    · rw [List.mem_singleton.mp z, x.new] at q; cases q

theorem r_popLast {g : Heap} {L : Addr} {m : Str → Option Value} {rest : List (Addr × Obj)} {l : Addr} {vs : List Value} {y : Value} {n : Nat} {Q : Value → Shared → Prop} (S : Sd g L m ((l, lstO (vs ++ [y]).toArray n) :: rest) s.heap) (hsz : vs.length ≤ 1000)
    (h : ∀ s' n', Same s s' → Sd g L m ((l, lstO vs.toArray n') :: rest) s'.heap → Q y s') : wpAny (model pw w) A (call (.builtin "list.pop") [.ref l]) Q E s := by
  have hl := S.get (.head _)
  have zz : sizeLine = 16777216 := rfl
  have e1 : (vs ++ [y]).toArray.size - 1 = vs.length := by simp
  have q := PySem.IsL.update (items := (vs ++ [y]).toArray) (n := n) hl (fun xs => xs.eraseIdxIfInBounds ((vs ++ [y]).toArray.size - 1))
  have e2 : (vs ++ [y]).toArray.eraseIdxIfInBounds ((vs ++ [y]).toArray.size - 1) = vs.toArray := by
    rw [e1, Array.eraseIdxIfInBounds]
    simp [List.eraseIdx_append_of_length_le]
  rw [e2] at q
  exact call_meets PySem.F.slot_list_pop ⟨_, hl, rfl⟩ PySem.F.entry_list_pop (PySem.F.args_list_pop_1 _) (PySem.MeetsSeq.list_pop_last l (vs ++ [y]).toArray n y (by simp) (by rw [zz]; simp; omega)) ⟨hl, h ⟨_, _, _, _, _⟩ _ ⟨rfl, rfl⟩ (S.upd (Heap.SameBut.update ..) q)⟩
end
/-- the rewriter -/
structure RwI (g : Heap) (rx : Addr) (bk : BkA) : Prop where
  ex : ∃ d es n, g.get? rx = some (instObj 754 d) ∧ g.get? d = some (dictOf es n) ∧ getL "bank" es = some (some (.ref bk.x)) ∧ (∃ t, getL "yes" es = some (some (.int 1 t))) ∧ (∃ t, getL "no" es = some (some (.int 2 t))) ∧ (∀ nm ∈ (["flat", "thinned", "joined"] : List Str), getL nm es = some none)
theorem RwI.up {g h : Heap} {rx : Addr} {bk : BkA} (x : RwI g rx bk) (U : Up g h) : RwI h rx bk := let ⟨d, es, n, a, b, r⟩ := x.ex; ⟨d, es, n, U _ _ a, U _ _ b, r⟩
theorem lo_of {w : World} {g h : Heap} {a : Addr} (G : Gnd w g) (U : Up g h) (hle : h.objs.size ≤ a) : (a == sysModules) = false := by
  have : 110 < h.objs.size := Heap.lt_size ((G.K.keeps U) 110 _ (by k_is))
  refine beq_eq_false_iff_ne.mpr fun q => ?_
  have q' : a = (1 : Nat) := q
  have hle' : (h.objs.size : Nat) ≤ (a : Nat) := hle
  rw [q'] at hle'
  omega
section
variable {w : World} {A : Around} {E : Value → Shared → Prop} {s : Shared} {g : Heap} {rx : Addr} {bk : BkA} {Q : Value → Shared → Prop} {expr : Bool}
theorem w_bank (G : Gnd w g) (U : Up g s.heap) (I : RwI g rx bk) (h : Q (.ref bk.x) { s with toks := s.toks + 1 }) : wpAny (model pw w) A (getAttr (.ref rx) "bank" expr) Q E s := by
  obtain ⟨d, es, n, hx, hd, h1, h2, h3, h4⟩ := I.ex
  exact r_attr (attr := none) G U (U _ _ hx) (U _ _ hd) (by k_is) (by k_is) (by k_is) (by k_is) h1 rfl h
theorem w_yes (G : Gnd w g) (U : Up g s.heap) (I : RwI g rx bk) (h : ∀ t, Q (.int 1 t) { s with toks := s.toks + 1 }) : wpAny (model pw w) A (getAttr (.ref rx) "yes" expr) Q E s := by
  obtain ⟨d, es, n, hx, hd, h1, ⟨t, h2⟩, h3, h4⟩ := I.ex
  exact r_attr (attr := none) G U (U _ _ hx) (U _ _ hd) (by k_is) (by k_is) (by k_is) (by k_is) h2 rfl (h t)
theorem w_no (G : Gnd w g) (U : Up g s.heap) (I : RwI g rx bk) (h : ∀ t, Q (.int 2 t) { s with toks := s.toks + 1 }) : wpAny (model pw w) A (getAttr (.ref rx) "no" expr) Q E s := by
  obtain ⟨d, es, n, hx, hd, h1, h2, ⟨t, h3⟩, h4⟩ := I.ex
  exact r_attr (attr := none) G U (U _ _ hx) (U _ _ hd) (by k_is) (by k_is) (by k_is) (by k_is) h3 rfl (h t)
theorem w_meth {nm : Str} {f : Addr} {pl : Sem Bool} {Q : Value × List Value → Shared → Prop} (G : Gnd w g) (U : Up g s.heap) (I : RwI g rx bk) (hm : nm ∈ (["flat", "thinned", "joined"] : List Str)) (hg : plainGet (Mine.top.hd.heap_39 w.params) 754 nm = true)
    (hf : findIn (Mine.top.hd.heap_39 w.params) (.ref 754) nm = some (some (.ref f))) (ht : isFn (Mine.top.hd.heap_39 w.params) (.ref f) = true) (h : Q (.ref f, [.ref rx]) s) :
    wpAny (model pw w) A (getMethod (.ref rx) nm pl) Q E s := by
  obtain ⟨d, es, n, hx, hd, h1, h2, h3, h4⟩ := I.ex
  exact r_meth G U (U _ _ hx) (U _ _ hd) hg hf ht (h4 nm hm) h
end

/-- BoolRewriter(bank) -/
theorem c_rw {w : World} {A : Around} {s : Shared} {g : Heap} {bk : BkA} {R : Result → Shared → Prop} {k : Nat} (G : Gnd w g) (U : Up g s.heap) (I : BankI g bk) (hr : bk.ready = true) (r : Rm A (k + 3))
    (h : ∀ s' x g', Same s s' → Up s.heap s'.heap → Grow g s.heap g' s'.heap → RwI g' x bk → R (.ok (.ret (.ref x))) s') : codeAny (model pw w) A (.call (.ref 754) ⟨[.ref bk.x], []⟩) R s := by
  refine r_make (n := k + 2) G U r (by k_is) (fI := 645) (by k_is) (by k_is) fun A' s₁ x dx r' q U₁ hx0 hd0 hne hx hd => ?_
  have Ug : Up g (gmax s₁.heap [(dx, dictOf [] 0)]) := gmax_le (U.trans U₁) fun p hp => by
    rw [List.mem_singleton.mp hp]
    cases e : g.get? dx with
    | none => rfl
    | some o => rw [U _ _ e] at hd0; cases hd0
  refine' call0s (g := gmax s₁.heap [(dx, dictOf [] 0)]) (wl := [(dx, dictOf [] 0)]) (binds := [("self", .ref x), ("bank", .ref bk.x)]) (G.up Ug) (gmax_up _ _) (fun p hp => ⟨by rw [List.mem_singleton.mp hp]; exact hd, gmax_none hp⟩) (by simp) r' (by k_is) (by k_is)
    (by exact BindsTo.of_eq rfl) (by exact locs rfl) ?_ (by exact rfl) (by exact rfl) (by exact rfl) (by decide)
  intro A' s₂ q r'' S U₂
  have hxg : (gmax s₁.heap [(dx, dictOf [] 0)]).get? x = some (instObj 754 dx) := gmax_get hx (by simpa using hne)
  have G0 := G.up Ug
  have I0 := I.up Ug
  have hsz : (gmax s₁.heap [(dx, dictOf [] 0)]).objs.size ≤ s₁.heap.objs.size := Nat.le_of_eq (gmax_size _ _)
  have Us : Up s.heap (gmax s₁.heap [(dx, dictOf [] 0)]) := fun b o e => gmax_get (U₁ _ _ e) (by simp only [List.map_cons, List.map_nil, List.mem_singleton]; rintro rfl; rw [hd0] at e; cases e)
  generalize gmax s₁.heap [(dx, dictOf [] 0)] = g0 at *
  generalize s₁.heap.objs.size = L at *
  k_unmd
  walk_at "S"
  refine plainObj_wpAny_Assign_Attribute ?_ (by with_unfolding_all rfl)
  walk_at "V"
  refine r_set' G0 hsz (Up.refl _) S (S.up _ _ hxg) DictF.nil (by simp) (by k_is) (by k_is) (by k_is) (by k_is) fun s₃ es₃ n₃ q₃ S₃ D₃ l3 k₃ => ?_
  clear S
  walk_at "S"
  refine plainObj_wpAny_Assign_Attribute ?_ (by with_unfolding_all rfl)
  walk_at "V"
  refine b_meth (f := 278) G0 S₃.up I0 (by decide) (by k_is) (by k_is) (by k_is) ?_
  walk_at "C0"
  refine c_yes (k := k) (G0.up S₃.up) (I0.up S₃.up) hr (r''.less (by omega)) fun s₄ t₄ q₄ U₄ => ?_
  have S₄ := S₃.grown U₄
  clear S₃
  dsimp only
  walk_at "V"
  refine r_set' G0 hsz (Up.refl _) S₄ (S₄.up _ _ hxg) D₃ (by simp at l3; omega) (by k_is) (by k_is) (by k_is) (by k_is) fun s₅ es₅ n₅ q₅ S₅ D₅ l5 k₅ => ?_
  clear S₄
  walk_at "S"
  refine plainObj_wpAny_Assign_Attribute ?_ (by with_unfolding_all rfl)
  walk_at "V"
  refine b_meth (f := 285) G0 S₅.up I0 (by decide) (by k_is) (by k_is) (by k_is) ?_
  walk_at "C0"
  refine c_no (k := k) (G0.up S₅.up) (I0.up S₅.up) hr (r''.less (by omega)) fun s₆ t₆ q₆ U₆ => ?_
  have S₆ := S₅.grown U₆
  clear S₅
  dsimp only
  walk_at "V"
  refine r_set' G0 hsz (Up.refl _) S₆ (S₆.up _ _ hxg) D₅ (by simp at l3 l5; omega) (by k_is) (by k_is) (by k_is) (by k_is) fun s₇ es₇ n₇ q₇ S₇ D₇ l7 k₇ => ?_
  clear S₆
  walk_at "S"
  refine plainObj_wpAny_Assign_Attribute ?_ (by with_unfolding_all rfl)
  walk_at "V"
  refine r_dict fun s₈ kd q₈ fa₈ U₈ e₈ hle => ?_
  have S₈ := S₇.grown U₈
  clear S₇
  walk_at "V"
  refine r_set' G0 hsz (Up.refl _) S₈ (S₈.up _ _ hxg) D₇ (by simp at l3 l5 l7; omega) (by k_is) (by k_is) (by k_is) (by k_is) fun s₉ es₉ n₉ q₉ S₉ D₉ l9 k₉ => ?_
  clear S₈
  walk_at "V"
  have hx9 : s₉.heap.get? x = some (instObj 754 dx) := S₉.up _ _ hxg
  have hd9 := S₉.get (.head _)
  have U9 : Up s.heap s₉.heap := Us.trans S₉.up
  have Gr := grow_grd (h₀ := s.heap) (X := []) (U.trans U9)
  exact ⟨rfl, h s₉ x _ (by walk_at "Q") U9 Gr ⟨dx, es₉, n₉, grd_get hx9 (.inr ⟨hx0, by simp⟩), grd_get hd9 (.inr ⟨hd0, by simp⟩), by rw [D₉.getL]; rfl, ⟨t₄, by rw [D₉.getL]; rfl⟩, ⟨t₆, by rw [D₉.getL]; rfl⟩, fun nm hm => by
    rw [D₉.getL]
    simp only [List.mem_cons, List.not_mem_nil, or_false] at hm
    rcases hm with rfl | rfl | rfl <;> rfl⟩⟩

/-- the pool's nodes lie in B -/
def PB (B : List Node) : Prop := ∀ (i : Nat) (n : Node), poolB[i]? = some n → B[i]? = some n
def negN (t : Int) : Int := if t < 8 then t + 5 else t - 5
theorem lit_cases {t : Int} (h3 : 3 ≤ t) (h12 : t ≤ 12) : t = 3 ∨ t = 4 ∨ t = 5 ∨ t = 6 ∨ t = 7 ∨ t = 8 ∨ t = 9 ∨ t = 10 ∨ t = 11 ∨ t = 12 := by omega
theorem c_neg {w : World} {A : Around} {s : Shared} {bk : BkA} {B : List Node} {R : Result → Shared → Prop} {k : Nat} {t : Int} {u : Tok} (G : Gnd w s.heap) (Bk : BankAt w s.heap bk B) (hB : PB B) (hr : bk.ready = true) (r : Rm A (k + 2)) (h3 : 3 ≤ t) (h12 : t ≤ 12)
    (h : ∀ s' t', Same s s' → Up s.heap s'.heap → R (.ok (.ret (.int (negN t) t'))) s') : codeAny (model pw w) A (.call (.ref 327) ⟨[.ref bk.x, .int t u], []⟩) R s := by
  rcases lit_cases h3 h12 with rfl | rfl | rfl | rfl | rfl | rfl | rfl | rfl | rfl | rfl
  · exact c_not_old (i := 8) G Bk hr r (by decide) (hB 3 _ rfl) (by decide) (hB 8 _ rfl) (by decide) h
  · exact c_not_old (i := 9) G Bk hr r (by decide) (hB 4 _ rfl) (by decide) (hB 9 _ rfl) (by decide) h
  · exact c_not_old (i := 10) G Bk hr r (by decide) (hB 5 _ rfl) (by decide) (hB 10 _ rfl) (by decide) h
  · exact c_not_old (i := 11) G Bk hr r (by decide) (hB 6 _ rfl) (by decide) (hB 11 _ rfl) (by decide) h
  · exact c_not_old (i := 12) G Bk hr r (by decide) (hB 7 _ rfl) (by decide) (hB 12 _ rfl) (by decide) h
  · exact c_not_neg G Bk r (by decide) (hB 8 _ rfl) rfl rfl h
  · exact c_not_neg G Bk r (by decide) (hB 9 _ rfl) rfl rfl h
  · exact c_not_neg G Bk r (by decide) (hB 10 _ rfl) rfl rfl h
  · exact c_not_neg G Bk r (by decide) (hB 11 _ rfl) rfl rfl h
  · exact c_not_neg G Bk r (by decide) (hB 12 _ rfl) rfl rfl h
theorem lit_node {B : List Node} (hB : PB B) {t : Int} (h3 : 3 ≤ t) (h12 : t ≤ 12) : ∃ n, B[t.toNat]? = some n ∧ n.op ≠ "or" ∧ n.op ≠ "and" := by
  rcases lit_cases h3 h12 with rfl | rfl | rfl | rfl | rfl | rfl | rfl | rfl | rfl | rfl <;> exact ⟨_, hB _ _ rfl, by decide, by decide⟩
section
variable {w : World} {A : Around} {E : Value → Shared → Prop} {s : Shared}
theorem m_pop {l : Addr} {vs : Array Value} {n : Nat} {pl : Sem Bool} {Q : Value × List Value → Shared → Prop} (e : s.heap.get? l = some (lstO vs n)) (h : Q (.builtin "list.pop", [.ref l]) s) :
    wpAny (model pw w) A (getMethod (.ref l) "pop" pl) Q E s :=
  getMethod_builtin (lst_is e).typeIs PySem.F.plainAttrs_list PySem.F.slot_list_pop PySem.F.type_list_pop (fun b e' => by injection e' with e'; subst e'; exact ⟨_, e, rfl⟩) h
end

structure FlatS (w : World) (L : Addr) (io : Bool) (xs : List Int) (vs : List Value) (K D rx : Addr) (ua ub : Int) (u ta tb : Tok) (s s' : Shared) (kk i : Nat) (m₁ : Str → Option Value) (o : Obj) (nS : Nat) (kvs : List (Int × Value)) : Prop where
  e : i + kk = xs.length
  q : Same s s'
  S : Sd s.heap L m₁ [(K, lstO (List.toArray (vs.drop i).reverse) nS), (D, o)] s'.heap
  hD : DictO (iK pw w) kvs o
  hk : kvs.map (·.1) = xs.take i
  e1 : m₁ "self" = some (.ref rx)
  e2 : m₁ "op" = some (.str (opN io) u)
  e3 : m₁ "unit" = some (.int ua ta)
  e4 : m₁ "settling" = some (.int ub tb)
  e5 : m₁ "found" = some (.ref D)
  e6 : m₁ "stack" = some (.ref K)
theorem c_flat {w : World} {A : Around} {s : Shared} {bk : BkA} {B : List Node} {R : Result → Shared → Prop} {k : Nat} {rx l : Addr} {io : Bool} {u : Tok} {xs : List Int}
    (G : Gnd w s.heap) (Bk : BankAt w s.heap bk B) (hB : PB B) (hr : bk.ready = true) (RI : RwI s.heap rx bk) (r : Rm A (k + 3)) (hl : IntL s.heap l xs) (hx : ∀ x ∈ xs, 3 ≤ x ∧ x ≤ 12) (hnd : xs.Nodup) (hng : ∀ x ∈ xs, negN x ∉ xs) (hn : xs.length < 64)
    (h : ∀ s' d o kvs, Same s s' → Up s.heap s'.heap → s.heap.get? d = none → (d == sysModules) = false → s'.heap.get? d = some o → DictO (iK pw w) kvs o → kvs.map (·.1) = xs → R (.ok (.ret (.ref d))) s') :
    codeAny (model pw w) A (.call (.ref 666) ⟨[.ref rx, .str (opN io) u, .ref l], []⟩) R s := by
  obtain ⟨vs, hlv, hi⟩ := id hl
  have hlen := hi.length
  refine' call0 (g := s.heap) (wl := []) (binds := [("self", .ref rx), ("op", .str (opN io) u), ("some", .ref l)]) G (Up.refl _) (by simp) (by simp) r (by k_is) (by k_is) (by exact BindsTo.of_eq rfl) (by exact locs rfl) ?_ (by exact rfl) (by exact rfl) (by exact rfl) (by decide)
  intro A' L s₁ q r' S U₁ fr
  k_unmd
  walk_at "S"
  refine Assign_Tuple ?_
  refine wpAny_mono (Q := fun v s' => ∃ T a ta b tb, v = .ref T ∧ s'.heap.IsTuple T #[.int a ta, .int b tb] ∧ a ≤ 2 ∧ b ≤ 2 ∧ Same s s' ∧ Sd s.heap L (fun y => List.lookup y ([("self", Value.ref rx), ("op", .str (opN io) u), ("some", .ref l)] : List (Str × Value)).reverse) [] s'.heap) ?_ (fun v s₂ h₂ => ?_) fun _ _ e => e
  · walk_at "V"
    cases io with
    | true =>
      rw [if_neg (by decide)]
      walk_at "V"
      refine w_no G S.up RI fun t1 => ?_
      walk_at "V"
      refine w_yes G S.up RI fun t2 => ?_
      walk_at "V"
      refine r_tuple (fun s₂ T q₂ fT UT eT => ?_) (by exact (by decide : 2 ≤ sizeLine))
      exact ⟨T, _, _, _, _, rfl, ⟨_, eT, rfl, _, rfl⟩, by decide, by decide, by walk_at "Q", S.grown UT⟩
    | false =>
      rw [if_pos (by decide)]
      walk_at "V"
      refine w_yes G S.up RI fun t1 => ?_
      walk_at "V"
      refine w_no G S.up RI fun t2 => ?_
      walk_at "V"
      refine r_tuple (fun s₂ T q₂ fT UT eT => ?_) (by exact (by decide : 2 ≤ sizeLine))
      exact ⟨T, _, _, _, _, rfl, ⟨_, eT, rfl, _, rfl⟩, by decide, by decide, by walk_at "Q", S.grown UT⟩
  obtain ⟨T, ua, ta, ub, tb, rfl, hT, ha2, hb2, q₂, S₂⟩ := h₂
  clear S
  refine r_assign2 r'.handled hT (fun s₃ q₃ U₃ => ?_) (by exact rfl)
  have S₃ := S₂.grown U₃
  clear S₂ hT
  refine wpAny_assign_Name (r_st S₃ (fun s₄ q₄ S₄ hs₄ => ?_) (by exact rfl) (by exact rfl) (by exact rfl))
  refine wpAny_assign_Name (r_st S₄ (fun s₅ q₅ S₅ hs₅ => ?_) (by exact rfl) (by exact rfl) (by exact rfl))
  clear S₃ S₄
  walk_at "S"
  refine Assign_Tuple_swapped (names := [Str.ofString "found", Str.ofString "stack"]) ?_
  walk_at "V"
  refine r_dict fun s₆ D q₆ fD U₆ eD hle => ?_
  have lo := lo_of G S₅.up hle
  have fDs : s.heap.get? D = none := by
    cases y : s.heap.get? D with
    | none => rfl
    | some o => rw [S₅.up _ _ y] at fD; cases fD
  have S₆ := S₅.add fD U₆ eD
  clear S₅
  walk_at "V"
  refine r_reversed (hlv.at fun o e => S₆.up _ _ e) fun s₇ it q₇ X => ?_
  walk_at "V"
  refine r_list_rev r'.handled X (by omega) fun s₈ K nK q₈ fK U₈ eK => ?_
  have S₈ := S₆.add fK U₈ eK
  clear S₆ X
  walk_at "V"
  refine r_tuple (fun s₉ T₂ q₉ fT₂ UT₂ eT₂ => ?_) (by exact (by decide : 2 ≤ sizeLine))
  have S₉ := S₈.grown UT₂
  clear S₈
  refine r_swap2 (n1 := Str.ofString "found") (n2 := Str.ofString "stack") r'.handled (a := .ref D) (b := .ref K) ⟨_, eT₂, rfl, _, rfl⟩ fun s₁₀ q₁₀ U₁₀ => ?_
  have S₁₀ := S₉.grown U₁₀
  clear S₉
  refine r_st S₁₀ (fun s₁₁ q₁₁ S₁₁ hs₁₁ => ?_) (by exact rfl) (by exact rfl) (by exact rfl)
  refine r_st S₁₁ (fun s₁₂ q₁₂ S₁₂ hs₁₂ => ?_) (by exact rfl) (by exact rfl) (by exact rfl)
  clear S₁₀ S₁₁
  walk_at "S"
  refine wpAny_While ?_
  refine codeAny_whileLoop (fun kk s' => ∃ i m₁ o nS kvs, FlatS w L io xs vs K D rx ua ub u ta tb s s' kk i m₁ o nS kvs) ?_ xs.length
    ⟨0, _, _, _, [], by simp, by walk_at "Q", S₁₂, DictO.empty, rfl, rfl, rfl, rfl, rfl, rfl, rfl⟩
  clear S₁₂
  rintro kk s₁₃ ⟨i, m₁, o, nS, kvs, hik, q₁₃, S₁₃, hD, hkv, e1, e2, e3, e4, e5, e6⟩
  walk_at "V"
  refine len_list_any (lst_is (S₁₃.get (.head _))) (by simp; omega) fun s₁₄ t₁₄ q₁₄ e₁₄ => ?_
  rw [← e₁₄] at S₁₃
  walk_at "V"
  by_cases hi' : i < xs.length
  · rw [if_pos (by simp; omega)]
    have hxi := hx xs[i] (List.getElem_mem hi')
    obtain ⟨tx, hvx⟩ := hi.get i xs[i] (List.getElem?_eq_getElem hi')
    obtain ⟨hvl, hvx'⟩ := List.getElem?_eq_some_iff.mp hvx
    have eR : (vs.drop i).reverse = (vs.drop (i + 1)).reverse ++ [.int xs[i] tx] := by
      rw [List.drop_eq_getElem_cons hvl, hvx', List.reverse_cons]
    rw [eR] at S₁₃
    walk_at "V"
    refine m_pop (S₁₃.get (.head _)) ?_
    walk_at "V"
    refine r_popLast S₁₃ (by simp; omega) fun s₁₅ n₁₅ q₁₅ S₁₅ => ?_
    clear S₁₃
    refine r_st S₁₅ (fun s₁₆ q₁₆ S₁₆ hs₁₆ => ?_) (by exact rfl) (by exact rfl) (by exact rfl)
    clear S₁₅
    walk_at "V"
    rw [if_neg (by simp; omega)]
    walk_at "V"
    refine isTrue_or ?_
    walk_at "V"
    rw [if_neg (by simp; omega)]
    refine isTrue_or ?_
    walk_at "V"
    refine w_bank G S₁₆.up RI ?_
    refine b_meth (f := 327) G S₁₆.up Bk.I (by decide) (by k_is) (by k_is) (by k_is) ?_
    walk_at "C"
    refine c_neg (k := k) (G.up S₁₆.up) (Bk.up S₁₆.up) hB hr r' hxi.1 hxi.2 fun s₁₇ t₁₇ q₁₇ U₁₇ => ?_
    have S₁₇ := S₁₆.grown U₁₇
    clear S₁₆
    dsimp only
    walk_at "V"
    refine r_in_dict (hD.at (S₁₇.get (a := D) (o := o) (by simp))) lo fun s₁₈ q₁₈ e₁₈ => ?_
    rw [← e₁₈] at S₁₇
    walk_at "V"
    have nin : negN xs[i] ∉ kvs.map (·.1) := fun hm => hng _ (List.getElem_mem hi') (by rw [hkv] at hm; exact List.mem_of_mem_take hm)
    rw [decide_eq_false nin, if_neg (by decide)]
    refine isTrue_or_nil ?_
    rw [if_neg (by decide)]
    walk_at "V"
    refine w_bank G S₁₇.up RI ?_
    refine b_meth (f := 201) G S₁₇.up Bk.I (by decide) (by k_is) (by k_is) (by k_is) ?_
    walk_at "C"
    obtain ⟨nd, hnd1, hno, hna⟩ := lit_node hB hxi.1 hxi.2
    refine c_opB (k := k) (G.up S₁₇.up) (Bk.up S₁₇.up) (r'.less (by omega)) (by omega) hnd1 fun s₁₉ t₁₉ q₁₉ U₁₉ => ?_
    have S₁₉ := S₁₇.grown U₁₉
    clear S₁₇
    dsimp only
    walk_at "V"
    rw [if_neg (by cases io <;> simpa using (by assumption))]
    walk_at "V"
    have S₂₀ := S₁₉.front2
    clear S₁₉
    have fresh : xs[i] ∉ kvs.map (·.1) := fun hm => by
      rw [hkv] at hm
      obtain ⟨j, hj, ej⟩ := List.mem_iff_getElem.mp hm
      rw [List.length_take] at hj
      rw [List.getElem_take] at ej
      have := List.pairwise_iff_getElem.mp hnd j i (by omega) hi' (by omega)
      exact this ej
    refine r_setitem (k := xs[i]) S₂₀ hD (by simp [intKind, Value.isInt]) (fun s₂₁ o₂₁ q₂₁ S₂₁ hD₂₁ hs₂₁ => ?_) (by have := congrArg List.length hkv; simp at this; have zz : sizeLine = 16777216 := rfl; omega)
    rw [stored_fresh fresh] at hD₂₁
    walk_at "V"
    refine ⟨kk - 1, by omega, i + 1, _, o₂₁, _, _, by omega, by walk_at "Q", S₂₁.front2, hD₂₁, ?_, e1, e2, e3, e4, e5, e6⟩
    rw [List.map_append, hkv, take_snoc (List.getElem?_eq_getElem hi')]
    rfl
  · rw [if_neg (by simp; omega)]
    walk_at "V"
    refine h _ D o kvs (by walk_at "Q") S₁₃.up fDs lo (S₁₃.get (by simp)) hD ?_
    rw [hkv, List.take_of_length_le (by omega)]
theorem key_tuple {w : World} {h : Heap} {ks : List Int} {a : Addr} (x : IsTupleKey (iK pw w) h ks a) : ∃ vs, h.IsTuple a (List.toArray vs) ∧ IntsAre vs ks := by
  obtain ⟨o, items, n, ho, hc, hd, hi⟩ := x
  obtain ⟨l⟩ := items
  refine ⟨l, ⟨o, ho, hc, n, hd⟩, ?_⟩
  have hi' : ItemsAre (iK pw w) ks l := hi
  clear hi hd
  induction hi' with
  | nil => exact .nil
  | @cons k v ks vs h1 h2 ih =>
    have h1' : Value.isInt k v = true := h1
    cases v <;> simp [Value.isInt] at h1'
    subst h1'
    exact .cons _ _ ih

theorem c_argsB {w : World} {A : Around} {s : Shared} {h₀ : Heap} {bk : BkA} {B : List Node} {R : Result → Shared → Prop} {k : Nat} {t : Int} {u : Tok} {n : Node} (G : Gnd w s.heap) (U : Up h₀ s.heap) (Bk : BankAt w h₀ bk B) (r : Rm A (k + 1)) (h0 : 0 ≤ t) (hn : B[t.toNat]? = some n)
    (h : ∀ s' a vs, Same s s' → Up s.heap s'.heap → h₀.IsTuple a (List.toArray vs) → IntsAre vs n.args → R (.ok (.ret (.ref a))) s') : codeAny (model pw w) A (.call (.ref 208) ⟨[.ref bk.x, .int t u], []⟩) R s := by
  obtain ⟨va, hl, ho⟩ := Bk.args
  obtain ⟨a, ht, hk⟩ := ho.2 _ _ hn
  obtain ⟨vs, hT, hI⟩ := key_tuple hk
  have := (List.getElem?_eq_some_iff.mp hn).1
  have := Bk.small
  refine' call0 (g := s.heap) (wl := []) (binds := [("self", .ref bk.x), ("t", .int t u)]) G (Up.refl _) (by simp) (by simp) r (by k_is) (by k_is) (by exact BindsTo.of_eq rfl) (by exact locs rfl) ?_ (by exact rfl) (by exact rfl) (by exact rfl) (by decide)
  intro A' L s₁ q r' S U₁ fr
  k_unmd
  walk_at "W"
  refine b_args G S.up (Bk.I.up U) ?_
  walk_at "W"
  exact item_list (hl.at fun o e => U₁ _ _ (U _ _ e)) h0 (by omega) ht (h { s₁ with toks := s₁.toks + 1 } a vs ⟨q.1, q.2⟩ U₁ hT hI) (by with_unfolding_all rfl)

/-- what thinned makes of the number t -/
def ThinStep (B : List Node) (io : Bool) (fk : List Int) (t : Int) (out : List Int) : Prop := ∃ n, B[t.toNat]? = some n ∧
  ((n.op ≠ opN io ∧ out = [t]) ∨ (n.op = opN io ∧ (∃ x ∈ n.args, x ∈ fk) ∧ out = []) ∨ (n.op = opN io ∧ (∀ x ∈ n.args, x ∉ fk) ∧ ∃ rv, Joins B io (n.args.filter fun x => decide (negN x ∉ fk)) rv ∧ out = [rv]))
structure NodeOk (B : List Node) (io : Bool) (fk : List Int) (n : Node) : Prop where
  eq : n = ⟨opN io, n.args, 0⟩
  lit : ∀ x ∈ n.args, 3 ≤ x ∧ x ≤ 12
  nd : n.args.Nodup
  ng : ∀ x ∈ n.args, negN x ∉ n.args
  two : 2 ≤ n.args.length
  few : n.args.length < 60
  up : n.args.Pairwise (· ≤ ·)
  j : (∀ x ∈ n.args, x ∉ fk) → ∃ rv, Joins B io (n.args.filter fun x => decide (negN x ∉ fk)) rv
def JoinedOk (w : World) (bk : BkA) (B : List Node) (rx : Addr) (io : Bool) (k : Nat) : Prop := ∀ (A : Around) (s : Shared) (R : Result → Shared → Prop) (l : Addr) (xs : List Int) (rv : Int) (u : Tok), Gnd w s.heap → BankAt w s.heap bk B → RwI s.heap rx bk → Rm A k → IntL s.heap l xs → (∀ x ∈ xs, 3 ≤ x ∧ x ≤ 12) → xs.Nodup → (∀ x ∈ xs, negN x ∉ xs) → xs.length < 60 → xs.Pairwise (· ≤ ·) → Joins B io xs rv →
  (∀ s' t, Same s s' → Up s.heap s'.heap → R (.ok (.ret (.int rv t))) s') → codeAny (model pw w) A (.call (.ref 678) ⟨[.ref rx, .str (opN io) u, .ref l], []⟩) R s

theorem len_tuple_any {w : World} {A : Around} {E : Value → Shared → Prop} {s : Shared} {l : Addr} {vs : List Value} {Q : Value → Shared → Prop} (hl : s.heap.IsTuple l vs.toArray) (hf : vs.length < 1000)
    (h : ∀ s' t, Same s s' → s'.heap = s.heap → Q (.int vs.length t) s') : wpAny (model pw w) A (call (.builtin "len") [.ref l]) Q E s := by
  refine len_tuple hl (by simp; omega) ?_
  have := h ⟨s.heap, s.gens, s.drawn, s.toks + 1 + 1, s.os⟩ (s.toks + 1) ⟨rfl, rfl⟩ rfl
  simpa using this

theorem c_thinned {w : World} {A : Around} {s : Shared} {bk : BkA} {B : List Node} {R : Result → Shared → Prop} {k : Nat} {rx d : Addr} {o : Obj} {kvs : List (Int × Value)} {fk : List Int} {io : Bool} {u : Tok}
    (G : Gnd w s.heap) (Bk : BankAt w s.heap bk B) (hB : PB B) (hr : bk.ready = true) (RI : RwI s.heap rx bk) (r : Rm A (k + 4)) (hd : s.heap.get? d = some o) (hD : DictO (iK pw w) kvs o) (hfk : kvs.map (·.1) = fk) (lo : (d == sysModules) = false) (hn : fk.length < 60)
    (ht : ∀ t ∈ fk, 0 ≤ t ∧ ∃ n, B[t.toNat]? = some n ∧ (n.op = opN io → NodeOk B io fk n ∧ JoinedOk w bk B rx io (k + 3)))
    (h : ∀ s' a vs n ks outs, Same s s' → Up s.heap s'.heap → s.heap.get? a = none → s'.heap.get? a = some (lstO (List.toArray vs) n) → ks.Perm fk → ks.Pairwise (· ≤ ·) → Paired (ThinStep B io fk) ks outs → IntsAre vs outs.flatten → R (.ok (.ret (.ref a))) s') :
    codeAny (model pw w) A (.call (.ref 671) ⟨[.ref rx, .str (opN io) u, .ref d], []⟩) R s := by
  subst hfk
  rw [List.length_map] at hn
  refine' call1 (g := s.heap) (wl := []) (binds := [("self", .ref rx), ("other", .str (opN io) u), ("found", .ref d)]) G (Up.refl _) (by simp) (by simp) r (by k_is) (by k_is)
    (by exact BindsTo.of_eq rfl) (by exact rfl) (by decide +kernel) ?_ (by exact rfl) (by exact rfl) (by exact rfl)
  intro A' L s₁ cells q r' S U₁ hL hcells hC
  have hC' : CellsAre _ [(Str.ofString "found", L + 1 + 1), (Str.ofString "self", L + 1)] cells := hC
  obtain ⟨o2, o1, rfl, d2, d1⟩ := hC'.two
  replace d2 : o2.data = .cell (some (.ref d)) := d2
  replace d1 : o1.data = .cell (some (.ref rx)) := d1
  have S₁ := Sd.cells2 S hL (hcells (L + 1 + 1, o2) (by simp)) (hcells (L + 1, o1) (by simp))
  clear S hC hC' hcells
  refine Sd.root' (S₁) fun gF UgF c2 S₂ => ?_
  refine Sd.root' (S₂) fun gG UgG c1 S₃ => ?_
  clear S₁ S₂
  replace c2 := UgG _ _ c2
  have UG := UgF.trans UgG
  replace G := G.up UG
  k_unmd
  walk_at "V"
  refine r_list (fun s₄ K q₄ fK U₄ eK => ?_) (by exact (by decide : 0 ≤ sizeLine))
  have fKs : s.heap.get? K = none := by
    cases y : s.heap.get? K with
    | none => rfl
    | some o => rw [S₃.up _ _ (UG _ _ y)] at fK; cases fK
  have S₄ := S₃.add fK U₄ eK
  clear S₃
  refine r_st S₄ (fun s₅ q₅ S₅ hs₅ => ?_) (by exact rfl) (by exact rfl) (by exact rfl)
  clear S₄
  walk_at "S"
  refine wpAny_For ?_ (by intro _; rfl)
  walk_at "V"
  refine r_cell (S₅.up _ _ c2) d2 ?_ (by exact rfl) (by exact rfl) (by exact rfl) (by decide)
  walk_at "V"
  refine r_sorted_dict r'.handled (hD.at (S₅.up _ _ (UG _ _ hd))) lo (by omega) fun s₆ SL vsS ks nS q₆ fSL U₆ eSL hIS hpm hsr => ?_
  have S₆ := S₅.add fSL U₆ eSL
  clear S₅
  refine Sd.root' (S₆) fun gH UgH eSL' S₇ => ?_
  clear S₆
  replace G := G.up UgH
  replace c1 := UgH _ _ c1
  replace c2 := UgH _ _ c2
  replace UG := UG.trans UgH
  have hkl : ks.length = kvs.length := by rw [hpm.length_eq, List.length_map]
  have hvl := hIS.length
  refine r_for_list r'.handled S₇ (lst_is eSL') (fun i g₁ m news => ∃ outs vsK nK, news = [(K, lstO (List.toArray vsK) nK)] ∧ Paired (ThinStep B io (kvs.map (·.1))) (ks.take i) outs ∧ IntsAre vsK outs.flatten ∧ outs.flatten.length ≤ i ∧ m "other" = some (.str (opN io) u) ∧ m "kept" = some (.ref K))
    ⟨[], [], _, rfl, .nil, .nil, by simp, rfl, rfl⟩ rfl rfl rfl ?_ ?_
  · rintro I i v g₁ m₁ news₁ s₇ oI hi hv ⟨outs, vsK, nK, rfl, hP, hIK, hol, m1, m2⟩ Ug₁ q₇ S₈
    have hi' : i < ks.length := by simp at hi; omega
    obtain ⟨tv, htv⟩ := hIS.get i ks[i] (List.getElem?_eq_getElem hi')
    have hv' : v = .int ks[i] tv := by simp at hv; rw [hv] at htv; exact Option.some.inj htv
    subst hv'
    obtain ⟨t0, n, hnB, hnk⟩ := ht ks[i] (hpm.mem_iff.mp (List.getElem_mem hi'))
    replace G := G.up Ug₁
    replace c1 := Ug₁ _ _ c1
    replace c2 := Ug₁ _ _ c2
    have UX := UG.trans Ug₁
    have hvK := hIK.length
    have step : ∀ out, ThinStep B io (kvs.map (·.1)) ks[i] out → Paired (ThinStep B io (kvs.map (·.1))) (ks.take (i + 1)) (outs ++ [out]) := fun out ho => by
      rw [take_snoc (List.getElem?_eq_getElem hi')]
      exact hP.snoc ho
    walk_at "V"
    refine r_cell (S₈.up _ _ c1) d1 ?_ (by exact rfl) (by exact rfl) (by exact rfl) (by decide)
    refine w_bank G S₈.up (RI.up UX) ?_
    refine b_meth (f := 201) G S₈.up (Bk.I.up UX) (by decide) (by k_is) (by k_is) (by k_is) ?_
    walk_at "C"
    refine c_opB (k := k) (G.up S₈.up) ((Bk.up UX).up S₈.up) (r'.less (by omega)) t0 hnB fun s₈ t₈ q₈ U₈ => ?_
    have S₉ := S₈.grown U₈
    clear S₈
    dsimp only
    walk_at "V"
    refine ne_str ?_
    walk_at "V"
    by_cases hop : n.op = opN io
    · rw [if_neg (by simpa using hop)]
      obtain ⟨hN, hJ⟩ := hnk hop
      walk_at "V"
      refine isTrue_plain ?_
      walk_at "V"
      refine r_comp [(Str.ofString "found", L + 1 + 1)] (by with_unfolding_all rfl) (by exact rfl) (by decide) (by intro _; rfl) ?_
      walk_at "V"
      refine r_cell (S₉.up _ _ c1) d1 ?_ (by exact rfl) (by exact rfl) (by exact rfl) (by decide)
      refine w_bank G S₉.up (RI.up UX) ?_
      refine b_meth (f := 208) G S₉.up (Bk.I.up UX) (by decide) (by k_is) (by k_is) (by k_is) ?_
      walk_at "C"
      refine c_argsB (k := k) (G.up S₉.up) S₉.up (Bk.up UX) (r'.less (by omega)) t0 hnB fun s₁₀ aa vsA q₁₀ U₁₀ hT hA => ?_
      have S₁₀ := S₉.grown U₁₀
      clear S₉
      have hAl := hA.length
      have few := hN.few
      have two := hN.two
      dsimp only
      refine cf_tuple none (by intro _; rfl) (by intro _; rfl) r'.handled S₁₀ hT (fun j acc news => [(I, oI), (K, lstO (List.toArray vsK) nK)] = news ∧ acc = (n.args.take j).map fun x => Value.bool (decide (x ∈ kvs.map (·.1)))) ⟨rfl, rfl⟩ (fun j acc news ⟨_, e⟩ => by rw [e]; simp; omega) (by simp; omega) ?_ ?_
      · rintro g₂ C D I₂ nD j v mC acc cw news₁ s₁₁ oI₂ Ug₂ hnL hj hv₂ ⟨rfl, rfl⟩ rfl q₁₁ S₁₁
        have hj' : j < n.args.length := by simp at hj; omega
        obtain ⟨tx, htx⟩ := hA.get j n.args[j] (List.getElem?_eq_getElem hj')
        have hv' : v = .int n.args[j] tx := by simp at hv₂; rw [hv₂] at htx; exact Option.some.inj htx
        subst hv'
        unfold CTurn
        refine wpAny_pure ?_
        refine wpAny_assign_Name (r_st S₁₁ (fun s₁₂ q₁₂ S₁₂ hs₁₂ => ?_) (by exact rfl) (by exact rfl) (by exact rfl))
        refine wpAny_tests_nil ?_
        rw [if_pos rfl]
        clear S₁₁
        walk_at "V"
        refine r_cell (S₁₂.up _ _ (Ug₂ _ _ c2)) d2 ?_ (by exact rfl) (by exact rfl) (by exact rfl) (by decide)
        refine r_in_dict (hD.at (S₁₂.up _ _ (Ug₂ _ _ (UX _ _ hd)))) lo fun s₁₃ q₁₃ e₁₃ => ?_
        rw [← e₁₃] at S₁₂
        refine ⟨_, [], _, rfl, by walk_at "Q", S₁₂, rfl, ?_⟩
        rw [take_snoc (List.getElem?_eq_getElem hj'), List.map_append]
        rfl
      · rintro D nD acc news' s₁₁ q₁₁ S₁₁ ⟨rfl, rfl⟩
        rw [show (List.toArray vsA).size = n.args.length by simp [hAl], List.take_length, show (n.args.map fun x => Value.bool (decide (x ∈ kvs.map (·.1)))) = (n.args.map fun x => decide (x ∈ kvs.map (·.1))).map Value.bool by simp] at S₁₁
        walk_at "V"
        refine r_any r'.handled (BoolL.of (S₁₁.get (.head _))) fun s₁₂ q₁₂ U₁₂ => ?_
        have S₁₂ := (S₁₁.sub (List.sublist_cons_self _ _)).grown U₁₂
        clear S₁₁
        walk_at "V"
        by_cases hany : ∃ x ∈ n.args, x ∈ kvs.map (·.1)
        · rw [if_pos (by obtain ⟨x, h1, h2⟩ := hany; exact decide_eq_true (List.mem_map.mpr ⟨x, h1, decide_eq_true h2⟩))]
          walk_at "V"
          refine wpAny_Continue ?_
          refine ⟨.inr rfl, g₁, _, _, Up.refl _, by walk_at "Q", S₁₂, outs ++ [[]], _, _, rfl, step _ ⟨n, hnB, .inr (.inl ⟨hop, hany, rfl⟩)⟩, ?_, by simp at hol ⊢; omega, m1, m2⟩
          rw [List.flatten_append]
          simpa using hIK
        have hno : ∀ x ∈ n.args, x ∉ kvs.map (·.1) := fun x h1 h2 => hany ⟨x, h1, h2⟩
        rw [if_neg (by
          intro e
          obtain ⟨x, h1, h2⟩ := List.mem_map.mp (of_decide_eq_true e)
          exact hno x h1 (of_decide_eq_true h2))]
        obtain ⟨rv, hrv⟩ := hN.j hno
        walk_at "V"
        refine r_compA [(Str.ofString "self", L + 1), (Str.ofString "found", L + 1 + 1)] (by with_unfolding_all rfl) (by with_unfolding_all rfl) (by exact rfl) (by decide) (by intro _; rfl) ?_
        walk_at "V"
        refine r_cell (S₁₂.up _ _ c1) d1 ?_ (by exact rfl) (by exact rfl) (by exact rfl) (by decide)
        refine w_bank G S₁₂.up (RI.up UX) ?_
        refine b_meth (f := 208) G S₁₂.up (Bk.I.up UX) (by decide) (by k_is) (by k_is) (by k_is) ?_
        walk_at "C"
        refine c_argsB (k := k) (G.up S₁₂.up) S₁₂.up (Bk.up UX) (r'.less (by omega)) t0 hnB fun s₁₃ aa₂ vsA₂ q₁₃ U₁₃ hT₂ hA₂ => ?_
        have S₁₃ := S₁₂.grown U₁₃
        clear S₁₂
        have hAl₂ := hA₂.length
        dsimp only
        refine cfU_tuple none (by intro _; rfl) (by intro _; rfl) r'.handled S₁₃ hT₂ (fun j acc news => [(I, oI), (K, lstO (List.toArray vsK) nK)] = news ∧ IntsAre acc ((n.args.take j).filter fun x => decide (negN x ∉ kvs.map (·.1)))) ⟨rfl, .nil⟩
          (fun j acc news ⟨_, e⟩ => by have := e.length; have h2 := List.length_filter_le (fun x => decide (negN x ∉ kvs.map (·.1))) (n.args.take j); rw [List.length_take] at h2; omega) (by simp; omega) ?_ ?_
        · rintro g₂ C D₂ I₂ nD₂ j v mC acc cw news₁ s₁₄ oI₂ Ug₂ hnL hj hv₂ ⟨rfl, hia⟩ rfl q₁₄ S₁₄
          have hj' : j < n.args.length := by simp at hj; omega
          obtain ⟨tx, htx⟩ := hA₂.get j n.args[j] (List.getElem?_eq_getElem hj')
          have hv' : v = .int n.args[j] tx := by simp at hv₂; rw [hv₂] at htx; exact Option.some.inj htx
          subst hv'
          have hl := hN.lit _ (List.getElem_mem hj')
          have UX₂ := UX.trans Ug₂
          have G₂ := G.up Ug₂
          clear G
          unfold CTurn
          refine wpAny_pure ?_
          refine wpAny_assign_Name (r_st S₁₄ (fun s₁₅ q₁₅ S₁₅ hs₁₅ => ?_) (by exact rfl) (by exact rfl) (by exact rfl))
          refine wpAny_tests_one ?_
          clear S₁₄
          walk_at "V"
          refine r_cell (S₁₅.up _ _ (Ug₂ _ _ c1)) d1 ?_ (by exact rfl) (by exact rfl) (by exact rfl) (by decide)
          refine w_bank G₂ S₁₅.up (RI.up UX₂) ?_
          refine b_meth (f := 327) G₂ S₁₅.up (Bk.I.up UX₂) (by decide) (by k_is) (by k_is) (by k_is) ?_
          walk_at "C"
          refine c_neg (k := k) (G₂.up S₁₅.up) ((Bk.up UX₂).up S₁₅.up) hB hr (r'.less (by omega)) hl.1 hl.2 fun s₁₆ t₁₆ q₁₆ U₁₆ => ?_
          have S₁₆ := S₁₅.grown U₁₆
          clear S₁₅
          dsimp only
          walk_at "V"
          refine r_cell (S₁₆.up _ _ (Ug₂ _ _ c2)) d2 ?_ (by exact rfl) (by exact rfl) (by exact rfl) (by decide)
          refine r_notin_dict (hD.at (S₁₆.up _ _ (UX₂ _ _ hd))) lo fun s₁₇ q₁₇ e₁₇ => ?_
          rw [← e₁₇] at S₁₆
          walk_at "V"
          cases hp : decide (negN n.args[j] ∉ kvs.map (·.1)) with
          | true =>
            rw [if_pos rfl]
            walk_at "V"
            refine ⟨_, [], _, rfl, by walk_at "Q", S₁₆, rfl, ?_⟩
            rw [filter_take (List.getElem?_eq_getElem hj'), hp, if_pos rfl]
            exact ints_snoc hia
          | false =>
            rw [if_neg (by decide)]
            refine ⟨_, [], _, rfl, by walk_at "Q", S₁₆, rfl, ?_⟩
            rw [filter_take (List.getElem?_eq_getElem hj'), hp, if_neg (by decide), List.append_nil]
            exact hia
        · rintro D₂ nD₂ acc news₂ s₁₄ C₂ oC₂ mC₂ q₁₄ S₁₄ hC₂ ⟨rfl, hia⟩
          rw [show (List.toArray vsA₂).size = n.args.length by simp [hAl₂], List.take_length] at hia
          refine r_useA S₁₄ hC₂ (by exact rfl) (by exact rfl) (by exact rfl) fun s₁₅ q₁₅ S₁₅ => ?_
          clear S₁₄ hC₂
          generalize hleft : (n.args.filter fun x => decide (negN x ∉ kvs.map (·.1))) = left at *
          have hll := hia.length
          have hlsub : ∀ x ∈ left, x ∈ n.args := fun x hm => by rw [← hleft] at hm; exact (List.mem_filter.mp hm).1
          have hlle : left.length ≤ n.args.length := by rw [← hleft]; exact List.length_filter_le _ _
          have st3 : ThinStep B io (kvs.map (·.1)) ks[i] [rv] := ⟨n, hnB, .inr (.inr ⟨hop, hno, rv, by rw [hleft]; exact hrv, rfl⟩)⟩
          try dsimp only
          walk_at "V"
          refine m_append (S₁₅.get (a := K) (o := lstO vsK.toArray nK) (by simp)) ?_
          walk_at "V"
          refine len_list_any (lst_is (S₁₅.get (.head _))) (by simp; omega) fun s₁₆ t₁₆ q₁₆ e₁₆ => ?_
          rw [← e₁₆] at S₁₅
          walk_at "V"
          refine r_cell (S₁₅.up _ _ c1) d1 ?_ (by exact rfl) (by exact rfl) (by exact rfl) (by decide)
          refine w_bank G S₁₅.up (RI.up UX) ?_
          refine b_meth (f := 208) G S₁₅.up (Bk.I.up UX) (by decide) (by k_is) (by k_is) (by k_is) ?_
          walk_at "C"
          refine c_argsB (k := k) (G.up S₁₅.up) S₁₅.up (Bk.up UX) (r'.less (by omega)) t0 hnB fun s₁₇ aa₃ vsA₃ q₁₇ U₁₇ hT₃ hA₃ => ?_
          have S₁₆ := S₁₅.grown U₁₇
          clear S₁₅
          have hAl₃ := hA₃.length
          dsimp only
          walk_at "V"
          refine len_tuple_any (hT₃.at fun o e => S₁₆.up _ _ e) (by omega) fun s₁₈ t₁₈ q₁₈ e₁₈ => ?_
          rw [← e₁₈] at S₁₆
          walk_at "V"
          by_cases hle : left.length = n.args.length
          · rw [if_pos (by simp; omega)]
            have e0 : left = n.args := by rw [← hleft]; exact List.filter_eq_self.mpr (by
              rw [← hleft] at hle
              exact List.length_filter_eq_length_iff.mp hle)
            have pos : 0 < ks[i].toNat := by
              refine Nat.pos_of_ne_zero fun z => ?_
              rw [z, hB 0 _ rfl] at hnB
              rw [← Option.some.inj hnB] at hop
              revert hop; cases io <;> decide
            have hj0 : Joins B io left ks[i] := by
              rw [e0]
              exact .inr (.inr ⟨two, ks[i].toNat, pos, by rw [hnB, hN.eq], by omega⟩)
            walk_at "V"
            refine r_append S₁₆.front3 (fun s₁₉ n₁₉ q₁₉ S₁₉ hs₁₉ => ?_) (by simp [sizeLine]; omega)
            clear S₁₆
            rw [show vsK.toArray.push (Value.int ks[i] tv) = (vsK ++ [(Value.int ks[i] tv)]).toArray by simp] at S₁₉
            walk_at "V"
            refine ⟨.inl rfl, g₁, _, _, Up.refl _, by walk_at "Q", S₁₉.front3.sub (.cons₂ _ (.cons₂ _ (List.nil_sublist _))), outs ++ [[ks[i]]], _, _, rfl, step _ ⟨n, hnB, .inr (.inr ⟨hop, hno, ks[i], by rw [hleft]; exact hj0, rfl⟩)⟩, ?_, by simp at hol ⊢; omega, m1, m2⟩
            rw [List.flatten_append, List.flatten_singleton]
            exact ints_snoc hIK
          · rw [if_neg (by simp; omega)]
            walk_at "V"
            refine r_cell (S₁₆.up _ _ c1) d1 ?_ (by exact rfl) (by exact rfl) (by exact rfl) (by decide)
            refine w_meth (f := 678) G S₁₆.up (RI.up UX) (by decide) (by k_is) (by k_is) (by k_is) ?_
            walk_at "C"
            refine hJ _ _ _ D₂ left rv _ (G.up S₁₆.up) ((Bk.up UX).up S₁₆.up) ((RI.up UX).up S₁₆.up) r' ⟨acc, lst_is (S₁₆.get (.head _)), hia⟩ (fun x hm => hN.lit x (hlsub x hm)) (by rw [← hleft]; exact hN.nd.filter _) (fun x hm h2 => hN.ng x (hlsub x hm) (hlsub _ h2)) (by omega) (by rw [← hleft]; exact hN.up.filter _) hrv fun s₁₉ t₁₉ q₁₉ U₁₉ => ?_
            have S₁₇ := S₁₆.grown U₁₉
            clear S₁₆
            dsimp only
            walk_at "V"
            refine r_append S₁₇.front3 (fun s₁₉ n₁₉ q₁₉ S₁₉ hs₁₉ => ?_) (by simp [sizeLine]; omega)
            clear S₁₇
            rw [show vsK.toArray.push (Value.int rv t₁₉) = (vsK ++ [(Value.int rv t₁₉)]).toArray by simp] at S₁₉
            walk_at "V"
            refine ⟨.inl rfl, g₁, _, _, Up.refl _, by walk_at "Q", S₁₉.front3.sub (.cons₂ _ (.cons₂ _ (List.nil_sublist _))), outs ++ [[rv]], _, _, rfl, step _ st3, ?_, by simp at hol ⊢; omega, m1, m2⟩
            rw [List.flatten_append, List.flatten_singleton]
            exact ints_snoc hIK
    · rw [if_pos (by simpa using hop)]
      walk_at "V"
      refine m_append (S₉.get (a := K) (o := lstO vsK.toArray nK) (by simp)) ?_
      walk_at "V"
      refine r_append S₉.front2 (fun s₁₀ n₁₀ q₁₀ S₁₀ hs₁₀ => ?_) (by simp [sizeLine]; omega)
      clear S₉
      rw [show vsK.toArray.push (Value.int ks[i] tv) = (vsK ++ [Value.int ks[i] tv]).toArray by simp] at S₁₀
      walk_at "V"
      refine wpAny_Continue ?_
      refine ⟨.inr rfl, g₁, _, _, Up.refl _, by walk_at "Q", S₁₀.front2, outs ++ [[ks[i]]], _, _, rfl, step _ ⟨n, hnB, .inl ⟨hop, rfl⟩⟩, ?_, by simp at hol ⊢; omega, m1, m2⟩
      rw [List.flatten_append, List.flatten_singleton]
      exact ints_snoc hIK
  · rintro g₁ m₁ news₁ s₇ q₇ Ug₁ S₈ ⟨outs, vsK, nK, rfl, hP, hIK, hol, m1, m2⟩
    walk_at "V"
    rw [show (List.toArray vsS).size = ks.length by simp [hvl], List.take_length] at hP
    exact h _ K vsK nK ks outs (by walk_at "Q") ((UG.trans Ug₁).trans S₈.up) fKs (S₈.get (.head _)) hpm hsr hP hIK
theorem thin_plain {B : List Node} {io : Bool} {fk : List Int} : ∀ {ks : List Int} {outs : List (List Int)}, Paired (ThinStep B io fk) ks outs → (∀ t ∈ ks, ∃ n, B[t.toNat]? = some n ∧ n.op ≠ opN io) → outs.flatten = ks := fun {ks outs} p => by
  induction p with
  | nil => intro _; rfl
  | @cons t out ks outs h _ ih =>
    intro hk
    obtain ⟨n, hn, hno⟩ := hk t (.head _)
    obtain ⟨n', hn', hc⟩ := h
    rw [hn] at hn'; cases hn'
    rcases hc with ⟨_, rfl⟩ | ⟨e, _⟩ | ⟨e, _⟩
    · rw [List.flatten_cons, ih fun t ht => hk t (.tail _ ht)]; rfl
    · exact absurd e hno
    · exact absurd e hno
theorem sort_eq {a b : List Int} (hp : a.Perm b) (ha : a.Pairwise (· ≤ ·)) (hb : b.Pairwise (· ≤ ·)) : a = b :=
  List.Perm.eq_of_pairwise (le := (· ≤ ·)) (fun x y _ _ h1 h2 => Int.le_antisymm h1 h2) ha hb hp

theorem c_joined {w : World} {bk : BkA} {B : List Node} {rx : Addr} {io : Bool} {k : Nat} (hB : PB B) (hr : bk.ready = true) : JoinedOk w bk B rx io (k + 5) := by
  intro A s R l xs rv u G Bk RI r hl hx hnd hng hn hs hj h
  refine' call0 (g := s.heap) (wl := []) (binds := [("self", .ref rx), ("op", .str (opN io) u), ("some", .ref l)]) G (Up.refl _) (by simp) (by simp) r (by k_is) (by k_is) (by exact BindsTo.of_eq rfl) (by exact locs rfl) ?_ (by exact rfl) (by exact rfl) (by exact rfl) (by decide)
  intro A' L s₁ q r' S U₁ fr
  k_unmd
  walk_at "S"
  refine Assign_Tuple ?_
  refine wpAny_mono (Q := fun v s' => ∃ T a ta tb, v = .ref T ∧ s'.heap.IsTuple T #[.int a ta, .str (opN (!io)) tb] ∧ Same s s' ∧ Sd s.heap L (fun y => List.lookup y ([("self", Value.ref rx), ("op", .str (opN io) u), ("some", .ref l)] : List (Str × Value)).reverse) [] s'.heap) ?_ (fun v s₂ h₂ => ?_) fun _ _ e => e
  · walk_at "V"
    cases io with
    | true =>
      rw [if_neg (by decide)]
      walk_at "V"
      refine w_yes G S.up RI fun t1 => ?_
      walk_at "V"
      refine r_tuple (fun s₂ T q₂ fT UT eT => ?_) (by exact (by decide : 2 ≤ sizeLine))
      exact ⟨T, _, _, _, rfl, ⟨_, eT, rfl, _, rfl⟩, by walk_at "Q", S.grown UT⟩
    | false =>
      rw [if_pos (by decide)]
      walk_at "V"
      refine w_no G S.up RI fun t1 => ?_
      walk_at "V"
      refine r_tuple (fun s₂ T q₂ fT UT eT => ?_) (by exact (by decide : 2 ≤ sizeLine))
      exact ⟨T, _, _, _, rfl, ⟨_, eT, rfl, _, rfl⟩, by walk_at "Q", S.grown UT⟩
  obtain ⟨T, ua, ta, tb, rfl, hT, q₂, S₂⟩ := h₂
  clear S
  refine r_assign2 r'.handled hT (fun s₃ q₃ U₃ => ?_) (by exact rfl)
  have S₃ := S₂.grown U₃
  clear S₂ hT
  refine wpAny_assign_Name (r_st S₃ (fun s₄ q₄ S₄ hs₄ => ?_) (by exact rfl) (by exact rfl) (by exact rfl))
  refine wpAny_assign_Name (r_st S₄ (fun s₅ q₅ S₅ hs₅ => ?_) (by exact rfl) (by exact rfl) (by exact rfl))
  clear S₃ S₄
  walk_at "V"
  refine w_meth (f := 666) G S₅.up RI (by decide) (by k_is) (by k_is) (by k_is) ?_
  walk_at "C"
  refine c_flat (k := k + 1) (G.up S₅.up) (Bk.up S₅.up) hB hr (RI.up S₅.up) r' (hl.up S₅.up) hx hnd hng (by omega) fun s₆ d o kvs q₆ U₆ fd lo ed hD hkv => ?_
  have S₆ := S₅.add fd U₆ ed
  clear S₅
  dsimp only
  walk_at "V"
  refine r_st S₆ (fun s₇ q₇ S₇ hs₇ => ?_) (by exact rfl) (by exact rfl) (by exact rfl)
  clear S₆ ed
  walk_at "S"
  refine wpAny_While ?_
  refine codeAny_whileLoop (fun kk s' => s' = s₇) ?_ 0 rfl
  rintro kk s' rfl
  walk_at "V"
  refine wpAny_isNot_other (by rfl) (by simp) ?_
  walk_at "V"
  rw [if_pos rfl]
  walk_at "V"
  refine w_meth (f := 671) G S₇.up RI (by decide) (by k_is) (by k_is) (by k_is) ?_
  walk_at "C"
  have hlk := congrArg List.length hkv
  rw [List.length_map] at hlk
  refine c_thinned (k := k) (io := !io) (fk := xs) (G.up S₇.up) (Bk.up S₇.up) hB hr (RI.up S₇.up) r' (S₇.get (.head _)) hD hkv lo hn (fun t ht => ?_) fun s₈ a vs n ks outs q₈ U₈ fa ea hpm hsr hP hIo => ?_
  · obtain ⟨n, hn, h1, h2⟩ := lit_node hB (hx t ht).1 (hx t ht).2
    exact ⟨by have := hx t ht; omega, n, hn, fun e => by cases io <;> first | exact absurd e h1 | exact absurd e h2⟩
  have ek : ks = xs := sort_eq hpm hsr hs
  subst ek
  have eo : outs.flatten = ks := thin_plain hP fun t ht => by
    obtain ⟨n, hn, h1, h2⟩ := lit_node hB (hx t ht).1 (hx t ht).2
    exact ⟨n, hn, by cases io <;> assumption⟩
  rw [eo] at hIo
  have S₈ := S₇.add fa U₈ ea
  clear S₇
  dsimp only
  walk_at "V"
  refine r_st S₈ (fun s₉ q₉ S₉ hs₉ => ?_) (by exact rfl) (by exact rfl) (by exact rfl)
  clear S₈
  walk_at "V"
  refine r_sorted_dict r'.handled (hD.at (S₉.get (a := d) (o := o) (by simp))) lo (by omega) fun s₁₀ a₂ vs₂ ks₂ n₂ q₁₀ fa₂ U₁₀ ea₂ hI₂ hpm₂ hsr₂ => ?_
  have S₁₀ := S₉.grown U₁₀
  clear S₉
  have ek₂ : ks₂ = ks := sort_eq (hkv ▸ hpm₂) hsr₂ hs
  subst ek₂
  walk_at "V"
  refine r_eq_list r'.cl' (lst_is (S₁₀.get (a := a) (o := lstO vs.toArray n) (by simp))) (lst_is ea₂) (EqVia.ints hIo hI₂) ?_
  walk_at "V"
  rw [if_pos (by simp)]
  have hIL : ∀ {s' : Shared} {m nw}, Sd s.heap L m ((a, lstO vs.toArray n) :: nw) s'.heap → IntL s'.heap a ks₂ := fun S => ⟨vs, lst_is (S.get (.head _)), hIo⟩
  have hlen : ∀ x ∈ ks₂, 0 ≤ x ∧ x.toNat < B.length := fun x hm => by
    obtain ⟨nn, hnn, _⟩ := lit_node hB (hx x hm).1 (hx x hm).2
    have := (List.getElem?_eq_some_iff.mp hnn).1
    have := hx x hm
    exact ⟨by omega, by omega⟩
  walk_at "V"
  cases io with
  | true =>
    rw [if_neg (by decide)]
    walk_at "V"
    refine w_bank G S₁₀.up RI ?_
    refine b_meth (f := 341) G S₁₀.up Bk.I (by decide) (by k_is) (by k_is) (by k_is) ?_
    walk_at "C"
    exact c_or_old (k := k + 1) (G.up S₁₀.up) (Bk.up S₁₀.up) hr r' (hIL S₁₀) hlen (by omega) hj fun s₁₁ t₁₁ q₁₁ U₁₁ => h s₁₁ t₁₁ (by walk_at "Q") (S₁₀.up.trans U₁₁)
  | false =>
    rw [if_pos (by decide)]
    walk_at "V"
    refine w_bank G S₁₀.up RI ?_
    refine b_meth (f := 334) G S₁₀.up Bk.I (by decide) (by k_is) (by k_is) (by k_is) ?_
    walk_at "C"
    exact c_and_old (k := k + 1) (G.up S₁₀.up) (Bk.up S₁₀.up) hr r' (hIL S₁₀) hlen (by omega) hj fun s₁₁ t₁₁ q₁₁ U₁₁ => h s₁₁ t₁₁ (by walk_at "Q") (S₁₀.up.trans U₁₁)
theorem Sd.names {g h : Heap} {L : Addr} {m : Str → Option Value} {n : List (Addr × Obj)} (S : Sd g L m n h) (xs : List (Str × Value)) (hx : ∀ p ∈ xs, m p.1 = some p.2) : ∃ m', Sd g L m' n h ∧ ∀ p ∈ xs, m' p.1 = some p.2 := ⟨m, S, hx⟩
/-- a world in which the singles hold -/
abbrev okW (io : Bool) (rows : List (Int × List Bool)) (v : Nat) : Bool := decide (rows.filter (fun x => unW io x.2 v) = [])
section
variable {g g' h h' : Heap} {L : Addr} {m : Str → Option Value}
theorem grow_off {b : Addr} {o : Obj} (Gr : Grow g h g' h') (e : h.get? b = some o) (e' : g.get? b = none) : g'.get? b = none := by
  cases q : g'.get? b with
  | none => rfl
  | some x =>
    rcases Gr.fresh b x q with ⟨_, z⟩ | z
    · rw [e'] at z; cases z
    · rw [e] at z; cases z
theorem Sd.joinG {new news : List (Addr × Obj)} (S : Sd g L m news h) (U : Up h h') (Gr : Grow g h g' h') (hn : ∀ p ∈ new, h'.get? p.1 = some p.2 ∧ h.get? p.1 = none ∧ g'.get? p.1 = none) (nd : (new.map (·.1)).Nodup) : Sd g' L m (new ++ news) h' := by
  obtain ⟨oL, es, ep, hL, r⟩ := S.ns
  refine ⟨⟨oL, es, ep, U _ _ hL, r⟩, Gr.up, grow_off Gr hL S.off, fun p hp => ?_, ?_⟩
  · rcases List.mem_append.mp hp with hp | hp
    · refine ⟨(hn p hp).1, fun e => ?_, (hn p hp).2.2⟩
      have := (hn p hp).2.1
      rw [e, hL] at this; cases this
    · have z := S.nw p hp
      exact ⟨U _ _ z.1, z.2.1, grow_off Gr z.1 z.2.2⟩
  · rw [List.map_append, List.nodup_append]
    refine ⟨nd, S.nd, fun a ha b hb e => ?_⟩
    obtain ⟨p, hp, rfl⟩ := List.mem_map.mp ha
    obtain ⟨p', hp', rfl⟩ := List.mem_map.mp hb
    have := (hn p hp).2.1
    rw [e, (S.nw p' hp').1] at this; cases this
theorem Sd.effD {wl wl' fl rest : List (Addr × Obj)} (S : Sd g L m (wl ++ (fl ++ rest)) h) (E : Eff ((wl ++ fl).map (·.1)) h h') (em : wl'.map (·.1) = wl.map (·.1)) (ew : ∀ p ∈ wl', h'.get? p.1 = some p.2) (Gr : Grow g h g' h') : Sd g' L m (wl' ++ rest) h' := by
  obtain ⟨oL, es, ep, hL, r⟩ := S.ns
  have nd := S.nd
  simp only [List.map_append] at nd
  have n1 := List.nodup_append.mp nd
  have n2 := List.nodup_append.mp n1.2.1
  have hLW : L ∉ (wl ++ fl).map (·.1) := fun hm => by
    obtain ⟨p, hp, e⟩ := List.mem_map.mp hm
    exact (S.nw p (by rw [← List.append_assoc]; exact List.mem_append_left _ hp)).2.1 e
  refine ⟨⟨oL, es, ep, E.ext L oL hLW hL, r⟩, Gr.up, grow_off Gr hL S.off, fun p hp => ?_, ?_⟩
  · rcases List.mem_append.mp hp with hp | hp
    · have : p.1 ∈ wl.map (·.1) := em ▸ List.mem_map_of_mem hp
      obtain ⟨q, hq, e⟩ := List.mem_map.mp this
      have hq' := S.nw q (List.mem_append_left _ hq)
      exact ⟨ew p hp, e ▸ hq'.2.1, e ▸ grow_off Gr hq'.1 hq'.2.2⟩
    · have hp' := S.nw p (List.mem_append_right _ (List.mem_append_right _ hp))
      refine ⟨E.ext _ _ (fun hm => ?_) hp'.1, hp'.2.1, grow_off Gr hp'.1 hp'.2.2⟩
      rw [List.map_append] at hm
      rcases List.mem_append.mp hm with hm | hm
      · exact n1.2.2 _ hm _ (List.mem_append_right _ (List.mem_map_of_mem hp)) rfl
      · exact n2.2.2 _ hm _ (List.mem_map_of_mem hp) rfl
  · rw [List.map_append, em, List.nodup_append]
    exact ⟨n1.1, n2.2.1, fun a ha b hb => n1.2.2 a ha b (List.mem_append_right _ hb)⟩
end
section
variable {w : World} {A : Around} {E : Value → Shared → Prop} {s : Shared}
theorem r_slice60 {value slice : PySem.Expr} {l sl : Addr} {vs : List Value} {ns : List Int} {t : Tok} {Q : Value → Shared → Prop} (hl : s.heap.IsList l vs.toArray) (hi : IntsAre vs ns) (hs : s.heap.IsSliceOf sl .none (.int 60 t) .none) (hn : vs.length < 1000)
    (h : ∀ s' a vs' n, Same s s' → s.heap.get? a = none → Up s.heap s'.heap → s'.heap.get? a = some (lstO (List.toArray vs') n) → IntsAre vs' (ns.take 60) → Q (.ref a) s')
    (hsub : subscripted slice false (.ref l) (.ref sl) = operate [.ref sl, .ref l] (getItem (.ref l) (.ref sl))) (ht : ∀ r, letTemporaryGo value (.ref l) r = pure ()) :
    wpAny (model pw w) A (subscriptTail value slice (.ref l) (.ref sl)) Q E s := by
  have z : sizeLine = 16777216 := rfl
  refine subscriptTail_ops hl.typeIs list_getitem_lookup (wpAny_getItem_list_slice hl hs .none (.int 60 t) .none (by simp) ?_ (by rw [z]; simp; omega)) hsub ht
  exact h ⟨_, _, _, _, _⟩ _ (slicePick vs.toArray none (some 60) none).toList 0 ⟨rfl, rfl⟩ (size_none _) (Up.push _ _) (by rw [Array.toArray_toList]; exact Heap.get?_push_size _ rfl) (slice_ints_uptoW hi (by decide))
theorem r_sliceTo {env : Env} {i : Int} {kd : Nat} {p1 p : Pos} {Q : Value → Shared → Prop} (h : ∀ s' sl t, Same s s' → Up s.heap s'.heap → s'.heap.IsSliceOf sl .none (.int i t) .none → Q (.ref sl) s') :
    wpAny (model pw w) A (eval (.Slice none (some (.Constant (.int i) kd p1)) none p) env) Q E s := by
  refine wpAny_Slice ?_
  show wpAny _ _ (pure Value.none) _ _ _
  refine wpAny_pure ?_
  show wpAny _ _ (eval (.Constant (.int i) kd p1) env) _ _ _
  refine wpAny_Constant_int ?_
  show wpAny _ _ (pure Value.none) _ _ _
  refine wpAny_pure ?_
  exact h ⟨_, _, _, _, _⟩ _ _ ⟨rfl, rfl⟩ (Up.push _ _) (Heap.IsSliceOf.new _ _ _ _)
theorem r_pairs_cons {k v : Sem Value} {rest : List (Sem Value × Sem Value)} {Q : List (Value × Value) → Shared → Prop} (h : wpAny (model pw w) A k (fun kv s₁ => wpAny (model pw w) A v (fun vv s₂ => wpAny (model pw w) A (evalPairs rest) (fun r s₃ => Q ((kv, vv) :: r) s₃) E s₂) E s₁) E s) :
    wpAny (model pw w) A (evalPairs ((k, v) :: rest)) Q E s :=
  wpAny_bind (wpAny_mono h (fun kv s₁ h₁ => wpAny_bind (wpAny_holding (wpAny_mono h₁ (fun vv s₂ h₂ => wpAny_bind (wpAny_holding (wpAny_mono h₂ (fun r s₃ h₃ => wpAny_pure h₃) fun _ _ e => e))) fun _ _ e => e))) fun _ _ e => e)
end
theorem Sd.front2' {g h : Heap} {L : Addr} {m : Str → Option Value} {a b r : List (Addr × Obj)} (S : Sd g L m (a ++ (b ++ r)) h) : Sd g L m (b ++ (a ++ r)) h := S.perm (List.perm_append_comm_assoc _ _ _)
theorem paired_imp {α β : Type} {R Q : α → β → Prop} {xs : List α} {ys : List β} (p : Paired R xs ys) (h : ∀ x y, R x y → Q x y) : Paired Q xs ys := by
  induction p with
  | nil => exact .nil
  | cons a _ ih => exact .cons (h _ _ a) ih
abbrev Ent := Int × List Bool × Option (Int × List Bool)
def ValK (h : Heap) (v : Value) (du : Option (Int × List Bool)) : Prop := match du with
  | none => v = .none
  | some x => PairAt h v x
theorem ValK.up {h h' : Heap} {v : Value} {du : Option (Int × List Bool)} (x : ValK h v du) (U : Up h h') : ValK h' v du := by
  cases du with
  | none => exact x
  | some y => exact PairAt.up x U
abbrev KnR (h : Heap) (kv : Int × Value) (e : Ent) : Prop := kv.1 = e.1 ∧ ValK h kv.2 e.2.2
abbrev EnR (h : Heap) (kv : Int × Value) (e : Ent) : Prop := kv.1 = e.1 ∧ ∃ r, kv.2 = .ref r ∧ BoolL h r e.2.1
theorem keys_eq {β : Type} {P : Int × Value → β → Prop} {f : β → Int} (hP : ∀ kv e, P kv e → kv.1 = f e) {kvs : List (Int × Value)} {es : List β} (p : Paired P kvs es) : kvs.map (·.1) = es.map f := by
  induction p with
  | nil => rfl
  | cons a _ ih => rw [List.map_cons, List.map_cons, hP _ _ a, ih]
theorem kn_of {h : Heap} {acc : List Value} {rows : List (Int × List Bool)} (p : Paired (fun v x => ∃ T1 T2 t, v = .ref T1 ∧ h.IsTuple T1 #[.int x.1 t, .ref T2] ∧ PairAt h (.ref T2) x) acc rows) :
    ∃ kvs, Paired (KvAt h) acc kvs ∧ Paired (KnR h) kvs (rows.map fun x => (x.1, x.2, some x)) := by
  induction p with
  | nil => exact ⟨[], .nil, .nil⟩
  | @cons v x acc rows a _ ih =>
    obtain ⟨kvs, i1, i2⟩ := ih
    obtain ⟨T1, T2, t, rfl, hT, hP⟩ := a
    exact ⟨(x.1, .ref T2) :: kvs, .cons ⟨T1, t, rfl, hT⟩ i1, .cons ⟨rfl, hP⟩ i2⟩
theorem en_of {h : Heap} {acc : List Value} {rows : List (Int × List Bool)} (p : Paired (PairAt h) acc rows) : ∃ kvs, Paired (KvAt h) acc kvs ∧ Paired (EnR h) kvs (rows.map fun x => (x.1, x.2, some x)) := by
  induction p with
  | nil => exact ⟨[], .nil, .nil⟩
  | @cons v x acc rows a _ ih =>
    obtain ⟨kvs, i1, i2⟩ := ih
    obtain ⟨T, t, r, rfl, hT, hB⟩ := a
    exact ⟨(x.1, .ref r) :: kvs, .cons ⟨T, t, rfl, hT⟩ i1, .cons ⟨rfl, r, rfl, hB⟩ i2⟩
theorem litN_inj {k j : Nat} {a b : Bool} (hk : k < 5) (hj : j < 5) (e : litN k a = litN j b) : k = j := by
  unfold litN at e
  cases a <;> cases b <;> simp at e <;> omega
theorem lits_nodup {R : List Lit} (h1 : (R.map (·.1)).Nodup) (h5 : ∀ l ∈ R, l.1 < 5) : ((R.map litP).map (·.1)).Nodup := by
  rw [List.map_map, List.Nodup, List.pairwise_map]
  rw [List.Nodup, List.pairwise_map] at h1
  exact List.Pairwise.imp_of_mem (fun {a b} ha hb hne e => hne (litN_inj (h5 a ha) (h5 b hb) e)) h1
theorem r_asgSub {w : World} {A : Around} {E : Value → Shared → Prop} {s : Shared} {env : Env} {x : PySem.Expr} {y : Str} {py pos : Pos} {v : Value} {Q : Unit → Shared → Prop}
    (h : wpAny (model pw w) A (eval x env) (fun ov s₁ => wpAny (model pw w) A (eval (.Name y py) env) (fun iv s₂ => wpAny (model pw w) A (setItem ov iv v) Q E s₂) E s₁) E s) :
    wpAny (model pw w) A (assign (.Subscript x (.Name y py) pos) env v) Q E s := by
  rw [assign_Subscript]
  exact wpAny_bind (wpAny_holding (wpAny_mono h (fun ov s₁ h₁ => wpAny_bind (wpAny_holding (wpAny_mono h₁ (fun iv s₂ h₂ => wpAny_bind (wpAny_standAt (wpAny_bind (wpAny_holding (wpAny_mono h₂ (fun _ s₃ h₃ => wpAny_release h₃) fun _ _ e => e))))) fun _ _ e => e))) fun _ _ e => e))

/-- nodes stay -/
def PreB (B B' : List Node) : Prop := ∀ (i : Nat) (n : Node), B[i]? = some n → B'[i]? = some n
theorem PreB.refl (B : List Node) : PreB B B := fun _ _ e => e
theorem PreB.app (B C : List Node) : PreB B (B ++ C) := fun i n e => by rw [List.getElem?_append_left (List.getElem?_eq_some_iff.mp e).1]; exact e
theorem PreB.trans {a b c : List Node} (x : PreB a b) (y : PreB b c) : PreB a c := fun i n e => y i n (x i n e)
theorem Joins.pre {B B' : List Node} {io : Bool} {xs : List Int} {rv : Int} (x : Joins B io xs rv) (h : PreB B B') : Joins B' io xs rv := by
  rcases x with x | x | ⟨a, i, b, c, d⟩
  · exact .inl x
  · exact .inr (.inl x)
  · exact .inr (.inr ⟨a, i, b, h _ _ c, d⟩)
/-- what law owes of a row -/
def DueOk (io : Bool) (ws : List Nat) (B : List Node) (row : List Lit) (du : Option (Int × List Bool)) : Prop :=
  (ws.filter (unW io (joinT io ((row.map litP).map (·.2)))) = [] ∧ du = none) ∨
  (ws.filter (unW io (joinT io ((row.map litP).map (·.2)))) ≠ [] ∧ ∃ rv ns, ns.Perm (((row.map litP).filter (keepW io ws)).map (·.1)) ∧ ns.Pairwise (· ≤ ·) ∧ Joins B io ns rv ∧ du = some (rv, joinT io (((row.map litP).filter (keepW io ws)).map (·.2))))
/-- an entry of the two tables -/
def EntOk (io : Bool) (sg : List Lit) (ws : List Nat) (B : List Node) (e : Ent) : Prop :=
  (∃ l ∈ sg, e = (litN l.1 l.2, litT l.1 l.2, some (litP l))) ∨
  (∃ row ns, IsRow row ∧ ns.Perm ((row.map litP).map (·.1)) ∧ ns.Pairwise (· ≤ ·) ∧ 0 ≤ e.1 ∧ B[e.1.toNat]? = some ⟨opN io, ns, 0⟩ ∧ e.2.1 = joinT io ((row.map litP).map (·.2)) ∧ DueOk io ws B row e.2.2)
theorem DueOk.pre {io : Bool} {ws : List Nat} {B B' : List Node} {row : List Lit} {du : Option (Int × List Bool)} (x : DueOk io ws B row du) (h : PreB B B') : DueOk io ws B' row du := by
  rcases x with x | ⟨a, rv, ns, b, c, d, e⟩
  · exact .inl x
  · exact .inr ⟨a, rv, ns, b, c, d.pre h, e⟩
theorem EntOk.pre {io : Bool} {sg : List Lit} {ws : List Nat} {B B' : List Node} {e : Ent} (x : EntOk io sg ws B e) (h : PreB B B') : EntOk io sg ws B' e := by
  rcases x with x | ⟨row, ns, a, b, c, d, f, g, i⟩
  · exact .inl x
  · exact .inr ⟨row, ns, a, b, c, d, h _ _ f, g, i.pre h⟩
theorem pool_pre (B : List Node) (h : PreB poolB B) : PB B := h

/-- the tables in the loop -/
structure Tab (w : World) (g : Heap) (io : Bool) (sg : List Lit) (ws : List Nat) (B : List Node) (ok oe : Obj) (es : List Ent) : Prop where
  k : ∃ kv, DictO (iK pw w) kv ok ∧ Paired (KnR g) kv es
  e : ∃ kv, DictO (iK pw w) kv oe ∧ Paired (EnR g) kv es
  all : ∀ e ∈ es, EntOk io sg ws B e
  sing : ∀ l ∈ sg, ∃ e ∈ es, e.1 = litN l.1 l.2
theorem Tab.up {w : World} {g g' : Heap} {io : Bool} {sg : List Lit} {ws : List Nat} {B B' : List Node} {ok oe : Obj} {es : List Ent} (x : Tab w g io sg ws B ok oe es) (U : Up g g') (h : PreB B B') : Tab w g' io sg ws B' ok oe es :=
  ⟨let ⟨kv, a, b⟩ := x.k; ⟨kv, a, paired_imp b fun _ _ y => ⟨y.1, y.2.up U⟩⟩, let ⟨kv, a, b⟩ := x.e; ⟨kv, a, paired_imp b fun _ _ y => ⟨y.1, let ⟨r, e1, e2⟩ := y.2; ⟨r, e1, e2.up U⟩⟩⟩, fun e he => (x.all e he).pre h, x.sing⟩

def putE (es : List Ent) (e : Ent) : List Ent := if es.any (fun x => decide (x.1 = e.1)) then es.map (fun x => if x.1 = e.1 then e else x) else es ++ [e]
theorem paired_stored {P : Int × Value → Ent → Prop} (hk : ∀ kv e, P kv e → kv.1 = e.1) {kvs : List (Int × Value)} {es : List Ent} (p : Paired P kvs es) {v : Value} {e : Ent} (hP : P (e.1, v) e) : Paired P (stored kvs e.1 v) (putE es e) := by
  have ea : kvs.any (fun kv => decide (kv.1 = e.1)) = es.any (fun x => decide (x.1 = e.1)) := by
    clear hP
    induction p with
    | nil => rfl
    | cons a _ ih => rw [List.any_cons, List.any_cons, ih, hk _ _ a]
  unfold stored putE
  rw [ea]
  by_cases h : es.any (fun x => decide (x.1 = e.1)) = true
  · rw [if_pos h, if_pos h]
    clear h ea
    induction p with
    | nil => exact .nil
    | @cons kv x kvs es a _ ih =>
      refine .cons ?_ ih
      dsimp only
      by_cases hx : x.1 = e.1
      · rw [if_pos hx, if_pos ((hk _ _ a).trans hx), (hk _ _ a).trans hx]
        exact hP
      · rw [if_neg hx, if_neg (by rw [hk _ _ a]; exact hx)]
        exact a
  · rw [if_neg h, if_neg h]
    exact p.snoc hP
theorem putE_mem {es : List Ent} {e x : Ent} (h : x ∈ putE es e) : x = e ∨ x ∈ es := by
  unfold putE at h
  split at h
  · obtain ⟨y, hy, rfl⟩ := List.mem_map.mp h
    split
    · exact .inl rfl
    · exact .inr hy
  · rcases List.mem_append.mp h with h | h
    · exact .inr h
    · exact .inl (List.mem_singleton.mp h)
theorem putE_key {es : List Ent} {e x : Ent} (h : x ∈ es) : ∃ y ∈ putE es e, y.1 = x.1 := by
  unfold putE
  split
  · refine ⟨_, List.mem_map_of_mem h, ?_⟩
    show (if x.1 = e.1 then e else x).1 = x.1
    split
    · rename_i hx; exact hx.symm
    · rfl
  · exact ⟨x, List.mem_append_left _ h, rfl⟩
theorem putE_len (es : List Ent) (e : Ent) : (putE es e).length ≤ es.length + 1 := by
  unfold putE
  split <;> simp
theorem PreB.len' {B C : List Node} (h : PreB B C) : B.length ≤ C.length := by
  cases q : B.length with
  | zero => omega
  | succ n =>
    have := (List.getElem?_eq_some_iff.mp (h n _ (List.getElem?_eq_getElem (by omega)))).1
    omega
theorem PreB.len {B : List Node} (h : PreB poolB B) : 13 ≤ B.length := by
  have := (List.getElem?_eq_some_iff.mp (h 12 _ rfl)).1
  omega
theorem litP_num {l : Lit} (h : l.1 < 5) : 3 ≤ (litP l).1 ∧ (litP l).1 ≤ 12 := by
  obtain ⟨k, b⟩ := l
  simp only at h
  cases b <;> simp [litP, litN] <;> omega
theorem litP_len (l : Lit) : (litP l).2.length = 32 := by simp [litP, litT]

theorem okW_iff {io : Bool} {rows : List (Int × List Bool)} {v : Nat} : okW io rows v = true ↔ ∀ x ∈ rows, isW io x.2 v = true := by
  unfold okW
  rw [decide_eq_true_iff, List.filter_eq_nil_iff]
  constructor
  · intro h x hx
    have := h x hx
    simpa [unW] using this
  · intro h x hx
    have := h x hx
    simpa [unW] using this
theorem litT_get (k : Nat) (b : Bool) {v : Nat} (h : v < 32) : (litT k b).getD v false = ((v / 2 ^ k % 2 == 1) != b) := by
  simp [litT, List.getD, h]
theorem isW_lit {io : Bool} {l : Lit} {v : Nat} (h : v < 32) : isW io (litP l).2 v = true ↔ (v / 2 ^ l.1 % 2 == 1) = (io != l.2) := by
  obtain ⟨k, b⟩ := l
  show ((litT k b).getD v false == io) = true ↔ _
  rw [litT_get k b h]
  show (((v / 2 ^ k % 2 == 1) != b) == io) = true ↔ (v / 2 ^ k % 2 == 1) = (io != b)
  generalize (v / 2 ^ k % 2 == 1) = c
  cases c <;> cases b <;> cases io <;> decide
theorem isW_not {io : Bool} {ts : List Bool} {v : Nat} : isW (!io) ts v = true ↔ ¬ isW io ts v = true := by
  unfold isW
  generalize ts.getD v false = c
  cases c <;> cases io <;> decide
theorem world_of (f : Nat → Bool) : ∃ v < 32, ∀ k < 5, (v / 2 ^ k % 2 == 1) = f k := by
  have key : ∀ a b c d e : Bool, ∃ v ∈ List.range 32, (v / 2 ^ 0 % 2 == 1) = a ∧ (v / 2 ^ 1 % 2 == 1) = b ∧ (v / 2 ^ 2 % 2 == 1) = c ∧ (v / 2 ^ 3 % 2 == 1) = d ∧ (v / 2 ^ 4 % 2 == 1) = e := by decide
  obtain ⟨v, hv, h0, h1, h2, h3, h4⟩ := key (f 0) (f 1) (f 2) (f 3) (f 4)
  refine ⟨v, List.mem_range.mp hv, fun k hk => ?_⟩
  have : k = 0 ∨ k = 1 ∨ k = 2 ∨ k = 3 ∨ k = 4 := by omega
  rcases this with rfl | rfl | rfl | rfl | rfl
  · exact h0
  · exact h1
  · exact h2
  · exact h3
  · exact h4
theorem joinW_iff {io : Bool} {ts : List (List Bool)} {v : Nat} : joinW io ts v = io ↔ ∃ t ∈ ts, isW io t v = true := by
  unfold joinW isW
  cases io with
  | true =>
    rw [if_pos rfl, decide_eq_true_iff, List.mem_map]
    simp
  | false =>
    rw [if_neg (by decide), decide_eq_false_iff_not, Classical.not_not, List.mem_map]
    simp
theorem joinT_get {io : Bool} {ts : List (List Bool)} {v : Nat} (h : v < 32) : (joinT io ts).getD v false = joinW io ts v := by
  simp [joinT, List.getD, h]
theorem unW_join {io : Bool} {ts : List (List Bool)} {v : Nat} (h : v < 32) : unW io (joinT io ts) v = true ↔ ¬ ∃ t ∈ ts, isW io t v = true := by
  unfold unW
  rw [joinT_get h, ← joinW_iff]
  simp
theorem find_var {R : List Lit} (h : (R.map (·.1)).Nodup) {l : Lit} (hl : l ∈ R) : R.find? (fun x => x.1 == l.1) = some l := by
  induction R with
  | nil => cases hl
  | cons a r ih =>
    rw [List.map_cons, List.nodup_cons] at h
    rw [List.find?_cons]
    rcases List.mem_cons.mp hl with rfl | hl
    · simp
    · have hne : (a.1 == l.1) = false := beq_eq_false_iff_ne.mpr fun e => h.1 (e ▸ List.mem_map_of_mem hl)
      rw [hne]
      exact ih h.2 hl
theorem same_var {R : List Lit} (h : (R.map (·.1)).Nodup) {l l' : Lit} (hl : l ∈ R) (hl' : l' ∈ R) (e : l.1 = l'.1) : l = l' := by
  have h1 := find_var h hl
  have h2 := find_var h hl'
  rw [e, h2] at h1
  exact (Option.some.inj h1).symm

section
variable {io : Bool} {sg row : List Lit} {ws : List Nat}
theorem ws_mem (hws : (List.range 32).filter (okW io (sg.map litP)) = ws) {v : Nat} : v ∈ ws ↔ v < 32 ∧ ∀ l ∈ sg, isW io (litP l).2 v = true := by
  rw [← hws, List.mem_filter, List.mem_range, okW_iff]
  simp only [List.mem_map, forall_exists_index, and_imp, forall_apply_eq_imp_iff₂]

/-- a row holds in all worlds just if a single is one of its parts -/
theorem pl_all (hsg : IsSingles sg) (hR : IsRow row) (hws : (List.range 32).filter (okW io (sg.map litP)) = ws) :
    ws.filter (unW io (joinT io ((row.map litP).map (·.2)))) = [] ↔ ∃ l ∈ row, l ∈ sg := by
  rw [List.filter_eq_nil_iff]
  constructor
  · intro h
    apply Classical.byContradiction
    intro hno
    obtain ⟨v, hv, hb⟩ := world_of fun k => match sg.find? (fun x => x.1 == k) with
      | some l => io != l.2
      | none => match row.find? (fun x => x.1 == k) with
        | some l => !io != l.2
        | none => false
    have hvw : v ∈ ws := (ws_mem hws).mpr ⟨hv, fun l hl => by
      rw [isW_lit hv, hb _ (hsg.2.2 l hl), find_var hsg.2.1 hl]⟩
    refine h v hvw ((unW_join hv).mpr ?_)
    rintro ⟨t, ht, hw⟩
    obtain ⟨x, hx, rfl⟩ := List.mem_map.mp ht
    obtain ⟨l, hl, rfl⟩ := List.mem_map.mp hx
    rw [isW_lit hv, hb _ (hR.2.2.2 l hl)] at hw
    cases q : sg.find? (fun x => x.1 == l.1) with
    | none =>
      rw [q, find_var hR.2.2.1 hl] at hw
      simp only at hw
      cases io <;> cases l.2 <;> simp at hw
    | some l' =>
      rw [q] at hw
      simp only at hw
      have h1 := List.mem_of_find?_eq_some q
      have h2 : l'.1 = l.1 := by have := List.find?_some q; simpa using this
      have h3 : l'.2 = l.2 := by revert hw; cases io <;> cases l.2 <;> cases l'.2 <;> decide
      exact hno ⟨l, hl, by rw [show l = l' from Prod.ext h2.symm h3.symm]; exact h1⟩
  · rintro ⟨l, hl, hls⟩ v hv hu
    have := (ws_mem hws).mp hv
    exact (unW_join this.1).mp hu ⟨(litP l).2, List.mem_map_of_mem (List.mem_map_of_mem hl), this.2 l hls⟩

/-- a part is kept just if its contrary is no single -/
theorem pl_keep (hsg : IsSingles sg) (hws : (List.range 32).filter (okW io (sg.map litP)) = ws) {l : Lit} (h5 : l.1 < 5) : keepW io ws (litP l) = true ↔ (l.1, !l.2) ∉ sg := by
  unfold keepW
  rw [decide_eq_true_iff, ne_eq, List.filter_eq_nil_iff]
  constructor
  · intro h hc
    refine h fun v hv hw => ?_
    have hm := (ws_mem hws).mp hv
    have := hm.2 _ hc
    rw [isW_lit hm.1] at this hw
    simp only at this
    rw [hw] at this
    cases io <;> cases l.2 <;> simp at this
  · intro hc h
    obtain ⟨v, hv, hb⟩ := world_of fun k => match sg.find? (fun x => x.1 == k) with
      | some l' => io != l'.2
      | none => if k = l.1 then io != l.2 else false
    have hvw : v ∈ ws := (ws_mem hws).mpr ⟨hv, fun l' hl' => by
      rw [isW_lit hv, hb _ (hsg.2.2 l' hl'), find_var hsg.2.1 hl']⟩
    refine h v hvw ?_
    rw [isW_lit hv, hb _ h5]
    cases q : sg.find? (fun x => x.1 == l.1) with
    | none => simp
    | some l' =>
      simp only
      have h1 := List.mem_of_find?_eq_some q
      have h2 : l'.1 = l.1 := by have := List.find?_some q; simpa using this
      have h3 : l'.2 = l.2 := by
        apply Classical.byContradiction
        intro hne
        refine hc ?_
        rw [show ((l.1, !l.2) : Lit) = l' from Prod.ext h2.symm (by show (!l.2) = l'.2; revert hne; cases l.2 <;> cases l'.2 <;> decide)]
        exact h1
      rw [h3]
end

theorem litN_inj2 {k j : Nat} {a b : Bool} (hk : k < 5) (hj : j < 5) (e : litN k a = litN j b) : k = j ∧ a = b := by
  have := litN_inj hk hj e
  subst this
  refine ⟨rfl, ?_⟩
  unfold litN at e
  cases a <;> cases b <;> simp at e ⊢ <;> omega
theorem neg_lit {l : Lit} (h : l.1 < 5) : negN (litN l.1 l.2) = litN l.1 (!l.2) := by
  obtain ⟨k, b⟩ := l
  simp only at h
  unfold negN litN
  cases b <;> simp <;> omega
abbrev duF (es : List Ent) (t : Int) : Option (Int × List Bool) := (es.find? (fun e => e.1 == t)).bind (·.2.2)
theorem kn_get {g : Heap} {kv : List (Int × Value)} {es : List Ent} (p : Paired (KnR g) kv es) {t : Int} (h : t ∈ es.map (·.1)) : ∃ v, valueAt kv t = some v ∧ ValK g v (duF es t) := by
  induction p with
  | nil => cases h
  | @cons x e kv es a p ih =>
    unfold valueAt duF
    rw [List.find?_cons, List.find?_cons, a.1]
    by_cases q : e.1 = t
    · rw [decide_eq_true q, beq_iff_eq.mpr q]
      exact ⟨_, rfl, a.2⟩
    · rw [decide_eq_false q, beq_eq_false_iff_ne.mpr q]
      rcases List.mem_cons.mp h with e' | h
      · exact absurd e'.symm q
      · exact ih h
theorem items_row {g h : Heap} {vs : List Value} {kvs : List (Int × Value)} {es : List Ent} (p : Paired (KvAt h) vs kvs) (q : Paired (EnR g) kvs es) (U : Up g h) : Paired (PairAt h) vs (es.map fun e => (e.1, e.2.1)) := by
  induction p generalizing es with
  | nil => cases q; exact .nil
  | @cons v kv vs kvs a p ih =>
    cases q with
    | @cons _ e _ es b q =>
      obtain ⟨T, t, rfl, hT⟩ := a
      obtain ⟨e1, r, e2, hB⟩ := b
      rw [e1, e2] at hT
      exact .cons ⟨T, t, r, rfl, hT, hB.up U⟩ (ih q)
theorem joinT_len (io : Bool) (ts : List (List Bool)) : (joinT io ts).length = 32 := by simp [joinT]
theorem ent32 {io : Bool} {sg : List Lit} {ws : List Nat} {B : List Node} {e : Ent} (x : EntOk io sg ws B e) : e.2.1.length = 32 ∧ ∀ y, e.2.2 = some y → y.2.length = 32 := by
  rcases x with ⟨l, _, rfl⟩ | ⟨row, ns, _, _, _, _, _, h, d⟩
  · exact ⟨litP_len l, fun y hy => by cases hy; exact litP_len l⟩
  · refine ⟨by rw [h]; exact joinT_len _ _, fun y hy => ?_⟩
    rcases d with ⟨_, d⟩ | ⟨_, rv, ns, _, _, _, d⟩
    · rw [d] at hy; cases hy
    · rw [d] at hy; cases hy; exact joinT_len _ _
theorem bank_inj {w : World} {h : Heap} {bk : BkA} {B : List Node} (Bk : BankAt w h bk B) : ∀ (i j : Nat) (n : Node), 0 < i → 0 < j → B[i]? = some n → B[j]? = some n → i = j := by
  intro i j n hi hj ei ej
  obtain ⟨xs, hd, hx⟩ := Bk.nums
  have hn : (xs.map (·.1)).Nodup := by
    obtain ⟨_, _, _, _, _, _, _, _, z⟩ := hd
    exact z
  obtain ⟨a, t, e1⟩ := nums_key (w := w) hx hn hi ei
  obtain ⟨a', t', e2⟩ := nums_key (w := w) hx hn hj ej
  rw [e1] at e2
  simp only [Option.some.injEq, Prod.mk.injEq, Value.int.injEq] at e2
  omega
theorem du_mem {es : List Ent} {t : Int} {y : Int × List Bool} (h : duF es t = some y) : ∃ e ∈ es, e.1 = t ∧ e.2.2 = some y := by
  unfold duF at h
  cases q : es.find? (fun e => e.1 == t) with
  | none => rw [q] at h; cases h
  | some e =>
    rw [q] at h
    exact ⟨e, List.mem_of_find?_eq_some q, by have := List.find?_some q; simpa using this, h⟩
theorem du_of {es : List Ent} (hn : (es.map (·.1)).Nodup) {e : Ent} (he : e ∈ es) : duF es e.1 = e.2.2 := by
  unfold duF
  have : es.find? (fun x => x.1 == e.1) = some e := by
    induction es with
    | nil => cases he
    | cons a r ih =>
      rw [List.map_cons, List.nodup_cons] at hn
      rw [List.find?_cons]
      rcases List.mem_cons.mp he with rfl | he
      · simp
      · have hne : (a.1 == e.1) = false := beq_eq_false_iff_ne.mpr fun q => hn.1 (q ▸ List.mem_map_of_mem he)
        rw [hne]
        exact ih hn.2 he
  rw [this]; rfl
/-- what the loop leaves, with no heap in sight -/
structure LawF (io : Bool) (sg : List Lit) (ws : List Nat) (B : List Node) (es : List Ent) (ks fk : List Int) : Prop where
  hsg : IsSingles sg
  hws : (List.range 32).filter (okW io (sg.map litP)) = ws
  pre : PreB poolB B
  inj : ∀ (i j : Nat) (n : Node), 0 < i → 0 < j → B[i]? = some n → B[j]? = some n → i = j
  all : ∀ e ∈ es, EntOk io sg ws B e
  sing : ∀ l ∈ sg, ∃ e ∈ es, e.1 = litN l.1 l.2
  nd : (es.map (·.1)).Nodup
  hks : ks.Perm (es.map (·.1))
  hfk : fk.Perm ks
section
variable {io : Bool} {sg : List Lit} {ws : List Nat} {B : List Node} {es : List Ent} {ks fk : List Int}
theorem lit_op (hB : PreB poolB B) {l : Lit} (h : l.1 < 5) : ∃ n, B[(litN l.1 l.2).toNat]? = some n ∧ n.op ≠ opN io := by
  obtain ⟨n, e, h1, h2⟩ := lit_node (pool_pre B hB) (litP_num h).1 (litP_num h).2
  exact ⟨n, e, by cases io <;> assumption⟩
theorem LawF.of_key (F : LawF io sg ws B es ks fk) {t : Int} (h : t ∈ ks) : ∃ e ∈ es, e.1 = t := List.mem_map.mp (F.hks.mem_iff.mp h)
theorem LawF.key (F : LawF io sg ws B es ks fk) {e : Ent} (h : e ∈ es) : e.1 ∈ ks := F.hks.mem_iff.mpr (List.mem_map_of_mem h)
/-- an entry whose number is a literal is that literal's -/
theorem LawF.lit_ent (F : LawF io sg ws B es ks fk) {e : Ent} (he : e ∈ es) {l : Lit} (h : l.1 < 5) (q : e.1 = litN l.1 l.2) : l ∈ sg ∧ e = (litN l.1 l.2, litT l.1 l.2, some (litP l)) := by
  rcases F.all e he with ⟨l', hl', rfl⟩ | ⟨row, ns, _, _, _, _, x, _⟩
  · have := litN_inj2 (F.hsg.2.2 l' hl') h q
    have el : l' = l := Prod.ext this.1 this.2
    subst el
    exact ⟨hl', rfl⟩
  · obtain ⟨n, e1, h1⟩ := lit_op (io := io) F.pre h
    rw [q, e1] at x
    cases x
    exact absurd rfl h1
theorem LawF.fk_lit (F : LawF io sg ws B es ks fk) {l : Lit} (h : l.1 < 5) : litN l.1 l.2 ∈ fk ↔ l ∈ sg := by
  rw [F.hfk.mem_iff]
  constructor
  · intro hm
    obtain ⟨e, he, q⟩ := F.of_key hm
    exact (F.lit_ent he h q).1
  · intro hl
    obtain ⟨e, he, q⟩ := F.sing l hl
    rw [← q]
    exact F.key he
theorem num_of {row : List Lit} {ns : List Int} (hp : ns.Perm ((row.map litP).map (·.1))) {x : Int} (h : x ∈ ns) : ∃ l ∈ row, x = litN l.1 l.2 := by
  obtain ⟨y, hy, rfl⟩ := List.mem_map.mp (hp.mem_iff.mp h)
  obtain ⟨l, hl, rfl⟩ := List.mem_map.mp hy
  exact ⟨l, hl, rfl⟩
theorem of_num {row : List Lit} {ns : List Int} (hp : ns.Perm ((row.map litP).map (·.1))) {l : Lit} (h : l ∈ row) : litN l.1 l.2 ∈ ns :=
  hp.mem_iff.mpr (List.mem_map_of_mem (f := fun y : Int × List Bool => y.1) (List.mem_map_of_mem (f := litP) h))
/-- a part of the row lies in fk just if a single is one of its parts -/
theorem LawF.hit (F : LawF io sg ws B es ks fk) {row : List Lit} {ns : List Int} (hR : IsRow row) (hp : ns.Perm ((row.map litP).map (·.1))) : (∃ x ∈ ns, x ∈ fk) ↔ ∃ l ∈ row, l ∈ sg := by
  constructor
  · rintro ⟨x, hx, hf⟩
    obtain ⟨l, hl, rfl⟩ := num_of hp hx
    exact ⟨l, hl, (F.fk_lit (hR.2.2.2 l hl)).mp hf⟩
  · rintro ⟨l, hl, hs⟩
    exact ⟨_, of_num hp hl, (F.fk_lit (hR.2.2.2 l hl)).mpr hs⟩
/-- what is left of a row -/
theorem LawF.left (F : LawF io sg ws B es ks fk) {row : List Lit} {ns ns' : List Int} (hR : IsRow row) (hp : ns.Perm ((row.map litP).map (·.1))) (hs : ns.Pairwise (· ≤ ·)) (hp' : ns'.Perm (((row.map litP).filter (keepW io ws)).map (·.1))) (hs' : ns'.Pairwise (· ≤ ·)) :
    (ns.filter fun x => decide (negN x ∉ fk)) = ns' := by
  refine sort_eq ((hp.filter _).trans ?_) (hs.filter _) hs'
  refine List.Perm.trans ?_ hp'.symm
  rw [List.filter_map]
  refine List.Perm.of_eq (congrArg _ (List.filter_congr fun y hy => ?_))
  obtain ⟨l, hl, rfl⟩ := List.mem_map.mp hy
  have h5 := hR.2.2.2 l hl
  have a := pl_keep F.hsg F.hws (l := l) h5
  have b := F.fk_lit (l := (l.1, !l.2)) h5
  show decide (negN (litN l.1 l.2) ∉ fk) = keepW io ws (litP l)
  rw [neg_lit h5]
  rw [← not_congr b] at a
  rw [Bool.eq_iff_iff, a, decide_eq_true_iff]
theorem joins_one (F : LawF io sg ws B es ks fk) {xs : List Int} {a b : Int} (x : Joins B io xs a) (y : Joins B io xs b) : a = b := by
  rcases x with ⟨rfl, rfl⟩ | ⟨x, rfl, rfl⟩ | ⟨h2, i, h0, e, rfl⟩
  · rcases y with ⟨_, rfl⟩ | ⟨_, q, _⟩ | ⟨h2, _⟩
    · rfl
    · cases q
    · simp at h2
  · rcases y with ⟨q, _⟩ | ⟨_, q, rfl⟩ | ⟨h2, _⟩
    · cases q
    · cases q; rfl
    · simp at h2
  · rcases y with ⟨rfl, _⟩ | ⟨_, rfl, _⟩ | ⟨_, j, h0', e', rfl⟩
    · simp at h2
    · simp at h2
    · rw [F.inj i j _ h0 h0' e e']
theorem pl_node (F : LawF io sg ws B es ks fk) : ∀ t ∈ fk, 0 ≤ t ∧ ∃ n, B[t.toNat]? = some n ∧ (n.op = opN io → NodeOk B io fk n) := by
  intro t ht
  obtain ⟨e, he, rfl⟩ := F.of_key (F.hfk.mem_iff.mp ht)
  rcases F.all e he with ⟨l, hl, rfl⟩ | ⟨row, ns, hR, hp, hs, h0, x, _, hd⟩
  · have h5 := F.hsg.2.2 l hl
    obtain ⟨n, e1, h1⟩ := lit_op (io := io) F.pre h5
    exact ⟨by have := (litP_num h5).1; show 0 ≤ (litP l).1; omega, n, e1, fun q => absurd q h1⟩
  · refine ⟨h0, _, x, fun _ => ?_⟩
    have hl := hp.length_eq
    rw [List.length_map, List.length_map] at hl
    refine ⟨rfl, fun y hy => ?_, hp.nodup_iff.mpr (lits_nodup hR.2.2.1 hR.2.2.2), fun y hy hn => ?_, by show 2 ≤ ns.length; have := hR.1; omega, by show ns.length < 60; have := hR.2.1; omega, hs, fun hno => ?_⟩
    · obtain ⟨l, hl, rfl⟩ := num_of hp hy
      exact litP_num (hR.2.2.2 l hl)
    · obtain ⟨l, hl, rfl⟩ := num_of hp hy
      have h5 := hR.2.2.2 l hl
      rw [neg_lit h5] at hn
      obtain ⟨l', hl', q⟩ := num_of hp hn
      have e2 := litN_inj2 h5 (hR.2.2.2 l' hl') q
      have := same_var hR.2.2.1 hl hl' e2.1
      subst this
      have e3 := e2.2
      revert e3
      cases l.2 <;> decide
    · rcases hd with ⟨z, _⟩ | ⟨_, rv, ns', hp', hs', hj, _⟩
      · obtain ⟨x, h1, h2⟩ := (F.hit hR hp).mpr ((pl_all F.hsg hR F.hws).mp z)
        exact absurd h2 (hno x h1)
      · exact ⟨rv, by rw [F.left hR hp hs hp' hs']; exact hj⟩
theorem told_step (F : LawF io sg ws B es ks fk) {t : Int} {out : List Int} (ht : t ∈ ks) (h : ThinStep B io fk t out) : out = ((duF es t).toList).map (·.1) := by
  obtain ⟨e, he, rfl⟩ := F.of_key ht
  rw [du_of F.nd he]
  obtain ⟨n, hn, hc⟩ := h
  rcases F.all e he with ⟨l, hl, rfl⟩ | ⟨row, ns, hR, hp, hs, h0, x, _, hd⟩
  · obtain ⟨n', e1, h1⟩ := lit_op (io := io) F.pre (F.hsg.2.2 l hl)
    replace hn : B[(litN l.1 l.2).toNat]? = some n := hn
    rw [hn] at e1; cases e1
    rcases hc with ⟨_, rfl⟩ | ⟨q, _⟩ | ⟨q, _⟩
    · rfl
    · exact absurd q h1
    · exact absurd q h1
  · rw [x] at hn; cases hn
    rcases hc with ⟨q, _⟩ | ⟨_, hy, rfl⟩ | ⟨_, hno, rv, hj, rfl⟩
    · exact absurd rfl q
    · rcases hd with ⟨_, q⟩ | ⟨z, _⟩
      · rw [q]; rfl
      · exact absurd ((pl_all F.hsg hR F.hws).mpr ((F.hit hR hp).mp hy)) z
    · rcases hd with ⟨z, _⟩ | ⟨_, rv', ns', hp', hs', hj', q⟩
      · obtain ⟨x, h1, h2⟩ := (F.hit hR hp).mpr ((pl_all F.hsg hR F.hws).mp z)
        exact absurd h2 (hno x h1)
      · rw [q]
        have hj2 : Joins B io ns' rv := by rw [← F.left hR hp hs hp' hs']; exact hj
        rw [joins_one F hj2 hj']
        rfl
theorem pl_told (F : LawF io sg ws B es ks fk) {outs : List (List Int)} (h : Paired (ThinStep B io fk) ks outs) : outs.flatten = (ks.filterMap (duF es)).map (·.1) := by
  have main : ∀ {as : List Int} {outs : List (List Int)}, Paired (ThinStep B io fk) as outs → (∀ t ∈ as, t ∈ ks) → outs.flatten = (as.filterMap (duF es)).map (·.1) := fun {as outs} p => by
    induction p with
    | nil => intro _; rfl
    | @cons t out as outs a _ ih =>
      intro hm
      rw [List.flatten_cons, ih fun t ht => hm t (.tail _ ht), told_step F (hm t (.head _)) a]
      cases q : duF es t with
      | none => rw [List.filterMap_cons_none q]; rfl
      | some y => rw [List.filterMap_cons_some q]; rfl
  exact main h fun _ h => h
theorem isW_join {ts : List (List Bool)} {v : Nat} (h : v < 32) : isW io (joinT io ts) v = true ↔ ∃ t ∈ ts, isW io t v = true := by
  rw [← joinW_iff, ← joinT_get h]
  exact beq_iff_eq
theorem pl_final (F : LawF io sg ws B es ks fk) : joinT (!io) (es.map (·.2.1)) = joinT (!io) ((ks.filterMap (duF es)).map (·.2)) := by
  unfold joinT
  refine List.map_congr_left fun v hv => ?_
  replace hv := List.mem_range.mp hv
  have bi : ∀ a b : Bool, ((a = !io) ↔ (b = !io)) → a = b := by intro a b; cases a <;> cases b <;> cases io <;> decide
  refine bi _ _ ?_
  rw [joinW_iff, joinW_iff]
  simp only [isW_not]
  by_cases hw : v ∈ ws
  · have hm := (ws_mem F.hws).mp hw
    constructor
    · rintro ⟨t, ht, hn⟩
      obtain ⟨e, he, rfl⟩ := List.mem_map.mp ht
      rcases id (F.all e he) with ⟨l, hl, rfl⟩ | ⟨row, ns, hR, hp, hs, h0, x, ej, hd⟩
      · exact absurd (hm.2 l hl) hn
      · rw [ej, isW_join hv] at hn
        rcases hd with ⟨z, _⟩ | ⟨_, rv', ns', hp', hs', hj', q⟩
        · rw [List.filter_eq_nil_iff] at z
          exact absurd ((unW_join hv).mpr hn) (z v hw)
        · refine ⟨_, List.mem_map_of_mem (List.mem_filterMap.mpr ⟨e.1, F.key he, (du_of F.nd he).trans q⟩), ?_⟩
          rw [isW_join hv]
          rintro ⟨t, ht, h⟩
          obtain ⟨y, hy, rfl⟩ := List.mem_map.mp ht
          exact hn ⟨_, List.mem_map_of_mem (List.mem_filter.mp hy).1, h⟩
    · rintro ⟨t, ht, hn⟩
      obtain ⟨y, hy, rfl⟩ := List.mem_map.mp ht
      obtain ⟨k, hk, hd⟩ := List.mem_filterMap.mp hy
      obtain ⟨e, he, rfl, ee⟩ := du_mem hd
      refine ⟨_, List.mem_map_of_mem he, ?_⟩
      rcases id (F.all e he) with ⟨l, hl, rfl⟩ | ⟨row, ns, hR, hp, hs, h0, x, ej, hd⟩
      · cases ee
        exact absurd (hm.2 l hl) hn
      · rcases hd with ⟨_, z⟩ | ⟨_, rv', ns', hp', hs', hj', q⟩
        · rw [z] at ee; cases ee
        · rw [q] at ee; cases ee
          rw [ej, isW_join hv]
          rintro ⟨t, ht, h⟩
          obtain ⟨y, hy, rfl⟩ := List.mem_map.mp ht
          refine hn ((isW_join hv).mpr ⟨_, List.mem_map_of_mem (List.mem_filter.mpr ⟨hy, ?_⟩), h⟩)
          refine decide_eq_true fun z => ?_
          rw [List.filter_eq_nil_iff] at z
          exact z v hw h
  · have hex : ∃ l ∈ sg, ¬ isW io (litP l).2 v = true := Classical.byContradiction fun hno => hw ((ws_mem F.hws).mpr ⟨hv, fun l hl => Classical.byContradiction fun hn => hno ⟨l, hl, hn⟩⟩)
    obtain ⟨l, hl, hn⟩ := hex
    obtain ⟨e, he, q⟩ := F.sing l hl
    have ee := (F.lit_ent he (F.hsg.2.2 l hl) q).2
    have hk := F.key he
    have hdu := du_of F.nd he
    rw [ee] at he hk hdu
    constructor
    · intro _
      exact ⟨_, List.mem_map_of_mem (List.mem_filterMap.mpr ⟨_, hk, hdu⟩), hn⟩
    · intro _
      exact ⟨_, List.mem_map_of_mem he, hn⟩
end
theorem erase_perm {l : List Int} : ∀ {j : Nat} (h : j < l.length), (l[j] :: l.eraseIdx j).Perm l := by
  induction l with
  | nil => intro j h; cases h
  | cons a l ih =>
    intro j h
    cases j with
    | zero => exact .refl _
    | succ j => exact (List.Perm.swap _ _ _).trans (.cons a (ih (by simpa using h)))
theorem ints_erase {vs : List Value} {ns : List Int} (x : IntsAre vs ns) (j : Nat) : IntsAre (vs.eraseIdx j) (ns.eraseIdx j) := by
  induction x generalizing j with
  | nil => exact .nil
  | @cons n t vs ns x ih => cases j with
    | zero => exact x
    | succ j => exact .cons n t (ih j)
structure LapS (w : World) (g : Heap) (bk : BkA) (io : Bool) (sg : List Lit) (ws : List Nat) (cl tp wa pl ed kd : Addr) (m : Str → Option Value) (i : Nat) (news : List (Addr × Obj)) (ot : Obj) (k : Int) (B : List Node) (wl : List (Addr × Obj)) (ok oe : Obj) (es : List Ent) : Prop where
  e : news = (tp, ot) :: (ed, oe) :: (kd, ok) :: wl
  hT : TapeO w cl k ot
  k0 : 0 ≤ k
  k9 : k ≤ 100 + 10 * i
  Bk : BankW w g bk B wl
  pre : PreB poolB B
  len : B.length ≤ 13 + 2 * i
  tab : Tab w g io sg ws B ok oe es
  few : es.length ≤ 3 + i
  mt : m "tape" = some (.ref tp)
  mb : m "bank" = some (.ref bk.x)
  mp : m "pool" = some (.ref pl)
  mw : m "worlds" = some (.ref wa)
  me : m "entered" = some (.ref ed)
structure WhiS (w : World) (g : Heap) (L : Addr) (cl tp wa ed kd fd ra bx : Addr) (wl : List (Addr × Obj)) (ok oe : Obj) (ks : List Int) (s₀ s' : Shared) (n : Nat) (m : Str → Option Value) (ot : Obj) (k : Int) (vsR : List Value) (ksR : List Int) (nR : Nat) (fo : Obj) (fkv : List (Int × Value)) : Prop where
  q : Same s₀ s'
  S : Sd g L m ((fd, fo) :: (ra, lstO (List.toArray vsR) nR) :: (tp, ot) :: (ed, oe) :: (kd, ok) :: wl) s'.heap
  hI : IntsAre vsR ksR
  hn : ksR.length = n
  hD : DictO (iK pw w) fkv fo
  hp : (fkv.map (·.1) ++ ksR).Perm ks
  hT : TapeO w cl k ot
  k0 : 0 ≤ k
  k9 : k + n ≤ 1000
  mt : m "tape" = some (.ref tp)
  mb : m "bank" = some (.ref bx)
  mw : m "worlds" = some (.ref wa)
  me : m "entered" = some (.ref ed)
  mr : m "rest" = some (.ref ra)
  mf : m "found" = some (.ref fd)
theorem c_law {w : World} {A : Around} {s : Shared} {R : Result → Shared → Prop} {k : Nat} {l : Addr} {vs : List Value} {ns : List Int}
    (G : Gnd w s.heap) (r : Rm A (k + 12)) (hl : s.heap.IsList l vs.toArray) (hi : IntsAre vs ns) (hn : ns.length ≤ 63) (h : ∀ s', Same s s' → Up s.heap s'.heap → R (.ok (.ret (.bool true))) s') :
    codeAny (model pw w) A (.call (.ref 802) ⟨[.ref l], []⟩) R s := by
  have hlen := hi.length
  refine' call1 (g := s.heap) (wl := []) (binds := [("script", .ref l)]) G (Up.refl _) (by simp) (by simp) r (by k_is) (by k_is)
    (by exact BindsTo.of_eq rfl) (by exact rfl) (by decide +kernel) ?_ (by exact rfl) (by exact rfl) (by exact rfl)
  intro A' L s₁ cells q r' S U₁ hL hcells hC
  have hC' : CellsAre _ [(Str.ofString "known", L + 1 + 1 + 1), (Str.ofString "singles", L + 1 + 1), (Str.ofString "is_or", L + 1)] cells := hC
  obtain ⟨o3, o2, o1, rfl, d3, d2, d1⟩ := cells3 hC'
  have S₁ := Sd.cells3 S hL (hcells (L + 1 + 1 + 1, o3) (by simp)) (hcells (L + 1 + 1, o2) (by simp)) (hcells (L + 1, o1) (by simp))
  clear S hC hC' hcells hL
  replace d3 : ∃ v, o3.data = .cell v := ⟨_, d3⟩
  replace d2 : ∃ v, o2.data = .cell v := ⟨_, d2⟩
  replace d1 : ∃ v, o1.data = .cell v := ⟨_, d1⟩
  obtain ⟨v3, d3⟩ := d3
  obtain ⟨v2, d2⟩ := d2
  obtain ⟨v1, d1⟩ := d1
  replace S₁ : Sd s.heap L _ [(L + 1 + 1 + 1, o3), (L + 1 + 1, o2), (L + 1, o1)] s₁.heap := S₁
  generalize em : bindL _ _ _ = m₁ at S₁
  have hm : m₁ "script" = some (.ref l) := by rw [← em]; rfl
  clear em
  k_unmd
  walk_at "S"; walk_at "S"
  refine wpAny_mono (Q := fun v s' => ∃ g' cl cs, v = .ref cl ∧ Up s.heap g' ∧ IntL g' cl cs ∧ cs.length ≤ 60 ∧ Same s s' ∧ Sd g' L m₁ [(L + 1 + 1 + 1, o3), (L + 1 + 1, o2), (L + 1, o1)] s'.heap) ?_ (fun v s₂ h₂ => ?_) fun _ _ e => e
  · walk_at "V"
    refine len_list_any (hl.at fun o e => S₁.up _ _ e) (by simp; omega) fun s₂ t₂ q₂ e₂ => ?_
    rw [← e₂] at S₁
    walk_at "V"
    by_cases h0 : 0 < ns.length
    · rw [if_pos (by simp; omega)]
      walk_at "V"
      refine r_sliceTo fun s₃ sl t₃ q₃ U₃ hsl => ?_
      have S₂ := S₁.grown U₃
      clear S₁
      refine r_slice60 (hl.at fun o e => S₂.up _ _ e) hi hsl (by omega) (fun s₄ a vs' n q₄ fa U₄ ea hI => ?_) (by with_unfolding_all rfl) (by intro _; rfl)
      have S₃ := S₂.grown U₄
      clear S₂
      walk_at "V"
      refine call_list_seq a (T := "list") (.inl rfl) ea rfl rfl (fun h' c' hk eb => ?_) (by have := hI.length; have zz : sizeLine = 16777216 := rfl; simp at this ⊢; omega)
      have fb : s₄.heap.get? s₄.heap.objs.size = none := size_none _
      have S₄ := S₃.add fb hk eb
      clear S₃
      refine Sd.root' (S₄) fun g' Ug' ea' S₅ => ?_
      exact ⟨g', _, _, rfl, Ug', ⟨vs', lst_is ea', hI⟩, by simp; omega, by walk_at "Q", S₅⟩
    · rw [if_neg (by have : vs.length = 0 := by omega
                     simp [this])]
      walk_at "V"
      refine r_list (fun s₃ a q₃ fa U₃ ea => ?_) (by exact (by decide : 20 ≤ sizeLine))
      have S₂ := S₁.add fa U₃ ea
      refine Sd.root' (S₂) fun g' Ug' ea' S₃ => ?_
      refine ⟨g', a, [0, 2, 0, 0, 2, 1, 2, 1, 0, 1, 0, 0, 0, 2, 1, 0, 0, 3, 0, 1], rfl, Ug', ⟨_, lst_is ea', ?_⟩, by decide, by walk_at "Q", S₃⟩
      repeat (first | exact IntsAre.nil | refine IntsAre.cons _ _ ?_)
  · obtain ⟨g₁, cl, cs, rfl, Ug₁, hcl, hcn, q₂, S₂⟩ := h₂
    replace G := G.up Ug₁
    dsimp only
    refine r_st S₂ (fun s₃ q₃ S₃ hs₃ => ?_) (by exact rfl) (by exact rfl) (by exact rfl)
    clear S₂
    walk_at "S"
    refine Assign_Tuple_swapped (names := [Str.ofString "tape", Str.ofString "bank"]) ?_
    walk_at "V"
    refine wpAny_Dict_walk (knd := sK pw w) (by rfl) (by rfl) (by simp) (by simp) ?_
    have S₄ := S₃.push { cls := .type "dict", data := .dict #[] } rfl
    refine r_pairs_cons ?_
    walk_at "V"
    refine wpAny_bind ?_
    walk_at "V"
    refine wpAny_bind (wpAny_standAt (wpAny_pure ?_))
    refine r_pairs_cons ?_
    walk_at "V"
    refine wpAny_bind ?_
    walk_at "V"
    refine wpAny_bind (wpAny_standAt (wpAny_pure ?_))
    refine wpAny_pure ?_
    refine ⟨[("cells", .ref cl), ("spot", .int 0 _)], ⟨strKind_is pw w _ _, rfl, strKind_is pw w _ _, rfl, trivial⟩, ?_, fun h' hD' hs' => ?_⟩
    · exact Heap.DictOf.new s₃.heap
    obtain ⟨ot, eot, hDt⟩ := dictO_of hD'
    have S₅ := S₄.upd hs' eot
    generalize s₃.heap.objs.size = tp at *
    have hT : TapeO w cl 0 ot := ⟨_, hDt⟩
    clear S₄ hD' hDt
    walk_at "V"
    walk_at "C0"
    refine c_TermBank (k := k + 6) (G.up (Up.refl _)) S₅.up (r'.less (by omega)) fun s₆ bk wl fn fa fr g₂ q₆ U₆ Gr₂ hr Bk FI hl₂ nd₂ => ?_
    have S₆ := S₅.joinG U₆ Gr₂ hl₂ nd₂
    clear S₅
    replace G := G.up Gr₂.le
    replace hcl := hcl.up Gr₂.le
    replace Ug₁ := Ug₁.trans Gr₂.le
    clear hl₂ nd₂ Gr₂
    dsimp only
    walk_at "V"
    refine r_tuple (fun s₇ ta q₇ fta Uta eta => ?_) (by exact (by decide : 2 ≤ sizeLine))
    have S₇ := S₆.grown Uta
    clear S₆
    refine r_swap2 (n1 := Str.ofString "tape") (n2 := Str.ofString "bank") r'.handled (a := .ref tp) (b := .ref bk.x) ⟨_, eta, rfl, _, rfl⟩ fun s₈ q₈ U₈ => ?_
    have S₈ := S₇.grown U₈
    clear S₇
    refine r_st S₈ (fun s₉ q₉ S₉ hs₉ => ?_) (by exact rfl) (by exact rfl) (by exact rfl)
    refine r_st S₉ (fun s₁₀ q₁₀ S₁₀ hs₁₀ => ?_) (by exact rfl) (by exact rfl) (by exact rfl)
    clear S₈ S₉
    walk_at "S"
    refine Assign_Tuple ?_
    walk_at "V"
    refine callWith_K (Gnd.K G) (by k_is) ?_ (by exact rfl) (by exact rfl)
    walk_at "V"
    refine ⟨Frag.In.keeps (Gnd.K G) S₁₀.up, wpAny_call ?_⟩
    have hdn : ((wl ++ funs fn fa fr).map (·.1)).Nodup := by
      have nd := S₁₀.nd
      rw [List.map_append] at nd
      exact (List.nodup_append.mp nd).1
    refine c_pool (k := k + 6) G S₁₀.up Bk hr FI (fl := funs fn fa fr) ⟨_, _, _, _, _, _, rfl, rfl, rfl, rfl⟩ (fun p hp => ⟨S₁₀.get (List.mem_append_left _ hp), (S₁₀.nw p (List.mem_append_left _ hp)).2.2⟩) hdn (r'.less (by omega)) fun s₁₁ pl g₃ wl₃ q₁₁ Gr₃ E₃ Bk₃ em₃ ew₃ hp => ?_
    have S₁₁ := Sd.effD (S₁₀.re (by rw [List.append_assoc])) E₃ em₃ ew₃ Gr₃
    clear S₁₀ Bk FI hdn
    replace G := G.up Gr₃.le
    replace hcl := hcl.up Gr₃.le
    replace Ug₁ := Ug₁.trans Gr₃.le
    clear E₃ em₃ ew₃ Gr₃
    replace S₁₁ := S₁₁.pull
    dsimp only
    walk_at "V"
    refine callWith_K (Gnd.K G) (by k_is) ?_ (by exact rfl) (by exact rfl)
    walk_at "V"
    refine ⟨Frag.In.keeps (Gnd.K G) S₁₁.up, wpAny_call ?_⟩
    refine c_draw (n := k + 10) G S₁₁.up hT (S₁₁.get (.head _)) (S₁₁.nw _ (.head _)).2.2 hcl (by omega) (by decide) (by decide) (by decide) r' fun s₁₂ dd dt ot₂ q₁₂ E₁₂ e₁₂ hT₂ hd0 hd1 => ?_
    have S₁₂ := S₁₁.eff1 E₁₂ e₁₂
    clear S₁₁ hT
    dsimp only
    walk_at "V"
    refine r_tuple (fun s₁₃ tb q₁₃ ftb Utb etb => ?_) (by exact (by decide : 2 ≤ sizeLine))
    have S₁₃ := S₁₂.grown Utb
    clear S₁₂
    generalize hio : (dd == 0) = io at *
    refine r_assign2 r'.handled (a := .ref pl) (b := .bool io) ⟨_, etb, rfl, _, rfl⟩ (fun s₁₄ q₁₄ U₁₄ => ?_) (by exact rfl)
    have S₁₄ := S₁₃.grown U₁₄
    clear S₁₃
    refine wpAny_assign_Name (r_st S₁₄ (fun s₁₅ q₁₅ S₁₅ hs₁₅ => ?_) (by exact rfl) (by exact rfl) (by exact rfl))
    clear S₁₄
    have S₁₆ := S₁₅.re (n' := ((tp, ot₂) :: wl₃ ++ [(L + 1 + 1 + 1, o3), (L + 1 + 1, o2)]) ++ (L + 1, o1) :: []) (by simp)
    clear S₁₅
    refine wpAny_assign_Name (r_stC S₁₆.pull d1 (fun s₁₇ o1' q₁₇ S₁₇ d1' hs₁₇ => ?_) (by exact rfl) (by exact rfl) (by exact rfl))
    clear S₁₆ d1
    refine Sd.root' (S₁₇) fun g₄ Ug₄ c1 S₁₈ => ?_
    clear S₁₇
    replace G := G.up Ug₄
    replace hcl := hcl.up Ug₄
    replace Ug₁ := Ug₁.trans Ug₄
    replace hp := hp.up Ug₄
    replace Bk₃ := Bk₃.up Ug₄
    have S₁₉ := S₁₈.re (n' := (tp, ot₂) :: (wl₃ ++ [(L + 1 + 1 + 1, o3), (L + 1 + 1, o2)])) (by simp)
    clear S₁₈
    obtain ⟨m₂, S₂₀, hm₂⟩ := S₁₉.names [("tape", .ref tp), ("bank", .ref bk.x), ("pool", .ref pl)] (by intro p hp; simp only [List.mem_cons, List.not_mem_nil, or_false] at hp; rcases hp with rfl | rfl | rfl <;> rfl)
    have mt : m₂ "tape" = some (.ref tp) := hm₂ _ (.head _)
    have mb : m₂ "bank" = some (.ref bk.x) := hm₂ _ (.tail _ (.head _))
    have mp : m₂ "pool" = some (.ref pl) := hm₂ _ (.tail _ (.tail _ (.head _)))
    clear S₁₉ hm₂ hm
    -- singles
    walk_at "V"
    refine callWith_K (Gnd.K G) (by k_is) ?_ (by exact rfl) (by exact rfl)
    walk_at "V"
    refine ⟨Frag.In.keeps (Gnd.K G) S₂₀.up, wpAny_call ?_⟩
    refine c_singles (n := k + 9) G S₂₀.up hT₂ (S₂₀.get (.head _)) (S₂₀.nw _ (.head _)).2.2 hcl (by omega) (by decide) (by decide) hp r' fun s₁₈ sl ot₃ sg k₃ q₁₈ E₁₈ e₁₈ hT₃ hk1 hk2 fsl hsl hsg => ?_
    obtain ⟨slv, sln, esl, hslp⟩ := hsl
    have S₂₁ := S₂₀.join (S₂₀.eff1 E₁₈ e₁₈) (fun p hp => by
      rcases List.mem_cons.mp hp with rfl | hp
      · exact ⟨_, S₂₀.get (.head _)⟩
      · exact ⟨_, S₂₀.get (.tail _ hp)⟩) (new := [(sl, lstO slv.toArray sln)]) (fun p hp => by rw [List.mem_singleton.mp hp]; exact ⟨esl, fsl⟩) (by simp)
    clear S₂₀ E₁₈ e₁₈ hT₂ esl fsl
    refine Sd.root' (S₂₁) fun g₅ Ug₅ esl S₂₂ => ?_
    clear S₂₁
    dsimp only
    walk_at "V"
    have S₂₃ := S₂₂.re (n' := ((tp, ot₃) :: wl₃ ++ [(L + 1 + 1 + 1, o3)]) ++ (L + 1 + 1, o2) :: []) (by simp)
    clear S₂₂
    refine r_stC S₂₃.pull d2 (fun s₁₉ o2' q₁₉ S₂₄ d2' hs₁₉ => ?_) (by exact rfl) (by exact rfl) (by exact rfl)
    clear S₂₃ d2
    refine Sd.root' (S₂₄) fun g₆ Ug₆ c2 S₂₅ => ?_
    clear S₂₄
    replace Ug₅ := Ug₅.trans Ug₆
    replace esl := Ug₆ _ _ esl
    replace G := G.up Ug₅
    replace hcl := hcl.up Ug₅
    replace Ug₁ := Ug₁.trans Ug₅
    replace hp := hp.up Ug₅
    replace Bk₃ := Bk₃.up Ug₅
    replace c1 := Ug₅ _ _ c1
    replace hslp := paired_up (fun _ _ p => PairAt.up p Ug₅) hslp
    clear Ug₅ Ug₆
    have S₂₆ := S₂₅.re (n' := (tp, ot₃) :: (wl₃ ++ [(L + 1 + 1 + 1, o3)])) (by simp)
    clear S₂₅
    have hsln := hslp.length
    rw [List.length_map] at hsln
    have hsg3 := hsg.1
    have h32s : ∀ x ∈ sg.map litP, x.2.length = 32 := fun x hx => by
      obtain ⟨y, _, rfl⟩ := List.mem_map.mp hx
      simp [litP, litT]
    -- worlds
    walk_at "S"
    refine r_compA [(Str.ofString "singles", L + 1 + 1), (Str.ofString "is_or", L + 1)] (by with_unfolding_all rfl) (by with_unfolding_all rfl) (by exact rfl) (by decide) (by intro _; rfl) ?_
    walk_at "V"
    refine r_range1 fun s₂₀ r20 u20 v20 x20 q₂₀ U₂₀ hr20 => ?_
    have S₂₇ := S₂₆.grown U₂₀
    clear S₂₆
    refine cfU_range (n := 32) (some (Str.ofString "world")) (by intro _; rfl) (by intro _; rfl) r'.handled S₂₇ hr20 (fun i acc news => (tp, ot₃) :: (wl₃ ++ [(L + 1 + 1 + 1, o3)]) = news ∧ IntsAre acc (List.map (fun v : Nat => (v : Int)) ((List.range i).filter (okW io (sg.map litP))))) ⟨rfl, .nil⟩
      (fun i acc news ⟨_, e⟩ => by have := e.length; rw [List.length_map] at this; have h2 := List.length_filter_le (okW io (sg.map litP)) (List.range i); rw [List.length_range] at h2; omega) (by decide) (by decide) ?_ ?_
    · rintro g₇ C D I nD i v mC acc cw news₁ s₂₁ oI Ug₇ hnL hi' ⟨tv, rfl⟩ ⟨rfl, hia⟩ ⟨ow, vw, rfl, hdw⟩ q₂₁ S₂₈
      unfold CTurn
      refine wpAny_pure ?_
      replace S₂₈ : Sd g₇ C mC ((D, lstO (List.toArray acc) nD) :: (I, oI) :: (C + 1, ow) :: ((tp, ot₃) :: (wl₃ ++ [(L + 1 + 1 + 1, o3)]))) s₂₁.heap := S₂₈
      refine wpAny_assign_Name (r_stC S₂₈.front3 hdw (fun s₂₂ ow' q₂₂ S₂₉ dw hs₂₂ => ?_) (by exact rfl) (by exact rfl) (by exact rfl))
      clear S₂₈
      refine wpAny_tests_one ?_
      walk_at "V"
      refine r_comp [(Str.ofString "world", C + 1), (Str.ofString "is_or", L + 1)] (by with_unfolding_all rfl) (by exact rfl) (by decide) (by intro _; rfl) ?_
      walk_at "V"
      refine r_cell (S₂₉.up _ _ (Ug₇ _ _ c2)) d2' ?_ (by exact rfl) (by exact rfl) (by exact rfl) (by decide)
      refine cf_list none (by intro _; rfl) (by intro _; rfl) r'.handled S₂₉ (lst_is (Ug₇ _ _ esl)) (fun j acc₂ news => (C + 1, ow') :: (D, lstO (List.toArray acc) nD) :: (I, oI) :: ((tp, ot₃) :: (wl₃ ++ [(L + 1 + 1 + 1, o3)])) = news ∧ IntsAre acc₂ ((((sg.map litP).take j).filter (fun x => unW io x.2 i)).map fun _ => (1 : Int))) ⟨rfl, .nil⟩
        (fun j acc₂ news ⟨_, e⟩ => by have := e.length; rw [List.length_map] at this; have h2 := List.length_filter_le (fun x : Int × List Bool => unW io x.2 i) ((sg.map litP).take j); rw [List.length_take] at h2; omega) (by simp; omega) ?_ ?_
      · rintro g₈ C₂ D₂ I₂ nD₂ j v mC₂ acc₂ cw₂ news₂ s₂₃ oI₂ Ug₈ hnL₂ hj hv hit ⟨rfl, hia₂⟩ rfl q₂₃ S₃₀
        have hj' : j < (sg.map litP).length := by simp at hj ⊢; omega
        obtain ⟨a, tk, rr, rfl, hTT, hBB⟩ := paired_get hslp (by simpa using hv) (List.getElem?_eq_getElem hj')
        unfold CTurn
        refine r_pair r'.handled S₃₀ hit (hTT.at fun o e => S₃₀.up _ _ (Ug₈ _ _ (Ug₇ _ _ e))) (fun s₂₄ q₂₄ S₃₁ => ?_) (by exact rfl) (by exact rfl) (by exact rfl) (by exact rfl)
        refine wpAny_tests_one ?_
        clear S₃₀
        walk_at "V"
        refine r_cell (S₃₁.get (a := C + 1) (o := ow') (by simp)) dw ?_ (by exact rfl) (by exact rfl) (by exact rfl) (by decide)
        refine item_bools (k := i) (hBB.up fun b o e => S₃₁.up _ _ (Ug₈ _ _ (Ug₇ _ _ e))) rfl (by rw [h32s _ (List.getElem_mem hj')]; exact hi') (by rw [h32s _ (List.getElem_mem hj')]; decide) ?_ (by with_unfolding_all rfl)
        walk_at "V"
        refine r_cell (S₃₁.up _ _ (Ug₈ _ _ (Ug₇ _ _ c1))) d1' ?_ (by exact rfl) (by exact rfl) (by exact rfl) (by decide)
        refine PySem.SeqAt.RcNeAt.bool_bool _ _ _ _ _ _ ?_
        walk_at "V"
        cases hpp : unW io ((sg.map litP)[j]).2 i with
        | true =>
          rw [if_pos hpp]
          walk_at "V"
          refine ⟨_, [], _, rfl, by walk_at "Q", S₃₁, rfl, ?_⟩
          rw [filter_take (List.getElem?_eq_getElem hj'), hpp, if_pos rfl, List.map_append]
          exact ints_snoc hia₂
        | false =>
          rw [if_neg (by show ¬ unW io ((sg.map litP)[j]).2 i = true; rw [hpp]; decide)]
          refine ⟨_, [], _, rfl, by walk_at "Q", S₃₁, rfl, ?_⟩
          rw [filter_take (List.getElem?_eq_getElem hj'), hpp, if_neg (by decide), List.append_nil]
          exact hia₂
      · rintro D₂ nD₂ acc₂ news₂ s₂₃ q₂₃ S₃₀ ⟨rfl, hia₂⟩
        rw [show (List.toArray slv).size = (sg.map litP).length by simp [hsln], List.take_length] at hia₂
        walk_at "V"
        refine r_list (fun s₂₄ D₃ q₂₄ fD₃ U₂₄ eD₃ => ?_) (by exact (by decide : 0 ≤ sizeLine))
        have S₃₁ := S₃₀.grown U₂₄
        clear S₃₀
        walk_at "V"
        refine r_eq_list r'.cl' (lst_is (S₃₁.get (.head _))) (lst_is eD₃) (EqVia.ints hia₂ (IntsAre.nil)) ?_
        walk_at "V"
        replace S₃₁ := S₃₁.sub (List.sublist_cons_self _ _)
        rw [show decide ((((sg.map litP).filter (fun x => unW io x.2 i)).map fun _ => (1 : Int)) = []) = okW io (sg.map litP) i by rw [okW, decide_eq_decide, List.map_eq_nil_iff]]
        cases hpp : okW io (sg.map litP) i with
        | true =>
          rw [if_pos rfl]
          refine r_cell (S₃₁.get (.head _)) dw ?_ (by exact rfl) (by exact rfl) (by exact rfl) (by decide)
          refine ⟨_, [(C + 1, ow')], _, ⟨ow', _, rfl, dw⟩, by walk_at "Q", S₃₁.front3.front3, rfl, ?_⟩
          rw [List.range_succ, List.filter_append, List.map_append, List.filter_cons, hpp, if_pos rfl, List.filter_nil]
          exact ints_snoc hia
        | false =>
          rw [if_neg (by decide)]
          refine ⟨_, [(C + 1, ow')], _, ⟨ow', _, rfl, dw⟩, by walk_at "Q", S₃₁.front3.front3, rfl, ?_⟩
          rw [List.range_succ, List.filter_append, List.filter_cons, hpp, if_neg (by decide), List.filter_nil, List.append_nil]
          exact hia
    · rintro wa wn wvs news' s₂₁ C oC mC q₂₁ S₂₈ hC ⟨rfl, hwi⟩
      refine r_useA S₂₈ hC (by exact rfl) (by exact rfl) (by exact rfl) fun s₂₂ q₂₂ S₂₉ => ?_
      clear S₂₈ hC
      refine Sd.root' (S₂₉) fun g₇ Ug₇ ewa S₃₀ => ?_
      clear S₂₉
      replace esl := Ug₇ _ _ esl
      replace G := G.up Ug₇
      replace hcl := hcl.up Ug₇
      replace Ug₁ := Ug₁.trans Ug₇
      replace hp := hp.up Ug₇
      replace Bk₃ := Bk₃.up Ug₇
      replace c1 := Ug₇ _ _ c1
      replace c2 := Ug₇ _ _ c2
      replace hslp := paired_up (fun _ _ p => PairAt.up p Ug₇) hslp
      clear Ug₇
      generalize hws : (List.range 32).filter (okW io (sg.map litP)) = ws at *
      obtain ⟨m₃, S₃₁, hm₃⟩ := S₃₀.names [("tape", .ref tp), ("bank", .ref bk.x), ("pool", .ref pl), ("worlds", .ref wa)] (by intro p hp; simp only [List.mem_cons, List.not_mem_nil, or_false] at hp; rcases hp with rfl | rfl | rfl | rfl <;> first | exact mt | exact mb | exact mp | rfl)
      clear S₃₀ mt mb mp
      have mt : m₃ "tape" = some (.ref tp) := hm₃ _ (.head _)
      have mb : m₃ "bank" = some (.ref bk.x) := hm₃ _ (.tail _ (.head _))
      have mp : m₃ "pool" = some (.ref pl) := hm₃ _ (.tail _ (.tail _ (.head _)))
      have mw : m₃ "worlds" = some (.ref wa) := hm₃ _ (.tail _ (.tail _ (.tail _ (.head _))))
      clear hm₃
      dsimp only
      -- known, entered
      walk_at "S"
      refine Assign_Tuple ?_
      walk_at "V"
      refine r_comp [] (by with_unfolding_all rfl) (by exact rfl) (by decide) (by intro _; rfl) ?_
      walk_at "V"
      refine r_cell (S₃₁.up _ _ c2) d2' ?_ (by exact rfl) (by exact rfl) (by exact rfl) (by decide)
      refine cf_list none (by intro _; rfl) (by intro _; rfl) r'.handled S₃₁ (lst_is esl) (fun j acc news => acc.length = j ∧ ∃ tl, tl ++ ((tp, ot₃) :: (wl₃ ++ [(L + 1 + 1 + 1, o3)])) = news ∧ ∀ gg : Heap, Up g₇ gg → (∀ p ∈ tl, gg.get? p.1 = some p.2) →
          Paired (fun v x => ∃ T1 T2 t, v = Value.ref T1 ∧ gg.IsTuple T1 #[.int x.1 t, .ref T2] ∧ PairAt gg (.ref T2) x) acc ((sg.map litP).take j)) ⟨rfl, [], rfl, fun _ _ _ => .nil⟩
        (fun j acc news ⟨e, _⟩ => by omega) (by simp; omega) ?_ ?_
      · rintro g₈ C D I nD j v mC acc cw news s₂₃ oI Ug₈ hnL hj hv hit ⟨hal, tl, rfl, hpr⟩ rfl q₂₃ S₃₂
        have hj' : j < (sg.map litP).length := by simp at hj ⊢; omega
        obtain ⟨a, tk, rr, rfl, hTT, hBB⟩ := paired_get hslp (by simpa using hv) (List.getElem?_eq_getElem hj')
        unfold CTurn
        refine r_pair r'.handled S₃₂ hit (hTT.at fun o e => S₃₂.up _ _ (Ug₈ _ _ e)) (fun s₂₄ q₂₄ S₃₃ => ?_) (by exact rfl) (by exact rfl) (by exact rfl) (by exact rfl)
        refine wpAny_tests_nil ?_
        rw [if_pos rfl]
        clear S₃₂
        walk_at "V"
        refine r_tuple (fun s₂₅ T2 q₂₅ fT2 UT2 eT2 => ?_) (by exact (by decide : 2 ≤ sizeLine))
        have S₃₄ := S₃₃.add fT2 UT2 eT2
        clear S₃₃
        walk_at "V"
        refine r_tuple (fun s₂₆ T1 q₂₆ fT1 UT1 eT1 => ?_) (by exact (by decide : 2 ≤ sizeLine))
        have S₃₅ := S₃₄.add fT1 UT1 eT1
        clear S₃₄
        refine ⟨_, [], _, rfl, by walk_at "Q", S₃₅.front4.front4, by simp [hal], (T1, _) :: (T2, _) :: tl, rfl, fun gg Ug H => ?_⟩
        rw [take_snoc (List.getElem?_eq_getElem hj')]
        refine (hpr gg Ug fun p hp => H p (.tail _ (.tail _ hp))).snoc ⟨T1, T2, tk, rfl, ⟨_, H (T1, _) (.head _), rfl, _, rfl⟩, T2, tk, rr, rfl, ⟨_, H (T2, _) (.tail _ (.head _)), rfl, _, rfl⟩, hBB.up Ug⟩
      · rintro D nD acc news s₂₃ q₂₃ S₃₂ ⟨hal, tl, rfl, hpr⟩
        refine Sd.rootAll' (S₃₂.front2' (a := [(D, lstO (List.toArray acc) nD)]) (b := tl)) fun g₈ Ug₈ htl S₃₃ => ?_
        clear S₃₂
        replace hpr := hpr g₈ Ug₈ htl
        replace esl := Ug₈ _ _ esl
        replace G := G.up Ug₈
        replace hcl := hcl.up Ug₈
        replace Ug₁ := Ug₁.trans Ug₈
        replace hp := hp.up Ug₈
        replace Bk₃ := Bk₃.up Ug₈
        replace c1 := Ug₈ _ _ c1
        replace c2 := Ug₈ _ _ c2
        replace ewa := Ug₈ _ _ ewa
        replace hslp := paired_up (fun _ _ p => PairAt.up p Ug₈) hslp
        rw [show (List.toArray slv).size = (sg.map litP).length by simp [hsln], List.take_length] at hpr
        obtain ⟨kvK, hKv, hKn⟩ := kn_of hpr
        have hndl := lits_nodup hsg.2.1 hsg.2.2
        have eKf : kvK.map (·.1) = (sg.map litP).map (·.1) := by
          rw [keys_eq (f := fun e : Ent => e.1) (fun _ _ y => y.1) hKn, List.map_map]; rfl
        have hkl : kvK.length = sg.length := by have := congrArg List.length eKf; simpa using this
        walk_at "V"
        refine r_dict_pairs r'.handled (S₃₃.get (.head _)) (paired_up (R := KvAt) (fun _ _ p => let ⟨T, t, a, b⟩ := p; ⟨T, t, a, tup_up b S₃₃.up⟩) hKv) (by rw [eKf]; exact hndl) (by omega) fun s₂₄ kd ok q₂₄ fkd hle U₂₄ ekd hDk => ?_
        have lok := lo_of G S₃₃.up hle
        have S₃₄ := (S₃₃.sub (List.sublist_cons_self _ _)).add fkd U₂₄ ekd
        clear S₃₃ hle
        walk_at "V"
        refine r_cell (S₃₄.up _ _ c2) d2' ?_ (by exact rfl) (by exact rfl) (by exact rfl) (by decide)
        walk_at "V"
        obtain ⟨kvE, hEv, hEn⟩ := en_of hslp
        have eEf : kvE.map (·.1) = (sg.map litP).map (·.1) := by
          rw [keys_eq (f := fun e : Ent => e.1) (fun _ _ y => y.1) hEn, List.map_map]; rfl
        have hel : kvE.length = sg.length := by have := congrArg List.length eEf; simpa using this
        refine r_dict_pairs r'.handled (S₃₄.up _ _ esl) (paired_up (R := KvAt) (fun _ _ p => let ⟨T, t, a, b⟩ := p; ⟨T, t, a, tup_up b S₃₄.up⟩) hEv) (by rw [eEf]; exact hndl) (by omega) fun s₂₅ ed oe q₂₅ fed hle U₂₅ eed hDe => ?_
        have loe := lo_of G S₃₄.up hle
        have S₃₅ := S₃₄.add fed U₂₅ eed
        clear S₃₄ hle
        walk_at "V"
        refine r_tuple (fun s₂₆ tb2 q₂₆ ftb2 Utb2 etb2 => ?_) (by exact (by decide : 2 ≤ sizeLine))
        have S₃₆ := S₃₅.grown Utb2
        clear S₃₅
        refine r_assign2 r'.handled (a := .ref kd) (b := .ref ed) ⟨_, etb2, rfl, _, rfl⟩ (fun s₂₇ q₂₇ U₂₇ => ?_) (by exact rfl)
        have S₃₇ := (S₃₆.grown U₂₇).re (n' := ((ed, oe) :: (kd, ok) :: (tp, ot₃) :: wl₃) ++ (L + 1 + 1 + 1, o3) :: []) (by simp)
        clear S₃₆
        refine wpAny_assign_Name (r_stC S₃₇.pull d3 (fun s₂₈ o3' q₂₈ S₃₈ d3' hs₂₈ => ?_) (by exact rfl) (by exact rfl) (by exact rfl))
        clear S₃₇
        refine Sd.root' (S₃₈) fun g₉ Ug₉ c3 S₃₉ => ?_
        clear S₃₈
        refine wpAny_assign_Name (r_st S₃₉ (fun s₂₉ q₂₉ S₄₀ hs₂₉ => ?_) (by exact rfl) (by exact rfl) (by exact rfl))
        clear S₃₉
        have Ugg := Ug₉
        replace G := G.up Ugg
        replace hcl := hcl.up Ugg
        replace Ug₁ := Ug₁.trans Ugg
        replace hp := hp.up Ugg
        replace Bk₃ := Bk₃.up Ugg
        replace c1 := Ugg _ _ c1
        replace ewa := Ugg _ _ ewa
        have tab : Tab w g₉ io sg ws poolB ok oe ((sg.map litP).map fun x => (x.1, x.2, some x)) := ⟨⟨kvK, hDk, paired_imp hKn fun _ _ y => ⟨y.1, y.2.up Ug₉⟩⟩, ⟨kvE, hDe, paired_imp hEn fun _ _ y => ⟨y.1, let ⟨r, e1, e2⟩ := y.2; ⟨r, e1, e2.up Ugg⟩⟩⟩, fun e he => by
            obtain ⟨x, hx, rfl⟩ := List.mem_map.mp he
            obtain ⟨l, hl, rfl⟩ := List.mem_map.mp hx
            exact .inl ⟨l, hl, rfl⟩, fun l hl => ⟨_, List.mem_map_of_mem (List.mem_map_of_mem hl), rfl⟩⟩
        obtain ⟨m₄, S₄₁, hm₄⟩ := S₄₀.names [("tape", .ref tp), ("bank", .ref bk.x), ("pool", .ref pl), ("worlds", .ref wa), ("entered", .ref ed)] (by intro p hp; simp only [List.mem_cons, List.not_mem_nil, or_false] at hp; rcases hp with rfl | rfl | rfl | rfl | rfl <;> first | exact mt | exact mb | exact mp | exact mw | rfl)
        clear S₄₀ mt mb mp mw
        have mt : m₄ "tape" = some (.ref tp) := hm₄ _ (.head _)
        have mb : m₄ "bank" = some (.ref bk.x) := hm₄ _ (.tail _ (.head _))
        have mp : m₄ "pool" = some (.ref pl) := hm₄ _ (.tail _ (.tail _ (.head _)))
        have mw : m₄ "worlds" = some (.ref wa) := hm₄ _ (.tail _ (.tail _ (.tail _ (.head _))))
        have me : m₄ "entered" = some (.ref ed) := hm₄ _ (.tail _ (.tail _ (.tail _ (.tail _ (.head _)))))
        clear hm₄
        have S₄₂ := (S₄₁.re (n' := (ed, oe) :: (kd, ok) :: (tp, ot₃) :: wl₃) (by simp)).front3
        clear S₄₁ hslp hKn hEn hKv hEv hpr hDk hDe fkd ekd fed eed
        -- the laps
        walk_at "S"
        refine wpAny_For ?_ (by intro _; rfl)
        walk_at "V"
        refine callWith_K (Gnd.K G) (by k_is) ?_ (by exact rfl) (by exact rfl)
        walk_at "V"
        refine ⟨Frag.In.keeps (Gnd.K G) S₄₂.up, wpAny_call ?_⟩
        refine c_draw (n := k + 10) G S₄₂.up hT₃ (S₄₂.get (.head _)) (S₄₂.nw _ (.head _)).2.2 hcl (by omega) (by omega) (by omega) (by decide) r' fun s₃₀ lp lt ot₄ q₃₀ E₃₀ e₃₀ hT₄ hl0 hl1 => ?_
        have S₄₃ := S₄₂.eff1 E₃₀ e₃₀
        clear S₄₂ hT₃
        dsimp only
        walk_at "V"
        obtain ⟨N, hN⟩ : ∃ N : Nat, 1 + lp = N := ⟨(1 + lp).toNat, by omega⟩
        rw [hN]
        refine r_range1 fun s₃₁ r31 u31 v31 x31 q₃₁ U₃₁ hr31 => ?_
        have S₄₄ := S₄₃.grown U₃₁
        clear S₄₃
        refine r_for_range r'.handled (n := N) S₄₄ hr31 ?_ (fun i g' m' news => ∃ ot k' B wl ok oe es, LapS w g' bk io sg ws cl tp wa pl ed kd m' i news ot k' B wl ok oe es) ?_ rfl rfl rfl ?_ ?_
        · have : N = 1 ∨ N = 2 ∨ N = 3 ∨ N = 4 := by omega
          rcases this with rfl | rfl | rfl | rfl <;> decide
        · exact ⟨ot₄, _, poolB, wl₃, ok, oe, _, rfl, hT₄, by omega, by omega, Bk₃, PreB.refl _, by decide, tab, by simp; omega, mt, mb, mp, mw, me⟩
        · clear tab Bk₃ hT₄ mt mb mp mw me S₄₄
          rintro I i v g' m' news s₃₂ oI hi ⟨tv, rfl⟩ ⟨ot, k', B, wl, ok, oe, es, rfl, hT, hk0, hk9, Bk, hPB, hBl, tab, hes, mt, mb, mp, mw, me⟩ Ug' q₃₂ S
          replace G := G.up Ug'
          replace hcl := hcl.up Ug'
          replace Ug₁ := Ug₁.trans Ug'
          replace hp := hp.up Ug'
          replace c1 := Ug' _ _ c1
          replace c3 := Ug' _ _ c3
          replace ewa := Ug' _ _ ewa
          have h13 := hPB.len
          -- row
          walk_at "V"
          refine callWith_K (Gnd.K G) (by k_is) ?_ (by exact rfl) (by exact rfl)
          walk_at "V"
          refine ⟨Frag.In.keeps (Gnd.K G) S.up, wpAny_call ?_⟩
          replace S := S.front2
          refine c_row (n := k + 9) G S.up hT (S.get (.head _)) (S.nw _ (.head _)).2.2 hcl (by omega) hk0 (by omega) hp r' fun s₃₃ rl ot₂ row k₂ q₃₃ E₃₃ e₃₃ hT₂ hka hkb frl hrl hR => ?_
          obtain ⟨rvs, rn, erl, hrp⟩ := hrl
          have S₁ := S.join (S.eff1 E₃₃ e₃₃) (fun p hp => by
            rcases List.mem_cons.mp hp with rfl | hp
            · exact ⟨_, S.get (.head _)⟩
            · exact ⟨_, S.get (.tail _ hp)⟩) (new := [(rl, lstO rvs.toArray rn)]) (fun p hp => by rw [List.mem_singleton.mp hp]; exact ⟨erl, frl⟩) (by simp)
          clear S E₃₃ e₃₃ hT erl frl
          refine Sd.root' (S₁) fun ga Uga erl S₂ => ?_
          clear S₁
          have hrow : RowL ga rl (row.map litP) := ⟨rvs, lst_is erl, paired_up (fun _ _ p => PairAt.up p Uga) hrp⟩
          have hrn : row.length ≤ 4 := hR.2.1
          have hr2 : 2 ≤ row.length := hR.1
          have hxr : ∀ x ∈ row.map litP, 0 ≤ x.1 ∧ x.1.toNat < B.length := fun x hx => by
            obtain ⟨y, hy, rfl⟩ := List.mem_map.mp hx
            have := litP_num (hR.2.2.2 y hy)
            omega
          have h32 : ∀ x ∈ row.map litP, x.2.length = 32 := fun x hx => by
            obtain ⟨y, hy, rfl⟩ := List.mem_map.mp hx
            exact litP_len y
          clear hrp erl
          dsimp only
          walk_at "V"
          refine r_st S₂ (fun s₃₄ q₃₄ S₃ hs₃₄ => ?_) (by exact rfl) (by exact rfl) (by exact rfl)
          clear S₂
          replace G := G.up Uga
          replace c1 := Uga _ _ c1
          -- t
          walk_at "V"
          refine callWith_K (Gnd.K G) (by k_is) ?_ (by exact rfl) (by exact rfl)
          walk_at "V"
          refine r_cell (S₃.up _ _ c1) d1' ?_ (by exact rfl) (by exact rfl) (by exact rfl) (by decide)
          walk_at "V"
          refine ⟨Frag.In.keeps (Gnd.K G) S₃.up, wpAny_call ?_⟩
          have S₄ := S₃.perm (List.perm_append_comm (l₁ := [_, _, _, _]) (l₂ := wl))
          clear S₃
          refine c_term (k := k + 7) G S₄.up (Bk.up Uga) hr (fun p hp => ⟨S₄.get (List.mem_append_left _ hp), (S₄.nw p (List.mem_append_left _ hp)).2.2⟩) r' hrow hxr (by simp; omega) (by omega) fun s₃₅ rv t₃₅ gb B₂ wl₂ ns q₃₅ Gw hpn hsn hj hB => ?_
          have S₅ := S₄.effW Gw.ef Gw.em Gw.ew Gw.gr
          clear S₄
          have hpre : PreB B B₂ := by
            rcases hB with rfl | ⟨_, rfl⟩
            · exact PreB.refl _
            · exact PreB.app _ _
          have hB2 : B₂.length ≤ B.length + 1 := by
            rcases hB with rfl | ⟨_, rfl⟩
            · omega
            · simp
          have hnl : ns.length = row.length := by rw [hpn.length_eq]; simp
          obtain ⟨ix, hix0, hixB, rfl⟩ : ∃ ix : Nat, 0 < ix ∧ B₂[ix]? = some ⟨opN io, ns, 0⟩ ∧ rv = ix := by
            rcases hj with ⟨e, _⟩ | ⟨x, e, _⟩ | ⟨_, ix, a, b, c⟩
            · rw [e] at hnl; simp at hnl; omega
            · rw [e] at hnl; simp at hnl; omega
            · exact ⟨ix, a, b, c⟩
          clear hj hB
          have Ub := Gw.gr.le
          have Bk₂ := Gw.bk
          clear Gw
          replace G := G.up Ub
          replace c1 := Ub _ _ c1
          dsimp only
          walk_at "V"
          refine r_st S₅ (fun s₃₆ q₃₆ S₆ hs₃₆ => ?_) (by exact rfl) (by exact rfl) (by exact rfl)
          clear S₅
          -- known[t], entered[t]
          walk_at "S"
          refine Assign_Tuple ?_
          walk_at "V"
          refine callWith_K (Gnd.K G) (by k_is) ?_ (by exact rfl) (by exact rfl)
          walk_at "V"
          refine r_cell (S₆.up _ _ c1) d1' ?_ (by exact rfl) (by exact rfl) (by exact rfl) (by decide)
          walk_at "V"
          refine ⟨Frag.In.keeps (Gnd.K G) S₆.up, wpAny_call ?_⟩
          refine codeAny_mono (R := fun rr s' => ∃ v du gc B₃ wl₃, rr = .ok (.ret v) ∧ Same s₃₆ s' ∧ Grew w bk gb s₃₆.heap wl₂ gc s'.heap B₃ wl₃ ∧ PreB B₂ B₃ ∧ B₃.length ≤ B₂.length + 1 ∧ ValK gc v du ∧ DueOk io ws B₃ row du) ?_ ?_
          · refine c_due (k := k + 6) G S₆.up Bk₂ hr (fun p hp => ⟨S₆.get (List.mem_append_left _ hp), (S₆.nw p (List.mem_append_left _ hp)).2.2⟩) r' (hrow.up Ub) (fun x hx => ⟨(hxr x hx).1, by have := (hxr x hx).2; have := hpre.len'; omega⟩) h32 (by simp; omega) (by omega) ⟨wvs, lst_is (Ub _ _ (Uga _ _ ewa)), hwi⟩ (fun v hv => by rw [← hws] at hv; exact List.mem_range.mp (List.mem_filter.mp hv).1) (by rw [← hws]; exact Nat.lt_of_le_of_lt (List.length_filter_le _ _) (by simp)) (fun hn s' q U => ?_) fun hn s' T rv g' B' wl' ns' q Gw hpn' hsn' hj' hB' hP' => ?_
            · exact ⟨.none, none, gb, B₂, wl₂, rfl, q, ⟨Grow.refl (S₆.up.trans U), Eff.of_up U, Bk₂, rfl, fun p hp => U _ _ (S₆.get (List.mem_append_left _ hp))⟩, PreB.refl _, by omega, rfl, .inl ⟨hn, rfl⟩⟩
            · refine ⟨.ref T, some _, g', B', wl', rfl, q, Gw, ?_, ?_, hP', .inr ⟨hn, rv, ns', hpn', hsn', hj', rfl⟩⟩
              · rcases hB' with rfl | ⟨_, rfl⟩
                · exact PreB.refl _
                · exact PreB.app _ _
              · rcases hB' with rfl | ⟨_, rfl⟩
                · omega
                · simp
          · rintro rr s₃₇ ⟨v, du, gc, B₃, wl₃', rfl, q₃₇, Gw, hpre₃, hB3, hvk, hdu⟩
            have S₇ := S₆.effW Gw.ef Gw.em Gw.ew Gw.gr
            clear S₆
            have Uc := Gw.gr.le
            have Bk₃ := Gw.bk
            clear Gw
            have G₃ := G.up Uc
            clear G
            replace c1 := Uc _ _ c1
            have Uac := Ub.trans Uc
            dsimp only
            walk_at "V"
            refine callWith_K (Gnd.K G₃) (by k_is) ?_ (by exact rfl) (by exact rfl)
            walk_at "V"
            refine r_cell (S₇.up _ _ c1) d1' ?_ (by exact rfl) (by exact rfl) (by exact rfl) (by decide)
            walk_at "V"
            refine ⟨Frag.In.keeps (Gnd.K G₃) S₇.up, wpAny_call ?_⟩
            refine c_joined0 (k := k + 10) (G₃.up S₇.up) r' ((hrow.up Uac).up S₇.up) h32 (by simp; omega) fun s₃₈ jl jn q₃₈ U₃₈ fj ej => ?_
            have S₈ := S₇.add fj U₃₈ ej
            clear S₇
            refine Sd.root' (S₈) fun gd Ud ej' S₉ => ?_
            clear S₈
            dsimp only
            walk_at "V"
            refine r_tuple (fun s₃₉ tt q₃₉ ftt Utt ett => ?_) (by exact (by decide : 2 ≤ sizeLine))
            have S₁₀ := S₉.grown Utt
            clear S₉
            refine r_assign2 r'.handled (a := v) (b := .ref jl) ⟨_, ett, rfl, _, rfl⟩ (fun s₄₀ q₄₀ U₄₀ => ?_) (by exact rfl)
            have S₁₁ := (S₁₀.grown U₄₀).re (n' := (wl₃' ++ [(tp, ot₂), (I, oI), (ed, oe)]) ++ (kd, ok) :: []) (by simp)
            clear S₁₀
            obtain ⟨kvK, hDk, hKn⟩ := tab.k
            obtain ⟨kvE, hDe, hEn⟩ := tab.e
            have zz : sizeLine = 16777216 := rfl
            have lK := hKn.length
            have lE := hEn.length
            have Ugd := (Uga.trans Uac).trans Ud
            have c3d := Ugd _ _ c3
            refine r_asgSub ?_
            walk_at "V"
            refine r_cell (S₁₁.up _ _ c3d) d3' ?_ (by exact rfl) (by exact rfl) (by exact rfl) (by decide)
            walk_at "V"
            refine r_setitem (k := (ix : Int)) S₁₁.pull hDk (by simp [intKind, Value.isInt]) (fun s₄₁ ok' q₄₁ S₁₂ hDk' _ => ?_) (by omega)
            clear S₁₁
            have S₁₃ := S₁₂.re (n' := ((kd, ok') :: wl₃' ++ [(tp, ot₂), (I, oI)]) ++ (ed, oe) :: []) (by simp)
            clear S₁₂
            refine r_asgSub ?_
            walk_at "V"
            refine r_setitem (k := (ix : Int)) S₁₃.pull hDe (by simp [intKind, Value.isInt]) (fun s₄₂ oe' q₄₂ S₁₄ hDe' _ => ?_) (by omega)
            clear S₁₃
            walk_at "V"
            have hnew : EntOk io sg ws B₃ ((ix : Int), joinT io ((row.map litP).map (·.2)), du) := .inr ⟨row, ns, hR, hpn, hsn, by omega, by rw [Int.toNat_natCast]; exact hpre₃ _ _ hixB, rfl, hdu⟩
            have tab' : Tab w gd io sg ws B₃ ok' oe' (putE es ((ix : Int), joinT io ((row.map litP).map (·.2)), du)) := by
              have pk : Paired (KnR gd) _ _ := paired_stored (P := KnR gd) (fun _ _ y => y.1) (paired_imp hKn fun _ _ y => ⟨y.1, y.2.up Ugd⟩) (e := ((ix : Int), joinT io ((row.map litP).map (·.2)), du)) (v := v) ⟨rfl, hvk.up Ud⟩
              have pe : Paired (EnR gd) _ _ := paired_stored (P := EnR gd) (fun _ _ y => y.1) (paired_imp hEn fun _ _ y => ⟨y.1, let ⟨r, e1, e2⟩ := y.2; ⟨r, e1, e2.up Ugd⟩⟩) (e := ((ix : Int), joinT io ((row.map litP).map (·.2)), du)) (v := .ref jl) ⟨rfl, jl, rfl, BoolL.of ej'⟩
              refine ⟨⟨_, hDk', pk⟩, ⟨_, hDe', pe⟩, fun e he => ?_, fun l hl => ?_⟩
              · rcases putE_mem he with rfl | he
                · exact hnew
                · exact (tab.all e he).pre (hpre.trans hpre₃)
              · obtain ⟨e, he, hel⟩ := tab.sing l hl
                obtain ⟨y, hy, hye⟩ := putE_key (e := ((ix : Int), joinT io ((row.map litP).map (·.2)), du)) he
                exact ⟨y, hy, hye.trans hel⟩
            have S₁₅ := (S₁₄.re (n' := ((ed, oe') :: (kd, ok') :: wl₃') ++ [(tp, ot₂), (I, oI)]) (by simp)).perm (List.perm_append_comm.trans (.swap _ _ _))
            exact ⟨.inl rfl, gd, _, (tp, ot₂) :: (ed, oe') :: (kd, ok') :: wl₃', Ugd, by walk_at "Q", S₁₅, ot₂, k₂, B₃, wl₃', ok', oe', _, rfl, hT₂, by omega, by omega, Bk₃.up Ud, hPB.trans (hpre.trans hpre₃), by omega, tab', by have := putE_len es ((ix : Int), joinT io ((row.map litP).map (·.2)), du); omega, mt, mb, mp, mw, me⟩
        · clear tab Bk₃ hT₄ mt mb mp mw me S₄₄
          rintro g' m' news s₃₂ q₃₂ Ug' S ⟨ot, k', B, wl, ok, oe, es, rfl, hT, hk0, hk9, Bk, hPB, hBl, tab, hes, mt, mb, mp, mw, me⟩
          replace G := G.up Ug'
          replace hcl := hcl.up Ug'
          replace Ug₁ := Ug₁.trans Ug'
          replace c1 := Ug' _ _ c1
          replace c3 := Ug' _ _ c3
          replace ewa := Ug' _ _ ewa
          have hN4 : N ≤ 4 := by omega
          obtain ⟨kvE, hDe, hEn⟩ := tab.e
          have hkE : kvE.map (·.1) = es.map (·.1) := keys_eq (f := fun e : Ent => e.1) (fun _ _ y => y.1) hEn
          have lE := hEn.length
          have zz : sizeLine = 16777216 := rfl
          -- rest, found
          walk_at "S"
          refine Assign_Tuple_swapped (names := [Str.ofString "rest", Str.ofString "found"]) ?_
          walk_at "V"
          refine r_sorted_dict r'.handled (hDe.at (S.get (a := ed) (o := oe) (by simp))) loe (by omega) fun s₃₃ ra vsR ks nR q₃₃ fR UR eR hIR hpm hsr => ?_
          rw [hkE] at hpm
          have hkl := hpm.length_eq
          rw [List.length_map] at hkl
          have S₁ := S.add fR UR eR
          clear S
          walk_at "V"
          refine r_dict fun s₃₄ fd q₃₄ ffd Ufd efd hle => ?_
          have lof := lo_of G S₁.up hle
          have S₂ := S₁.add ffd Ufd efd
          clear S₁ hle
          walk_at "V"
          refine r_tuple (fun s₃₅ ta₂ q₃₅ fta₂ Uta₂ eta₂ => ?_) (by exact (by decide : 2 ≤ sizeLine))
          have S₃ := S₂.grown Uta₂
          clear S₂
          refine r_swap2 (n1 := Str.ofString "rest") (n2 := Str.ofString "found") r'.handled (a := .ref ra) (b := .ref fd) ⟨_, eta₂, rfl, _, rfl⟩ fun s₃₆ q₃₆ U₃₆ => ?_
          have S₄ := S₃.grown U₃₆
          clear S₃
          refine r_st S₄ (fun s₃₇ q₃₇ S₅ hs₃₇ => ?_) (by exact rfl) (by exact rfl) (by exact rfl)
          refine r_st S₅ (fun s₃₈ q₃₈ S₆ hs₃₈ => ?_) (by exact rfl) (by exact rfl) (by exact rfl)
          clear S₄ S₅
          walk_at "S"
          refine wpAny_While ?_
          refine codeAny_whileLoop (fun n s' => ∃ m ot k' vsR ksR nR fo fkv, WhiS w g' L cl tp wa ed kd fd ra bk.x wl ok oe ks s₃₈ s' n m ot k' vsR ksR nR fo fkv) ?_ ks.length ⟨_, ot, k', vsR, ks, nR, _, [], Same.rfl', S₆, hIR, rfl, DictO.empty, by simp, hT, hk0, by omega, mt, mb, mw, me, rfl, rfl⟩
          clear S₆ hT hk0 hk9 mt mb mp mw me hIR eR
          rintro n s₃₉ ⟨m₅, ot, k', vsR, ksR, nR, fo, fkv, q₃₉, S, hIR, rfl, hDf, hpf, hT, hk0, hk9, mt, mb, mw, me, mr, mf⟩
          walk_at "V"
          refine r_list (fun s₄₀ z₄₀ q₄₀ fz Uz ez => ?_) (by exact (by decide : 0 ≤ sizeLine))
          have S₁ := S.grown Uz
          clear S
          have hRl : vsR.length = ksR.length := by simpa using hIR.length
          refine r_ne_list r'.cl' (lst_is (S₁.get (a := ra) (o := lstO (List.toArray vsR) nR) (by simp))) (lst_is ez) (EqVia.ints hIR IntsAre.nil) ?_
          walk_at "V"
          have hpl := hpf.length_eq
          rw [List.length_append, List.length_map] at hpl
          by_cases hne : ksR = []
          · subst hne
            rw [if_neg (by simp)]
            walk_at "V"
            rw [List.append_nil] at hpf
            -- before
            refine Sd.rootAll' (news := []) (S₁.re (List.append_nil _).symm) fun gz Ugz hgz S₂ => ?_
            clear S₁
            have BkZ := Bk.at Ugz fun p hp => hgz p (by simp [hp])
            have hfd := hgz (fd, fo) (by simp)
            have hed := hgz (ed, oe) (by simp)
            have hkd := hgz (kd, ok) (by simp)
            clear hgz Bk hIR hT hk0 hk9
            replace G := G.up Ugz
            replace c1 := Ugz _ _ c1
            replace c3 := Ugz _ _ c3
            replace tab := tab.up (B' := B) Ugz (PreB.refl _)
            replace hEn := paired_imp hEn fun _ _ y => (⟨y.1, let ⟨r, e1, e2⟩ := y.2; ⟨r, e1, e2.up Ugz⟩⟩ : EnR gz _ _)
            replace Ug₁ := Ug₁.trans Ugz
            clear Ugz
            refine r_list_dict r'.handled (hDf.at (S₂.up _ _ hfd)) lof (by omega) fun s₄₁ ba vsB nB q₄₁ fB UB eB hIB => ?_
            refine Sd.root' ((S₂.add fB UB eB)) fun gy Ugy eBy S₃ => ?_
            clear S₂ fB UB eB
            replace G := G.up Ugy
            replace c1 := Ugy _ _ c1
            replace c3 := Ugy _ _ c3
            replace hfd := Ugy _ _ hfd
            replace hed := Ugy _ _ hed
            replace hkd := Ugy _ _ hkd
            replace BkZ := BkZ.up Ugy
            replace tab := tab.up (B' := B) Ugy (PreB.refl _)
            replace hEn := paired_imp hEn fun _ _ y => (⟨y.1, let ⟨r, e1, e2⟩ := y.2; ⟨r, e1, e2.up Ugy⟩⟩ : EnR gy _ _)
            replace Ug₁ := Ug₁.trans Ugy
            clear Ugy
            refine r_st S₃ (fun s₄₂ q₄₂ S₃' hs₄₂ => ?_) (by exact rfl) (by exact rfl) (by exact rfl)
            clear S₃
            obtain ⟨m₆, S₄, hm₆⟩ := S₃'.names [("bank", .ref bk.x), ("entered", .ref ed), ("found", .ref fd), ("before", .ref ba)] (by intro p hp; simp only [List.mem_cons, List.not_mem_nil, or_false] at hp; rcases hp with rfl | rfl | rfl | rfl <;> first | exact mb | exact me | exact mf | rfl)
            clear S₃' mt mb mw me mr mf
            have mb : m₆ "bank" = some (.ref bk.x) := hm₆ _ (.head _)
            have me : m₆ "entered" = some (.ref ed) := hm₆ _ (.tail _ (.head _))
            have mf : m₆ "found" = some (.ref fd) := hm₆ _ (.tail _ (.tail _ (.head _)))
            have mq : m₆ "before" = some (.ref ba) := hm₆ _ (.tail _ (.tail _ (.tail _ (.head _))))
            clear hm₆
            -- told
            walk_at "S"
            walk_at "S"
            walk_at "S"
            walk_at "S"
            walk_at "V"
            walk_at "C"
            refine c_rw (k := k + 8) G S₄.up BkZ.I hr r' fun s₄₃ rx gx q₄₃ Ux Grx RI => ?_
            have S₅ := S₄.joinG Ux Grx (new := []) (by simp) (by simp)
            clear S₄
            replace S₅ := S₅.re (List.nil_append _)
            have Ugx := Grx.le
            clear Grx
            replace G := G.up Ugx
            replace c1 := Ugx _ _ c1
            replace c3 := Ugx _ _ c3
            replace hfd := Ugx _ _ hfd
            replace hed := Ugx _ _ hed
            replace hkd := Ugx _ _ hkd
            replace eBy := Ugx _ _ eBy
            replace BkZ := BkZ.up Ugx
            replace tab := tab.up (B' := B) Ugx (PreB.refl _)
            replace hEn := paired_imp hEn fun _ _ y => (⟨y.1, let ⟨r, e1, e2⟩ := y.2; ⟨r, e1, e2.up Ugx⟩⟩ : EnR gx _ _)
            replace Ug₁ := Ug₁.trans Ugx
            clear Ugx
            dsimp only
            refine w_meth (f := 671) G S₅.up RI (by decide) (by k_is) (by k_is) (by k_is) ?_
            refine callWith_K (Gnd.K G) (by k_is) ?_ (by exact rfl) (by exact rfl)
            walk_at "S"
            refine wpAny_mono (Q := fun v s' => ∃ t, v = .str (opN io) t ∧ Same s₄₃ s' ∧ Sd gx L m₆ [] s'.heap) ?_ (fun v s₄₄ hv => ?_) fun _ _ e => e
            · walk_at "V"
              refine r_cell (S₅.up _ _ c1) d1' ?_ (by exact rfl) (by exact rfl) (by exact rfl) (by decide)
              walk_at "V"
              by_cases hb : io = true
              · rw [if_pos hb]
                walk_at "V"
                exact ⟨_, by rw [opN, if_pos hb], by walk_at "Q", S₅⟩
              · rw [if_neg hb]
                walk_at "V"
                exact ⟨_, by rw [opN, if_neg hb], by walk_at "Q", S₅⟩
            obtain ⟨to, rfl, q₄₄, S₆⟩ := hv
            clear S₅
            walk_at "V"
            refine ⟨Frag.In.keeps (Gnd.K G) S₆.up, wpAny_call ?_⟩
            have F : LawF io sg ws B es ks (fkv.map (·.1)) := ⟨hsg, hws, hPB, bank_inj BkZ, tab.all, tab.sing, hkE ▸ hDe.nodup, hpm, hpf⟩
            have hfl := hpf.length_eq
            rw [List.length_map] at hfl
            refine c_thinned (k := k + 7) (fk := fkv.map (·.1)) (G.up S₆.up) (BkZ.up S₆.up) (pool_pre B hPB) hr (RI.up S₆.up) r' (S₆.up _ _ hfd) hDf rfl lof (by rw [List.length_map]; omega) (fun t ht => ?_) fun s₄₅ ta vsT nT ks₂ outs q₄₅ UT fT eT hpm₂ hsr₂ hP hIT => ?_
            · obtain ⟨a, n, b, c⟩ := pl_node F t ht
              exact ⟨a, n, b, fun e => ⟨c e, c_joined (k := k + 5) (pool_pre B hPB) hr⟩⟩
            rw [sort_eq (hpm₂.trans hpf) hsr₂ hsr] at hP
            rw [pl_told F hP] at hIT
            clear hP hpm₂ hsr₂ RI BkZ
            refine Sd.root' ((S₆.add fT UT eT)) fun gt Ugt eT' S₇ => ?_
            clear S₆ fT UT eT
            replace G := G.up Ugt
            replace c1 := Ugt _ _ c1
            replace c3 := Ugt _ _ c3
            replace hfd := Ugt _ _ hfd
            replace hed := Ugt _ _ hed
            replace hkd := Ugt _ _ hkd
            replace eBy := Ugt _ _ eBy
            replace tab := tab.up (B' := B) Ugt (PreB.refl _)
            replace hEn := paired_imp hEn fun _ _ y => (⟨y.1, let ⟨r, e1, e2⟩ := y.2; ⟨r, e1, e2.up Ugt⟩⟩ : EnR gt _ _)
            replace Ug₁ := Ug₁.trans Ugt
            clear Ugt
            dsimp only
            refine r_st S₇ (fun s₄₆ q₄₆ S₈ hs₄₆ => ?_) (by exact rfl) (by exact rfl) (by exact rfl)
            clear S₇
            -- due
            walk_at "S"
            refine r_compA [(Str.ofString "known", L + 1 + 1 + 1)] (by with_unfolding_all rfl) (by with_unfolding_all rfl) (by exact rfl) (by decide) (by intro _; rfl) ?_
            walk_at "V"
            refine r_sorted_dict r'.handled (hDe.at (S₈.up _ _ hed)) loe (by omega) fun s₄₇ da vsD ksD nD q₄₇ fD UD eD hID hpmD hsrD => ?_
            rw [hkE] at hpmD
            rw [sort_eq (hpmD.trans hpm.symm) hsrD hsr] at hID
            clear hpmD hsrD
            refine Sd.root' ((S₈.add fD UD eD)) fun gu Ugu eD' S₉ => ?_
            clear S₈ fD UD eD
            replace G := G.up Ugu
            replace c1 := Ugu _ _ c1
            replace c3 := Ugu _ _ c3
            replace hfd := Ugu _ _ hfd
            replace hed := Ugu _ _ hed
            replace hkd := Ugu _ _ hkd
            replace eBy := Ugu _ _ eBy
            replace eT' := Ugu _ _ eT'
            replace tab := tab.up (B' := B) Ugu (PreB.refl _)
            replace hEn := paired_imp hEn fun _ _ y => (⟨y.1, let ⟨r, e1, e2⟩ := y.2; ⟨r, e1, e2.up Ugu⟩⟩ : EnR gu _ _)
            replace Ug₁ := Ug₁.trans Ugu
            clear Ugu
            obtain ⟨kvK, hDk, hKn⟩ := tab.k
            have hDl := hID.length
            refine cfU_list none (by intro _; rfl) (by intro _; rfl) r'.handled S₉ (lst_is eD') (fun j acc news => [] = news ∧ Paired (PairAt gu) acc ((ks.take j).filterMap (duF es)) ∧ acc.length ≤ j) ⟨rfl, .nil, Nat.le_refl _⟩ (fun j acc news ⟨_, _, e⟩ => e) (by simp; omega) ?_ ?_
            · rintro gv C D I nD j v mC acc cw news sv oI Uv hnL hj hv hit ⟨rfl, hac, hal⟩ rfl qv Sv
              have hj' : j < ks.length := by simp at hj; omega
              obtain ⟨tx, htx⟩ := hID.get j ks[j] (List.getElem?_eq_getElem hj')
              have hv' : v = .int ks[j] tx := by simp at hv; rw [hv] at htx; exact Option.some.inj htx
              subst hv'
              obtain ⟨vk, hvk, hval⟩ := kn_get hKn (hpm.mem_iff.mp (List.getElem_mem hj'))
              unfold CTurn
              refine wpAny_pure ?_
              refine wpAny_assign_Name (r_st Sv (fun sw qw Sw hsw => ?_) (by exact rfl) (by exact rfl) (by exact rfl))
              refine wpAny_tests_one ?_
              clear Sv
              walk_at "V"
              refine r_cell (Sw.up _ _ (Uv _ _ c3)) d3' ?_ (by exact rfl) (by exact rfl) (by exact rfl) (by decide)
              walk_at "V"
              refine item_dict (hDk.at (Sw.up _ _ (Uv _ _ hkd))) (by simp [intKind, Value.isInt]) hvk ?_ (by with_unfolding_all rfl)
              walk_at "V"
              cases hdu : duF es ks[j] with
              | none =>
                rw [hdu] at hval
                replace hval : vk = .none := hval
                subst hval
                refine wpAny_isNot_self (by rfl) ?_
                walk_at "V"
                rw [if_neg (by decide)]
                refine ⟨_, [], _, rfl, by walk_at "Q", Sw, rfl, ?_, by omega⟩
                rw [take_snoc (List.getElem?_eq_getElem hj'), List.filterMap_append, List.filterMap_cons_none hdu, List.filterMap_nil, List.append_nil]
                exact hac
              | some y =>
                rw [hdu] at hval
                replace hval : PairAt gu vk y := hval
                obtain ⟨T, tk, rr, rfl, hTT, hBB⟩ := id hval
                refine wpAny_isNot_other (by rfl) (by simp) ?_
                walk_at "V"
                rw [if_pos rfl]
                walk_at "V"
                refine r_cell (Sw.up _ _ (Uv _ _ c3)) d3' ?_ (by exact rfl) (by exact rfl) (by exact rfl) (by decide)
                walk_at "V"
                refine item_dict (hDk.at (Sw.up _ _ (Uv _ _ hkd))) (by simp [intKind, Value.isInt]) hvk ?_ (by with_unfolding_all rfl)
                refine ⟨_, [], _, rfl, by walk_at "Q", Sw, rfl, ?_, by simp; omega⟩
                rw [take_snoc (List.getElem?_eq_getElem hj'), List.filterMap_append, List.filterMap_cons_some hdu, List.filterMap_nil]
                exact hac.snoc hval
            rintro D₁ nD₁ acc news' s₄₈ oC₀ oC mC q₄₈ S₁₀ hC ⟨rfl, hac, hal⟩
            rw [show (List.toArray vsD).size = ks.length by simp [hDl], List.take_length] at hac
            refine r_useA S₁₀ hC (by exact rfl) (by exact rfl) (by exact rfl) fun s₄₉ q₄₉ S₁₁ => ?_
            clear S₁₀ hC
            refine Sd.root' (S₁₁) fun gy Ugy eDu S₁₂ => ?_
            clear S₁₁
            replace G := G.up Ugy
            replace c1 := Ugy _ _ c1
            replace hfd := Ugy _ _ hfd
            replace hed := Ugy _ _ hed
            replace eBy := Ugy _ _ eBy
            replace eT' := Ugy _ _ eT'
            replace hac := paired_up (fun _ _ p => PairAt.up p Ugy) hac
            replace hEn := paired_imp hEn fun _ _ y => (⟨y.1, let ⟨r, e1, e2⟩ := y.2; ⟨r, e1, e2.up Ugy⟩⟩ : EnR gy _ _)
            replace Ug₁ := Ug₁.trans Ugy
            clear Ugy tab hDk hKn c3 d3' hkd
            generalize hdus : ks.filterMap (duF es) = dus at *
            have hacl := hac.length
            have hdl : dus.length ≤ ks.length := by rw [← hdus]; exact List.length_filterMap_le _ _
            -- if
            dsimp only
            walk_at "S"
            walk_at "S"
            refine isTrue_or ?_
            walk_at "V"
            refine r_comp [] (by with_unfolding_all rfl) (by exact rfl) (by decide) (by intro _; rfl) ?_
            walk_at "V"
            refine cf_list none (by intro _; rfl) (by intro _; rfl) r'.handled S₁₂ (lst_is eDu) (fun j acc news => [] = news ∧ IntsAre acc ((dus.take j).map (·.1)) ∧ acc.length ≤ j) ⟨rfl, .nil, Nat.le_refl _⟩ (fun j acc news ⟨_, _, e⟩ => e) (by simp; omega) ?_ ?_
            · rintro gv C D I nD j v mC acc₂ cw news sv oI Uv hnL hj hv hit ⟨rfl, hia, hal⟩ rfl qv Sv
              have hj' : j < dus.length := by simp at hj; omega
              obtain ⟨T, tk, rr, rfl, hTT, hBB⟩ := paired_get hac (by simpa using hv) (List.getElem?_eq_getElem hj')
              unfold CTurn
              refine r_pair r'.handled Sv hit (hTT.at fun o e => Sv.up _ _ (Uv _ _ e)) (fun sw qw Sw => ?_) (by exact rfl) (by exact rfl) (by exact rfl) (by exact rfl)
              refine wpAny_tests_nil ?_
              rw [if_pos rfl]
              clear Sv
              walk_at "V"
              refine ⟨_, [], _, rfl, by walk_at "Q", Sw, rfl, ?_, by simp; omega⟩
              rw [take_snoc (List.getElem?_eq_getElem hj'), List.map_append]
              exact ints_snoc hia
            rintro D₂ nD₂ acc₂ news' s₅₀ q₅₀ S₁₃ ⟨rfl, hia, hal₂⟩
            rw [show (List.toArray acc).size = dus.length by simp [hacl], List.take_length] at hia
            refine r_ne_list r'.cl' (lst_is (S₁₃.up _ _ eT')) (lst_is (S₁₃.get (.head _))) (EqVia.ints hIT hia) ?_
            rw [decide_eq_false (fun e => e rfl)]
            walk_at "V"
            refine isTrue_or ?_
            walk_at "V"
            refine r_list_dict r'.handled (hDf.at (S₁₃.up _ _ hfd)) lof (by omega) fun s₅₁ la vsL nL q₅₁ fL UL eL hIL => ?_
            have S₁₄ := S₁₃.grown UL
            clear S₁₃
            walk_at "V"
            refine r_ne_list r'.cl' (lst_is eL) (lst_is (S₁₄.up _ _ eBy)) (EqVia.ints hIL hIB) ?_
            rw [decide_eq_false (fun e => e rfl)]
            walk_at "V"
            refine isTrue_or_nil ?_
            rw [if_neg (by decide)]
            walk_at "V"
            -- the two sides
            have fin := pl_final F
            rw [hdus] at fin
            have em : (es.map fun e => (e.1, e.2.1)).map (·.2) = es.map (·.2.1) := by rw [List.map_map]; rfl
            have hxd := hDe
            obtain ⟨_, _, hxe, _⟩ := hxd
            refine callWith_K (Gnd.K G) (by k_is) ?_ (by exact rfl) (by exact rfl)
            walk_at "S"
            refine UnaryOp_ ?_
            refine r_cell (S₁₄.up _ _ c1) d1' ?_ (by exact rfl) (by exact rfl) (by exact rfl) (by decide)
            refine not_of (wpAny_truthy_bool ?_)
            walk_at "V"
            refine m_items (S₁₄.up _ _ hed) hxe ?_
            walk_at "V"
            refine r_items (hDe.at (S₁₄.up _ _ hed)) loe fun s₅₂ vi q₅₂ UI hvi => ?_
            have S₁₅ := S₁₄.grown UI
            clear S₁₄ UI
            walk_at "V"
            refine r_list_items r'.handled hvi (hDe.at (S₁₅.up _ _ hed)) (by omega) fun s₅₃ li vsI nI q₅₃ fI UI eI hIt => ?_
            have S₁₆ := S₁₅.grown UI
            clear S₁₅ UI hvi
            walk_at "V"
            refine ⟨Frag.In.keeps (Gnd.K G) S₁₆.up, wpAny_call ?_⟩
            refine c_joined0 (k := k + 10) (io := !io) (rows := es.map fun e => (e.1, e.2.1)) (G.up S₁₆.up) r' ⟨vsI, lst_is eI, items_row hIt hEn S₁₆.up⟩ (fun x hx => by
              obtain ⟨e, he, rfl⟩ := List.mem_map.mp hx
              exact (ent32 (F.all e he)).1) (by rw [List.length_map]; omega) fun s₅₄ ja nJ q₅₄ UJ fJ eJ => ?_
            rw [em, fin] at eJ
            have S₁₇ := S₁₆.add fJ UJ eJ
            clear S₁₆ UJ fJ eJ eI hIt
            dsimp only
            walk_at "V"
            refine callWith_K (Gnd.K G) (by k_is) ?_ (by exact rfl) (by exact rfl)
            walk_at "S"
            refine UnaryOp_ ?_
            refine r_cell (S₁₇.up _ _ c1) d1' ?_ (by exact rfl) (by exact rfl) (by exact rfl) (by decide)
            refine not_of (wpAny_truthy_bool ?_)
            walk_at "V"
            refine ⟨Frag.In.keeps (Gnd.K G) S₁₇.up, wpAny_call ?_⟩
            refine c_joined0 (k := k + 10) (io := !io) (rows := dus) (G.up S₁₇.up) r' ⟨acc, lst_is (S₁₇.up _ _ eDu), paired_up (fun _ _ p => PairAt.up p S₁₇.up) hac⟩ (fun x hx => by
              rw [← hdus] at hx
              obtain ⟨t, _, hd⟩ := List.mem_filterMap.mp hx
              obtain ⟨e, he, _, ee⟩ := du_mem hd
              exact (ent32 (F.all e he)).2 x ee) (by omega) fun s₅₅ jb nJ₂ q₅₅ UJ fJ eJ => ?_
            have S₁₈ := S₁₇.grown UJ
            clear S₁₇ UJ fJ
            dsimp only
            walk_at "V"
            refine r_eq_list r'.cl' (lst_is (S₁₈.get (.head _))) (lst_is eJ) EqVia.bools ?_
            rw [decide_eq_true rfl]
            walk_at "V"
            exact h _ (by walk_at "Q") (Ug₁.trans S₁₈.up)
          · have hpos : 0 < ksR.length := List.length_pos_iff.mpr hne
            rw [if_pos (by simpa using hne)]
            walk_at "V"
            refine m_pop (S₁.get (a := ra) (o := lstO (List.toArray vsR) nR) (by simp)) ?_
            walk_at "V"
            refine callWith_K (Gnd.K G) (by k_is) ?_ (by exact rfl) (by exact rfl)
            walk_at "V"
            refine len_list_any (vs := List.toArray vsR) (lst_is (S₁.get (a := ra) (o := lstO (List.toArray vsR) nR) (by simp))) (by simp; omega) fun s₄₁ t₄₁ q₄₁ e₄₁ => ?_
            rw [show (List.toArray vsR).size = ksR.length by simp [hRl]]
            rw [← e₄₁] at S₁
            walk_at "V"
            refine ⟨Frag.In.keeps (Gnd.K G) S₁.up, wpAny_call ?_⟩
            replace S₁ := S₁.front3
            refine c_draw (n := k + 10) G S₁.up hT (S₁.get (.head _)) (S₁.nw _ (.head _)).2.2 hcl (by omega) hk0 (by omega) (by omega) r' fun s₄₂ dd dt ot₂ q₄₂ E₄₂ e₄₂ hT₂ hd0 hd1 => ?_
            have S₂ := (S₁.eff1 E₄₂ e₄₂).front3
            clear S₁ hT
            obtain ⟨j, rfl⟩ : ∃ j : Nat, dd = (j : Int) := ⟨dd.toNat, by omega⟩
            have hj : j < ksR.length := by omega
            obtain ⟨ty, hty⟩ := hIR.get j ksR[j] (List.getElem?_eq_getElem hj)
            have hnin : ksR[j] ∉ fkv.map (·.1) := fun hm => by
              have nd : (fkv.map (·.1) ++ ksR).Nodup := (hpf.trans hpm).nodup_iff.mpr (hkE ▸ hDe.nodup)
              exact (List.nodup_append.mp nd).2.2 _ hm _ (List.getElem_mem hj) rfl
            dsimp only
            walk_at "V"
            refine r_pop S₂ rfl (k := j) (y := .int ksR[j] ty) (by simpa using hty) (by simp; omega) fun s₄₃ n₄₃ q₄₃ S₃ => ?_
            clear S₂
            walk_at "V"
            refine r_setitem (k := ksR[j]) S₃.front3 hDf (by simp [intKind, Value.isInt]) (fun s₄₄ fo' q₄₄ S₄ hDf' _ => ?_) (by omega)
            clear S₃
            rw [stored_fresh hnin] at hDf'
            walk_at "V"
            refine ⟨(ksR.eraseIdx j).length, by rw [List.length_eraseIdx_of_lt hj]; omega, m₅, ot₂, k' + 1, vsR.eraseIdx j, ksR.eraseIdx j, n₄₃, fo', _, by walk_at "Q", by simpa using S₄, ints_erase hIR j, rfl, hDf', ?_, hT₂, by omega, by rw [List.length_eraseIdx_of_lt hj]; omega, mt, mb, mw, me, mr, mf⟩
            rw [List.map_append, List.append_assoc]
            refine List.Perm.trans (List.Perm.append_left _ ?_) hpf
            exact erase_perm hj
end Mine
theorem PySem.Challenge.cw_qz0027_01_holds : PySem.Challenge.rw_qz0027_01.Holds :=
  Mine.top.hd (by
  w_strict
    (k_fill
     intro w s₀ s₁ mg mb G Y fa o pm cd doc dV kV ho hd hcd hD hmg hg args vals as hpre hlay hrd hwl hlo
     have KX := kIn_of Y
     refine Ground.open G ?_
     intro T B D TE TW
     try (refine guard_noD D (by decide +kernel) ?_; clear D)
     clear hd hcd hD
     wrow_args hpre hlay hrd hwl hlo
     refine enter_call ?_
     w_top on
     refine codeAny_mono ?_ (fun _ _ g => GoodW.toG g)
     rename_i w5 hs5 hl0 hL1 hr1 hl2 w4 w3 w2 w1 w0 hL ra ww r0 hI hr hc1 hc0
     have hfa : fa = 802 := Value.ref.inj (Option.some.inj (hmg.symm.trans (mg_of (n := Str.ofString "law") KX T.g (by k_is))))
     subst hfa
     refine Mine.c_law (k := 0) (ns := w5) ⟨KX, _, _, _, _, _, T⟩ ⟨by decide, by decide, rfl⟩ hL hI (by omega) fun s' q U => ?_
     exact ⟨.inl ⟨.bool true, .bool true, [], rfl, fun _ => rfl, .bool true, by wrow_post, unshared_nil⟩, U, q.os, q.gens.trans hg⟩))
