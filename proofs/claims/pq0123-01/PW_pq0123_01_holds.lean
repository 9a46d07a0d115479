import PyProof.Rows.All
import Wide.All
import OpenK.AllK
import Wide.FinOn
import Lean
import PySem.Challenge.RW_pq0123_01
set_option Elab.async false
set_option maxRecDepth 100000
set_option maxHeartbeats 40000000
set_option compiler.extract_closed false
set_option linter.all false
open PySem PySem.W PyProof.Rows
namespace Mine.q
theorem tw12115144566349399080:1=1:=rfl
theorem tw18187737390836354633:1=1:=rfl
theorem tw12305343887095020173:1=1:=rfl
theorem tw14805963950069943710:1=1:=rfl
theorem tw12250531439591622113:1=1:=rfl
theorem tw483981327074951913:1=1:=rfl
theorem tw13514582128731401645:1=1:=rfl
theorem tw1799705842941076145:1=1:=rfl
theorem tw2533673549294140399:1=1:=rfl
theorem tw15582835422776872422:1=1:=rfl
theorem tw2191928897007622863:1=1:=rfl
theorem tw12422514995264272999:1=1:=rfl
theorem tw5936168102712986118:1=1:=rfl
theorem tw12377957372761816352:1=1:=rfl
theorem tw12086839464917250165:1=1:=rfl
theorem tw13045802506141202701:1=1:=rfl
theorem tw10200868969212655581:1=1:=rfl
theorem tw7518762084861933813:1=1:=rfl
theorem tw16344714210649795871:1=1:=rfl
theorem tw6220214328709753957:1=1:=rfl
theorem tw140573948700444169:1=1:=rfl
theorem tw3642985200198273715:1=1:=rfl
theorem tw3474273666468345679:1=1:=rfl
theorem tw7929557766594528084:1=1:=rfl
theorem tw7533321664768422834:1=1:=rfl
theorem tw15690820638394209863:1=1:=rfl
theorem tw17349345924594848331:1=1:=rfl
theorem tw14181221548716460321:1=1:=rfl
theorem tw6955306144784619807:1=1:=rfl
theorem tw13709528037543511328:1=1:=rfl
theorem tw1494508534601399787:1=1:=rfl
theorem tw16993783269673894544:1=1:=rfl
theorem tw7204247046125130124:1=1:=rfl
theorem tw8965952332336241457:1=1:=rfl
theorem tw3994852674145086156:1=1:=rfl
theorem tw7618077193415745769:1=1:=rfl
theorem tw5836574816348972254:1=1:=rfl
theorem tw12052842347803674900:1=1:=rfl
theorem tw3165132038719602367:1=1:=rfl
theorem tw6650741787537639865:1=1:=rfl
theorem tw2881118979687333617:1=1:=rfl
theorem tw12879600537654676871:1=1:=rfl
theorem tw15632614329187297877:1=1:=rfl
theorem tw11760847942449759352:1=1:=rfl
theorem tw5562890229139429097:1=1:=rfl
theorem tw16334505507905987659:1=1:=rfl
theorem tw16804110874160413905:1=1:=rfl
theorem tw11588568888390758854:1=1:=rfl
theorem tw9297675016599890659:1=1:=rfl
theorem tw9150049327772109936:1=1:=rfl
theorem tw3803397736697126219:1=1:=rfl
theorem tw3556262798606542150:1=1:=rfl
theorem tw11186720300436285467:1=1:=rfl
theorem tw8955776820415905680:1=1:=rfl
theorem tw16697155721294040788:1=1:=rfl
theorem tw18283012324295347719:1=1:=rfl
theorem tw16619041563306886240:1=1:=rfl
theorem tw7796633690302827443:1=1:=rfl
theorem tw2369116516433345385:1=1:=rfl
theorem tw14022562285777651961:1=1:=rfl
theorem tw2376887255945160587:1=1:=rfl
theorem tw15689669257207230829:1=1:=rfl
theorem tw15898470114719526400:1=1:=rfl
theorem tw12798965279889468974:1=1:=rfl
theorem tw6828565123391309991:1=1:=rfl
theorem tw14778678421304150578:1=1:=rfl
theorem tw15042993259210909370:1=1:=rfl
theorem tw2974926000232192984:1=1:=rfl
theorem tw17342920279076562410:1=1:=rfl
theorem tw2856258797774404971:1=1:=rfl
theorem tw8640696802160543136:1=1:=rfl
theorem tw13644372635826079137:1=1:=rfl
theorem tw14478025589360513208:1=1:=rfl
theorem tw8315036007477457678:1=1:=rfl
theorem tw3497316943456483132:1=1:=rfl
theorem tw16022682354479884414:1=1:=rfl
theorem tw9146258874175374536:1=1:=rfl
theorem tw6826931281640082025:1=1:=rfl
theorem tw5040496042620101774:1=1:=rfl
theorem tw8645276146907015041:1=1:=rfl
theorem tw16117934749941386736:1=1:=rfl
theorem tw5582427124108389205:1=1:=rfl
theorem tw13897821705401593083:1=1:=rfl
theorem tw10546460971273362245:1=1:=rfl
theorem tw17294252682871692408:1=1:=rfl
theorem tw3308525200858058014:1=1:=rfl
theorem tw15300221498567630238:1=1:=rfl
theorem tw18430292304218744876:1=1:=rfl
theorem tw12347908946445826058:1=1:=rfl
theorem tw4452546182764356098:1=1:=rfl
theorem tw7486761870901278193:1=1:=rfl
theorem tw3502383934944983821:1=1:=rfl
theorem tw2150757713499626797:1=1:=rfl
theorem tw8932544348725160260:1=1:=rfl
theorem tw4741254889840470040:1=1:=rfl
theorem tw716776032069543831:1=1:=rfl
theorem tw7908388007416832086:1=1:=rfl
theorem tw9177412961176454580:1=1:=rfl
theorem tw8375226416073586395:1=1:=rfl
theorem tw26804988764361286:1=1:=rfl
theorem tw10545895919647432597:1=1:=rfl
theorem tw6846584847879720101:1=1:=rfl
theorem tw17321612406280568570:1=1:=rfl
theorem tw7062737954245882178:1=1:=rfl
theorem tw5511643254339252286:1=1:=rfl
theorem tw14682094307972271556:1=1:=rfl
theorem tw5469152790442221495:1=1:=rfl
theorem tw16248061300630039944:1=1:=rfl
theorem tw5534905230922840383:1=1:=rfl
theorem tw17849846718688516539:1=1:=rfl
theorem tw3142923786531004108:1=1:=rfl
theorem tw10529125628172548817:1=1:=rfl
theorem tw18042765609298722714:1=1:=rfl
theorem tw6002196465495999224:1=1:=rfl
theorem tw1600861104481858121:1=1:=rfl
theorem tw18201786660413254352:1=1:=rfl
theorem tw6415557014362820347:1=1:=rfl
theorem tw5899736629340245839:1=1:=rfl
theorem tw10509642065625332146:1=1:=rfl
theorem tw13893423213098395984:1=1:=rfl
theorem tw15818710065101072880:1=1:=rfl
theorem tw18174287512261806493:1=1:=rfl
theorem tw6105424242599162153:1=1:=rfl
theorem tw2087709478109686136:1=1:=rfl
theorem tw12855949932022289823:1=1:=rfl
theorem tw15712945918200184819:1=1:=rfl
theorem tw15972502403010686893:1=1:=rfl
theorem tw9140877765437711555:1=1:=rfl
theorem tw7408709250931010344:1=1:=rfl
theorem tw17689004356018255324:1=1:=rfl
theorem tw4604100213078895661:1=1:=rfl
theorem tw14383514516645895713:1=1:=rfl
theorem tw15468209263370217403:1=1:=rfl
theorem tw8480176933864337656:1=1:=rfl
theorem tw9984309697098459298:1=1:=rfl
theorem tw11903473940817855805:1=1:=rfl
theorem tw7963597854841242241:1=1:=rfl
theorem tw4111056725328860186:1=1:=rfl
theorem tw10646102352598802168:1=1:=rfl
theorem tw5014935783927824771:1=1:=rfl
theorem tw14015020190974041085:1=1:=rfl
theorem tw3191205135467418983:1=1:=rfl
theorem tw15882284106978654949:1=1:=rfl
theorem tw2690342029926063478:1=1:=rfl
theorem tw15064579839801668230:1=1:=rfl
theorem tw12770316633325492529:1=1:=rfl
theorem tw13469451666158874959:1=1:=rfl
theorem tw12285695519027200185:1=1:=rfl
theorem tw9405813217282592262:1=1:=rfl
theorem tw4327375501481878680:1=1:=rfl
theorem tw794939146398009072:1=1:=rfl
theorem tw7977141523548068166:1=1:=rfl
theorem tw11490391463762528507:1=1:=rfl
theorem tw12650777916357213733:1=1:=rfl
theorem tw5580320117997627126:1=1:=rfl
theorem tw639834335526834968:1=1:=rfl
theorem tw7942721854444384387:1=1:=rfl
theorem tw8185837522578527786:1=1:=rfl
theorem tw18280149626877737911:1=1:=rfl
theorem tw1674235205941856664:1=1:=rfl
theorem tw8695084194057253241:1=1:=rfl
theorem tw6438640461766874644:1=1:=rfl
theorem tw17918188324275332427:1=1:=rfl
theorem tw8048356767016800135:1=1:=rfl
theorem tw6136714067953575693:1=1:=rfl
theorem tw16210594627274942407:1=1:=rfl
theorem tw14467642645666752157:1=1:=rfl
theorem tw16812310456595651249:1=1:=rfl
theorem tw12460990585610012307:1=1:=rfl
theorem tw12605886100034445739:1=1:=rfl
theorem tw132948793492182750:1=1:=rfl
theorem tw15250797278595932822:1=1:=rfl
theorem tw6790025389899388048:1=1:=rfl
theorem tw16946495513754070944:1=1:=rfl
theorem tw3703802277620196955:1=1:=rfl
theorem tw14132416179197436142:1=1:=rfl
theorem tw6130976445284652682:1=1:=rfl
theorem tw7482555895871595569:1=1:=rfl
theorem tw15113351331345296704:1=1:=rfl
theorem tw9912968076875597596:1=1:=rfl
theorem tw15881333001821777809:1=1:=rfl
theorem tw10746397711349825652:1=1:=rfl
theorem tw15370720851511837439:1=1:=rfl
theorem tw5207609898502930009:1=1:=rfl
theorem tw9100676269805705645:1=1:=rfl
theorem tw5698672264997585670:1=1:=rfl
theorem tw17600395875721736834:1=1:=rfl
theorem tw17415400791482949849:1=1:=rfl
theorem tw116631258056118933:1=1:=rfl
theorem tw7711561926973405614:1=1:=rfl
theorem tw12888731380905284805:1=1:=rfl
theorem tw7090541823273122776:1=1:=rfl
theorem tw16389023452948396223:1=1:=rfl
theorem tw13010232219662478686:1=1:=rfl
theorem tw6573202213741975436:1=1:=rfl
theorem tw6130231139003903033:1=1:=rfl
theorem tw11389690376733398311:1=1:=rfl
theorem tw4239338258612600050:1=1:=rfl
theorem tw4680256983716039955:1=1:=rfl
theorem tw1690887914032494306:1=1:=rfl
theorem tw9484652940683647875:1=1:=rfl
theorem tw11642581663288040941:1=1:=rfl
theorem tw17279974662371401248:1=1:=rfl
theorem tw3153629992678408821:1=1:=rfl
theorem tw4425302734268397893:1=1:=rfl
theorem tw10253862437034082839:1=1:=rfl
theorem tw6682214405228200058:1=1:=rfl
theorem tw16135313033868774361:1=1:=rfl
theorem tw484077733551847013:1=1:=rfl
theorem tw13199273545977004125:1=1:=rfl
theorem tw10725617493714230806:1=1:=rfl
theorem tw2568898940037640070:1=1:=rfl
theorem tw11647490624055763490:1=1:=rfl
theorem tw16183622691546925067:1=1:=rfl
theorem tw9025998402770430905:1=1:=rfl
theorem tw1535573558762676957:1=1:=rfl
theorem tw3646295048623657157:1=1:=rfl
theorem tw5282781568374902621:1=1:=rfl
theorem tw5495796752160072539:1=1:=rfl
theorem tw13276423959334287793:1=1:=rfl
theorem tw14894000822537018619:1=1:=rfl
theorem tw5096626959321934258:1=1:=rfl
theorem tw15710369820716404476:1=1:=rfl
theorem tw5803175376051811361:1=1:=rfl
theorem tw4918954995091325049:1=1:=rfl
theorem tw4159326040953525868:1=1:=rfl
theorem tw2048329770905360361:1=1:=rfl
theorem tw4801849008663120830:1=1:=rfl
theorem tw6065403035230204640:1=1:=rfl
theorem tw843589865478644627:1=1:=rfl
theorem tw10976254623683002045:1=1:=rfl
theorem tw10786560635498318460:1=1:=rfl
theorem tw17020264246228618439:1=1:=rfl
theorem tw13232582430481541816:1=1:=rfl
theorem tw12375276135902620954:1=1:=rfl
theorem tw3772197675238363586:1=1:=rfl
theorem tw4301847815003940886:1=1:=rfl
theorem tw14016969738205474660:1=1:=rfl
theorem tw9531746711373795954:1=1:=rfl
theorem tw10710589263265133546:1=1:=rfl
theorem tw7397209690859900643:1=1:=rfl
theorem tw8429925273753055750:1=1:=rfl
theorem tw5552482064397308332:1=1:=rfl
theorem tw8233665428745286942:1=1:=rfl
theorem tw18430170018098632572:1=1:=rfl
theorem tw1194314393698348827:1=1:=rfl
theorem tw1810911501938771045:1=1:=rfl
theorem tw3197760218925595618:1=1:=rfl
theorem tw14874559026937267838:1=1:=rfl
theorem tw3509529729256775842:1=1:=rfl
theorem tw9709600392525807732:1=1:=rfl
theorem tw15815273706906588877:1=1:=rfl
theorem tw5988748837910162256:1=1:=rfl
theorem tw7426113567576524625:1=1:=rfl
theorem tw4414365119343480850:1=1:=rfl
theorem tw7785681920193204361:1=1:=rfl
theorem tw13768720029395160742:1=1:=rfl
theorem tw4055095592542267331:1=1:=rfl
theorem tw13682352745117742379:1=1:=rfl
theorem tw15586169161051389016:1=1:=rfl
theorem tw12176328189256394751:1=1:=rfl
theorem tw7482363198503516909:1=1:=rfl
theorem tw14784240144755510497:1=1:=rfl
theorem tw13150321403607393796:1=1:=rfl
theorem tw2762423179193585581:1=1:=rfl
theorem tw687568507699731894:1=1:=rfl
theorem tw16824178145479139676:1=1:=rfl
theorem tw14976703232122713368:1=1:=rfl
theorem tw8929341325905351787:1=1:=rfl
theorem tw1486372174712896792:1=1:=rfl
theorem tw8627793694518662601:1=1:=rfl
theorem tw12049931502131710031:1=1:=rfl
theorem tw13069719394826276020:1=1:=rfl
theorem tw9527763090461702849:1=1:=rfl
theorem tw2335187234029949848:1=1:=rfl
theorem tw17464779477067802898:1=1:=rfl
theorem tw13647071160798476371:1=1:=rfl
theorem tw802683247015380620:1=1:=rfl
theorem tw8230900210288749036:1=1:=rfl
theorem tw10604553244674416984:1=1:=rfl
theorem tw17136628196656295144:1=1:=rfl
theorem tw3720581278689922367:1=1:=rfl
theorem tw12130553947118150723:1=1:=rfl
theorem tw5347209036113702158:1=1:=rfl
theorem tw4842004017363353616:1=1:=rfl
theorem tw6849764930014299066:1=1:=rfl
theorem tw11153291272562379809:1=1:=rfl
theorem tw5785529005519791167:1=1:=rfl
theorem tw7390463672477246024:1=1:=rfl
theorem tw5021297503971422509:1=1:=rfl
theorem tw674907603847305735:1=1:=rfl
theorem tw16280342291344196086:1=1:=rfl
theorem tw15015948851758547786:1=1:=rfl
theorem tw7715717212146130412:1=1:=rfl
theorem tw15733698889596455063:1=1:=rfl
theorem tw12365035454507269375:1=1:=rfl
theorem tw6415297719759030408:1=1:=rfl
theorem tw12527266013816214469:1=1:=rfl
theorem tw241032860394553881:1=1:=rfl
theorem tw17556712455342050156:1=1:=rfl
theorem tw13721879283934798655:1=1:=rfl
theorem tw9870702461442738910:1=1:=rfl
theorem tw2910436409912996950:1=1:=rfl
theorem tw16149531844037687667:1=1:=rfl
theorem tw16701636685185433012:1=1:=rfl
theorem tw3071827696127027983:1=1:=rfl
theorem tw10147184750984161994:1=1:=rfl
theorem tw1270570666665772086:1=1:=rfl
theorem tw7599118095403422313:1=1:=rfl
theorem tw9251019850959324944:1=1:=rfl
theorem tw5784286204283867364:1=1:=rfl
theorem tw15090008478526235420:1=1:=rfl
theorem tw17801505609479228580:1=1:=rfl
theorem tw11283689821610423491:1=1:=rfl
theorem tw5313323403844142250:1=1:=rfl
theorem tw16849660701026123519:1=1:=rfl
theorem tw11360905329676074019:1=1:=rfl
theorem tw17696365283097769451:1=1:=rfl
theorem tw12663353076483463821:1=1:=rfl
theorem tw17698004682328058664:1=1:=rfl
theorem tw18355178632341783047:1=1:=rfl
theorem tw14525355163799176766:1=1:=rfl
theorem tw17877453183023825592:1=1:=rfl
theorem tw14043006442312776987:1=1:=rfl
theorem tw12845369952115558759:1=1:=rfl
theorem tw14275967561047667545:1=1:=rfl
theorem tw3453798473133720781:1=1:=rfl
theorem tw9693439778107148169:1=1:=rfl
theorem tw17583668679669886669:1=1:=rfl
theorem tw4476376357130544541:1=1:=rfl
theorem tw10446260419103492392:1=1:=rfl
theorem tw6536727631502509078:1=1:=rfl
theorem tw5981059333189502260:1=1:=rfl
theorem tw244979524890017307:1=1:=rfl
theorem tw7847329295018539310:1=1:=rfl
theorem tw17663638515640438160:1=1:=rfl
theorem tw15525341670767188713:1=1:=rfl
theorem tw13080835131220086444:1=1:=rfl
theorem tw8937683373591325368:1=1:=rfl
theorem tw17431998126514188529:1=1:=rfl
theorem tw4720353309870679064:1=1:=rfl
theorem tw944235644243935183:1=1:=rfl
theorem tw10579601812204979302:1=1:=rfl
theorem tw5397865827223446682:1=1:=rfl
theorem tw9995325114733151928:1=1:=rfl
theorem tw1640120696566772085:1=1:=rfl
theorem tw1130020213560443777:1=1:=rfl
theorem tw7392178406049214570:1=1:=rfl
theorem tw16107201872498332552:1=1:=rfl
theorem tw9339589090976570777:1=1:=rfl
theorem tw16023953899526332609:1=1:=rfl
theorem tw3141527914388097400:1=1:=rfl
theorem tw1629798118632997864:1=1:=rfl
theorem tw16673483925001886419:1=1:=rfl
theorem tw14519892247524697898:1=1:=rfl
theorem tw11550618205412489875:1=1:=rfl
theorem tw7245192532492041517:1=1:=rfl
theorem tw11385596346639519172:1=1:=rfl
theorem tw16775602425318156842:1=1:=rfl
theorem tw7492733062071597652:1=1:=rfl
theorem tw7642482495960530870:1=1:=rfl
theorem tw11121086405717952371:1=1:=rfl
theorem tw7907888528999104597:1=1:=rfl
theorem tw5856969892618906322:1=1:=rfl
theorem tw8771802057575654959:1=1:=rfl
theorem tw12623457454243662031:1=1:=rfl
theorem tw15746343231169013071:1=1:=rfl
theorem tw14479834702548679304:1=1:=rfl
theorem tw358007723476776765:1=1:=rfl
theorem tw335754783178944982:1=1:=rfl
theorem tw8436445189956664324:1=1:=rfl
theorem tw3640876793418561344:1=1:=rfl
theorem tw14802746729103225806:1=1:=rfl
theorem tw11643701366248064435:1=1:=rfl
theorem tw9231774963085192731:1=1:=rfl
theorem tw19355613249995473:1=1:=rfl
theorem tw5112051155539391328:1=1:=rfl
theorem tw599547642691284169:1=1:=rfl
theorem tw16471652425409583439:1=1:=rfl
theorem tw7610032418604769299:1=1:=rfl
theorem tw13218468931176147148:1=1:=rfl
theorem tw16864605727962445370:1=1:=rfl
theorem tw4188740539389556847:1=1:=rfl
theorem tw18203780456841141245:1=1:=rfl
theorem tw12811817012377116155:1=1:=rfl
theorem tw17272926057468657536:1=1:=rfl
theorem tw13710901635651585253:1=1:=rfl
theorem tw11287477228961160970:1=1:=rfl
theorem tw14716639461467630717:1=1:=rfl
theorem tw3133674329212385444:1=1:=rfl
theorem tw16803660978736758719:1=1:=rfl
theorem tw10802542233667103309:1=1:=rfl
theorem tw2677167359715011846:1=1:=rfl
theorem tw3969114138487737184:1=1:=rfl
theorem tw16585818716475414817:1=1:=rfl
theorem tw3333981982627888926:1=1:=rfl
theorem tw10879719435973648652:1=1:=rfl
theorem tw11325483126364533419:1=1:=rfl
theorem tw2619235857506855190:1=1:=rfl
theorem tw17999278136816028249:1=1:=rfl
theorem tw8371604936450844321:1=1:=rfl
theorem tw16868842191218259703:1=1:=rfl
theorem tw2998817596798138275:1=1:=rfl
theorem tw10771228501226366454:1=1:=rfl
theorem tw6757247909068332621:1=1:=rfl
theorem tw15924408180803878630:1=1:=rfl
theorem tw6525007074851277139:1=1:=rfl
theorem tw16389798941514255567:1=1:=rfl
theorem tw17711846734095248151:1=1:=rfl
theorem tw7495755603859591374:1=1:=rfl
theorem tw14641237576255781349:1=1:=rfl
theorem tw14177800067102038245:1=1:=rfl
theorem tw647425721565808847:1=1:=rfl
theorem tw10364563612119374382:1=1:=rfl
theorem tw9054822607939320059:1=1:=rfl
theorem tw6575794510674983834:1=1:=rfl
theorem tw13597597137816912495:1=1:=rfl
theorem tw12438068960578127981:1=1:=rfl
theorem tw831639243120543159:1=1:=rfl
theorem tw6205586130293255340:1=1:=rfl
theorem tw15728347044101582836:1=1:=rfl
theorem tw3642092406852744938:1=1:=rfl
theorem tw15704155198043854662:1=1:=rfl
theorem tw13521363181547964151:1=1:=rfl
theorem tw2652148333359705554:1=1:=rfl
theorem tw15776142664359541126:1=1:=rfl
theorem tw4436266005851534413:1=1:=rfl
theorem tw13879307537646821258:1=1:=rfl
theorem tw12551614318096279856:1=1:=rfl
theorem tw15913064654551159562:1=1:=rfl
theorem tw17329900045386140672:1=1:=rfl
theorem tw5636149797360766017:1=1:=rfl
theorem tw9439179024059313002:1=1:=rfl
theorem tw1476365071238061364:1=1:=rfl
theorem tw10634793083079742026:1=1:=rfl
theorem tw3213203230237283391:1=1:=rfl
theorem tw10979088988578844697:1=1:=rfl
theorem tw9415537974442890806:1=1:=rfl
theorem tw10957724998235704373:1=1:=rfl
theorem tw16422535550596694214:1=1:=rfl
theorem tw5246738899011016597:1=1:=rfl
theorem tw7211638567849890959:1=1:=rfl
theorem tw12118101501032192684:1=1:=rfl
theorem tw76977243916227293:1=1:=rfl
theorem tw15447350328259294987:1=1:=rfl
theorem tw10423915329988461849:1=1:=rfl
theorem tw15542072445864509657:1=1:=rfl
theorem tw10744208928711544480:1=1:=rfl
theorem tw329002948974641054:1=1:=rfl
theorem tw188394675520154707:1=1:=rfl
theorem tw7187066973162918506:1=1:=rfl
theorem tw7299801943341816627:1=1:=rfl
theorem tw12038063845985251838:1=1:=rfl
theorem tw2952206775617235565:1=1:=rfl
theorem tw596657109171264053:1=1:=rfl
theorem tw16538431011682784657:1=1:=rfl
theorem tw4900576330223316849:1=1:=rfl
theorem tw5630286589572374529:1=1:=rfl
theorem tw16891328928132481840:1=1:=rfl
theorem tw17175000182919678765:1=1:=rfl
theorem tw13557566310958742284:1=1:=rfl
theorem tw15027097993675123078:1=1:=rfl
theorem tw14047232341506336699:1=1:=rfl
theorem tw10577916440470917319:1=1:=rfl
theorem tw14255991657266125703:1=1:=rfl
theorem tw8633732112604126492:1=1:=rfl
theorem tw13906365499948973939:1=1:=rfl
theorem tw4310789941190004144:1=1:=rfl
theorem tw15834845675347343556:1=1:=rfl
theorem tw8700837566599630730:1=1:=rfl
theorem tw13617214559680675736:1=1:=rfl
theorem tw14861924997691954872:1=1:=rfl
theorem tw3908216815269299253:1=1:=rfl
theorem tw14151791791164389191:1=1:=rfl
theorem tw3156986626914718623:1=1:=rfl
theorem tw17868971538268519969:1=1:=rfl
theorem tw1705766155927705658:1=1:=rfl
theorem tw5215570264692425412:1=1:=rfl
theorem tw491988879248279975:1=1:=rfl
theorem tw8671538597116139569:1=1:=rfl
theorem tw12893546979955481099:1=1:=rfl
theorem tw2993454522022654392:1=1:=rfl
theorem tw1849127826479170715:1=1:=rfl
theorem tw16415159053406365053:1=1:=rfl
theorem tw12662605597682249959:1=1:=rfl
theorem tw15870297168727357879:1=1:=rfl
theorem tw8708967525238976031:1=1:=rfl
theorem tw16334813599058523035:1=1:=rfl
theorem tw11257497611303593092:1=1:=rfl
theorem tw3351540302952502829:1=1:=rfl
theorem tw4623046681392175967:1=1:=rfl
theorem tw5786184574383615980:1=1:=rfl
theorem tw11783019091010238667:1=1:=rfl
theorem tw2017209856375739288:1=1:=rfl
theorem tw5688067523908177462:1=1:=rfl
theorem tw6988027150727964096:1=1:=rfl
theorem tw16509167047771307626:1=1:=rfl
theorem tw12327613498287542785:1=1:=rfl
theorem tw5380011562927396577:1=1:=rfl
theorem tw847485432776007460:1=1:=rfl
theorem tw16721372974658963711:1=1:=rfl
theorem tw4690541987841326280:1=1:=rfl
theorem tw18011485790113076264:1=1:=rfl
theorem tw8157848389262732349:1=1:=rfl
theorem tw8541365195347548898:1=1:=rfl
theorem tw16388658294403757571:1=1:=rfl
theorem tw14968709807554855788:1=1:=rfl
theorem tw8328310002527615510:1=1:=rfl
theorem tw9800822676117233524:1=1:=rfl
theorem tw16951422906837317294:1=1:=rfl
theorem tw5013583343010984612:1=1:=rfl
theorem tw4178999158825950635:1=1:=rfl
theorem tw4571337303781583778:1=1:=rfl
theorem tw11869456189492744000:1=1:=rfl
theorem tw1829067407288416366:1=1:=rfl
theorem tw14218286353198098392:1=1:=rfl
theorem tw15115939682334017227:1=1:=rfl
theorem tw14421868213582853952:1=1:=rfl
theorem tw17754064184285656381:1=1:=rfl
theorem tw11565571929234698083:1=1:=rfl
theorem tw12252582726060603696:1=1:=rfl
theorem tw18117345060868338624:1=1:=rfl
theorem tw10648763777393241783:1=1:=rfl
theorem tw2497872835622865418:1=1:=rfl
theorem tw7843786622658681065:1=1:=rfl
theorem tw10885970068591997218:1=1:=rfl
theorem tw9983828571879712555:1=1:=rfl
theorem tw4826904783546264229:1=1:=rfl
theorem tw11827672186504585914:1=1:=rfl
theorem tw1736789139410364200:1=1:=rfl
theorem tw11593414823996113997:1=1:=rfl
theorem tw5941721273047890923:1=1:=rfl
theorem tw11548905348675188709:1=1:=rfl
theorem tw14661790979227299439:1=1:=rfl
end Mine.q
namespace Mine
set_option Elab.async true in
theorem q:True:=by
 set_option Elab.async false in
 first
 | (have h:Challenge.rw_pq0123_01.Holds:=with_decl_name% ?q.hd (((by (w_on;o_law;k_head;(case hw=>w_witness2);fail)):Challenge.rw_pq0123_01.Holds) :);trivial)
 | trivial
theorem q0:True:=q
open_top q.hd for Challenge.rw_pq0123_01
end Mine
open PySem.Spec PySem.Calls
namespace Mine.Internal
example:(fun (_:OpenLaw) (_:Params->Frag)=>True) Challenge.rw_pq0123_01 Mine.q.hd.heap_39:=by
 k_fill
 trivial
section
set_option genSizeOf false
set_option genInjectivity false
inductive AE where
 | v (i:Nat) | w (i:Nat) | n (k:Nat) | add (a b:AE) | sub (a b:AE) | mul (k:Nat) (a:AE) | c (a:AE)
inductive AL where
 | z | m (c:Nat) (r:AL) | N (a b:AE) (r:AL) | Z (a b:AE) (r:AL)
noncomputable def AE.dN (xs:List Nat) (e:AE):Nat :=
 AE.rec (fun i=>xs.getD i 0) (fun _=>0) (fun k=>k) (fun _ _ x y=>x+y) (fun _ _ _ _=>0) (fun k _ x=>k * x) (fun _ _=>0) e
noncomputable def AE.dZ (xs:List Nat) (zs:List Int) (e:AE):Int :=
 AE.rec (fun _=>0) (fun i=>zs.getD i 0) (fun k=>(k:Int)) (fun _ _ x y=>x+y) (fun _ _ x y=>x - y) (fun k _ x=>k * x) (fun a _=>(a.dN xs:Int)) e
noncomputable def AL.d (xs:List Nat) (zs:List Int) (l:AL):Prop :=
 AL.rec False (fun _ _ x=>x) (fun a b _ x=>a.dN xs<=b.dN xs->x) (fun a b _ x=>a.dZ xs zs<=b.dZ xs zs->x) l
noncomputable def addAt (l:List Int):Nat->Int->List Int :=
 List.rec (fun i k=>Nat.rec [k] (fun _ r=>0::r) i) (fun a l r i k=>Nat.rec ((a+k)::l) (fun j _=>a::r j k) i) l
noncomputable def dotA (l:List Int):(Nat->Int)->Int :=
 List.rec (fun _=>0) (fun a _ r f=>a * f 0+r (fun i=>f (i+1))) l
theorem dot_addAt (l:List Int):∀ (i:Nat) (k:Int) (f:Nat->Int),dotA (addAt l i k) f=dotA l f+k * f i:=by
 induction l with
 | nil =>
  intro i k
  induction i with
  | zero=>intro f;exact Int.add_comm _ _
  | succ i ih=>intro f;show 0 * f 0+dotA (addAt [] i k) _=_;rw [ih,Int.zero_mul,Int.zero_add];rfl
 | cons a l ih =>
  intro i k f
  cases i with
  | zero=>show (a+k) * f 0+dotA l _=a * f 0+dotA l _+k * f 0;rw [Int.add_mul,Int.add_right_comm]
  | succ i=>show a * f 0+dotA (addAt l i k) _=a * f 0+dotA l _+k * f (i+1);rw [ih,Int.add_assoc]
structure AP where
 c:Int
 p:List Int
 q:List Int
noncomputable def AP.e (xs:List Nat) (zs:List Int) (P:AP):Int:=P.c+(dotA P.p (fun i=>((xs.getD i 0:Nat):Int))+dotA P.q (fun i=>zs.getD i 0))
noncomputable def AE.lN (e:AE):Int->AP->AP :=
 AE.rec (fun i k P=>⟨P.c,addAt P.p i k,P.q⟩) (fun _ _ P=>P) (fun m k P=>⟨P.c+k * m,P.p,P.q⟩) (fun _ _ x y k P=>y k (x k P)) (fun _ _ _ _ _ P=>P) (fun m _ x k P=>x (k * m) P) (fun _ _ _ P=>P) e
noncomputable def AE.lZ (e:AE):Int->AP->AP :=
 AE.rec (fun _ _ P=>P) (fun i k P=>⟨P.c,P.p,addAt P.q i k⟩) (fun m k P=>⟨P.c+k * m,P.p,P.q⟩) (fun _ _ x y k P=>y k (x k P)) (fun _ _ x y k P=>y (-k) (x k P)) (fun m _ x k P=>x (k * m) P) (fun a _ k P=>a.lN k P) e
theorem AE.lN_e (xs:List Nat) (zs:List Int) (a:AE):∀ (k:Int) (P:AP),(a.lN k P).e xs zs=P.e xs zs+k * (a.dN xs:Int):=by
 have z:∀ (k:Int) (P:AP),P.e xs zs=P.e xs zs+k * ((0:Nat):Int):=fun k P=>by rw [show ((0:Nat):Int)=0 from rfl,Int.mul_zero,Int.add_zero]
 induction a with
 | v i=>intro k P;show P.c+(dotA (addAt P.p i k) _+_)=P.c+(dotA P.p _+_)+_;rw [dot_addAt,Int.add_right_comm,← Int.add_assoc];rfl
 | w i=>exact z
 | n m=>intro k P;exact Int.add_right_comm _ _ _
 | add a b ha hb=>intro k P;show (b.lN k (a.lN k P)).e xs zs=_;rw [hb,ha,Int.add_assoc,← Int.mul_add];rfl
 | sub a b=>exact z
 | mul m a ha=>intro k P;show (a.lN (k * m) P).e xs zs=_;rw [ha,Int.mul_assoc];rfl
 | c a=>exact z
theorem AE.lZ_e (xs:List Nat) (zs:List Int) (a:AE):∀ (k:Int) (P:AP),(a.lZ k P).e xs zs=P.e xs zs+k * a.dZ xs zs:=by
 induction a with
 | v i=>intro k P;show P.e xs zs=_+k * 0;rw [Int.mul_zero,Int.add_zero]
 | w i=>intro k P;show P.c+(_+dotA (addAt P.q i k) _)=P.c+(_+dotA P.q _)+_;rw [dot_addAt,← Int.add_assoc,← Int.add_assoc,← Int.add_assoc];rfl
 | n m=>intro k P;exact Int.add_right_comm _ _ _
 | add a b ha hb=>intro k P;show (b.lZ k (a.lZ k P)).e xs zs=_;rw [hb,ha,Int.add_assoc,← Int.mul_add];rfl
 | sub a b ha hb=>intro k P;show (b.lZ (-k) (a.lZ k P)).e xs zs=_+k * (a.dZ xs zs - b.dZ xs zs);rw [hb,ha,Int.add_assoc,Int.neg_mul,← Int.sub_eq_add_neg,← Int.mul_sub]
 | mul m a ha=>intro k P;show (a.lZ (k * m) P).e xs zs=_;rw [ha,Int.mul_assoc];rfl
 | c a _=>exact AE.lN_e xs zs a
theorem ap_step {e x y k:Int}(h:0<=e) (hk:0<=k) (hxy:x<=y):0<=e + -k * x+k * y:=by
 rw [Int.add_assoc,Int.neg_mul]
 exact Int.add_nonneg h (Int.le_add_of_neg_add_le (by rw [Int.neg_neg,Int.add_zero];exact Int.mul_le_mul_of_nonneg_left hxy hk))
noncomputable def allB (t:Int->Bool) (l:List Int):Bool:=List.rec true (fun a _ r=>cond (t a) r false) l
theorem allB_c {t:Int->Bool}{a:Int}{l:List Int}(h:allB t (a::l)=true):t a=true/\allB t l=true:=by
 have h':cond (t a) (allB t l) false=true:=h
 cases e:t a with
 | true=>rw [e] at h';exact ⟨rfl,h'⟩
 | false=>rw [e] at h';exact absurd h' Bool.false_ne_true
noncomputable def negB (a:Int):Bool:=Int.rec (fun _=>false) (fun _=>true) a
noncomputable def npB (a:Int):Bool:=Int.rec (fun n=>Nat.beq n 0) (fun _=>true) a
noncomputable def zB (a:Int):Bool:=Int.rec (fun n=>Nat.beq n 0) (fun _=>false) a
theorem npB_le {a:Int}(h:npB a=true):a<=0:=by
 cases a with
 | ofNat n=>rw [Nat.eq_of_beq_eq_true h];exact Int.le_refl 0
 | negSucc n=>exact Int.le_of_lt (Int.negSucc_lt_zero n)
theorem zB_eq {a:Int}(h:zB a=true):a=0:=by
 cases a with
 | ofNat n=>rw [Nat.eq_of_beq_eq_true h];rfl
 | negSucc n=>exact absurd h Bool.false_ne_true
theorem negB_lt {a:Int}(h:negB a=true):a<0:=by
 cases a with
 | ofNat n=>exact absurd h Bool.false_ne_true
 | negSucc n=>exact Int.negSucc_lt_zero n
noncomputable def AL.chk (l:AL):Nat->AP->Bool :=
 AL.rec (fun _ P=>cond (negB P.c) (cond (allB npB P.p) (allB zB P.q) false) false) (fun c _ x _ P=>x c P) (fun a b _ x k P=>x 1 (b.lN k (a.lN (-k) P))) (fun a b _ x k P=>x 1 (b.lZ k (a.lZ (-k) P))) l
theorem dot_le (l:List Int):∀ (f:Nat->Int),(∀ i,0<=f i)->allB npB l=true->dotA l f<=0:=by
 induction l with
 | nil=>intro f _ _;exact Int.le_refl 0
 | cons a l ih =>
  intro f h q
  have q:=allB_c q
  have:=Int.add_le_add (Int.mul_le_mul_of_nonneg_right (npB_le q.1) (h 0)) (ih (fun i=>f (i+1)) (fun i=>h _) q.2)
  rw [Int.zero_mul] at this
  exact this
theorem dot_0 (l:List Int):∀ (f:Nat->Int),allB zB l=true->dotA l f<=0:=by
 induction l with
 | nil=>intro f _;exact Int.le_refl 0
 | cons a l ih =>
  intro f q
  have q:=allB_c q
  show a * _+_<=_
  rw [zB_eq q.1,Int.zero_mul,Int.zero_add]
  exact ih _ q.2
theorem cond_and {a b:Bool}(h:cond a b false=true):a=true/\b=true:=by
 cases a with
 | true=>exact ⟨rfl,h⟩
 | false=>exact absurd h Bool.false_ne_true
theorem AL.ok (xs:List Nat) (zs:List Int) (l:AL):∀ (k:Nat) (P:AP),0<=P.e xs zs->l.chk k P=true->l.d xs zs:=by
 induction l with
 | z =>
  intro k P h q
  have q1:=cond_and q
  have q2:=cond_and q1.2
  have h3:=Int.add_le_add (dot_le P.p (fun i=>((xs.getD i 0:Nat):Int)) (fun i=>Int.natCast_nonneg _) q2.1) (dot_0 P.q (fun i=>zs.getD i 0) q2.2)
  have h4:=Int.add_lt_add_of_lt_of_le (negB_lt q1.1) h3
  exact absurd (Int.lt_of_le_of_lt h h4) (Int.lt_irrefl 0)
 | m c r ih=>exact fun k P h q=>ih c P h q
 | N a b r ih =>
  intro k P h q hf
  refine ih 1 _ ?_ q
  rw [AE.lN_e,AE.lN_e]
  exact ap_step h (Int.natCast_nonneg k) (Int.ofNat_le.mpr hf)
 | Z a b r ih =>
  intro k P h q hf
  refine ih 1 _ ?_ q
  rw [AE.lZ_e,AE.lZ_e]
  exact ap_step h (Int.natCast_nonneg k) hf
theorem ac (xs:List Nat) (zs:List Int) (l:AL) (h:l.chk 1 ⟨0,[],[]⟩=true):l.d xs zs:=AL.ok xs zs l 1 ⟨0,[],[]⟩ (Int.le_refl 0) h
theorem an (xs:List Nat) (l:AL) (h:l.chk 1 ⟨0,[],[]⟩=true):l.d xs []:=ac xs [] l h
noncomputable def A (a b:AE):=AE.add a b
noncomputable def N (a b:AE) (r:AL):=AL.N a b r
noncomputable def Z (a b:AE) (r:AL):=AL.Z a b r
noncomputable def v0:=AE.v 0
noncomputable def v1:=AE.v 1
noncomputable def v2:=AE.v 2
noncomputable def v3:=AE.v 3
noncomputable def v4:=AE.v 4
noncomputable def v5:=AE.v 5
noncomputable def v6:=AE.v 6
noncomputable def v7:=AE.v 7
noncomputable def v8:=AE.v 8
noncomputable def v9:=AE.v 9
noncomputable def w0:=AE.w 0
noncomputable def w1:=AE.w 1
noncomputable def w2:=AE.w 2
noncomputable def w3:=AE.w 3
noncomputable def w4:=AE.w 4
noncomputable def w5:=AE.w 5
noncomputable def w6:=AE.w 6
noncomputable def w7:=AE.w 7
noncomputable def w8:=AE.w 8
noncomputable def w9:=AE.w 9
noncomputable def n0:=AE.n 0
noncomputable def n1:=AE.n 1
noncomputable def n2:=AE.n 2
noncomputable def L (a b:AE) (r:AL):=AL.N (.add a n1) b r
noncomputable def M (a b:AE) (r:AL):=AL.Z (.add a n1) b r
theorem lN {a b:Nat}(h:¬ b<=a):a<b:=Nat.lt_of_not_le h
theorem kN {a b:Nat}(h:¬ b<a):a<=b:=Nat.le_of_not_lt h
theorem qN {a b:Nat}(h:a<=b) (i:b<=a):a=b:=Nat.le_antisymm h i
theorem oN {a b:Nat}(h:a=b):a<=b:=Nat.le_of_eq h
theorem pN {a b:Nat}(h:a=b):b<=a:=Nat.le_of_eq h.symm
theorem lZ {a b:Int}(h:¬ b<=a):a<b:=Int.lt_of_not_ge h
theorem kZ {a b:Int}(h:¬ b<a):a<=b:=Int.not_lt.mp h
theorem qZ {a b:Int}(h:a<=b) (i:b<=a):a=b:=Int.le_antisymm h i
theorem oZ {a b:Int}(h:a=b):a<=b:=Int.le_of_eq h
theorem pZ {a b:Int}(h:a=b):b<=a:=Int.le_of_eq h.symm
theorem nlN {a b:Nat}(h:¬ a<b):b<=a:=Nat.le_of_not_lt h
theorem neN_ {a b:Nat}(h:¬ a<=b):b<a:=Nat.lt_of_not_le h
theorem nlZ {a b:Int}(h:¬ a<b):b<=a:=Int.not_lt.mp h
theorem neZ_ {a b:Int}(h:¬ a<=b):b<a:=Int.lt_of_not_ge h
theorem p63:(2:Int) ^ 63=9223372036854775808:=by decide +kernel
theorem p62:(2:Int) ^ 62=4611686018427387904:=by decide +kernel
theorem p10:(10:Int) ^ 10=10000000000:=by decide +kernel
theorem dv2 (a:Nat):2 * (a / 2)<=a/\a<2 * (a / 2)+2:=⟨Nat.mul_div_le a 2,by have:=Nat.div_add_mod a 2;have:=Nat.mod_lt a (show 2 > 0 by decide);omega⟩
theorem tnc (z:Int):(0<=z/\((z.toNat:Nat):Int)=z)∨(z<0/\z.toNat=0):=(Int.lt_or_le z 0).elim (fun h=>.inr ⟨h,Int.toNat_of_nonpos (Int.le_of_lt h)⟩) fun h=>.inl ⟨h,Int.toNat_of_nonneg h⟩
theorem sbc (a b:Nat):(b<=a/\(a - b)+b=a)∨(a<b/\a - b=0):=(Nat.lt_or_ge a b).elim (fun h=>.inr ⟨h,Nat.sub_eq_zero_of_le (Nat.le_of_lt h)⟩) fun h=>.inl ⟨h,Nat.sub_add_cancel h⟩
theorem mnN (a b:Nat):(a<=b/\min a b=a)∨(b<a/\min a b=b):=(Nat.lt_or_ge b a).elim (fun h=>.inr ⟨h,Nat.min_eq_right (Nat.le_of_lt h)⟩) fun h=>.inl ⟨h,Nat.min_eq_left h⟩
theorem mxN (a b:Nat):(a<=b/\max a b=b)∨(b<a/\max a b=a):=(Nat.lt_or_ge b a).elim (fun h=>.inr ⟨h,Nat.max_eq_left (Nat.le_of_lt h)⟩) fun h=>.inl ⟨h,Nat.max_eq_right h⟩
theorem mnZ (a b:Int):(a<=b/\min a b=a)∨(b<a/\min a b=b):=(Int.lt_or_le b a).elim (fun h=>.inr ⟨h,Int.min_eq_right (Int.le_of_lt h)⟩) fun h=>.inl ⟨h,Int.min_eq_left h⟩
theorem mxZ (a b:Int):(a<=b/\max a b=b)∨(b<a/\max a b=a):=(Int.lt_or_le b a).elim (fun h=>.inr ⟨h,Int.max_eq_left (Int.le_of_lt h)⟩) fun h=>.inl ⟨h,Int.max_eq_right h⟩
theorem neN {a b:Nat}(h:a≠b):a<b∨b<a:=Nat.lt_or_gt_of_ne h
theorem neZ {a b:Int}(h:a≠b):a<b∨b<a:=Int.lt_or_gt_of_ne h
theorem nao {p q:Prop}(h:¬ (p/\q)):¬ p∨¬ q:=(Classical.em p).elim (fun a=>.inr fun b=>h ⟨a,b⟩) .inl
end
section
variable {a b c d e f g k:Nat}{x y z u v w:Int}
theorem b0 (h0:z=y)(h1:x<=z):(x=min y x)/\(z=max y x):=⟨qZ (kZ (fun q1=>(mnZ y x).elim (fun q2=>ac [] [z,y,x,min y x] (Z w0 w1 (Z w2 w0 (Z w1 w3 (M w3 w2 .z)))) rfl (oZ h0) h1 (pZ q2.2) q1) (fun q3=>ac [] [min y x,x] (Z w1 w0 (M w0 w1 .z)) rfl (pZ q3.2) q1))) (kZ (fun q4=>(mnZ y x).elim (fun q5=>ac [] [y,x,min y x] (Z w0 w1 (Z w2 w0 (M w1 w2 .z))) rfl q5.1 (oZ q5.2) q4) (fun q6=>ac [] [min y x,x] (Z w0 w1 (M w1 w0 .z)) rfl (oZ q6.2) q4))),qZ (kZ (fun q7=>(mnZ y x).elim (fun q8=>(mxZ y x).elim (fun q9=>ac [] [z,y,x,max y x] (Z w0 w1 (Z w1 w2 (Z w2 w3 (M w3 w0 .z)))) rfl (oZ h0) q8.1 (pZ q9.2) q7) (fun q10=>ac [] [y,x] (Z w0 w1 (M w1 w0 .z)) rfl q8.1 q10.1)) (fun q11=>(mxZ y x).elim (fun q12=>ac [] [x,y] (M w0 w1 (Z w1 w0 .z)) rfl q11.1 q12.1) (fun q13=>ac [] [z,y,max y x] (Z w0 w1 (Z w1 w2 (M w2 w0 .z))) rfl (oZ h0) (pZ q13.2) q7)))) (kZ (fun q14=>(mnZ y x).elim (fun q15=>(mxZ y x).elim (fun q16=>ac [] [x,z,max y x] (Z w0 w1 (Z w2 w0 (M w1 w2 .z))) rfl h1 (oZ q16.2) q14) (fun q17=>ac [] [y,x] (Z w0 w1 (M w1 w0 .z)) rfl q15.1 q17.1)) (fun q18=>(mxZ y x).elim (fun q19=>ac [] [x,y] (M w0 w1 (Z w1 w0 .z)) rfl q18.1 q19.1) (fun q20=>ac [] [z,y,max y x] (Z w1 w0 (Z w2 w1 (M w0 w2 .z))) rfl (pZ h0) (oZ q20.2) q14))))⟩
theorem b1 (h0:a+d<c)(h1:b<=d):a+b<c:=lN (an [a,d,c,b] (L (A v0 v1) v2 (N v3 v1 (N v2 (A v0 v3) .z))) rfl h0 h1)
theorem b2 (h0:(b+c)+d<=f)(h1:a+f<e):((a+b)+c)+d<e:=lN (an [b,c,d,f,a,e] (N (A (A v0 v1) v2) v3 (L (A v4 v3) v5 (N v5 (A (A (A v4 v0) v1) v2) .z))) rfl h0 h1)
theorem b3 (h0:x=(a:Int))(h1:y=(a:Int))(h2:0<=y):(0<=x)/\(x<=(a:Int)):=⟨kZ (ac [a] [x,y] (Z (.c v0) w0 (Z w1 (.c v0) (Z n0 w1 (M w0 n0 .z)))) rfl (pZ h0) (oZ h1) h2),kZ (ac [a] [x] (Z w0 (.c v0) (M (.c v0) w0 .z)) rfl (oZ h0))⟩
theorem b4 (h0:(0<=x)/\(x<=(((Int.toNat y):Nat):Int)))(h1:y<=(a:Int)):(0<=x)/\(x<=(a:Int)):=⟨kZ (ac [] [x] (Z n0 w0 (M w0 n0 .z)) rfl h0.1),kZ (fun q2=>(tnc y).elim (fun q3=>ac [Int.toNat y,a] [x,y] (Z w0 (.c v0) (Z w1 (.c v1) (Z (.c v0) w1 (M (.c v1) w0 .z)))) rfl h0.2 h1 (oZ q3.2) q2) (fun q4=>ac [Int.toNat y,a] [x] (Z w0 (.c v0) (N v0 n0 (M (.c v1) w0 .z))) rfl h0.2 (oN q4.2) q2))⟩
theorem b5 (h0:a=b)(h1:b<100000):(a:Int)<2 ^ 63:=lZ (ac [a,b] [2 ^ 63] (N v0 v1 (L v1 (.n 100000) (Z (.n 9223372036854775808) w0 (Z w0 (.c v0) .z)))) rfl (oN h0) h1 (pZ p63))
theorem b6 (h0:b<100000)(h1:a<100000):a+b<=16777216:=kN (an [b,a] (L v0 (.n 100000) (L v1 (.n 100000) (L (.n 16777216) (A v1 v0) .z))) rfl h0 h1)
theorem b7 (h0:a<=100000):a<=16777216:=kN (an [a] (N v0 (.n 100000) (L (.n 16777216) v0 .z)) rfl h0)
theorem b8 (h0:b<100000)(h1:a<100000):a+b<=16777216+1:=kN (an [b,a] (L v0 (.n 100000) (L v1 (.n 100000) (L (A (.n 16777216) n1) (A v1 v0) .z))) rfl h0 h1)
theorem b9 (h0:a<100000):a<=16777216:=kN (an [a] (L v0 (.n 100000) (L (.n 16777216) v0 .z)) rfl h0)
theorem b10 (h0:b=0)(h1:a<100000):a+b<=16777216+1:=kN (an [b,a] (N v0 n0 (L v1 (.n 100000) (L (A (.n 16777216) n1) (A v1 v0) .z))) rfl (oN h0) h1)
theorem b11 (h0:z=y)(h1:x<=z):(x=min x y)/\(z=max x y):=⟨qZ (kZ (fun q1=>(mnZ x y).elim (fun q2=>ac [] [min x y,x] (Z w1 w0 (M w0 w1 .z)) rfl (pZ q2.2) q1) (fun q3=>ac [] [z,y,x] (Z w0 w1 (Z w2 w0 (M w1 w2 .z))) rfl (oZ h0) h1 q3.1))) (kZ (fun q4=>(mnZ x y).elim (fun q5=>ac [] [min x y,x] (Z w0 w1 (M w1 w0 .z)) rfl (oZ q5.2) q4) (fun q6=>ac [] [z,y,x] (Z w0 w1 (Z w2 w0 (M w1 w2 .z))) rfl (oZ h0) h1 q6.1))),qZ (kZ (fun q7=>(mxZ x y).elim (fun q9=>ac [] [z,y,max x y] (Z w0 w1 (Z w1 w2 (M w2 w0 .z))) rfl (oZ h0) (pZ q9.2) q7) (fun q10=>ac [] [z,y,x] (Z w0 w1 (Z w2 w0 (M w1 w2 .z))) rfl (oZ h0) h1 q10.1))) (kZ (fun q11=>(mxZ x y).elim (fun q13=>ac [] [z,y,max x y] (Z w1 w0 (Z w2 w1 (M w0 w2 .z))) rfl (pZ h0) (oZ q13.2) q11) (fun q14=>ac [] [z,y,x] (Z w0 w1 (Z w2 w0 (M w1 w2 .z))) rfl (oZ h0) h1 q14.1)))⟩
theorem b12 (h0:¬ (x=(a:Int)))(h1:x<=(a:Int))(h2:0<=x):Int.toNat x<a:=lN (fun q1=>(tnc x).elim (fun q2=>(neZ h0).elim (fun q3=>ac [Int.toNat x,a] [x] (Z (.c v0) w0 (M w0 (.c v1) (N v1 v0 .z))) rfl (oZ q2.2) q3 q1) (fun q4=>ac [a] [x] (Z w0 (.c v0) (M (.c v0) w0 .z)) rfl h1 q4)) (fun q5=>ac [] [x] (Z n0 w0 (M w0 n0 .z)) rfl h2 q5.1))
theorem b13 (h0:x<=(b:Int))(h1:b<a):Int.toNat x<a:=lN (fun q1=>(tnc x).elim (fun q2=>ac [b,a,Int.toNat x] [x] (Z w0 (.c v0) (L v0 v1 (Z (.c v2) w0 (N v1 v2 .z)))) rfl h0 h1 (oZ q2.2) q1) (fun q3=>an [b,a,Int.toNat x] (L v0 v1 (N v2 n0 (N v1 v2 .z))) rfl h1 (oN q3.2) q1))
theorem b14 (h0:x<100000):x<2 ^ 63:=lZ (ac [] [x,2 ^ 63] (M w0 (.n 100000) (Z (.n 9223372036854775808) w1 (Z w1 w0 .z))) rfl h0 (pZ p63))
theorem b15 (h0:b+c<=e)(h1:a+e<d):(a+b)+c<d:=lN (an [b,c,e,a,d] (N (A v0 v1) v2 (L (A v3 v2) v4 (N v4 (A (A v3 v0) v1) .z))) rfl h0 h1)
theorem b16 (h0:a+(b+1)=c):(a+1)+b=c:=qN (kN (an [a,b,c] (N (A v0 (A v1 n1)) v2 (L v2 (A (A v0 n1) v1) .z)) rfl (oN h0))) (kN (an [a,b,c] (N v2 (A v0 (A v1 n1)) (L (A (A v0 n1) v1) v2 .z)) rfl (pN h0)))
theorem b17  : 0+a=a:=qN (kN (an [a] (L v0 (A n0 v0) .z) rfl)) (kN (an [a] (L (A n0 v0) v0 .z) rfl))
theorem b18  : -(2 ^ 62)<=(a:Int):=kZ (ac [a] [2 ^ 62,-(2 ^ 62)] (Z (.n 4611686018427387904) w0 (Z (A w1 w0) n0 (M (.c v0) w1 .z))) rfl (pZ p62) (oZ (Int.add_left_neg (2 ^ 62))))
theorem b19 (h0:¬ (0<(a:Int))):0=(a:Int):=qZ (kZ (an [a] (M (.c v0) n0 .z) rfl)) (kZ (an [a] (Z (.c v0) n0 (M n0 (.c v0) .z)) rfl (nlZ h0)))
theorem b20  : ((a:Int) - 0)=(a:Int):=qZ (kZ (an [a] (M (.c v0) (.sub (.c v0) n0) .z) rfl)) (kZ (an [a] (M (.sub (.c v0) n0) (.c v0) .z) rfl))
theorem b21 (h0:a<100000):(a:Int)<2 ^ 62:=lZ (ac [a] [2 ^ 62] (L v0 (.n 100000) (Z (.n 4611686018427387904) w0 (Z w0 (.c v0) .z))) rfl h0 (pZ p62))
theorem b22 (h0:a+(c+1)=b):a<b:=lN (an [a,c,b] (N (A v0 (A v1 n1)) v2 (N v2 v0 .z)) rfl (oN h0))
theorem b23  : a+1<=a+1:=kN (an [a] (L (A v0 n1) (A v0 n1) .z) rfl)
theorem b24 (h0:a=b)(h1:b<100000):a<=16777216:=kN (an [a,b] (N v0 v1 (L v1 (.n 100000) (L (.n 16777216) v0 .z))) rfl (oN h0) h1)
theorem b25 (h0:a<=b)(h1:b<100000):a<=16777216:=kN (an [a,b] (N v0 v1 (L v1 (.n 100000) (L (.n 16777216) v0 .z))) rfl h0 h1)
theorem b26 (h0:a<=b):a+1<=b+1:=kN (an [a,b] (N v0 v1 (L (A v1 n1) (A v0 n1) .z)) rfl h0)
theorem b27 (h0:a<10000):a<=16384:=kN (an [a] (L v0 (.n 10000) (L (.n 16384) v0 .z)) rfl h0)
theorem b28 (h0:a<10000):a+0<=16384:=kN (an [a] (L v0 (.n 10000) (L (.n 16384) (A v0 n0) .z)) rfl h0)
theorem b29 (h0:a<10000):a+1<=16777216:=kN (an [a] (L v0 (.n 10000) (L (.n 16777216) (A v0 n1) .z)) rfl h0)
theorem b30  : 1<=a+1:=kN (an [a] (L (A v0 n1) n1 .z) rfl)
theorem b31 (h0:b<5000)(h1:a<5000):a+b<=16384:=kN (an [b,a] (L v0 (.n 5000) (L v1 (.n 5000) (L (.n 16384) (A v1 v0) .z))) rfl h0 h1)
theorem b32 (h0:a<50):a+1<60:=lN (an [a] (L v0 (.n 50) (N (.n 60) (A v0 n1) .z)) rfl h0)
theorem b33 (h0:¬ (a<b))(h1:a<b+1):a=b:=qN (kN (an [a,b] (L v0 (A v1 n1) (L v1 v0 .z)) rfl h1)) (kN (an [b,a] (N v0 v1 (L v1 v0 .z)) rfl (nlN h0)))
theorem b34 (h0:a<c)(h1:c=b):a<b:=lN (an [a,c,b] (L v0 v1 (N v1 v2 (N v2 v0 .z))) rfl h0 (oN h1))
theorem b35 (h0:Int.toNat x<b)(h1:b=a):Int.toNat x<a:=lN (an [Int.toNat x,b,a] (L v0 v1 (N v1 v2 (N v2 v0 .z))) rfl h0 (oN h1))
theorem b36 (h0:0<=x)(h1:a=b)(h2:b=c)(h3:x<(c:Int)):Int.toNat x<a:=lN (fun q1=>(tnc x).elim (fun q2=>ac [a,b,c,Int.toNat x] [x] (N v1 v0 (N v2 v1 (M w0 (.c v2) (Z (.c v3) w0 (N v0 v3 .z))))) rfl (pN h1) (pN h2) h3 (oZ q2.2) q1) (fun q3=>ac [] [x] (Z n0 w0 (M w0 n0 .z)) rfl h0 q3.1))
theorem b37 (h0:¬ (a<c))(h1:a<c+1)(h2:c=b):a=b:=qN (kN (an [a,c,b] (L v0 (A v1 n1) (N v1 v2 (L v2 v0 .z))) rfl h1 (oN h2))) (kN (an [c,a,b] (N v0 v1 (N v2 v0 (L v1 v2 .z))) rfl (nlN h0) (pN h2)))
theorem b39 (h0:x<=(((Int.toNat y):Nat):Int))(h1:x≠y)(h2:0<=x)(h3:0<=y):Int.toNat x<Int.toNat y:=lN (fun q1=>(tnc y).elim (fun q2=>(tnc x).elim (fun q3=>(neZ h1).elim (fun q4=>ac [Int.toNat y,Int.toNat x] [y,x] (Z w0 (.c v0) (Z (.c v1) w1 (M w1 w0 (N v0 v1 .z)))) rfl (pZ q2.2) (oZ q3.2) q4 q1) (fun q5=>ac [Int.toNat y] [x,y] (Z w0 (.c v0) (Z (.c v0) w1 (M w1 w0 .z))) rfl h0 (oZ q2.2) q5)) (fun q6=>ac [] [x] (Z n0 w0 (M w0 n0 .z)) rfl h2 q6.1)) (fun q7=>ac [] [y] (Z n0 w0 (M w0 n0 .z)) rfl h3 q7.1))
theorem b40 (h0:a+5<1000):a<1000:=lN (an [a] (L (A v0 (.n 5)) (.n 1000) (N (.n 1000) v0 .z)) rfl h0)
theorem b41 (h0:x<(a:Int))(h1:a<60):x<2 ^ 63:=lZ (ac [a] [x,2 ^ 63] (M w0 (.c v0) (L v0 (.n 60) (Z (.n 9223372036854775808) w1 (Z w1 w0 .z)))) rfl h0 h1 (pZ p63))
theorem b42 (h0:x<=(((Int.toNat y):Nat):Int))(h1:y<(a:Int))(h2:z<(a:Int))(h3:0<=z):x<(a:Int):=lZ (fun q1=>(tnc y).elim (fun q2=>ac [Int.toNat y,a] [x,y] (Z w0 (.c v0) (M w1 (.c v1) (Z (.c v0) w1 (Z (.c v1) w0 .z)))) rfl h0 h1 (oZ q2.2) q1) (fun q3=>ac [Int.toNat y,a] [x,z] (Z w0 (.c v0) (M w1 (.c v1) (Z n0 w1 (N v0 n0 (Z (.c v1) w0 .z))))) rfl h0 h2 h3 (oN q3.2) q1))
theorem b43 (h0:y=(((Int.toNat x):Nat):Int))(h1:0<=x):x=y:=qZ (kZ (fun q1=>(tnc x).elim (fun q2=>ac [Int.toNat x] [y,x] (Z (.c v0) w0 (Z w1 (.c v0) (M w0 w1 .z))) rfl (pZ h0) (pZ q2.2) q1) (fun q3=>ac [] [x] (Z n0 w0 (M w0 n0 .z)) rfl h1 q3.1))) (kZ (fun q4=>(tnc x).elim (fun q5=>ac [Int.toNat x] [y,x] (Z w0 (.c v0) (Z (.c v0) w1 (M w1 w0 .z))) rfl (oZ h0) (oZ q5.2) q4) (fun q6=>ac [] [x] (Z n0 w0 (M w0 n0 .z)) rfl h1 q6.1)))
theorem b44 (h0:x<(a:Int))(h1:y<(a:Int))(h2:0<=y):Int.toNat x<a:=lN (fun q1=>(tnc x).elim (fun q2=>ac [a,Int.toNat x] [x] (M w0 (.c v0) (Z (.c v1) w0 (N v0 v1 .z))) rfl h0 (oZ q2.2) q1) (fun q3=>ac [a,Int.toNat x] [y] (M w0 (.c v0) (Z n0 w0 (N v1 n0 (N v0 v1 .z)))) rfl h1 h2 (oN q3.2) q1))
theorem b45 (h0:x=y)(h1:0<=y):x=(((Int.toNat y):Nat):Int):=qZ (kZ (fun q1=>(tnc y).elim (fun q2=>ac [Int.toNat y] [x,y] (Z w0 w1 (Z w1 (.c v0) (M (.c v0) w0 .z))) rfl (oZ h0) (pZ q2.2) q1) (fun q3=>ac [] [y] (Z n0 w0 (M w0 n0 .z)) rfl h1 q3.1))) (kZ (fun q4=>(tnc y).elim (fun q5=>ac [Int.toNat y] [x,y] (Z w1 w0 (Z (.c v0) w1 (M w0 (.c v0) .z))) rfl (pZ h0) (oZ q5.2) q4) (fun q6=>ac [] [y] (Z n0 w0 (M w0 n0 .z)) rfl h1 q6.1)))
theorem b46 (h0:a+200<b):(a+3)+64<b:=lN (an [a,b] (L (A v0 (.n 200)) v1 (N v1 (A (A v0 (.n 3)) (.n 64)) .z)) rfl h0)
theorem b47 (h0:a+20<b):a<b:=lN (an [a,b] (L (A v0 (.n 20)) v1 (N v1 v0 .z)) rfl h0)
theorem b48 (h0:a<1000):a<100000:=lN (an [a] (L v0 (.n 1000) (N (.n 100000) v0 .z)) rfl h0)
theorem b49 (h0:a+40<b):a<b:=lN (an [a,b] (L (A v0 (.n 40)) v1 (N v1 v0 .z)) rfl h0)
theorem b50 (h0:a<1000):a<=16777216:=kN (an [a] (L v0 (.n 1000) (L (.n 16777216) v0 .z)) rfl h0)
theorem b51 (h0:0<a):(-(a:Int))<=0:=kZ (ac [a] [(-(a:Int))] (L n0 v0 (Z (A w0 (.c v0)) n0 (M n0 w0 .z))) rfl h0 (oZ (Int.add_left_neg (a:Int))))
theorem b52 (h0:0<a):0<(a:Int):=lZ (an [a] (L n0 v0 (Z (.c v0) n0 .z)) rfl h0)
theorem b53 (h0:a=c)(h1:c=b):a=b:=qN (kN (an [a,c,b] (N v0 v1 (N v1 v2 (L v2 v0 .z))) rfl (oN h0) (oN h1))) (kN (an [a,c,b] (N v1 v0 (N v2 v1 (L v0 v2 .z))) rfl (pN h0) (pN h1)))
theorem b54 (h0:a<b+1)(h1:¬ (a<b)):a=b:=qN (kN (an [a,b] (L v0 (A v1 n1) (L v1 v0 .z)) rfl h0)) (kN (an [b,a] (N v0 v1 (L v1 v0 .z)) rfl (nlN h1)))
theorem b55 (h0:(0<=x)/\(x<(b:Int)))(h1:a=b):Int.toNat x<a:=lN (fun q1=>(tnc x).elim (fun q2=>ac [b,a,Int.toNat x] [x] (M w0 (.c v0) (N v0 v1 (Z (.c v2) w0 (N v1 v2 .z)))) rfl h0.2 (pN h1) (oZ q2.2) q1) (fun q3=>ac [] [x] (Z n0 w0 (M w0 n0 .z)) rfl h0.1 q3.1))
theorem b56 (h0:a<5000):a<10000:=lN (an [a] (L v0 (.n 5000) (N (.n 10000) v0 .z)) rfl h0)
theorem b57 (h0:(0<=x)/\(x<=((((Int.toNat y):Nat):Int)+1)))(h1:(0<=y)/\(y<(a:Int))):(0<=x)/\(x<=(a:Int)):=⟨kZ (ac [] [x] (Z n0 w0 (M w0 n0 .z)) rfl h0.1),kZ (fun q2=>(tnc y).elim (fun q3=>ac [Int.toNat y,a] [x,y] (Z w0 (A (.c v0) n1) (M w1 (.c v1) (Z (.c v0) w1 (M (.c v1) w0 .z)))) rfl h0.2 h1.2 (oZ q3.2) q2) (fun q4=>ac [] [y] (Z n0 w0 (M w0 n0 .z)) rfl h1.1 q4.1))⟩
theorem b58 (h0:b=a):((0:Int)<=0)/\(0<=(a:Int)):=⟨kZ (an [] (M n0 n0 .z) rfl),kZ (an [a] (M (.c v0) n0 .z) rfl)⟩
theorem b59 (h0:a=b)(h1:b<10000):a<100000:=lN (an [a,b] (N v0 v1 (L v1 (.n 10000) (N (.n 100000) v0 .z))) rfl (oN h0) h1)
theorem b60 (h0:a<900):a+1<1000:=lN (an [a] (L v0 (.n 900) (N (.n 1000) (A v0 n1) .z)) rfl h0)
theorem b61 (h0:a<990):a+1<1000:=lN (an [a] (L v0 (.n 990) (N (.n 1000) (A v0 n1) .z)) rfl h0)
theorem b62 (h0:b<5000)(h1:a<5000):a+b<=16777216:=kN (an [b,a] (L v0 (.n 5000) (L v1 (.n 5000) (L (.n 16777216) (A v1 v0) .z))) rfl h0 h1)
theorem b63 (h0:a=b)(h1:b<=1):a<10000:=lN (an [a,b] (N v0 v1 (N v1 n1 (N (.n 10000) v0 .z))) rfl (oN h0) h1)
theorem b65 (h0:a=b)(h1:b<50):a<100000:=lN (an [a,b] (N v0 v1 (L v1 (.n 50) (N (.n 100000) v0 .z))) rfl (oN h0) h1)
theorem b66 (h0:0<=x):0<=1+x:=kZ (ac [] [x] (Z n0 w0 (M (A n1 w0) n0 .z)) rfl h0)
theorem b67 (h0:b<a):a+1≠b:=fun q1=>an [b,a] (L v0 v1 (N (A v1 n1) v0 .z)) rfl h0 (oN q1)
theorem b68 (h0:c+1<a)(h1:b<c):a≠b:=fun q1=>an [c,a,b] (L (A v0 n1) v1 (L v2 v0 (N v1 v2 .z))) rfl h0 h1 (oN q1)
theorem b69 (h0:x<=(a:Int)):1+x<=((a:Int)+1):=kZ (ac [a] [x] (Z w0 (.c v0) (M (A (.c v0) n1) (A n1 w0) .z)) rfl h0)
theorem b70 (h0:(0<=x)/\(x<(a:Int))):0<=x:=kZ (ac [] [x] (Z n0 w0 (M w0 n0 .z)) rfl h0.1)
theorem b71 (h0:a<=1):a<10000:=lN (an [a] (N v0 n1 (N (.n 10000) v0 .z)) rfl h0)
theorem b72 (h0:(0<=x)/\(x<(b:Int)))(h1:a=b):x<(a:Int):=lZ (ac [b,a] [x] (M w0 (.c v0) (N v0 v1 (Z (.c v1) w0 .z))) rfl h0.2 (pN h1))
theorem b74 (h0:a=b)(h1:b<=1):a<5000:=lN (an [a,b] (N v0 v1 (N v1 n1 (N (.n 5000) v0 .z))) rfl (oN h0) h1)
theorem b75 (h0:a=b)(h1:b<50):a+(0+1)<100000:=lN (an [a,b] (N v0 v1 (L v1 (.n 50) (N (.n 100000) (A v0 (A n0 n1)) .z))) rfl (oN h0) h1)
theorem b76 (h0:a=b):((((a+(0+1)):Nat):Int) - 1)=(b:Int):=qZ (kZ (an [a,b] (N v0 v1 (M (.c v1) (.sub (.c (A v0 (A n0 n1))) n1) .z)) rfl (oN h0))) (kZ (an [a,b] (N v1 v0 (M (.sub (.c (A v0 (A n0 n1))) n1) (.c v1) .z)) rfl (pN h0)))
theorem b77 (h0:a<=1):a<5000:=lN (an [a] (N v0 n1 (N (.n 5000) v0 .z)) rfl h0)
theorem b78 (h0:(0<=x)/\(x<(a:Int)))(h1:a<50):x<2 ^ 63:=lZ (ac [a] [x,2 ^ 63] (M w0 (.c v0) (L v0 (.n 50) (Z (.n 9223372036854775808) w1 (Z w1 w0 .z)))) rfl h0.2 h1 (pZ p63))
theorem b79 (h0:a<c)(h1:b=c):a<b:=lN (an [a,c,b] (L v0 v1 (N v1 v2 (N v2 v0 .z))) rfl h0 (pN h1))
theorem b80 (h0:a+80<b):a<b:=lN (an [a,b] (L (A v0 (.n 80)) v1 (N v1 v0 .z)) rfl h0)
theorem b81 (h0:a+10<b):a<b:=lN (an [a,b] (L (A v0 (.n 10)) v1 (N v1 v0 .z)) rfl h0)
theorem b82 (h0:Int.toNat x<b)(h1:a=b):Int.toNat x<a:=lN (an [Int.toNat x,b,a] (L v0 v1 (N v1 v2 (N v2 v0 .z))) rfl h0 (pN h1))
theorem b83 (h0:a=b)(h1:b<100):a<10000:=lN (an [a,b] (N v0 v1 (L v1 (.n 100) (N (.n 10000) v0 .z))) rfl (oN h0) h1)
theorem b84 (h0:(0<=x)/\(x<(a:Int))):x<(a:Int):=lZ (ac [a] [x] (M w0 (.c v0) (Z (.c v0) w0 .z)) rfl h0.2)
theorem b85 (h0:a+60<b):a<b:=lN (an [a,b] (L (A v0 (.n 60)) v1 (N v1 v0 .z)) rfl h0)
theorem b86 (h0:a<100):a<10000:=lN (an [a] (L v0 (.n 100) (N (.n 10000) v0 .z)) rfl h0)
theorem b87 (h0:a=b)(h1:b<100):a<5000:=lN (an [a,b] (N v0 v1 (L v1 (.n 100) (N (.n 5000) v0 .z))) rfl (oN h0) h1)
theorem b88 (h0:x<(a:Int))(h1:0<=x):Int.toNat x<a:=lN (fun q1=>(tnc x).elim (fun q2=>ac [a,Int.toNat x] [x] (M w0 (.c v0) (Z (.c v1) w0 (N v0 v1 .z))) rfl h0 (oZ q2.2) q1) (fun q3=>ac [] [x] (Z n0 w0 (M w0 n0 .z)) rfl h1 q3.1))
theorem b89 (h0:(0<=x)/\(x<(a:Int)))(h1:a=b)(h2:b<60):x<2 ^ 63:=lZ (ac [a,b] [x,2 ^ 63] (M w0 (.c v0) (N v0 v1 (L v1 (.n 60) (Z (.n 9223372036854775808) w1 (Z w1 w0 .z))))) rfl h0.2 (oN h1) h2 (pZ p63))
theorem b91 (h0:¬ (x=y))(h1:(0<=y)/\(y<(a:Int)))(h2:(0<=x)/\(x<(a:Int))):Int.toNat x≠Int.toNat y:=fun q1=>(tnc x).elim (fun q2=>(tnc y).elim (fun q3=>(neZ h0).elim (fun q4=>ac [Int.toNat x,Int.toNat y] [x,y] (Z (.c v0) w0 (Z w1 (.c v1) (M w0 w1 (N v1 v0 .z)))) rfl (oZ q2.2) (pZ q3.2) q4 (pN q1)) (fun q5=>ac [Int.toNat x,Int.toNat y] [x,y] (Z w0 (.c v0) (Z (.c v1) w1 (M w1 w0 (N v0 v1 .z)))) rfl (pZ q2.2) (oZ q3.2) q5 (oN q1))) (fun q6=>ac [] [y] (Z n0 w0 (M w0 n0 .z)) rfl h1.1 q6.1)) (fun q7=>ac [] [x] (Z n0 w0 (M w0 n0 .z)) rfl h2.1 q7.1)
theorem b92 (h0:a=b)(h1:b<60):a<100000:=lN (an [a,b] (N v0 v1 (L v1 (.n 60) (N (.n 100000) v0 .z))) rfl (oN h0) h1)
theorem b93 (h0:(0<=x)/\(x<(b:Int)))(h1:b=a):x<(a:Int):=lZ (ac [b,a] [x] (M w0 (.c v0) (N v0 v1 (Z (.c v1) w0 .z))) rfl h0.2 (oN h1))
theorem b94 (h0:(0<=x)/\(x<(a:Int))):Int.toNat x<a:=lN (fun q1=>(tnc x).elim (fun q2=>ac [a,Int.toNat x] [x] (M w0 (.c v0) (Z (.c v1) w0 (N v0 v1 .z))) rfl h0.2 (oZ q2.2) q1) (fun q3=>ac [] [x] (Z n0 w0 (M w0 n0 .z)) rfl h0.1 q3.1))
theorem b95 (h0:(0<=x)/\(x<(a:Int)))(h1:a=b)(h2:b<60):x<100000:=lZ (ac [a,b] [x] (M w0 (.c v0) (N v0 v1 (L v1 (.n 60) (Z (.n 100000) w0 .z)))) rfl h0.2 (oN h1) h2)
theorem b96 (h0:a<=b)(h1:b<900):a+(0+1)<100000:=lN (an [a,b] (N v0 v1 (L v1 (.n 900) (N (.n 100000) (A v0 (A n0 n1)) .z))) rfl h0 h1)
theorem b97 (h0:a+b<60):a+b<=16777216:=kN (an [a,b] (L (A v0 v1) (.n 60) (L (.n 16777216) (A v0 v1) .z)) rfl h0)
theorem b98 (h0:(a<1000)/\((b<1000)/\((c<1000)/\(d<1000)))):a<100000:=lN (an [a] (L v0 (.n 1000) (N (.n 100000) v0 .z)) rfl h0.1)
theorem b99 (h0:a<=b)(h1:b<900):a<100000:=lN (an [a,b] (N v0 v1 (L v1 (.n 900) (N (.n 100000) v0 .z))) rfl h0 h1)
theorem b100 (h0:a=b)(h1:(c<1000)/\((d<1000)/\((b<1000)/\(e<1000)))):a<100000:=lN (an [a,b] (N v0 v1 (L v1 (.n 1000) (N (.n 100000) v0 .z))) rfl (oN h0) h1.2.2.1)
theorem b102 (h0:a<900):a<990:=lN (an [a] (L v0 (.n 900) (N (.n 990) v0 .z)) rfl h0)
theorem b103 (h0:x<y):x≠y:=fun q1=>ac [] [x,y] (M w0 w1 (Z w1 w0 .z)) rfl h0 (pZ q1)
theorem b104 (h0:(0<=x)/\(x<(a:Int))):(((Int.toNat x):Nat):Int)=x:=qZ (kZ (fun q1=>(tnc x).elim (fun q2=>ac [Int.toNat x] [x] (Z (.c v0) w0 (M w0 (.c v0) .z)) rfl (oZ q2.2) q1) (fun q3=>ac [] [x] (Z n0 w0 (M w0 n0 .z)) rfl h0.1 q3.1))) (kZ (fun q4=>(tnc x).elim (fun q5=>ac [Int.toNat x] [x] (Z w0 (.c v0) (M (.c v0) w0 .z)) rfl (pZ q5.2) q4) (fun q6=>ac [] [x] (Z n0 w0 (M w0 n0 .z)) rfl h0.1 q6.1)))
theorem b105 (h0:y<=x)(h1:x<=y):x=y:=qZ (kZ (ac [] [x,y] (Z w0 w1 (M w1 w0 .z)) rfl h1)) (kZ (ac [] [y,x] (Z w0 w1 (M w1 w0 .z)) rfl h0))
theorem b106 (h0:a<b):(0<=(a:Int))/\((a:Int)<(b:Int)):=⟨kZ (an [a] (M (.c v0) n0 .z) rfl),lZ (an [a,b] (L v0 v1 (Z (.c v1) (.c v0) .z)) rfl h0)⟩
theorem b107 (h0:y=x)(h1:(0<=y)/\(y<=(b:Int)))(h2:c=a)(h3:b<c):x<(a:Int):=lZ (ac [b,c,a] [y,x] (Z w1 w0 (Z w0 (.c v0) (N v1 v2 (L v0 v1 (Z (.c v2) w1 .z))))) rfl (pZ h0) h1.2 (oN h2) h3)
theorem b108 (h0:¬ (Int.toNat x=a)):(a:Int)≠x:=fun q1=>(tnc x).elim (fun q2=>(neN h0).elim (fun q3=>ac [Int.toNat x,a] [x] (Z w0 (.c v0) (L v0 v1 (Z (.c v1) w0 .z))) rfl (pZ q2.2) q3 (oZ q1)) (fun q4=>ac [Int.toNat x,a] [x] (Z (.c v0) w0 (L v1 v0 (Z w0 (.c v1) .z))) rfl (oZ q2.2) q4 (pZ q1))) (fun q5=>ac [a] [x] (M w0 n0 (Z (.c v0) w0 .z)) rfl q5.1 (oZ q1))
theorem b109 (h0:¬ (a<c))(h1:a<c+1)(h2:b=c):a=b:=qN (kN (an [a,c,b] (L v0 (A v1 n1) (N v1 v2 (L v2 v0 .z))) rfl h1 (pN h2))) (kN (an [c,a,b] (N v0 v1 (N v2 v0 (L v1 v2 .z))) rfl (nlN h0) (oN h2)))
theorem b110 (h0:x=(((Int.toNat y):Nat):Int))(h1:0<=y):x=y:=qZ (kZ (fun q1=>(tnc y).elim (fun q2=>ac [Int.toNat y] [x,y] (Z w0 (.c v0) (Z (.c v0) w1 (M w1 w0 .z))) rfl (oZ h0) (oZ q2.2) q1) (fun q3=>ac [] [y] (Z n0 w0 (M w0 n0 .z)) rfl h1 q3.1))) (kZ (fun q4=>(tnc y).elim (fun q5=>ac [Int.toNat y] [x,y] (Z (.c v0) w0 (Z w1 (.c v0) (M w0 w1 .z))) rfl (pZ h0) (pZ q5.2) q4) (fun q6=>ac [] [y] (Z n0 w0 (M w0 n0 .z)) rfl h1 q6.1)))
theorem b111 (h0:x=y)(h1:z<y)(h2:0<=z):x=(((Int.toNat y):Nat):Int):=qZ (kZ (fun q1=>(tnc y).elim (fun q2=>ac [Int.toNat y] [x,y] (Z w0 w1 (Z w1 (.c v0) (M (.c v0) w0 .z))) rfl (oZ h0) (pZ q2.2) q1) (fun q3=>ac [] [z,y] (M w0 w1 (Z n0 w0 (M w1 n0 .z))) rfl h1 h2 q3.1))) (kZ (fun q4=>(tnc y).elim (fun q5=>ac [Int.toNat y] [x,y] (Z w1 w0 (Z (.c v0) w1 (M w0 (.c v0) .z))) rfl (pZ h0) (oZ q5.2) q4) (fun q6=>ac [] [z,y] (M w0 w1 (Z n0 w0 (M w1 n0 .z))) rfl h1 h2 q6.1)))
theorem b112 (h0:x<y):x<=y:=kZ (ac [] [x,y] (M w0 w1 (M w1 w0 .z)) rfl h0)
theorem b113 (h0:x=(b:Int))(h1:¬ (b<a)):¬ (x<(a:Int)):=ac [b,a] [x] (Z (.c v0) w0 (N v1 v0 (M w0 (.c v1) .z))) rfl (pZ h0) (nlN h1)
theorem b114 (h0:0<=x)(h1:y<(a:Int))(h2:x<y):Int.toNat x<a:=lN (fun q1=>(tnc x).elim (fun q2=>ac [a,Int.toNat x] [y,x] (M w0 (.c v0) (M w1 w0 (Z (.c v1) w1 (N v0 v1 .z)))) rfl h1 h2 (oZ q2.2) q1) (fun q3=>ac [] [x] (Z n0 w0 (M w0 n0 .z)) rfl h0 q3.1))
theorem b115 (h0:x<(a:Int))(h1:y<x)(h2:0<=y):Int.toNat x<a:=lN (fun q1=>(tnc x).elim (fun q2=>ac [a,Int.toNat x] [x] (M w0 (.c v0) (Z (.c v1) w0 (N v0 v1 .z))) rfl h0 (oZ q2.2) q1) (fun q3=>ac [] [y,x] (M w0 w1 (Z n0 w0 (M w1 n0 .z))) rfl h1 h2 q3.1))
theorem b116 (h0:y<x)(h1:0<=y):x=(((Int.toNat x):Nat):Int):=qZ (kZ (fun q1=>(tnc x).elim (fun q2=>ac [Int.toNat x] [x] (Z w0 (.c v0) (M (.c v0) w0 .z)) rfl (pZ q2.2) q1) (fun q3=>ac [] [y,x] (M w0 w1 (Z n0 w0 (M w1 n0 .z))) rfl h0 h1 q3.1))) (kZ (fun q4=>(tnc x).elim (fun q5=>ac [Int.toNat x] [x] (Z (.c v0) w0 (M w0 (.c v0) .z)) rfl (oZ q5.2) q4) (fun q6=>ac [] [y,x] (M w0 w1 (Z n0 w0 (M w1 n0 .z))) rfl h0 h1 q6.1)))
theorem b117 (h0:y<x)(h1:0<=y):(((Int.toNat x):Nat):Int)=x:=qZ (kZ (fun q1=>(tnc x).elim (fun q2=>ac [Int.toNat x] [x] (Z (.c v0) w0 (M w0 (.c v0) .z)) rfl (oZ q2.2) q1) (fun q3=>ac [] [y,x] (M w0 w1 (Z n0 w0 (M w1 n0 .z))) rfl h0 h1 q3.1))) (kZ (fun q4=>(tnc x).elim (fun q5=>ac [Int.toNat x] [x] (Z w0 (.c v0) (M (.c v0) w0 .z)) rfl (pZ q5.2) q4) (fun q6=>ac [] [y,x] (M w0 w1 (Z n0 w0 (M w1 n0 .z))) rfl h0 h1 q6.1)))
theorem b118 (h0:0<=x)(h1:x<=(b:Int))(h2:b<c)(h3:a=c):Int.toNat x<a:=lN (fun q1=>(tnc x).elim (fun q2=>ac [b,c,a,Int.toNat x] [x] (Z w0 (.c v0) (L v0 v1 (N v1 v2 (Z (.c v3) w0 (N v2 v3 .z))))) rfl h1 h2 (pN h3) (oZ q2.2) q1) (fun q3=>ac [] [x] (Z n0 w0 (M w0 n0 .z)) rfl h0 q3.1))
theorem b119 (h0:¬ (b<a))(h1:b<a+1):(0<=(a:Int))/\((a:Int)<=(b:Int)):=⟨kZ (an [a] (M (.c v0) n0 .z) rfl),kZ (an [a,b] (N v0 v1 (M (.c v1) (.c v0) .z)) rfl (nlN h0))⟩
theorem b120 (h0:¬ (a<b))(h1:a<b+1):(a:Int)=(b:Int):=qZ (kZ (an [a,b] (L v0 (A v1 n1) (M (.c v1) (.c v0) .z)) rfl h1)) (kZ (an [b,a] (N v0 v1 (M (.c v1) (.c v0) .z)) rfl (nlN h0)))
theorem b121 (h0:x=(((Int.toNat y):Nat):Int))(h1:z<y)(h2:0<=z):x=y:=qZ (kZ (fun q1=>(tnc y).elim (fun q2=>ac [Int.toNat y] [x,y] (Z w0 (.c v0) (Z (.c v0) w1 (M w1 w0 .z))) rfl (oZ h0) (oZ q2.2) q1) (fun q3=>ac [] [z,y] (M w0 w1 (Z n0 w0 (M w1 n0 .z))) rfl h1 h2 q3.1))) (kZ (fun q4=>(tnc y).elim (fun q5=>ac [Int.toNat y] [x,y] (Z (.c v0) w0 (Z w1 (.c v0) (M w0 w1 .z))) rfl (pZ h0) (pZ q5.2) q4) (fun q6=>ac [] [z,y] (M w0 w1 (Z n0 w0 (M w1 n0 .z))) rfl h1 h2 q6.1)))
theorem b122 (h0:x=y)(h1:z=(a:Int))(h2:¬ (Int.toNat z=a))(h3:z<y)(h4:0<=z):x=(a:Int):=qZ (kZ (fun q1=>(tnc z).elim (fun q2=>(neN h2).elim (fun q3=>ac [a,Int.toNat z] [z] (Z (.c v0) w0 (Z w0 (.c v1) (L v1 v0 .z))) rfl (pZ h1) (pZ q2.2) q3) (fun q4=>ac [a,Int.toNat z] [z] (Z w0 (.c v0) (Z (.c v1) w0 (L v0 v1 .z))) rfl (oZ h1) (oZ q2.2) q4)) (fun q5=>ac [] [z] (Z n0 w0 (M w0 n0 .z)) rfl h4 q5.1))) (kZ (ac [a] [x,y,z] (Z w1 w0 (Z (.c v0) w2 (M w2 w1 (M w0 (.c v0) .z)))) rfl (pZ h0) (pZ h1) h3))
theorem b123 (h0:b=a):(Int.toNat (a:Int))=a:=qN (kN (fun q1=>(tnc (a:Int)).elim (fun q2=>an [(Int.toNat (a:Int)),a] (Z (.c v0) (.c v1) (L v1 v0 .z)) rfl (oZ q2.2) q1) (fun q3=>an [a] (M (.c v0) n0 .z) rfl q3.1))) (kN (fun q4=>(tnc (a:Int)).elim (fun q5=>an [(Int.toNat (a:Int)),a] (Z (.c v1) (.c v0) (L v0 v1 .z)) rfl (pZ q5.2) q4) (fun q6=>an [a,(Int.toNat (a:Int))] (M (.c v0) n0 (N n0 v1 (L v1 v0 .z))) rfl q6.1 (pN q6.2) q4)))
theorem b124 (h0:x<y)(h1:0<=x):(0<=x)/\(x<=(((Int.toNat y):Nat):Int)):=⟨kZ (ac [] [x] (Z n0 w0 (M w0 n0 .z)) rfl h1),kZ (fun q2=>(tnc y).elim (fun q3=>ac [Int.toNat y] [x,y] (M w0 w1 (Z w1 (.c v0) (M (.c v0) w0 .z))) rfl h0 (pZ q3.2) q2) (fun q4=>ac [] [x,y] (M w0 w1 (Z n0 w0 (M w1 n0 .z))) rfl h0 h1 q4.1))⟩
theorem b125 (h0:a<b):(a:Int)≠(b:Int):=fun q1=>an [a,b] (L v0 v1 (Z (.c v1) (.c v0) .z)) rfl h0 (pZ q1)
theorem b126 (h0:0<=x)(h1:a=b)(h2:y<(b:Int))(h3:x<y):Int.toNat x<a:=lN (fun q1=>(tnc x).elim (fun q2=>ac [a,b,Int.toNat x] [y,x] (N v1 v0 (M w0 (.c v1) (M w1 w0 (Z (.c v2) w1 (N v0 v2 .z))))) rfl (pN h1) h2 h3 (oZ q2.2) q1) (fun q3=>ac [] [x] (Z n0 w0 (M w0 n0 .z)) rfl h0 q3.1))
theorem b127 (h0:c=b)(h1:a<c):a<b:=lN (an [c,b,a] (N v0 v1 (L v2 v0 (N v1 v2 .z))) rfl (oN h0) h1)
theorem b128 (h0:0<=x):(((Int.toNat x):Nat):Int)=x:=qZ (kZ (fun q1=>(tnc x).elim (fun q2=>ac [Int.toNat x] [x] (Z (.c v0) w0 (M w0 (.c v0) .z)) rfl (oZ q2.2) q1) (fun q3=>ac [] [x] (Z n0 w0 (M w0 n0 .z)) rfl h0 q3.1))) (kZ (fun q4=>(tnc x).elim (fun q5=>ac [Int.toNat x] [x] (Z w0 (.c v0) (M (.c v0) w0 .z)) rfl (pZ q5.2) q4) (fun q6=>ac [] [x] (Z n0 w0 (M w0 n0 .z)) rfl h0 q6.1)))
theorem b129 (h0:b=a):(Int.toNat (a:Int))=b:=qN (kN (fun q1=>(tnc (a:Int)).elim (fun q2=>an [b,a,(Int.toNat (a:Int))] (N v1 v0 (Z (.c v2) (.c v1) (L v0 v2 .z))) rfl (pN h0) (oZ q2.2) q1) (fun q3=>an [a] (M (.c v0) n0 .z) rfl q3.1))) (kN (fun q4=>(tnc (a:Int)).elim (fun q5=>an [b,a,(Int.toNat (a:Int))] (N v0 v1 (Z (.c v1) (.c v2) (L v2 v0 .z))) rfl (oN h0) (pZ q5.2) q4) (fun q6=>an [b,a,(Int.toNat (a:Int))] (N v0 v1 (M (.c v1) n0 (N n0 v2 (L v2 v0 .z)))) rfl (oN h0) q6.1 (pN q6.2) q4)))
theorem b130 (h0:0<=x):x=(((Int.toNat x):Nat):Int):=qZ (kZ (fun q1=>(tnc x).elim (fun q2=>ac [Int.toNat x] [x] (Z w0 (.c v0) (M (.c v0) w0 .z)) rfl (pZ q2.2) q1) (fun q3=>ac [] [x] (Z n0 w0 (M w0 n0 .z)) rfl h0 q3.1))) (kZ (fun q4=>(tnc x).elim (fun q5=>ac [Int.toNat x] [x] (Z (.c v0) w0 (M w0 (.c v0) .z)) rfl (oZ q5.2) q4) (fun q6=>ac [] [x] (Z n0 w0 (M w0 n0 .z)) rfl h0 q6.1)))
theorem b131 (h0:z=(((Int.toNat y):Nat):Int))(h1:z<y):x=(((Int.toNat y):Nat):Int):=qZ (kZ (fun q1=>(tnc y).elim (fun q2=>ac [Int.toNat y] [z,y] (Z (.c v0) w0 (M w0 w1 (Z w1 (.c v0) .z))) rfl (pZ h0) h1 (pZ q2.2)) (fun q3=>ac [Int.toNat y] [z,y] (Z (.c v0) w0 (M w0 w1 (M w1 n0 (N n0 v0 .z)))) rfl (pZ h0) h1 q3.1 (pN q3.2)))) (kZ (fun q4=>(tnc y).elim (fun q5=>ac [Int.toNat y] [z,y] (Z (.c v0) w0 (M w0 w1 (Z w1 (.c v0) .z))) rfl (pZ h0) h1 (pZ q5.2)) (fun q6=>ac [Int.toNat y] [z,y] (Z (.c v0) w0 (M w0 w1 (M w1 n0 (N n0 v0 .z)))) rfl (pZ h0) h1 q6.1 (pN q6.2))))
theorem b132 (h0:¬ (b<a))(h1:b<a+1):(a:Int)=(b:Int):=qZ (kZ (an [a,b] (N v0 v1 (M (.c v1) (.c v0) .z)) rfl (nlN h0))) (kZ (an [b,a] (L v0 (A v1 n1) (M (.c v1) (.c v0) .z)) rfl h1))
theorem b133 (h0:a<b):(a:Int)<(b:Int):=lZ (an [a,b] (L v0 v1 (Z (.c v1) (.c v0) .z)) rfl h0)
theorem b134 (h0:y=(a:Int))(h1:y<x):(a:Int)≠x:=fun q1=>ac [a] [y,x] (Z (.c v0) w0 (M w0 w1 (Z w1 (.c v0) .z))) rfl (pZ h0) h1 (pZ q1)
theorem b135 (h0:x=y)(h1:¬ (Int.toNat z=a))(h2:z=(a:Int))(h3:z<y):x=(a:Int):=qZ (kZ (fun q1=>(tnc z).elim (fun q2=>(neN h1).elim (fun q3=>ac [a,Int.toNat z] [z] (Z (.c v0) w0 (Z w0 (.c v1) (L v1 v0 .z))) rfl (pZ h2) (pZ q2.2) q3) (fun q4=>ac [a,Int.toNat z] [z] (Z w0 (.c v0) (Z (.c v1) w0 (L v0 v1 .z))) rfl (oZ h2) (oZ q2.2) q4)) (fun q5=>ac [a] [z] (Z (.c v0) w0 (M w0 n0 .z)) rfl (pZ h2) q5.1))) (kZ (ac [a] [x,y,z] (Z w1 w0 (Z (.c v0) w2 (M w2 w1 (M w0 (.c v0) .z)))) rfl (pZ h0) (pZ h2) h3))
theorem b136 (h0:x<=(b:Int))(h1:b<c)(h2:a=c)(h3:y<(c:Int))(h4:z<y)(h5:0<=z):Int.toNat x<a:=lN (fun q1=>(tnc x).elim (fun q2=>ac [b,c,a,Int.toNat x] [x] (Z w0 (.c v0) (L v0 v1 (N v1 v2 (Z (.c v3) w0 (N v2 v3 .z))))) rfl h0 h1 (pN h2) (oZ q2.2) q1) (fun q3=>ac [a,c,Int.toNat x] [y,z] (N v1 v0 (M w0 (.c v1) (M w1 w0 (Z n0 w1 (N v2 n0 (N v0 v2 .z)))))) rfl (pN h2) h3 h4 h5 (oN q3.2) q1))
theorem b137  : a+1≠0:=fun q1=>an [a] (N (A v0 n1) n0 .z) rfl (oN q1)
theorem b138 (h0:a<c)(h1:b=c)(h2:x<(c:Int))(h3:y<x)(h4:0<=y):a - 1<b:=lN (fun q1=>(sbc a 1).elim (fun q2=>an [a,c,b,a - 1] (L v0 v1 (N v1 v2 (N (A v3 n1) v0 (N v2 v3 .z)))) rfl h0 (pN h1) (oN q2.2) q1) (fun q3=>ac [b,c,a - 1] [x,y] (N v1 v0 (M w0 (.c v1) (M w1 w0 (Z n0 w1 (N v2 n0 (N v0 v2 .z)))))) rfl (pN h1) h2 h3 h4 (oN q3.2) q1))
theorem b139 (h0:(a:Int)=(b:Int)):a=b:=qN (kN (an [a,b] (Z (.c v0) (.c v1) (L v1 v0 .z)) rfl (oZ h0))) (kN (an [a,b] (Z (.c v1) (.c v0) (L v0 v1 .z)) rfl (pZ h0)))
theorem b140 (h0:b=a)(h1:b=c)(h2:x<(c:Int))(h3:y<x)(h4:0<=y):Int.toNat x<a:=lN (fun q1=>(tnc x).elim (fun q2=>ac [b,a,c,Int.toNat x] [x] (N v0 v1 (N v2 v0 (M w0 (.c v2) (Z (.c v3) w0 (N v1 v3 .z))))) rfl (oN h0) (pN h1) h2 (oZ q2.2) q1) (fun q3=>ac [] [y,x] (M w0 w1 (Z n0 w0 (M w1 n0 .z))) rfl h3 h4 q3.1))
theorem b141 (h0:(a+(b+1))+(25 * c)<=26 * d):(a+b)+(25 * c)<=26 * d:=kN (an [a,b,c,d] (N (A (A v0 (A v1 n1)) (.mul 25 v2)) (.mul 26 v3) (L (.mul 26 v3) (A (A v0 v1) (.mul 25 v2)) .z)) rfl h0)
theorem b142 (h0:e<=24)(h1:(a+b)+(25 * f)<=26 * e)(h2:d+1=f)(h3:c=g)(h4:g<=k)(h5:k=e):(a+(b+c))+(25 * d)<=26 * e:=kN (an [e,a,b,f,d,c,g,k] (N v0 (.n 24) (N (A (A v1 v2) (.mul 25 v3)) (.mul 26 v0) (.m 25 (N (A v4 n1) v3 (N v5 v6 (N v6 v7 (N v7 v0 (L (.mul 26 v0) (A (A v1 (A v2 v5)) (.mul 25 v4)) .z)))))))) rfl h0 h1 (oN h2) (oN h3) h4 (oN h5))
theorem b143 (h0:a≠0):(a - 1)+1=a:=qN (kN (fun q1=>(sbc a 1).elim (fun q2=>an [a - 1,a] (N (A v0 n1) v1 (L v1 (A v0 n1) .z)) rfl (oN q2.2) q1) (fun q3=>(neN h0).elim (fun q4=>an [a] (L v0 n0 .z) rfl q4) (fun q5=>an [a] (L v0 n1 (L n0 v0 .z)) rfl q3.1 q5)))) (kN (fun q6=>(sbc a 1).elim (fun q7=>an [a - 1,a] (N v1 (A v0 n1) (L (A v0 n1) v1 .z)) rfl (pN q7.2) q6) (fun q8=>an [a,a - 1] (L v0 n1 (N n0 v1 (L (A v1 n1) v0 .z))) rfl q8.1 (pN q8.2) q6)))
theorem b144 (h0:b=c)(h1:a<c):a - 1<b:=lN (fun q1=>(sbc a 1).elim (fun q2=>an [b,c,a,a - 1] (N v1 v0 (L v2 v1 (N (A v3 n1) v2 (N v0 v3 .z)))) rfl (pN h0) h1 (oN q2.2) q1) (fun q3=>an [b,c,a,a - 1] (N v1 v0 (L v2 v1 (N v3 n0 (N v0 v3 .z)))) rfl (pN h0) h1 (oN q3.2) q1))
theorem b145 (h0:(0<=x)/\(x<=(((b - 1):Nat):Int)))(h1:b<a):Int.toNat x<a:=lN (fun q1=>(tnc x).elim (fun q2=>(sbc b 1).elim (fun q3=>ac [b - 1,b,a,Int.toNat x] [x] (Z w0 (.c v0) (L v1 v2 (Z (.c v3) w0 (N (A v0 n1) v1 (N v2 v3 .z))))) rfl h0.2 h1 (oZ q2.2) (oN q3.2) q1) (fun q4=>ac [b - 1,b,a,Int.toNat x] [x] (Z w0 (.c v0) (L v1 v2 (Z (.c v3) w0 (N v0 n0 (N v2 v3 .z))))) rfl h0.2 h1 (oZ q2.2) (oN q4.2) q1)) (fun q5=>ac [] [x] (Z n0 w0 (M w0 n0 .z)) rfl h0.1 q5.1))
theorem b146 (h0:(0<=x)/\(x<=(((a - 1):Nat):Int))):(((Int.toNat x):Nat):Int)=x:=qZ (kZ (fun q1=>(tnc x).elim (fun q2=>ac [Int.toNat x] [x] (Z (.c v0) w0 (M w0 (.c v0) .z)) rfl (oZ q2.2) q1) (fun q3=>ac [] [x] (Z n0 w0 (M w0 n0 .z)) rfl h0.1 q3.1))) (kZ (fun q4=>(tnc x).elim (fun q5=>ac [Int.toNat x] [x] (Z w0 (.c v0) (M (.c v0) w0 .z)) rfl (pZ q5.2) q4) (fun q6=>ac [] [x] (Z n0 w0 (M w0 n0 .z)) rfl h0.1 q6.1)))
theorem b147 (h0:a=b)(h1:x<(b:Int)):x<(a:Int):=lZ (ac [a,b] [x] (N v1 v0 (M w0 (.c v1) (Z (.c v0) w0 .z))) rfl (pN h0) h1)
theorem b148  : (Int.toNat (a:Int))=a:=qN (kN (fun q1=>(tnc (a:Int)).elim (fun q2=>an [(Int.toNat (a:Int)),a] (Z (.c v0) (.c v1) (L v1 v0 .z)) rfl (oZ q2.2) q1) (fun q3=>an [a] (M (.c v0) n0 .z) rfl q3.1))) (kN (fun q4=>(tnc (a:Int)).elim (fun q5=>an [(Int.toNat (a:Int)),a] (Z (.c v1) (.c v0) (L v0 v1 .z)) rfl (pZ q5.2) q4) (fun q6=>an [a,(Int.toNat (a:Int))] (M (.c v0) n0 (N n0 v1 (L v1 v0 .z))) rfl q6.1 (pN q6.2) q4)))
theorem b149 (h0:a<b):a - 1<b:=lN (fun q1=>(sbc a 1).elim (fun q2=>an [a,b,a - 1] (L v0 v1 (N (A v2 n1) v0 (N v1 v2 .z))) rfl h0 (oN q2.2) q1) (fun q3=>an [a,b,a - 1] (L v0 v1 (N v2 n0 (N v1 v2 .z))) rfl h0 (oN q3.2) q1))
theorem b150 (h0:a<c)(h1:b=c)(h2:(a≠0)/\(x=y)):(1<=(a:Int))/\((a:Int)<(b:Int)):=⟨kZ (fun q1=>(neN h2.1).elim (fun q2=>an [a] (L v0 n0 .z) rfl q2) (fun q3=>an [a] (L n0 v0 (M (.c v0) n1 .z)) rfl q3 q1)),lZ (an [a,c,b] (L v0 v1 (N v1 v2 (Z (.c v2) (.c v0) .z))) rfl h0 (pN h1))⟩
theorem b151 (h0:1<=x):0<=x:=kZ (ac [] [x] (Z n1 w0 (M w0 n0 .z)) rfl h0)
theorem b152 (h0:(1<=x)/\(x<(b:Int)))(h1:b=a):(0<=x)/\(x<(a:Int)):=⟨kZ (ac [] [x] (Z n1 w0 (M w0 n0 .z)) rfl h0.1),lZ (ac [b,a] [x] (M w0 (.c v0) (N v0 v1 (Z (.c v1) w0 .z))) rfl h0.2 (oN h1))⟩
theorem b153 (h0:(1<=x)/\(x<(a:Int))):Int.toNat (x - 1)<a:=lN (fun q1=>(tnc (x - 1)).elim (fun q2=>ac [a,Int.toNat (x - 1)] [x] (M w0 (.c v0) (Z (.c v1) (.sub w0 n1) (N v0 v1 .z))) rfl h0.2 (oZ q2.2) q1) (fun q3=>ac [] [x] (Z n1 w0 (M (.sub w0 n1) n0 .z)) rfl h0.1 q3.1))
theorem b154 (h0:a<=b+c):a+1<=(b+1)+c:=kN (an [a,b,c] (N v0 (A v1 v2) (L (A (A v1 n1) v2) (A v0 n1) .z)) rfl h0)
theorem b155 (h0:x<(a:Int))(h1:y<(a:Int))(h2:z<y)(h3:0<=z):Int.toNat x<a:=lN (fun q1=>(tnc x).elim (fun q2=>ac [a,Int.toNat x] [x] (M w0 (.c v0) (Z (.c v1) w0 (N v0 v1 .z))) rfl h0 (oZ q2.2) q1) (fun q3=>ac [a,Int.toNat x] [y,z] (M w0 (.c v0) (M w1 w0 (Z n0 w1 (N v1 n0 (N v0 v1 .z))))) rfl h1 h2 h3 (oN q3.2) q1))
theorem b156 (h0:y=max x z)(h1:¬ (x<=z)):x=y:=qZ (kZ (fun q1=>(mxZ x z).elim (fun q2=>ac [] [z,x] (M w0 w1 (Z w1 w0 .z)) rfl (neZ_ h1) q2.1) (fun q3=>ac [] [y,max x z,x] (Z w1 w0 (Z w2 w1 (M w0 w2 .z))) rfl (pZ h0) (pZ q3.2) q1))) (kZ (fun q4=>(mxZ x z).elim (fun q5=>ac [] [z,x] (M w0 w1 (Z w1 w0 .z)) rfl (neZ_ h1) q5.1) (fun q6=>ac [] [y,max x z,x] (Z w0 w1 (Z w1 w2 (M w2 w0 .z))) rfl (oZ h0) (oZ q6.2) q4)))
theorem b157 (h0:x=z)(h1:z<y):x≠y:=fun q1=>ac [] [x,z,y] (Z w0 w1 (M w1 w2 (Z w2 w0 .z))) rfl (oZ h0) h1 (pZ q1)
theorem b158 (h0:y=min x z)(h1:x<=z):x=y:=qZ (kZ (fun q1=>(mnZ x z).elim (fun q2=>ac [] [y,min x z,x] (Z w1 w0 (Z w2 w1 (M w0 w2 .z))) rfl (pZ h0) (pZ q2.2) q1) (fun q3=>ac [] [x,z] (Z w0 w1 (M w1 w0 .z)) rfl h1 q3.1))) (kZ (fun q4=>(mnZ x z).elim (fun q5=>ac [] [y,min x z,x] (Z w0 w1 (Z w1 w2 (M w2 w0 .z))) rfl (oZ h0) (oZ q5.2) q4) (fun q6=>ac [] [x,z] (Z w0 w1 (M w1 w0 .z)) rfl h1 q6.1)))
theorem b159 (h0:y=max z x)(h1:z<=x):x=y:=qZ (kZ (fun q1=>(mxZ z x).elim (fun q2=>ac [] [y,max z x,x] (Z w1 w0 (Z w2 w1 (M w0 w2 .z))) rfl (pZ h0) (pZ q2.2) q1) (fun q3=>ac [] [z,x] (Z w0 w1 (M w1 w0 .z)) rfl h1 q3.1))) (kZ (fun q4=>(mxZ z x).elim (fun q5=>ac [] [y,max z x,x] (Z w0 w1 (Z w1 w2 (M w2 w0 .z))) rfl (oZ h0) (oZ q5.2) q4) (fun q6=>ac [] [z,x] (Z w0 w1 (M w1 w0 .z)) rfl h1 q6.1)))
theorem b160 (h0:y=min z x)(h1:¬ (z<=x)):x=y:=qZ (kZ (fun q1=>(mnZ z x).elim (fun q2=>ac [] [x,z] (M w0 w1 (Z w1 w0 .z)) rfl (neZ_ h1) q2.1) (fun q3=>ac [] [y,min z x,x] (Z w1 w0 (Z w2 w1 (M w0 w2 .z))) rfl (pZ h0) (pZ q3.2) q1))) (kZ (fun q4=>(mnZ z x).elim (fun q5=>ac [] [x,z] (M w0 w1 (Z w1 w0 .z)) rfl (neZ_ h1) q5.1) (fun q6=>ac [] [y,min z x,x] (Z w0 w1 (Z w1 w2 (M w2 w0 .z))) rfl (oZ h0) (oZ q6.2) q4)))
theorem b161 (h0:b=a)(h1:b=c)(h2:x<(c:Int)):x<(a:Int):=lZ (ac [b,a,c] [x] (N v0 v1 (N v2 v0 (M w0 (.c v2) (Z (.c v1) w0 .z)))) rfl (oN h0) (pN h1) h2)
theorem b162 (h0:a+d=c)(h1:b+1=d):(a+1)+b=c:=qN (kN (an [a,d,c,b] (N (A v0 v1) v2 (N (A v3 n1) v1 (L v2 (A (A v0 n1) v3) .z))) rfl (oN h0) (oN h1))) (kN (an [a,d,c,b] (N v2 (A v0 v1) (N v1 (A v3 n1) (L (A (A v0 n1) v3) v2 .z))) rfl (pN h0) (pN h1)))
theorem b163 (h0:(0<=(a:Int))/\((a:Int)<(b:Int))):a<b:=lN (an [a,b] (M (.c v0) (.c v1) (N v1 v0 .z)) rfl h0.2)
theorem b164 (h0:(a+(b+1))+(25 * c)<=26 * d):((a+1)+b)+(25 * c)<=26 * d:=kN (an [a,b,c,d] (N (A (A v0 (A v1 n1)) (.mul 25 v2)) (.mul 26 v3) (L (.mul 26 v3) (A (A (A v0 n1) v1) (.mul 25 v2)) .z)) rfl h0)
theorem b165 (h0:0<a):(a - 1)+1=a:=qN (kN (fun q1=>(sbc a 1).elim (fun q2=>an [a - 1,a] (N (A v0 n1) v1 (L v1 (A v0 n1) .z)) rfl (oN q2.2) q1) (fun q3=>an [a] (L n0 v0 (L v0 n1 .z)) rfl h0 q3.1))) (kN (fun q4=>(sbc a 1).elim (fun q5=>an [a - 1,a] (N v1 (A v0 n1) (L (A v0 n1) v1 .z)) rfl (pN q5.2) q4) (fun q6=>an [a] (L n0 v0 (L v0 n1 .z)) rfl h0 q6.1)))
theorem b166 (h0:c=b)(h1:a<c):a - 1<b:=lN (fun q1=>(sbc a 1).elim (fun q2=>an [c,b,a,a - 1] (N v0 v1 (L v2 v0 (N (A v3 n1) v2 (N v1 v3 .z)))) rfl (oN h0) h1 (oN q2.2) q1) (fun q3=>an [c,b,a,a - 1] (N v0 v1 (L v2 v0 (N v3 n0 (N v1 v3 .z)))) rfl (oN h0) h1 (oN q3.2) q1))
theorem b167 (h0:y<x)(h1:0<=y):0<=x:=kZ (ac [] [y,x] (M w0 w1 (Z n0 w0 (M w1 n0 .z))) rfl h0 h1)
theorem b168 (h0:a=b)(h1:y<(b:Int))(h2:x<y):x<(a:Int):=lZ (ac [a,b] [y,x] (N v1 v0 (M w0 (.c v1) (M w1 w0 (Z (.c v0) w1 .z)))) rfl (pN h0) h1 h2)
theorem b169 (h0:0<=x)(h1:b=a)(h2:b=c)(h3:y<(c:Int))(h4:x<y):Int.toNat x<a:=lN (fun q1=>(tnc x).elim (fun q2=>ac [b,a,c,Int.toNat x] [y,x] (N v0 v1 (N v2 v0 (M w0 (.c v2) (M w1 w0 (Z (.c v3) w1 (N v1 v3 .z)))))) rfl (oN h1) (pN h2) h3 h4 (oZ q2.2) q1) (fun q3=>ac [] [x] (Z n0 w0 (M w0 n0 .z)) rfl h0 q3.1))
theorem b170  : (Int.toNat ((a:Int) - 1))=a - 1:=qN (kN (fun q1=>(tnc ((a:Int) - 1)).elim (fun q2=>(sbc a 1).elim (fun q3=>an [(Int.toNat ((a:Int) - 1)),a,a - 1] (Z (.c v0) (.sub (.c v1) n1) (N v1 (A v2 n1) (L v2 v0 .z))) rfl (oZ q2.2) (pN q3.2) q1) (fun q4=>an [a] (Z n0 (.sub (.c v0) n1) (L v0 n1 .z)) rfl q2.1 q4.1)) (fun q5=>an [(Int.toNat ((a:Int) - 1)),a - 1] (N v0 n0 (L v1 v0 .z)) rfl (oN q5.2) q1))) (kN (fun q6=>(tnc ((a:Int) - 1)).elim (fun q7=>(sbc a 1).elim (fun q8=>an [(Int.toNat ((a:Int) - 1)),a,a - 1] (Z (.sub (.c v1) n1) (.c v0) (N (A v2 n1) v1 (L v0 v2 .z))) rfl (pZ q7.2) (oN q8.2) q6) (fun q9=>an [a] (Z n0 (.sub (.c v0) n1) (L v0 n1 .z)) rfl q7.1 q9.1)) (fun q10=>(sbc a 1).elim (fun q11=>an [a] (M (.sub (.c v0) n1) n0 (N n1 v0 .z)) rfl q10.1 q11.1) (fun q12=>an [(Int.toNat ((a:Int) - 1)),a - 1] (N n0 v0 (N v1 n0 (L v0 v1 .z))) rfl (pN q10.2) (oN q12.2) q6))))
theorem b171 (h0:b=c)(h1:a<c):a<b:=lN (an [b,c,a] (N v1 v0 (L v2 v1 (N v0 v2 .z))) rfl (pN h0) h1)
theorem b172 (h0:a<c)(h1:b=c):a - 1<b:=lN (fun q1=>(sbc a 1).elim (fun q2=>an [a,c,b,a - 1] (L v0 v1 (N v1 v2 (N (A v3 n1) v0 (N v2 v3 .z)))) rfl h0 (pN h1) (oN q2.2) q1) (fun q3=>an [a,c,b,a - 1] (L v0 v1 (N v1 v2 (N v3 n0 (N v2 v3 .z)))) rfl h0 (pN h1) (oN q3.2) q1))
theorem b173 (h0:x<(a:Int))(h1:y<x)(h2:0<=y):(0<=x)/\(x<(a:Int)):=⟨kZ (ac [] [y,x] (M w0 w1 (Z n0 w0 (M w1 n0 .z))) rfl h1 h2),lZ (ac [a] [x] (M w0 (.c v0) (Z (.c v0) w0 .z)) rfl h0)⟩
theorem b174 (h0:¬ (b<a)):a<=b:=kN (an [a,b] (N v0 v1 (L v1 v0 .z)) rfl (nlN h0))
theorem b175  : a<=a+((b - a) % c):=kN (an [a,(b - a) % c] (L (A v0 v1) v0 .z) rfl)
theorem b176 (h0:((b - a) % c)+(c * ((b - a) / c))=b - a)(h1:b<d)(h2:a<=b):(a+((b - a) % c))+(c * ((b - a) / c))<d:=lN (fun q1=>(sbc b a).elim (fun q2=>an [(b - a) % c,c * ((b - a) / c),b - a,b,d,a] (N (A v0 v1) v2 (L v3 v4 (N (A v2 v5) v3 (N v4 (A (A v5 v0) v1) .z)))) rfl (oN h0) h1 (oN q2.2) q1) (fun q3=>an [a,b] (N v0 v1 (L v1 v0 .z)) rfl h2 q3.1))
theorem b177 (h0:((a - b) % c)+(c * ((a - b) / c))=a - b)(h1:b<=a):a=(b+((a - b) % c))+(c * ((a - b) / c)):=qN (kN (fun q1=>(sbc a b).elim (fun q2=>an [(a - b) % c,c * ((a - b) / c),a - b,b,a] (N v2 (A v0 v1) (N v4 (A v2 v3) (L (A (A v3 v0) v1) v4 .z))) rfl (pN h0) (pN q2.2) q1) (fun q3=>an [b,a] (N v0 v1 (L v1 v0 .z)) rfl h1 q3.1))) (kN (fun q4=>(sbc a b).elim (fun q5=>an [(a - b) % c,c * ((a - b) / c),a - b,b,a] (N (A v0 v1) v2 (N (A v2 v3) v4 (L v4 (A (A v3 v0) v1) .z))) rfl (oN h0) (oN q5.2) q4) (fun q6=>an [b,a] (N v0 v1 (L v1 v0 .z)) rfl h1 q6.1)))
theorem b178 (h0:¬ (a<b)):¬ (a+1<b):=an [b,a] (N v0 v1 (L (A v1 n1) v0 .z)) rfl (nlN h0)
theorem b179  : ((a+((b - a) % c))+1) - a=((b - a) % c)+1:=qN (kN (fun q1=>(sbc ((a+((b - a) % c))+1) a).elim (fun q3=>an [((a+((b - a) % c))+1) - a,a,(b - a) % c] (N (A v0 v1) (A (A v1 v2) n1) (L (A v2 n1) v0 .z)) rfl (oN q3.2) q1) (fun q4=>an [a,(b - a) % c] (L (A (A v0 v1) n1) v0 .z) rfl q4.1))) (kN (fun q5=>(sbc ((a+((b - a) % c))+1) a).elim (fun q7=>an [((a+((b - a) % c))+1) - a,a,(b - a) % c] (N (A (A v1 v2) n1) (A v0 v1) (L v0 (A v2 n1) .z)) rfl (pN q7.2) q5) (fun q8=>an [a,(b - a) % c,((a+((b - a) % c))+1) - a] (L (A (A v0 v1) n1) v0 (N n0 v2 (L v2 (A v1 n1) .z))) rfl q8.1 (pN q8.2) q5)))
theorem b180  : min a (min b c)<=min b c:=kN (fun q1=>(mnN a (min b c)).elim (fun q3=>an [a,min b c,min a (min b c)] (N v0 v1 (N v2 v0 (L v1 v2 .z))) rfl q3.1 (oN q3.2) q1) (fun q4=>an [min a (min b c),min b c] (N v0 v1 (L v1 v0 .z)) rfl (oN q4.2) q1))
theorem b181 (h0:b<=a):¬ (a<b):=an [b,a] (N v0 v1 (L v1 v0 .z)) rfl h0
theorem b182 (h0:b > a):a<=b:=kN (an [a,b] (L v0 v1 (L v1 v0 .z)) rfl h0)
theorem b183 (h0:a<=b):a+(b - a)=b:=qN (kN (fun q1=>(sbc b a).elim (fun q2=>an [b - a,a,b] (N (A v0 v1) v2 (L v2 (A v1 v0) .z)) rfl (oN q2.2) q1) (fun q3=>an [a,b] (N v0 v1 (L v1 v0 .z)) rfl h0 q3.1))) (kN (fun q4=>(sbc b a).elim (fun q5=>an [b - a,a,b] (N v2 (A v0 v1) (L (A v1 v0) v2 .z)) rfl (pN q5.2) q4) (fun q6=>an [a,b] (N v0 v1 (L v1 v0 .z)) rfl h0 q6.1)))
theorem b184 (h0:c+b<d)(h1:a<=c):(a+b)+(c - a)<d:=lN (fun q1=>(sbc c a).elim (fun q2=>an [c,b,d,c - a,a] (L (A v0 v1) v2 (N (A v3 v4) v0 (N v2 (A (A v4 v1) v3) .z))) rfl h0 (oN q2.2) q1) (fun q3=>an [a,c] (N v0 v1 (L v1 v0 .z)) rfl h1 q3.1))
theorem b185 (h0:b<c):(a+b)+(c - b)=a+c:=qN (kN (fun q1=>(sbc c b).elim (fun q2=>an [c - b,b,c,a] (N (A v0 v1) v2 (L (A v3 v2) (A (A v3 v1) v0) .z)) rfl (oN q2.2) q1) (fun q3=>an [b,c] (L v0 v1 (L v1 v0 .z)) rfl h0 q3.1))) (kN (fun q4=>(sbc c b).elim (fun q5=>an [c - b,b,c,a] (N v2 (A v0 v1) (L (A (A v3 v1) v0) (A v3 v2) .z)) rfl (pN q5.2) q4) (fun q6=>an [b,c] (L v0 v1 (L v1 v0 .z)) rfl h0 q6.1)))
theorem b186 (h0:¬ (a=b)):0<(max a b) - (min a b):=lN (fun q1=>(sbc (max a b) (min a b)).elim (fun q2=>(mxN a b).elim (fun q3=>(mnN a b).elim (fun q4=>(neN h0).elim (fun q5=>an [(max a b) - (min a b),min a b,max a b,b,a] (N v2 (A v0 v1) (N v3 v2 (N v1 v4 (L v4 v3 (N v0 n0 .z))))) rfl (pN q2.2) (pN q3.2) (oN q4.2) q5 q1) (fun q6=>an [a,b] (N v0 v1 (L v1 v0 .z)) rfl q3.1 q6)) (fun q7=>an [a,b] (N v0 v1 (L v1 v0 .z)) rfl q3.1 q7.1)) (fun q8=>(mnN a b).elim (fun q9=>an [b,a] (L v0 v1 (N v1 v0 .z)) rfl q8.1 q9.1) (fun q10=>an [(max a b) - (min a b),min a b,max a b,b,a] (N v2 (A v0 v1) (L v3 v4 (N v4 v2 (N v1 v3 (N v0 n0 .z))))) rfl (pN q2.2) q8.1 (pN q8.2) (oN q10.2) q1))) (fun q11=>(mxN a b).elim (fun q12=>(mnN a b).elim (fun q13=>an [max a b,min a b,a,b] (L v0 v1 (N v2 v3 (N v3 v0 (N v1 v2 .z)))) rfl q11.1 q12.1 (pN q12.2) (oN q13.2)) (fun q14=>an [a,b] (N v0 v1 (L v1 v0 .z)) rfl q12.1 q14.1)) (fun q15=>(mnN a b).elim (fun q16=>an [b,a] (L v0 v1 (N v1 v0 .z)) rfl q15.1 q16.1) (fun q17=>an [max a b,min a b,b,a] (L v0 v1 (L v2 v3 (N v3 v0 (N v1 v2 .z)))) rfl q11.1 q15.1 (pN q15.2) (oN q17.2)))))
theorem b187  : min a (min b c)<=a:=kN (fun q1=>(mnN a (min b c)).elim (fun q3=>an [min a (min b c),a] (N v0 v1 (L v1 v0 .z)) rfl (oN q3.2) q1) (fun q4=>an [min b c,a,min a (min b c)] (L v0 v1 (N v2 v0 (L v1 v2 .z))) rfl q4.1 (oN q4.2) q1))
theorem b188  : ¬ (a+((b - a) % c)<a):=an [a,(b - a) % c] (L (A v0 v1) v0 .z) rfl
theorem b189 (h0:a+((b * c)+b)<d):a+(b * c)<d:=lN (an [a,b * c,b,d] (L (A v0 (A v1 v2)) v3 (N v3 (A v0 v1) .z)) rfl h0)
theorem b190 (h0:d<e)(h1:e<=a):a+((b - a) % c)≠d:=fun q1=>an [d,e,a,(b - a) % c] (L v0 v1 (N v1 v2 (N (A v2 v3) v0 .z))) rfl h0 h1 (oN q1)
theorem b191 (h0:b > a):a+(b - a)=b:=qN (kN (fun q1=>(sbc b a).elim (fun q2=>an [b - a,a,b] (N (A v0 v1) v2 (L v2 (A v1 v0) .z)) rfl (oN q2.2) q1) (fun q3=>an [a,b] (L v0 v1 (L v1 v0 .z)) rfl h0 q3.1))) (kN (fun q4=>(sbc b a).elim (fun q5=>an [b - a,a,b] (N v2 (A v0 v1) (L (A v1 v0) v2 .z)) rfl (pN q5.2) q4) (fun q6=>an [a,b] (L v0 v1 (L v1 v0 .z)) rfl h0 q6.1)))
theorem b192 (h0:d<c)(h1:b<d):(a+b)+(c - d)=a+(c - (d - b)):=qN (kN (fun q1=>(sbc c d).elim (fun q2=>(sbc d b).elim (fun q3=>(sbc c (d - b)).elim (fun q4=>an [c - d,d,c,d - b,b,c - (d - b),a] (N (A v0 v1) v2 (N (A v3 v4) v1 (N v2 (A v5 v3) (L (A v6 v5) (A (A v6 v4) v0) .z)))) rfl (oN q2.2) (oN q3.2) (pN q4.2) q1) (fun q5=>an [c - d,d,c,d - b,b,c - (d - b),a] (N (A v0 v1) v2 (N (A v3 v4) v1 (L v2 v3 (N n0 v5 (L (A v6 v5) (A (A v6 v4) v0) .z))))) rfl (oN q2.2) (oN q3.2) q5.1 (pN q5.2) q1)) (fun q6=>an [b,d] (L v0 v1 (L v1 v0 .z)) rfl h1 q6.1)) (fun q7=>an [d,c] (L v0 v1 (L v1 v0 .z)) rfl h0 q7.1))) (kN (fun q8=>(sbc c d).elim (fun q9=>(sbc d b).elim (fun q10=>(sbc c (d - b)).elim (fun q11=>an [c - d,d,c,d - b,b,c - (d - b),a] (N v2 (A v0 v1) (N v1 (A v3 v4) (N (A v5 v3) v2 (L (A (A v6 v4) v0) (A v6 v5) .z)))) rfl (pN q9.2) (pN q10.2) (oN q11.2) q8) (fun q12=>an [d,c,d - b,b] (L v0 v1 (N (A v2 v3) v0 (L v1 v2 .z))) rfl h0 (oN q10.2) q12.1)) (fun q13=>an [b,d] (L v0 v1 (L v1 v0 .z)) rfl h1 q13.1)) (fun q14=>an [d,c] (L v0 v1 (L v1 v0 .z)) rfl h0 q14.1)))
theorem b193 (h0:c<b)(h1:((d+e) - f) % a<a):a - (b - c)<a:=lN (fun q1=>(sbc b c).elim (fun q3=>(sbc a (b - c)).elim (fun q4=>an [c,b,b - c,a - (b - c),a] (L v0 v1 (N v1 (A v2 v0) (N (A v3 v2) v4 (N v4 v3 .z)))) rfl h0 (pN q3.2) (oN q4.2) q1) (fun q5=>an [((d+e) - f) % a,a,a - (b - c)] (L v0 v1 (N v2 n0 (N v1 v2 .z))) rfl h1 (oN q5.2) q1)) (fun q6=>an [c,b] (L v0 v1 (L v1 v0 .z)) rfl h0 q6.1))
theorem b194 (h0:(b - a) % c<=b - a)(h1:¬ (b<a)):a+((b - a) % c)<=b:=kN (fun q1=>(sbc b a).elim (fun q2=>an [(b - a) % c,b - a,a,b] (N v0 v1 (N (A v1 v2) v3 (L v3 (A v2 v0) .z))) rfl h0 (oN q2.2) q1) (fun q3=>an [a,b] (N v0 v1 (L v1 v0 .z)) rfl (nlN h1) q3.1))
theorem b195 (h0:b<a)(h1:c<b):0<a - (b - c):=lN (fun q1=>(sbc b c).elim (fun q2=>(sbc a (b - c)).elim (fun q3=>an [b,a,b - c,c,a - (b - c)] (L v0 v1 (N (A v2 v3) v0 (N v1 (A v4 v2) (N v4 n0 .z)))) rfl h0 (oN q2.2) (pN q3.2) q1) (fun q4=>an [b,a,b - c,c] (L v0 v1 (N (A v2 v3) v0 (L v1 v2 .z))) rfl h0 (oN q2.2) q4.1)) (fun q5=>an [c,b] (L v0 v1 (L v1 v0 .z)) rfl h1 q5.1))
theorem b196 (h0:a<=b):a<=b+(c * d):=kN (an [a,b,c * d] (N v0 v1 (L (A v1 v2) v0 .z)) rfl h0)
theorem b197 (h0:a+((b * c)+b)<d):(a+(b * c))+b<d:=lN (an [a,b * c,b,d] (L (A v0 (A v1 v2)) v3 (N v3 (A (A v0 v1) v2) .z)) rfl h0)
theorem b198 (h0:c<b)(h1:b<a)(h2:0<f)(h3:c+(a * d)=(g+f) - k)(h4:b+(a * e)=g - k)(h5:((g+f) - k) % a=c)(h6:k<=g):(a - (b - c))+(a * d)=(a+(a * e))+f:=qN (kN (fun q1=>(sbc (g+f) k).elim (fun q2=>(sbc g k).elim (fun q3=>(sbc b c).elim (fun q4=>(sbc a (b - c)).elim (fun q5=>an [c,a * d,(g+f) - k,b,a * e,g - k,k,g,f,b - c,a - (b - c),a] (N (A v0 v1) v2 (N v5 (A v3 v4) (N (A v2 v6) (A v7 v8) (N v7 (A v5 v6) (N v3 (A v9 v0) (N (A (.v 10) v9) (.v 11) (L (A (A (.v 11) v4) v8) (A (.v 10) v1) .z))))))) rfl (oN h3) (pN h4) (oN q2.2) (pN q3.2) (pN q4.2) (oN q5.2) q1) (fun q6=>an [b,a,((g+f) - k) % a,c,b - c] (L v0 v1 (N v2 v3 (N (A v4 v3) v0 (L v1 v4 .z)))) rfl h1 (oN h5) (oN q4.2) q6.1)) (fun q7=>an [c,b] (L v0 v1 (L v1 v0 .z)) rfl h0 q7.1)) (fun q8=>an [k,g] (N v0 v1 (L v1 v0 .z)) rfl h6 q8.1)) (fun q9=>an [f,k,g] (L n0 v0 (N v1 v2 (L (A v2 v0) v1 .z))) rfl h2 h6 q9.1))) (kN (fun q10=>(sbc (g+f) k).elim (fun q11=>(sbc g k).elim (fun q12=>(sbc b c).elim (fun q13=>(sbc a (b - c)).elim (fun q14=>an [c,a * d,(g+f) - k,b,a * e,g - k,k,g,f,b - c,a - (b - c),a] (N v2 (A v0 v1) (N (A v3 v4) v5 (N (A v7 v8) (A v2 v6) (N (A v5 v6) v7 (N (A v9 v0) v3 (N (.v 11) (A (.v 10) v9) (L (A (.v 10) v1) (A (A (.v 11) v4) v8) .z))))))) rfl (pN h3) (oN h4) (pN q11.2) (oN q12.2) (oN q13.2) (pN q14.2) q10) (fun q15=>an [c,a * d,(g+f) - k,b,a * e,g - k,k,g,f,b - c,a,a - (b - c)] (N v2 (A v0 v1) (N (A v3 v4) v5 (N (A v7 v8) (A v2 v6) (N (A v5 v6) v7 (N (A v9 v0) v3 (L (.v 10) v9 (N n0 (.v 11) (L (A (.v 11) v1) (A (A (.v 10) v4) v8) .z)))))))) rfl (pN h3) (oN h4) (pN q11.2) (oN q12.2) (oN q13.2) q15.1 (pN q15.2) q10)) (fun q16=>an [c,b] (L v0 v1 (L v1 v0 .z)) rfl h0 q16.1)) (fun q17=>an [k,g] (N v0 v1 (L v1 v0 .z)) rfl h6 q17.1)) (fun q18=>an [f,k,g] (L n0 v0 (N v1 v2 (L (A v2 v0) v1 .z))) rfl h2 h6 q18.1)))
theorem b199 (h0:a<=b)(h1:0<c):a<=b+c:=kN (an [a,b,c] (N v0 v1 (L n0 v2 (L (A v1 v2) v0 .z))) rfl h0 h1)
theorem b200 (h0:a+c<e)(h1:d<c)(h2:b<d):(a+b)+(c - d)<e:=lN (fun q1=>(sbc c d).elim (fun q2=>an [a,c,e,b,d,c - d] (L (A v0 v1) v2 (L v3 v4 (N (A v5 v4) v1 (N v2 (A (A v0 v3) v5) .z)))) rfl h0 h2 (oN q2.2) q1) (fun q3=>an [d,c] (L v0 v1 (L v1 v0 .z)) rfl h1 q3.1))
theorem b201 (h0:a+c<b)(h1:0<c):a<b:=lN (an [a,c,b] (L (A v0 v1) v2 (L n0 v1 (N v2 v0 .z))) rfl h0 h1)
theorem b202 (h0:a+c<d)(h1:b<c):(a+b)+(c - b)<d:=lN (fun q1=>(sbc c b).elim (fun q2=>an [a,c,d,c - b,b] (L (A v0 v1) v2 (N (A v3 v4) v1 (N v2 (A (A v0 v4) v3) .z))) rfl h0 (oN q2.2) q1) (fun q3=>an [b,c] (L v0 v1 (L v1 v0 .z)) rfl h1 q3.1))
theorem b203 (h0:a+(b+1)<c):a+b<c:=lN (an [a,b,c] (L (A v0 (A v1 n1)) v2 (N v2 (A v0 v1) .z)) rfl h0)
theorem b204 (h0:a+b<e)(h1:a<=f)(h2:f+g<e)(h3:0<g):a+(b - (c - d))<e:=lN (fun q1=>(sbc c d).elim (fun q2=>(sbc b (c - d)).elim (fun q3=>an [a,b,e,d,c,c - d,b - (c - d)] (L (A v0 v1) v2 (N v3 v4 (N v4 (A v5 v3) (N (A v6 v5) v1 (N v2 (A v0 v6) .z))))) rfl h0 q2.1 (pN q2.2) (oN q3.2) q1) (fun q4=>an [a,f,g,e,b - (c - d)] (N v0 v1 (L (A v1 v2) v3 (L n0 v2 (N v4 n0 (N v3 (A v0 v4) .z))))) rfl h1 h2 h3 (oN q4.2) q1)) (fun q5=>(sbc b (c - d)).elim (fun q6=>an [a,b,e,c - d,b - (c - d)] (L (A v0 v1) v2 (N n0 v3 (N (A v4 v3) v1 (N v2 (A v0 v4) .z)))) rfl h0 (pN q5.2) (oN q6.2) q1) (fun q7=>an [a,f,g,e,b - (c - d)] (N v0 v1 (L (A v1 v2) v3 (L n0 v2 (N v4 n0 (N v3 (A v0 v4) .z))))) rfl h1 h2 h3 (oN q7.2) q1)))
theorem b205 (h0:a<c)(h1:c<=b):a<b:=lN (an [a,c,b] (L v0 v1 (N v1 v2 (N v2 v0 .z))) rfl h0 h1)
theorem b206 (h0:d<=a):¬ (a+((b - a) % c)<d):=an [d,a,(b - a) % c] (N v0 v1 (L (A v1 v2) v0 .z)) rfl h0
theorem b207 (h0:b<c)(h1:a<c):(min a b)+((max a b) - (min a b))<c:=lN (fun q1=>(sbc (max a b) (min a b)).elim (fun q2=>(mnN a b).elim (fun q3=>(mxN a b).elim (fun q4=>an [b,c,(max a b) - (min a b),min a b,max a b] (L v0 v1 (N (A v2 v3) v4 (N v4 v0 (N v1 (A v3 v2) .z)))) rfl h0 (oN q2.2) (oN q4.2) q1) (fun q5=>an [a,b] (N v0 v1 (L v1 v0 .z)) rfl q3.1 q5.1)) (fun q6=>(mxN a b).elim (fun q7=>an [b,a] (L v0 v1 (N v1 v0 .z)) rfl q6.1 q7.1) (fun q8=>an [a,c,(max a b) - (min a b),min a b,max a b] (L v0 v1 (N (A v2 v3) v4 (N v4 v0 (N v1 (A v3 v2) .z)))) rfl h1 (oN q2.2) (oN q8.2) q1))) (fun q9=>(mnN a b).elim (fun q10=>an [a,c,(max a b) - (min a b),min a b] (L v0 v1 (N v2 n0 (N v3 v0 (N v1 (A v3 v2) .z)))) rfl h1 (oN q9.2) (oN q10.2) q1) (fun q11=>an [a,c,(max a b) - (min a b),b,min a b] (L v0 v1 (N v2 n0 (L v3 v0 (N v4 v3 (N v1 (A v4 v2) .z))))) rfl h1 (oN q9.2) q11.1 (oN q11.2) q1)))
theorem b208 (h0:a<b):a+(b - a)=b:=qN (kN (fun q1=>(sbc b a).elim (fun q2=>an [b - a,a,b] (N (A v0 v1) v2 (L v2 (A v1 v0) .z)) rfl (oN q2.2) q1) (fun q3=>an [a,b] (L v0 v1 (L v1 v0 .z)) rfl h0 q3.1))) (kN (fun q4=>(sbc b a).elim (fun q5=>an [b - a,a,b] (N v2 (A v0 v1) (L (A v1 v0) v2 .z)) rfl (pN q5.2) q4) (fun q6=>an [a,b] (L v0 v1 (L v1 v0 .z)) rfl h0 q6.1)))
theorem b209 (h0:a<e)(h1:e<=b):a≠b+((c - b) % d):=fun q1=>an [a,e,b,(c - b) % d] (L v0 v1 (N v1 v2 (N (A v2 v3) v0 .z))) rfl h0 h1 (pN q1)
theorem b210 (h0:b<=Int.toNat x)(h1:b=a)(h2:(0<=y)/\(y<=(a:Int)))(h3:x=y)(h4:(0<=x)/\(x<=(c:Int))):x=(a:Int):=qZ (kZ (ac [a] [y,x] (Z w0 (.c v0) (Z w1 w0 (M (.c v0) w1 .z))) rfl h2.2 (oZ h3))) (kZ (fun q2=>(tnc x).elim (fun q3=>ac [b,Int.toNat x,a] [x] (N v0 v1 (N v2 v0 (Z (.c v1) w0 (M w0 (.c v2) .z)))) rfl h0 (pN h1) (oZ q3.2) q2) (fun q4=>ac [] [y,x] (Z n0 w0 (Z w0 w1 (M w1 n0 .z))) rfl h2.1 (pZ h3) q4.1)))
theorem b211 (h0:(0<=x)/\(x<=(b:Int)))(h1:b<a):Int.toNat x<a:=lN (fun q1=>(tnc x).elim (fun q2=>ac [b,a,Int.toNat x] [x] (Z w0 (.c v0) (L v0 v1 (Z (.c v2) w0 (N v1 v2 .z)))) rfl h0.2 h1 (oZ q2.2) q1) (fun q3=>ac [] [x] (Z n0 w0 (M w0 n0 .z)) rfl h0.1 q3.1))
theorem b212 (h0:a<=c)(h1:d=b)(h2:c<d):a<b:=lN (an [a,c,d,b] (N v0 v1 (N v2 v3 (L v1 v2 (N v3 v0 .z)))) rfl h0 (oN h1) h2)
theorem b213 (h0:0<c)(h1:e+(a * d)=(f+c) - g)(h2:g<=f)(h3:k+(a * b)=f - g)(h4:k=e):(a * b)+c=a * d:=qN (kN (fun q1=>(sbc (f+c) g).elim (fun q2=>(sbc f g).elim (fun q3=>an [e,a * d,(f+c) - g,k,a * b,f - g,g,f,c] (N v2 (A v0 v1) (N (A v3 v4) v5 (N v0 v3 (N (A v7 v8) (A v2 v6) (N (A v5 v6) v7 (L v1 (A v4 v8) .z)))))) rfl (pN h1) (oN h3) (pN h4) (pN q2.2) (oN q3.2) q1) (fun q4=>an [g,f] (N v0 v1 (L v1 v0 .z)) rfl h2 q4.1)) (fun q5=>an [c,g,f] (L n0 v0 (N v1 v2 (L (A v2 v0) v1 .z))) rfl h0 h2 q5.1))) (kN (fun q6=>(sbc (f+c) g).elim (fun q7=>(sbc f g).elim (fun q8=>an [e,a * d,(f+c) - g,k,a * b,f - g,g,f,c] (N (A v0 v1) v2 (N v5 (A v3 v4) (N v3 v0 (N (A v2 v6) (A v7 v8) (N v7 (A v5 v6) (L (A v4 v8) v1 .z)))))) rfl (oN h1) (pN h3) (oN h4) (oN q7.2) (pN q8.2) q6) (fun q9=>an [g,f] (N v0 v1 (L v1 v0 .z)) rfl h2 q9.1)) (fun q10=>an [c,g,f] (L n0 v0 (N v1 v2 (L (A v2 v0) v1 .z))) rfl h0 h2 q10.1)))
theorem b214 (h0:a<=b)(h1:b+d<c):a+(b - a)<c:=lN (fun q1=>(sbc b a).elim (fun q2=>an [b,d,c,b - a,a] (L (A v0 v1) v2 (N (A v3 v4) v0 (N v2 (A v4 v3) .z))) rfl h1 (oN q2.2) q1) (fun q3=>an [a,b] (N v0 v1 (L v1 v0 .z)) rfl h0 q3.1))
theorem b215 (h0:a<=c):(a+b)+(c - a)=c+b:=qN (kN (fun q1=>(sbc c a).elim (fun q2=>an [c - a,a,c,b] (N (A v0 v1) v2 (L (A v2 v3) (A (A v1 v3) v0) .z)) rfl (oN q2.2) q1) (fun q3=>an [a,c] (N v0 v1 (L v1 v0 .z)) rfl h0 q3.1))) (kN (fun q4=>(sbc c a).elim (fun q5=>an [c - a,a,c,b] (N v2 (A v0 v1) (L (A (A v1 v3) v0) (A v2 v3) .z)) rfl (pN q5.2) q4) (fun q6=>an [a,c] (N v0 v1 (L v1 v0 .z)) rfl h0 q6.1)))
theorem b216 (h0:a - c=d * e)(h1:b<=c)(h2:c<a):a - b=(c - b)+(d * e):=qN (kN (fun q1=>(sbc a c).elim (fun q2=>(sbc a b).elim (fun q3=>(sbc c b).elim (fun q4=>an [a - c,d * e,c,a,a - b,b,c - b] (N v0 v1 (N v3 (A v0 v2) (N (A v4 v5) v3 (N v2 (A v6 v5) (L (A v6 v1) v4 .z))))) rfl (oN h0) (pN q2.2) (oN q3.2) (pN q4.2) q1) (fun q5=>an [b,c] (N v0 v1 (L v1 v0 .z)) rfl h1 q5.1)) (fun q6=>an [b,c,a] (N v0 v1 (L v1 v2 (L v2 v0 .z))) rfl h1 h2 q6.1)) (fun q7=>an [c,a] (L v0 v1 (L v1 v0 .z)) rfl h2 q7.1))) (kN (fun q8=>(sbc a c).elim (fun q9=>(sbc a b).elim (fun q10=>(sbc c b).elim (fun q11=>an [a - c,d * e,c,a,a - b,b,c - b] (N v1 v0 (N (A v0 v2) v3 (N v3 (A v4 v5) (N (A v6 v5) v2 (L v4 (A v6 v1) .z))))) rfl (pN h0) (oN q9.2) (pN q10.2) (oN q11.2) q8) (fun q12=>an [b,c] (N v0 v1 (L v1 v0 .z)) rfl h1 q12.1)) (fun q13=>an [b,c,a] (N v0 v1 (L v1 v2 (L v2 v0 .z))) rfl h1 h2 q13.1)) (fun q14=>an [c,a] (L v0 v1 (L v1 v0 .z)) rfl h2 q14.1)))
theorem b217 (h0:a<b):a<=b:=kN (an [a,b] (L v0 v1 (L v1 v0 .z)) rfl h0)
theorem b218 (h0:b<=c)(h1:c<a):¬ (a<b):=an [b,c,a] (N v0 v1 (L v1 v2 (L v2 v0 .z))) rfl h0 h1
theorem b219  : ¬ ((a+((b - a) % c))+1<a):=an [a,(b - a) % c] (L (A (A v0 v1) n1) v0 .z) rfl
theorem b220 (h0:¬ (a<b)):(a+1) - b=(a - b)+1:=qN (kN (fun q1=>(sbc (a+1) b).elim (fun q2=>(sbc a b).elim (fun q3=>an [(a+1) - b,b,a,a - b] (N (A v0 v1) (A v2 n1) (N v2 (A v3 v1) (L (A v3 n1) v0 .z))) rfl (oN q2.2) (pN q3.2) q1) (fun q4=>an [b,a] (N v0 v1 (L v1 v0 .z)) rfl (nlN h0) q4.1)) (fun q5=>an [b,a] (N v0 v1 (L (A v1 n1) v0 .z)) rfl (nlN h0) q5.1))) (kN (fun q6=>(sbc (a+1) b).elim (fun q7=>(sbc a b).elim (fun q8=>an [(a+1) - b,b,a,a - b] (N (A v2 n1) (A v0 v1) (N (A v3 v1) v2 (L v0 (A v3 n1) .z))) rfl (pN q7.2) (oN q8.2) q6) (fun q9=>an [b,a] (N v0 v1 (L v1 v0 .z)) rfl (nlN h0) q9.1)) (fun q10=>an [b,a] (N v0 v1 (L (A v1 n1) v0 .z)) rfl (nlN h0) q10.1)))
theorem b221 (h0:¬ (c<=min a b)):min a b<=c:=kN (an [min a b,c] (L v0 v1 (L v1 v0 .z)) rfl (neN_ h0))
theorem b222 (h0:¬ (a<c))(h1:¬ (a<b))(h2:b<=c):a - b=(c - b)+(a - c):=qN (kN (fun q1=>(sbc a b).elim (fun q2=>(sbc c b).elim (fun q3=>(sbc a c).elim (fun q4=>an [a - b,b,a,c - b,c,a - c] (N (A v0 v1) v2 (N v4 (A v3 v1) (N v2 (A v5 v4) (L (A v3 v5) v0 .z)))) rfl (oN q2.2) (pN q3.2) (pN q4.2) q1) (fun q5=>an [c,a] (N v0 v1 (L v1 v0 .z)) rfl (nlN h0) q5.1)) (fun q6=>an [b,c] (N v0 v1 (L v1 v0 .z)) rfl h2 q6.1)) (fun q7=>an [b,a] (N v0 v1 (L v1 v0 .z)) rfl (nlN h1) q7.1))) (kN (fun q8=>(sbc a b).elim (fun q9=>(sbc c b).elim (fun q10=>(sbc a c).elim (fun q11=>an [a - b,b,a,c - b,c,a - c] (N v2 (A v0 v1) (N (A v3 v1) v4 (N (A v5 v4) v2 (L v0 (A v3 v5) .z)))) rfl (pN q9.2) (oN q10.2) (oN q11.2) q8) (fun q12=>an [c,a] (N v0 v1 (L v1 v0 .z)) rfl (nlN h0) q12.1)) (fun q13=>an [b,c] (N v0 v1 (L v1 v0 .z)) rfl h2 q13.1)) (fun q14=>an [b,a] (N v0 v1 (L v1 v0 .z)) rfl (nlN h1) q14.1)))
theorem b223 (h0:d<=a):(a+((b - a) % c)) - d=(a - d)+((b - a) % c):=qN (kN (fun q1=>(sbc (a+((b - a) % c)) d).elim (fun q3=>(sbc a d).elim (fun q4=>an [(a+((b - a) % c)) - d,d,a,(b - a) % c,a - d] (N (A v0 v1) (A v2 v3) (N v2 (A v4 v1) (L (A v4 v3) v0 .z))) rfl (oN q3.2) (pN q4.2) q1) (fun q5=>an [d,a] (N v0 v1 (L v1 v0 .z)) rfl h0 q5.1)) (fun q6=>an [d,a,(b - a) % c] (N v0 v1 (L (A v1 v2) v0 .z)) rfl h0 q6.1))) (kN (fun q7=>(sbc (a+((b - a) % c)) d).elim (fun q9=>(sbc a d).elim (fun q10=>an [(a+((b - a) % c)) - d,d,a,(b - a) % c,a - d] (N (A v2 v3) (A v0 v1) (N (A v4 v1) v2 (L v0 (A v4 v3) .z))) rfl (pN q9.2) (oN q10.2) q7) (fun q11=>an [d,a] (N v0 v1 (L v1 v0 .z)) rfl h0 q11.1)) (fun q12=>an [d,a,(b - a) % c] (N v0 v1 (L (A v1 v2) v0 .z)) rfl h0 q12.1)))
theorem b224 (h0:c<b)(h1:b<a)(h2:0<d)(h3:b+(a * f)=(g+d) - k)(h4:c+(a * e)=g - k)(h5:(g - k) % a=c)(h6:k<=g):((a - (b - c))+d)+(a * e)=a+(a * f):=qN (kN (fun q1=>(sbc (g+d) k).elim (fun q2=>(sbc g k).elim (fun q3=>(sbc b c).elim (fun q4=>(sbc a (b - c)).elim (fun q5=>an [b,a * f,(g+d) - k,c,a * e,g - k,k,g,d,b - c,a - (b - c),a] (N v2 (A v0 v1) (N (A v3 v4) v5 (N (A v7 v8) (A v2 v6) (N (A v5 v6) v7 (N v0 (A v9 v3) (N (A (.v 10) v9) (.v 11) (L (A (.v 11) v1) (A (A (.v 10) v8) v4) .z))))))) rfl (pN h3) (oN h4) (pN q2.2) (oN q3.2) (pN q4.2) (oN q5.2) q1) (fun q6=>an [b,a,(g - k) % a,c,b - c] (L v0 v1 (N v2 v3 (N (A v4 v3) v0 (L v1 v4 .z)))) rfl h1 (oN h5) (oN q4.2) q6.1)) (fun q7=>an [c,b] (L v0 v1 (L v1 v0 .z)) rfl h0 q7.1)) (fun q8=>an [k,g] (N v0 v1 (L v1 v0 .z)) rfl h6 q8.1)) (fun q9=>an [d,k,g] (L n0 v0 (N v1 v2 (L (A v2 v0) v1 .z))) rfl h2 h6 q9.1))) (kN (fun q10=>(sbc (g+d) k).elim (fun q11=>(sbc g k).elim (fun q12=>(sbc b c).elim (fun q13=>(sbc a (b - c)).elim (fun q14=>an [b,a * f,(g+d) - k,c,a * e,g - k,k,g,d,b - c,a - (b - c),a] (N (A v0 v1) v2 (N v5 (A v3 v4) (N (A v2 v6) (A v7 v8) (N v7 (A v5 v6) (N (A v9 v3) v0 (N (.v 11) (A (.v 10) v9) (L (A (A (.v 10) v8) v4) (A (.v 11) v1) .z))))))) rfl (oN h3) (pN h4) (oN q11.2) (pN q12.2) (oN q13.2) (pN q14.2) q10) (fun q15=>an [b,a * f,(g+d) - k,c,a * e,g - k,k,g,d,b - c,a,a - (b - c)] (N (A v0 v1) v2 (N v5 (A v3 v4) (N (A v2 v6) (A v7 v8) (N v7 (A v5 v6) (N (A v9 v3) v0 (L (.v 10) v9 (N n0 (.v 11) (L (A (A (.v 11) v8) v4) (A (.v 10) v1) .z)))))))) rfl (oN h3) (pN h4) (oN q11.2) (pN q12.2) (oN q13.2) q15.1 (pN q15.2) q10)) (fun q16=>an [c,b] (L v0 v1 (L v1 v0 .z)) rfl h0 q16.1)) (fun q17=>an [k,g] (N v0 v1 (L v1 v0 .z)) rfl h6 q17.1)) (fun q18=>an [d,k,g] (L n0 v0 (N v1 v2 (L (A v2 v0) v1 .z))) rfl h2 h6 q18.1)))
theorem b225 (h0:a<=b+c)(h1:c<10)(h2:b+d=e)(h3:e<=24):a<900:=lN (an [a,b,c,d,e] (N v0 (A v1 v2) (L v2 (.n 10) (N (A v1 v3) v4 (N v4 (.n 24) (N (.n 900) v0 .z))))) rfl h0 h1 (oN h2) h3)
theorem b226 (h0:y=max x z)(h1:z<=x)(h2:u=min x z)(h3:u<y):x=y:=qZ (kZ (fun q1=>(mxZ x z).elim (fun q2=>ac [] [y,max x z,x,z] (Z w1 w0 (Z w2 w3 (Z w3 w1 (M w0 w2 .z)))) rfl (pZ h0) q2.1 (pZ q2.2) q1) (fun q3=>ac [] [y,max x z,x] (Z w1 w0 (Z w2 w1 (M w0 w2 .z))) rfl (pZ h0) (pZ q3.2) q1))) (kZ (fun q4=>(mxZ x z).elim (fun q5=>ac [] [y,max x z,z,x] (Z w0 w1 (Z w2 w3 (Z w1 w2 (M w3 w0 .z)))) rfl (oZ h0) h1 (oZ q5.2) q4) (fun q6=>ac [] [y,max x z,x] (Z w0 w1 (Z w1 w2 (M w2 w0 .z))) rfl (oZ h0) (oZ q6.2) q4)))
theorem b227 (h0:y=max z x)(h1:u=min z x)(h2:u<y):x<=y:=kZ (fun q1=>(mxZ z x).elim (fun q2=>ac [] [y,max z x,x] (Z w1 w0 (Z w2 w1 (M w0 w2 .z))) rfl (pZ h0) (pZ q2.2) q1) (fun q3=>ac [] [y,max z x,x,z] (Z w1 w0 (M w2 w3 (Z w3 w1 (M w0 w2 .z)))) rfl (pZ h0) q3.1 (pZ q3.2) q1))
theorem b228 (h0:(((a - 1):Nat):Int)=(((b - 1):Nat):Int))(h1:¬ (b=0))(h2:¬ (a=0)):a=b:=qN (kN (fun q1=>(sbc a 1).elim (fun q2=>(sbc b 1).elim (fun q3=>an [a - 1,b - 1,a,b] (Z (.c v0) (.c v1) (N v2 (A v0 n1) (N (A v1 n1) v3 (L v3 v2 .z)))) rfl (oZ h0) (pN q2.2) (oN q3.2) q1) (fun q4=>(neN h1).elim (fun q5=>an [b] (L v0 n0 .z) rfl q5) (fun q6=>an [b] (L v0 n1 (L n0 v0 .z)) rfl q4.1 q6))) (fun q7=>an [a,b] (L v0 n1 (L v1 v0 .z)) rfl q7.1 q1))) (kN (fun q8=>(sbc a 1).elim (fun q9=>(sbc b 1).elim (fun q10=>an [a - 1,b - 1,a,b] (Z (.c v1) (.c v0) (N (A v0 n1) v2 (N v3 (A v1 n1) (L v2 v3 .z)))) rfl (pZ h0) (oN q9.2) (pN q10.2) q8) (fun q11=>an [a,b] (N n1 v0 (L v1 n1 (L v0 v1 .z))) rfl q9.1 q11.1 q8)) (fun q12=>(neN h2).elim (fun q16=>an [a] (L v0 n0 .z) rfl q16) (fun q17=>an [a] (L v0 n1 (L n0 v0 .z)) rfl q12.1 q17))))
theorem b229 (h0:x=(((b - 1):Nat):Int))(h1:b<=a)(h2:¬ (b=0)):(0<=x)/\(x<(a:Int)):=⟨kZ (ac [b - 1] [x] (Z (.c v0) w0 (M w0 n0 .z)) rfl (pZ h0)),lZ (fun q2=>(sbc b 1).elim (fun q3=>ac [b - 1,b,a] [x] (Z w0 (.c v0) (N v1 v2 (N (A v0 n1) v1 (Z (.c v2) w0 .z)))) rfl (oZ h0) h1 (oN q3.2) q2) (fun q4=>(neN h2).elim (fun q5=>an [b] (L v0 n0 .z) rfl q5) (fun q6=>an [b] (L v0 n1 (L n0 v0 .z)) rfl q4.1 q6)))⟩
theorem b230 (h0:x<(b:Int))(h1:a=b):x<(a:Int):=lZ (ac [b,a] [x] (M w0 (.c v0) (N v0 v1 (Z (.c v1) w0 .z))) rfl h0 (pN h1))
theorem b231 (h0:c+1=d)(h1:b=e)(h2:e<=f)(h3:f=g)(h4:g<=24):(a+b)+(25 * c)<(1+a)+(25 * d):=lN (an [c,d,b,e,f,g,a] (.m 25 (N (A v0 n1) v1 (N v2 v3 (N v3 v4 (N v4 v5 (N v5 (.n 24) (N (A (A n1 v6) (.mul 25 v1)) (A (A v6 v2) (.mul 25 v0)) .z))))))) rfl (oN h0) (oN h1) h2 (oN h3) h4)
theorem b232 (h0:x=max y z)(h1:z<=y):x=y:=qZ (kZ (fun q1=>(mxZ y z).elim (fun q2=>ac [] [x,max y z,z,y] (Z w0 w1 (Z w2 w3 (Z w1 w2 (M w3 w0 .z)))) rfl (oZ h0) h1 (oZ q2.2) q1) (fun q3=>ac [] [x,max y z,y] (Z w0 w1 (Z w1 w2 (M w2 w0 .z))) rfl (oZ h0) (oZ q3.2) q1))) (kZ (fun q4=>(mxZ y z).elim (fun q5=>ac [] [x,max y z,y,z] (Z w1 w0 (Z w2 w3 (Z w3 w1 (M w0 w2 .z)))) rfl (pZ h0) q5.1 (pZ q5.2) q4) (fun q6=>ac [] [x,max y z,y] (Z w1 w0 (Z w2 w1 (M w0 w2 .z))) rfl (pZ h0) (pZ q6.2) q4)))
theorem b233 (h0:(a+e)+(25 * c)<=26 * d)(h1:e=b):(a+b)+(25 * c)<=26 * d:=kN (an [a,e,c,d,b] (N (A (A v0 v1) (.mul 25 v2)) (.mul 26 v3) (N v4 v1 (L (.mul 26 v3) (A (A v0 v4) (.mul 25 v2)) .z))) rfl h0 (pN h1))
theorem b234  : a<a+1:=lN (an [a] (N (A v0 n1) v0 .z) rfl)
theorem b235  : (min x y≠max x y)↔(x≠y):=⟨fun q1=>fun q2=>(mnZ x y).elim (fun q3=>(mxZ x y).elim (fun q4=>(neZ q1).elim (fun q5=>ac [] [min x y,x,max x y,y] (Z w1 w0 (Z w2 w3 (M w0 w2 (Z w3 w1 .z)))) rfl (pZ q3.2) (oZ q4.2) q5 (pZ q2)) (fun q6=>ac [] [x,y,min x y,max x y] (Z w0 w1 (Z w2 w0 (Z w1 w3 (M w3 w2 .z)))) rfl q3.1 (oZ q3.2) (pZ q4.2) q6)) (fun q7=>ac [] [x,y] (Z w0 w1 (M w1 w0 .z)) rfl q3.1 q7.1)) (fun q8=>ac [] [y,x] (M w0 w1 (Z w1 w0 .z)) rfl q8.1 (oZ q2)),fun q9=>fun q10=>(mnZ x y).elim (fun q11=>(mxZ x y).elim (fun q12=>(neZ q9).elim (fun q13=>ac [] [min x y,x,max x y,y] (Z w0 w1 (Z w3 w2 (M w1 w3 (Z w2 w0 .z)))) rfl (oZ q11.2) (pZ q12.2) q13 (pZ q10)) (fun q14=>ac [] [x,y] (Z w0 w1 (M w1 w0 .z)) rfl q11.1 q14)) (fun q15=>ac [] [x,y] (Z w0 w1 (M w1 w0 .z)) rfl q11.1 q15.1)) (fun q16=>(mxZ x y).elim (fun q17=>ac [] [y,x] (M w0 w1 (Z w1 w0 .z)) rfl q16.1 q17.1) (fun q18=>ac [] [y,x,min x y,max x y] (M w0 w1 (Z w2 w0 (Z w1 w3 (Z w3 w2 .z)))) rfl q16.1 (oZ q16.2) (pZ q18.2) (pZ q10)))⟩
theorem b236 (h0:x=min z y)(h1:y<=z):x=y:=qZ (kZ (fun q1=>(mnZ z y).elim (fun q2=>ac [] [x,min z y,z,y] (Z w0 w1 (Z w2 w3 (Z w1 w2 (M w3 w0 .z)))) rfl (oZ h0) q2.1 (oZ q2.2) q1) (fun q3=>ac [] [x,min z y,y] (Z w0 w1 (Z w1 w2 (M w2 w0 .z))) rfl (oZ h0) (oZ q3.2) q1))) (kZ (fun q4=>(mnZ z y).elim (fun q5=>ac [] [x,min z y,y,z] (Z w1 w0 (Z w2 w3 (Z w3 w1 (M w0 w2 .z)))) rfl (pZ h0) h1 (pZ q5.2) q4) (fun q6=>ac [] [x,min z y,y] (Z w1 w0 (Z w2 w1 (M w0 w2 .z))) rfl (pZ h0) (pZ q6.2) q4)))
theorem b237 (h0:x=min y z)(h1:y<=z):x=y:=qZ (kZ (fun q1=>(mnZ y z).elim (fun q2=>ac [] [x,min y z,y] (Z w0 w1 (Z w1 w2 (M w2 w0 .z))) rfl (oZ h0) (oZ q2.2) q1) (fun q3=>ac [] [y,z] (Z w0 w1 (M w1 w0 .z)) rfl h1 q3.1))) (kZ (fun q4=>(mnZ y z).elim (fun q5=>ac [] [x,min y z,y] (Z w1 w0 (Z w2 w1 (M w0 w2 .z))) rfl (pZ h0) (pZ q5.2) q4) (fun q6=>ac [] [y,z] (Z w0 w1 (M w1 w0 .z)) rfl h1 q6.1)))
theorem b238 (h0:x<=z)(h1:u=min z x)(h2:u<y):x≠y:=fun q1=>(mnZ z x).elim (fun q2=>ac [] [x,z,u,min z x,y] (Z w0 w1 (Z w3 w2 (M w2 w4 (Z w1 w3 (Z w4 w0 .z))))) rfl h0 (pZ h1) h2 (pZ q2.2) (pZ q1)) (fun q3=>ac [] [u,min z x,y,x] (Z w1 w0 (M w0 w2 (Z w3 w1 (Z w2 w3 .z)))) rfl (pZ h1) h2 (pZ q3.2) (pZ q1))
theorem b239 (h0:a<c)(h1:d=b)(h2:d=c):a<b:=lN (an [a,c,d,b] (L v0 v1 (N v2 v3 (N v1 v2 (N v3 v0 .z)))) rfl h0 (oN h1) (pN h2))
theorem b240 (h0:b=c)(h1:c<=d)(h2:e<=d)(h3:a=e)(h4:d=f)(h5:f<=24):a+b<60:=lN (an [b,c,d,e,a,f] (N v0 v1 (N v1 v2 (N v3 v2 (N v4 v3 (.m 2 (N v2 v5 (.m 2 (N v5 (.n 24) (N (.n 60) (A v4 v0) .z))))))))) rfl (oN h0) h1 h2 (oN h3) (oN h4) h5)
theorem b241 (h0:b<a)(h1:(0<=y)/\(y<=(b:Int)))(h2:x=max y z)(h3:(0<=z)/\(z<=(c:Int)))(h4:c<a):x<(a:Int):=lZ (fun q1=>(mxZ y z).elim (fun q2=>ac [c,a] [x,max y z,z] (Z w0 w1 (Z w2 (.c v0) (L v0 v1 (Z w1 w2 (Z (.c v1) w0 .z))))) rfl (oZ h2) h3.2 h4 (oZ q2.2) q1) (fun q3=>ac [b,a] [y,x,max y z] (L v0 v1 (Z w0 (.c v0) (Z w1 w2 (Z w2 w0 (Z (.c v1) w1 .z))))) rfl h0 h1.2 (oZ h2) (oZ q3.2) q1))
theorem b242 (h0:a+b=c)(h1:c<=24):a<50:=lN (an [a,b,c] (N (A v0 v1) v2 (N v2 (.n 24) (N (.n 50) v0 .z))) rfl (oN h0) h1)
theorem b243 (h0:x≠y)(h1:y=max z u)(h2:x=min z u):x<y:=lZ (fun q1=>(mxZ z u).elim (fun q2=>(mnZ z u).elim (fun q3=>(neZ h0).elim (fun q4=>ac [] [x,y] (M w0 w1 (Z w1 w0 .z)) rfl q4 q1) (fun q5=>ac [] [y,max z u,x,min z u,z,u] (Z w1 w0 (Z w2 w3 (Z w4 w5 (Z w5 w1 (Z w3 w4 (M w0 w2 .z)))))) rfl (pZ h1) (oZ h2) q2.1 (pZ q2.2) (oZ q3.2) q5)) (fun q6=>ac [] [z,u] (Z w0 w1 (M w1 w0 .z)) rfl q2.1 q6.1)) (fun q7=>(mnZ z u).elim (fun q8=>ac [] [u,z] (M w0 w1 (Z w1 w0 .z)) rfl q7.1 q8.1) (fun q9=>ac [] [y,max z u,x,min z u,u,z] (Z w1 w0 (Z w2 w3 (M w4 w5 (Z w5 w1 (Z w3 w4 (Z w0 w2 .z)))))) rfl (pZ h1) (oZ h2) q7.1 (pZ q7.2) (oZ q9.2) q1)))
theorem b244 (h0:x=min y z)(h1:(0<=z)/\(z<=(a:Int)))(h2:(0<=y)/\(y<=(b:Int))):0<=x:=kZ (fun q1=>(mnZ y z).elim (fun q2=>ac [] [x,min y z,y] (Z w1 w0 (Z n0 w2 (Z w2 w1 (M w0 n0 .z)))) rfl (pZ h0) h2.1 (pZ q2.2) q1) (fun q3=>ac [] [x,min y z,z] (Z w1 w0 (Z n0 w2 (Z w2 w1 (M w0 n0 .z)))) rfl (pZ h0) h1.1 (pZ q3.2) q1))
theorem b245 (h0:((1<=x)/\(x<(a:Int)))/\(y=z)):1<=x:=kZ (ac [] [x] (Z n1 w0 (M w0 n1 .z)) rfl h0.1.1)
theorem b246 (h0:b=c)(h1:c<=d)(h2:d=e)(h3:e<=24)(h4:(f+a)+(25 * g)<=26 * e):a+b<1000:=lN (an [b,c,d,e,f,a,g] (N v0 v1 (N v1 v2 (N v2 v3 (.m 27 (N v3 (.n 24) (N (A (A v4 v5) (.mul 25 v6)) (.mul 26 v3) (N (.n 1000) (A v5 v0) .z))))))) rfl (oN h0) h1 (oN h2) h3 h4)
theorem b247 (h0:b=0)(h1:a=0):a=b:=qN (kN (an [b,a] (N n0 v0 (N v1 n0 (L v0 v1 .z))) rfl (pN h0) (oN h1))) (kN (an [b,a] (N v0 n0 (N n0 v1 (L v1 v0 .z))) rfl (oN h0) (pN h1)))
theorem b248 (h0:b=a)(h1:((1<=x)/\(x<(b:Int)))/\(y=z)):x<(a:Int):=lZ (ac [b,a] [x] (N v0 v1 (M w0 (.c v0) (Z (.c v1) w0 .z))) rfl (oN h0) h1.1.2)
theorem b249 (h0:(0<=x)/\(x<=(b:Int)))(h1:b<a):x<(a:Int):=lZ (ac [b,a] [x] (Z w0 (.c v0) (L v0 v1 (Z (.c v1) w0 .z))) rfl h0.2 h1)
theorem b250 (h0:x<=z)(h1:u=min x z)(h2:u<y):x≠y:=fun q1=>(mnZ x z).elim (fun q2=>ac [] [u,min x z,y,x] (Z w1 w0 (M w0 w2 (Z w3 w1 (Z w2 w3 .z)))) rfl (pZ h1) h2 (pZ q2.2) (pZ q1)) (fun q3=>ac [] [x,z] (Z w0 w1 (M w1 w0 .z)) rfl h0 q3.1)
theorem b251 (h0:b<=c)(h1:a<=c)(h2:c=d)(h3:d<=24):a+b<60:=lN (an [b,c,a,d] (N v0 v1 (N v2 v1 (.m 2 (N v1 v3 (.m 2 (N v3 (.n 24) (N (.n 60) (A v2 v0) .z))))))) rfl h0 h1 (oN h2) h3)
theorem b252 (h0:x=max z y)(h1:z<=y):x=y:=qZ (kZ (fun q1=>(mxZ z y).elim (fun q2=>ac [] [x,max z y,y] (Z w0 w1 (Z w1 w2 (M w2 w0 .z))) rfl (oZ h0) (oZ q2.2) q1) (fun q3=>ac [] [z,y] (Z w0 w1 (M w1 w0 .z)) rfl h1 q3.1))) (kZ (fun q4=>(mxZ z y).elim (fun q5=>ac [] [x,max z y,y] (Z w1 w0 (Z w2 w1 (M w0 w2 .z))) rfl (pZ h0) (pZ q5.2) q4) (fun q6=>ac [] [z,y] (Z w0 w1 (M w1 w0 .z)) rfl h1 q6.1)))
theorem b253 (h0:a+150<b):a<b:=lN (an [a,b] (L (A v0 (.n 150)) v1 (N v1 v0 .z)) rfl h0)
theorem b254 (h0:a=b)(h1:b<900):a<100000:=lN (an [a,b] (N v0 v1 (L v1 (.n 900) (N (.n 100000) v0 .z))) rfl (oN h0) h1)
theorem b255 (h0:a<c)(h1:b=c):(a:Int)<(b:Int):=lZ (an [a,c,b] (L v0 v1 (N v1 v2 (Z (.c v2) (.c v0) .z))) rfl h0 (pN h1))
theorem b256  : a+(25 * b)<(1+a)+(25 * b):=lN (an [a,b] (N (A (A n1 v0) (.mul 25 v1)) (A v0 (.mul 25 v1)) .z) rfl)
theorem b257  : 0<=(a:Int):=kZ (an [a] (M (.c v0) n0 .z) rfl)
theorem b258 (h0:(a+b)+(25 * c)<=26 * d)(h1:d<=24):a<900:=lN (an [a,b,c,d] (N (A (A v0 v1) (.mul 25 v2)) (.mul 26 v3) (.m 26 (N v3 (.n 24) (N (.n 900) v0 .z)))) rfl h0 h1)
theorem b259 (h0:a<=1):a<100:=lN (an [a] (N v0 n1 (N (.n 100) v0 .z)) rfl h0)
theorem b260 (h0:(a+1)+b<1000):a+b<1000:=lN (an [a,b] (L (A (A v0 n1) v1) (.n 1000) (N (.n 1000) (A v0 v1) .z)) rfl h0)
theorem b261  : ¬ (x≠x):=fun q1=>(neZ q1).elim (fun q2=>ac [] [x] (M w0 w0 .z) rfl q2) (fun q3=>ac [] [x] (M w0 w0 .z) rfl q3)
theorem b262 (h0:a<60):a<100000:=lN (an [a] (L v0 (.n 60) (N (.n 100000) v0 .z)) rfl h0)
theorem b263 (h0:c=b)(h1:a=c):(a:Int)=(b:Int):=qZ (kZ (an [c,b,a] (N v0 v1 (N v2 v0 (M (.c v1) (.c v2) .z))) rfl (oN h0) (oN h1))) (kZ (an [c,b,a] (N v1 v0 (N v0 v2 (M (.c v2) (.c v1) .z))) rfl (pN h0) (pN h1)))
theorem b264 (h0:a=b)(h1:b=c)(h2:c<50):a<100000:=lN (an [a,b,c] (N v0 v1 (N v1 v2 (L v2 (.n 50) (N (.n 100000) v0 .z)))) rfl (oN h0) (oN h1) h2)
theorem b265 (h0:a<50):a<100000:=lN (an [a] (L v0 (.n 50) (N (.n 100000) v0 .z)) rfl h0)
theorem b266 (h0:a=b):(a:Int)=(b:Int):=qZ (kZ (an [a,b] (N v0 v1 (M (.c v1) (.c v0) .z)) rfl (oN h0))) (kZ (an [a,b] (N v1 v0 (M (.c v0) (.c v1) .z)) rfl (pN h0)))
theorem b267 (h0:¬ (b<c))(h1:¬ (a<c))(h2:b<c+1)(h3:a<c+1):a=b:=qN (kN (an [c,b,a] (N v0 v1 (L v2 (A v0 n1) (L v1 v2 .z))) rfl (nlN h0) h3)) (kN (an [c,a,b] (N v0 v1 (L v2 (A v0 n1) (L v1 v2 .z))) rfl (nlN h1) h2))
theorem b268 (h0:a<b):a<b+1:=lN (an [a,b] (L v0 v1 (N (A v1 n1) v0 .z)) rfl h0)
theorem b269 (h0:x=(a:Int))(h1:b=a):(0<=x)/\(x<(((a+1):Nat):Int)):=⟨kZ (ac [a] [x] (Z (.c v0) w0 (M w0 n0 .z)) rfl (pZ h0)),lZ (ac [a] [x] (Z w0 (.c v0) (Z (.c (A v0 n1)) w0 .z)) rfl (oZ h0))⟩
theorem b270 (h0:¬ (x=(a:Int)))(h1:x<(((a+1):Nat):Int)):x<(a:Int):=lZ (fun q1=>(neZ h0).elim (fun q2=>ac [a] [x] (M w0 (.c v0) (Z (.c v0) w0 .z)) rfl q2 q1) (fun q3=>ac [a] [x] (M w0 (.c (A v0 n1)) (M (.c v0) w0 .z)) rfl h1 q3))
theorem b271 (h0:x<(a:Int)):x<(((a+1):Nat):Int):=lZ (ac [a] [x] (M w0 (.c v0) (Z (.c (A v0 n1)) w0 .z)) rfl h0)
theorem b272 (h0:a+b=c):a+(b+1)=c+1:=qN (kN (an [a,b,c] (N (A v0 v1) v2 (L (A v2 n1) (A v0 (A v1 n1)) .z)) rfl (oN h0))) (kN (an [a,b,c] (N v2 (A v0 v1) (L (A v0 (A v1 n1)) (A v2 n1) .z)) rfl (pN h0)))
theorem b273 (h0:¬ (a=c))(h1:a<c+1)(h2:b=c):a<b:=lN (fun q1=>(neN h0).elim (fun q2=>an [b,c,a] (N v1 v0 (L v2 v1 (N v0 v2 .z))) rfl (pN h2) q2 q1) (fun q3=>an [a,c] (L v0 (A v1 n1) (L v1 v0 .z)) rfl h1 q3))
theorem b274  : (Int.toNat (((a - 1):Nat):Int))=a - 1:=qN (kN (fun q1=>(tnc (((a - 1):Nat):Int)).elim (fun q2=>an [(Int.toNat (((a - 1):Nat):Int)),a - 1] (Z (.c v0) (.c v1) (L v1 v0 .z)) rfl (oZ q2.2) q1) (fun q3=>an [a - 1] (M (.c v0) n0 .z) rfl q3.1))) (kN (fun q4=>(tnc (((a - 1):Nat):Int)).elim (fun q5=>an [(Int.toNat (((a - 1):Nat):Int)),a - 1] (Z (.c v1) (.c v0) (L v0 v1 .z)) rfl (pZ q5.2) q4) (fun q6=>an [a - 1,(Int.toNat (((a - 1):Nat):Int))] (M (.c v0) n0 (N n0 v1 (L v1 v0 .z))) rfl q6.1 (pN q6.2) q4)))
theorem b275  : (a:Int)<(((a+1):Nat):Int):=lZ (an [a] (Z (.c (A v0 n1)) (.c v0) .z) rfl)
theorem b276 (h0:a<=b)(h1:¬ (a=0)):a - 1<b:=lN (fun q1=>(sbc a 1).elim (fun q2=>an [a,b,a - 1] (N v0 v1 (N (A v2 n1) v0 (N v1 v2 .z))) rfl h0 (oN q2.2) q1) (fun q3=>(neN h1).elim (fun q4=>an [a] (L v0 n0 .z) rfl q4) (fun q5=>an [a] (L v0 n1 (L n0 v0 .z)) rfl q3.1 q5)))
theorem b277 (h0:x=(b:Int))(h1:b=a):x=(a:Int):=qZ (kZ (ac [b,a] [x] (Z w0 (.c v0) (N v0 v1 (M (.c v1) w0 .z))) rfl (oZ h0) (oN h1))) (kZ (ac [b,a] [x] (Z (.c v0) w0 (N v1 v0 (M w0 (.c v1) .z))) rfl (pZ h0) (pN h1)))
theorem b278 (h0:a=0):¬ (1<=(a:Int)):=an [a] (N v0 n0 (Z n1 (.c v0) .z)) rfl (oN h0)
theorem b279 (h0:¬ (a=0)):1<=(a:Int):=kZ (fun q1=>(neN h0).elim (fun q2=>an [a] (L v0 n0 .z) rfl q2) (fun q3=>an [a] (L n0 v0 (M (.c v0) n1 .z)) rfl q3 q1))
theorem b280 (h0:a<c+1)(h1:b=c):a<=b:=kN (an [a,c,b] (L v0 (A v1 n1) (N v1 v2 (L v2 v0 .z))) rfl h0 (pN h1))
theorem b281 (h0:¬ (x=(a:Int)))(h1:x<(((a+1):Nat):Int))(h2:0<=x):Int.toNat x<a:=lN (fun q1=>(tnc x).elim (fun q2=>(neZ h0).elim (fun q3=>ac [Int.toNat x,a] [x] (Z (.c v0) w0 (M w0 (.c v1) (N v1 v0 .z))) rfl (oZ q2.2) q3 q1) (fun q4=>ac [a] [x] (M w0 (.c (A v0 n1)) (M (.c v0) w0 .z)) rfl h1 q4)) (fun q5=>ac [] [x] (Z n0 w0 (M w0 n0 .z)) rfl h2 q5.1))
theorem b282 (h0:¬ (a=0)):a - 1<a:=lN (fun q1=>(sbc a 1).elim (fun q2=>an [a - 1,a] (N (A v0 n1) v1 (N v1 v0 .z)) rfl (oN q2.2) q1) (fun q3=>(neN h0).elim (fun q4=>an [a] (L v0 n0 .z) rfl q4) (fun q5=>an [a] (L v0 n1 (L n0 v0 .z)) rfl q3.1 q5)))
theorem b283 (h0:((1<=x)/\(x<(a:Int)))/\(y=z)):Int.toNat (x - 1)<a:=lN (fun q1=>(tnc (x - 1)).elim (fun q2=>ac [a,Int.toNat (x - 1)] [x] (M w0 (.c v0) (Z (.c v1) (.sub w0 n1) (N v0 v1 .z))) rfl h0.1.2 (oZ q2.2) q1) (fun q3=>ac [] [x] (Z n1 w0 (M (.sub w0 n1) n0 .z)) rfl h0.1.1 q3.1))
theorem b284 (h0:a=b)(h1:c=b)(h2:y=(c:Int))(h3:((1<=z)/\(z<(c:Int)))/\(x=y)):¬ (x<(a:Int)):=ac [a,b,c] [y,x] (N v0 v1 (N v1 v2 (Z (.c v2) w0 (Z w0 w1 (M w1 (.c v0) .z))))) rfl (oN h0) (pN h1) (pZ h2) (pZ h3.2)
theorem b285 (h0:(0<=x)/\(x<(a:Int)))(h1:1<=x):Int.toNat (x - 1)<a:=lN (fun q1=>(tnc (x - 1)).elim (fun q2=>ac [a,Int.toNat (x - 1)] [x] (M w0 (.c v0) (Z (.c v1) (.sub w0 n1) (N v0 v1 .z))) rfl h0.2 (oZ q2.2) q1) (fun q3=>ac [] [x] (Z n1 w0 (M (.sub w0 n1) n0 .z)) rfl h1 q3.1))
theorem b286 (h0:x=(b:Int))(h1:a=b):x=(a:Int):=qZ (kZ (ac [b,a] [x] (Z w0 (.c v0) (N v0 v1 (M (.c v1) w0 .z))) rfl (oZ h0) (pN h1))) (kZ (ac [b,a] [x] (Z (.c v0) w0 (N v1 v0 (M w0 (.c v1) .z))) rfl (pZ h0) (oN h1)))
theorem b287 (h0:¬ (a=b))(h1:a<b+1):a<b:=lN (fun q1=>(neN h0).elim (fun q2=>an [a,b] (L v0 v1 (N v1 v0 .z)) rfl q2 q1) (fun q3=>an [a,b] (L v0 (A v1 n1) (L v1 v0 .z)) rfl h1 q3))
theorem b288 (h0:(a:Int)=x):¬ (x<(a:Int)):=ac [a] [x] (Z (.c v0) w0 (M w0 (.c v0) .z)) rfl (oZ h0)
theorem b289 (h0:b=a)(h1:a≠0):a - 1<b:=lN (fun q1=>(sbc a 1).elim (fun q2=>an [b,a,a - 1] (N v1 v0 (N (A v2 n1) v1 (N v0 v2 .z))) rfl (pN h0) (oN q2.2) q1) (fun q3=>(neN h1).elim (fun q4=>an [a] (L v0 n0 .z) rfl q4) (fun q5=>an [a] (L v0 n1 (L n0 v0 .z)) rfl q3.1 q5)))
theorem b290 (h0:(a+0)+(25 * b)<=26 * c):(a+(0+1))+(25 * (b+1))<=26 * (c+1):=kN (an [a,b,c] (N (A (A v0 n0) (.mul 25 v1)) (.mul 26 v2) (L (.mul 26 (A v2 n1)) (A (A v0 (A n0 n1)) (.mul 25 (A v1 n1))) .z)) rfl h0)
theorem b291 (h0:a=c)(h1:b=c):(a:Int)=(b:Int):=qZ (kZ (an [a,c,b] (N v0 v1 (N v1 v2 (M (.c v2) (.c v0) .z))) rfl (oN h0) (pN h1))) (kZ (an [a,c,b] (N v1 v0 (N v2 v1 (M (.c v0) (.c v2) .z))) rfl (pN h0) (oN h1)))
theorem b292 (h0:x=(a:Int)):¬ (x<(a:Int)):=ac [a] [x] (Z (.c v0) w0 (M w0 (.c v0) .z)) rfl (pZ h0)
theorem b293 (h0:x<(b:Int))(h1:b=a):x≠(a:Int):=fun q1=>ac [b,a] [x] (M w0 (.c v0) (N v0 v1 (Z (.c v1) w0 .z))) rfl h0 (oN h1) (pZ q1)
theorem b294 (h0:a<b)(h1:b<=c):(a+b) / 2<c:=lN (an [a,b,c,(a+b) / 2] (L v0 v1 (.m 2 (N v1 v2 (N (.mul 2 v3) (A v0 v1) (.m 2 (N v2 v3 .z)))))) rfl h0 h1 ((dv2 (a+b)).1))
theorem b295 (h0:a<=b):a<=b+1:=kN (an [a,b] (N v0 v1 (L (A v1 n1) v0 .z)) rfl h0)
theorem b296  : 0<=a:=kN (an [a] (L v0 n0 .z) rfl)
theorem b297  : a<=a:=kN (an [a] (L v0 v0 .z) rfl)
theorem b298 (h0:(c<=d)/\((d<=b)/\(d<=c+9)))(h1:a+e=d):a<=b:=kN (an [d,b,a,e] (N v0 v1 (N (A v2 v3) v0 (L v1 v2 .z))) rfl h0.2.1 (oN h1))
theorem b299 (h0:c<=b)(h1:c<=a)(h2:a - c<=0):a<=b:=kN (fun q1=>(sbc a c).elim (fun q2=>an [c,b,a - c,a] (N v0 v1 (N v2 n0 (N v3 (A v2 v0) (L v1 v3 .z)))) rfl h0 h2 (pN q2.2) q1) (fun q3=>an [c,a] (N v0 v1 (L v1 v0 .z)) rfl h1 q3.1))
theorem b300 (h0:a+b=c)(h1:b > 0):(a+1)+(b - 1)=c:=qN (kN (fun q1=>(sbc b 1).elim (fun q2=>an [a,b,c,b - 1] (N (A v0 v1) v2 (N (A v3 n1) v1 (L v2 (A (A v0 n1) v3) .z))) rfl (oN h0) (oN q2.2) q1) (fun q3=>an [b] (L n0 v0 (L v0 n1 .z)) rfl h1 q3.1))) (kN (fun q4=>(sbc b 1).elim (fun q5=>an [a,b,c,b - 1] (N v2 (A v0 v1) (N v1 (A v3 n1) (L (A (A v0 n1) v3) v2 .z))) rfl (pN h0) (pN q5.2) q4) (fun q6=>an [b] (L n0 v0 (L v0 n1 .z)) rfl h1 q6.1)))
theorem b301  : ¬ ((10 * a)+b<0):=an [a,b] (L (A (.mul 10 v0) v1) n0 .z) rfl
theorem b302 (h0:c<=b)(h1:a<=c):a<=b:=kN (an [c,b,a] (N v0 v1 (N v2 v0 (L v1 v2 .z))) rfl h0 h1)
theorem b303  : ¬ (a<0):=an [a] (L v0 n0 .z) rfl
theorem b304  : a - 0<=a:=kN (fun q1=>(sbc a 0).elim (fun q2=>an [a - 0,a] (N (A v0 n0) v1 (L v1 v0 .z)) rfl (oN q2.2) q1) (fun q3=>an [a] (L v0 n0 .z) rfl q3.1))
theorem b305 (h0:a=b):a≠b+1:=fun q1=>an [a,b] (N v0 v1 (N (A v1 n1) v0 .z)) rfl (oN h0) (pN q1)
theorem b306 (h0:c<b)(h1:a<=c):a+1<=b:=kN (an [c,b,a] (L v0 v1 (N v2 v0 (L v1 (A v2 n1) .z))) rfl h0 h1)
theorem b307 (h0:(c % (d+1)<=b)/\((b<=d)/\(b<=(c % (d+1))+9)))(h1:a<=d+13):(10 * a)+(b - (c % (d+1)))<10 * (d+15):=lN (fun q1=>(sbc b (c % (d+1))).elim (fun q2=>an [b,c % (d+1),a,d,b - (c % (d+1))] (N v0 (A v1 (.n 9)) (.m 10 (N v2 (A v3 (.n 13)) (N (A v4 v1) v0 (N (.mul 10 (A v3 (.n 15))) (A (.mul 10 v2) v4) .z))))) rfl h0.2.2 h1 (oN q2.2) q1) (fun q3=>an [c % (d+1),b] (N v0 v1 (L v1 v0 .z)) rfl h0.1 q3.1))
theorem b308 (h0:b≥a)(h1:b<=a):a=b:=qN (kN (an [a,b] (N v0 v1 (L v1 v0 .z)) rfl h0)) (kN (an [b,a] (N v0 v1 (L v1 v0 .z)) rfl h1))
theorem b309 (h0:a<c+1)(h1:b=c)(h2:d<a):a - 1<b:=lN (fun q1=>(sbc a 1).elim (fun q2=>an [a,c,b,a - 1] (L v0 (A v1 n1) (N v1 v2 (N (A v3 n1) v0 (N v2 v3 .z)))) rfl h0 (pN h1) (oN q2.2) q1) (fun q3=>an [d,a] (L v0 v1 (L v1 n1 .z)) rfl h2 q3.1))
theorem b310 (h0:c<b)(h1:a<c):a<b:=lN (an [c,b,a] (L v0 v1 (L v2 v0 (N v1 v2 .z))) rfl h0 h1)
theorem b311 (h0:(a+b) / 2<c):(a+b) / 2<=c:=kN (an [(a+b) / 2,c] (L v0 v1 (L v1 v0 .z)) rfl h0)
theorem b312 (h0:c<b)(h1:¬ (c<a)):a<=b:=kN (an [c,b,a] (L v0 v1 (N v2 v0 (L v1 v2 .z))) rfl h0 (nlN h1))
theorem b313 (h0:a≠0):a=(a - 1)+1:=qN (kN (fun q1=>(sbc a 1).elim (fun q2=>an [a - 1,a] (N v1 (A v0 n1) (L (A v0 n1) v1 .z)) rfl (pN q2.2) q1) (fun q3=>an [a,a - 1] (L v0 n1 (N n0 v1 (L (A v1 n1) v0 .z))) rfl q3.1 (pN q3.2) q1))) (kN (fun q4=>(sbc a 1).elim (fun q5=>an [a - 1,a] (N (A v0 n1) v1 (L v1 (A v0 n1) .z)) rfl (oN q5.2) q4) (fun q6=>(neN h0).elim (fun q7=>an [a] (L v0 n0 .z) rfl q7) (fun q8=>an [a] (L v0 n1 (L n0 v0 .z)) rfl q6.1 q8))))
theorem b314 (h0:a<=b):(min a b)+((b - a)+1)=b+1:=qN (kN (fun q1=>(sbc b a).elim (fun q2=>(mnN a b).elim (fun q3=>an [b - a,a,b,min a b] (N (A v0 v1) v2 (N v3 v1 (L (A v2 n1) (A v3 (A v0 n1)) .z))) rfl (oN q2.2) (oN q3.2) q1) (fun q4=>an [a,b] (N v0 v1 (L v1 v0 .z)) rfl h0 q4.1)) (fun q5=>an [a,b] (N v0 v1 (L v1 v0 .z)) rfl h0 q5.1))) (kN (fun q6=>(sbc b a).elim (fun q7=>(mnN a b).elim (fun q8=>an [b - a,a,b,min a b] (N v2 (A v0 v1) (N v1 v3 (L (A v3 (A v0 n1)) (A v2 n1) .z))) rfl (pN q7.2) (pN q8.2) q6) (fun q9=>an [a,b] (N v0 v1 (L v1 v0 .z)) rfl h0 q9.1)) (fun q10=>an [a,b] (N v0 v1 (L v1 v0 .z)) rfl h0 q10.1)))
theorem b315 (h0:¬ (a<=b))(h1:a<=127):(128 - a)+b<=127:=kN (fun q1=>(sbc 128 a).elim (fun q2=>an [b,a,128 - a] (L v0 v1 (N (A v2 v1) (.n 128) (L (.n 127) (A v2 v0) .z))) rfl (neN_ h0) (oN q2.2) q1) (fun q3=>an [a] (N v0 (.n 127) (L (.n 128) v0 .z)) rfl h1 q3.1))
theorem b316 (h0:a+9<=b):(a<=a+9)/\((a+9<=b)/\(a+9<=a+9)):=⟨kN (an [a] (L (A v0 (.n 9)) v0 .z) rfl),⟨kN (an [a,b] (N (A v0 (.n 9)) v1 (L v1 (A v0 (.n 9)) .z)) rfl h0),kN (an [a] (L (A v0 (.n 9)) (A v0 (.n 9)) .z) rfl)⟩⟩
theorem b317 (h0:¬ (a=b))(h1:¬ (a<b)):a - b=((a - b) - 1)+1:=qN (kN (fun q1=>(sbc (a - b) 1).elim (fun q3=>an [(a - b) - 1,a - b] (N v1 (A v0 n1) (L (A v0 n1) v1 .z)) rfl (pN q3.2) q1) (fun q4=>an [a - b,(a - b) - 1] (L v0 n1 (N n0 v1 (L (A v1 n1) v0 .z))) rfl q4.1 (pN q4.2) q1))) (kN (fun q5=>(sbc a b).elim (fun q6=>(sbc (a - b) 1).elim (fun q7=>an [(a - b) - 1,a - b] (N (A v0 n1) v1 (L v1 (A v0 n1) .z)) rfl (oN q7.2) q5) (fun q8=>(neN h0).elim (fun q9=>an [b,a] (N v0 v1 (L v1 v0 .z)) rfl (nlN h1) q9) (fun q10=>an [a - b,b,a] (N v2 (A v0 v1) (L v0 n1 (L v1 v2 .z))) rfl (pN q6.2) q8.1 q10))) (fun q11=>an [b,a] (N v0 v1 (L v1 v0 .z)) rfl (nlN h1) q11.1)))
theorem b318 (h0:b - a<=c+1)(h1:a<b):((a+b) / 2) - a<=c:=kN (fun q1=>(sbc b a).elim (fun q2=>(sbc ((a+b) / 2) a).elim (fun q3=>an [b - a,c,a,b,(a+b) / 2,((a+b) / 2) - a] (.m 2 (N v0 (A v1 n1) (L v2 v3 (N (.mul 2 v4) (A v2 v3) (.m 2 (N v3 (A v0 v2) (.m 2 (N (A v5 v2) v4 (.m 2 (L v1 v5 .z)))))))))) rfl h0 h1 ((dv2 (a+b)).1) (pN q2.2) (oN q3.2) q1) (fun q4=>an [a,b,(a+b) / 2] (L v0 v1 (L (A v0 v1) (A (.mul 2 v2) n2) (.m 2 (L v2 v0 .z)))) rfl h1 ((dv2 (a+b)).2) q4.1)) (fun q5=>an [a,b] (L v0 v1 (L v1 v0 .z)) rfl h1 q5.1))
theorem b319 (h0:¬ (c<a))(h1:a<=b):min a b<=c:=kN (fun q1=>(mnN a b).elim (fun q2=>an [a,c,min a b] (N v0 v1 (N v2 v0 (L v1 v2 .z))) rfl (nlN h0) (oN q2.2) q1) (fun q3=>an [a,b] (N v0 v1 (L v1 v0 .z)) rfl h1 q3.1))
theorem b320 (h0:a<b):a<=(a+b) / 2:=kN (an [a,b,(a+b) / 2] (L v0 v1 (L (A v0 v1) (A (.mul 2 v2) n2) (.m 2 (L v2 v0 .z)))) rfl h0 ((dv2 (a+b)).2))
theorem b321 (h0:a<=127):a<128:=lN (an [a] (N v0 (.n 127) (N (.n 128) v0 .z)) rfl h0)
theorem b322 (h0:c=b)(h1:c<a):a≠b:=fun q1=>an [c,b,a] (N v1 v0 (L v0 v2 (N v2 v1 .z))) rfl (pN h0) h1 (oN q1)
theorem b323 (h0:c=a)(h1:c<b):a<=b - 1:=kN (fun q1=>(sbc b 1).elim (fun q2=>an [c,a,b,b - 1] (N v1 v0 (L v0 v2 (N v2 (A v3 n1) (L v3 v1 .z)))) rfl (pN h0) h1 (pN q2.2) q1) (fun q3=>an [c,a,b,b - 1] (N v1 v0 (L v0 v2 (L v2 n1 (N n0 v3 (L v3 v1 .z))))) rfl (pN h0) h1 q3.1 (pN q3.2) q1))
theorem b324 (h0:¬ (c<b))(h1:c<a):¬ (a<b):=an [b,c,a] (N v0 v1 (L v1 v2 (L v2 v0 .z))) rfl (nlN h0) h1
theorem b325 (h0:a<=31):a<32:=lN (an [a] (N v0 (.n 31) (N (.n 32) v0 .z)) rfl h0)
theorem b326 (h0:a<=7):a<8:=lN (an [a] (N v0 (.n 7) (N (.n 8) v0 .z)) rfl h0)
theorem b327 (h0:¬ (a=c))(h1:¬ (a<c))(h2:a<d+1)(h3:b=d):a - 1<b:=lN (fun q1=>(sbc a 1).elim (fun q2=>an [a,d,b,a - 1] (L v0 (A v1 n1) (N v1 v2 (N (A v3 n1) v0 (N v2 v3 .z)))) rfl h2 (pN h3) (oN q2.2) q1) (fun q3=>(neN h0).elim (fun q4=>an [c,a] (N v0 v1 (L v1 v0 .z)) rfl (nlN h1) q4) (fun q5=>an [a,c] (L v0 n1 (L v1 v0 .z)) rfl q3.1 q5)))
theorem b328 (h0:¬ (c<b))(h1:c<a):a≠b:=fun q1=>an [b,c,a] (N v0 v1 (L v1 v2 (N v2 v0 .z))) rfl (nlN h0) h1 (oN q1)
theorem b329 (h0:a<b)(h1:¬ (a=c))(h2:¬ (a<c)):a - 1<b - 1:=lN (fun q1=>(sbc a 1).elim (fun q2=>(sbc b 1).elim (fun q3=>an [a,b,a - 1,b - 1] (L v0 v1 (N (A v2 n1) v0 (N v1 (A v3 n1) (N v3 v2 .z)))) rfl h0 (oN q2.2) (pN q3.2) q1) (fun q4=>an [a,b] (L v0 v1 (N n1 v0 (L v1 n1 .z))) rfl h0 q2.1 q4.1)) (fun q5=>(neN h1).elim (fun q7=>an [c,a] (N v0 v1 (L v1 v0 .z)) rfl (nlN h2) q7) (fun q8=>an [a,c] (L v0 n1 (L v1 v0 .z)) rfl q5.1 q8)))
theorem b330 (h0:c<=b)(h1:¬ (c<a)):a<=b:=kN (an [c,b,a] (N v0 v1 (N v2 v0 (L v1 v2 .z))) rfl h0 (nlN h1))
theorem b331 (h0:a<=b):(a<=a)/\((a<=b)/\(a<=a+9)):=⟨kN (an [a] (L v0 v0 .z) rfl),⟨kN (an [a,b] (N v0 v1 (L v1 v0 .z)) rfl h0),kN (an [a] (L (A v0 (.n 9)) v0 .z) rfl)⟩⟩
theorem b332 (h0:a<b):((a+b) / 2)+1<=b:=kN (an [a,b,(a+b) / 2] (L v0 v1 (N (.mul 2 v2) (A v0 v1) (.m 2 (L v1 (A v2 n1) .z)))) rfl h0 ((dv2 (a+b)).1))
theorem b333 (h0:b<c)(h1:c=a):¬ (a<=b):=an [b,c,a] (L v0 v1 (N v1 v2 (N v2 v0 .z))) rfl h0 (oN h1)
theorem b334 (h0:a=b):¬ (a<b):=an [a,b] (N v1 v0 (L v0 v1 .z)) rfl (pN h0)
theorem b335 (h0:a<c)(h1:c<b):a<b:=lN (an [a,c,b] (L v0 v1 (L v1 v2 (N v2 v0 .z))) rfl h0 h1)
theorem b336 (h0:¬ (b=a))(h1:¬ (b<a)):a<=b - 1:=kN (fun q1=>(sbc b 1).elim (fun q2=>(neN h0).elim (fun q3=>an [a,b] (N v0 v1 (L v1 v0 .z)) rfl (nlN h1) q3) (fun q4=>an [b - 1,b,a] (N v1 (A v0 n1) (L v2 v1 (L v0 v2 .z))) rfl (pN q2.2) q4 q1)) (fun q5=>an [a,b,b - 1] (N v0 v1 (L v1 n1 (N n0 v2 (L v2 v0 .z)))) rfl (nlN h1) q5.1 (pN q5.2) q1))
theorem b337 (h0:a<=b):13+a<=b+13:=kN (an [a,b] (N v0 v1 (L (A v1 (.n 13)) (A (.n 13) v0) .z)) rfl h0)
theorem b338 (h0:(a % (b+1)<=c)/\((c<=b)/\(c<=(a % (b+1))+9))):(a % (b+1))+(c - (a % (b+1)))=c:=qN (kN (fun q1=>(sbc c (a % (b+1))).elim (fun q2=>an [c - (a % (b+1)),a % (b+1),c] (N (A v0 v1) v2 (L v2 (A v1 v0) .z)) rfl (oN q2.2) q1) (fun q3=>an [a % (b+1),c] (N v0 v1 (L v1 v0 .z)) rfl h0.1 q3.1))) (kN (fun q4=>(sbc c (a % (b+1))).elim (fun q5=>an [c - (a % (b+1)),a % (b+1),c] (N v2 (A v0 v1) (L (A v1 v0) v2 .z)) rfl (pN q5.2) q4) (fun q6=>an [a % (b+1),c] (N v0 v1 (L v1 v0 .z)) rfl h0.1 q6.1)))
theorem b339 (h0:a+1<=b):a<=b:=kN (an [a,b] (N (A v0 n1) v1 (L v1 v0 .z)) rfl h0)
theorem b340  : x+1≠x:=fun q1=>ac [] [x] (Z (A w0 n1) w0 .z) rfl (oZ q1)
theorem b341 (h0:a=c+1)(h1:b=c):¬ (a<b):=an [a,c,b] (N (A v1 n1) v0 (N v2 v1 (L v0 v2 .z))) rfl (pN h0) (oN h1)
theorem b342 (h0:c=b)(h1:c<a):¬ (a<b):=an [c,b,a] (N v1 v0 (L v0 v2 (L v2 v1 .z))) rfl (pN h0) h1
theorem b343 (h0:(10 * a)+b<c+1)(h1:b > 0):(10 * a)+(b - 1)<c:=lN (fun q1=>(sbc b 1).elim (fun q2=>an [a,b,c,b - 1] (L (A (.mul 10 v0) v1) (A v2 n1) (N (A v3 n1) v1 (N v2 (A (.mul 10 v0) v3) .z))) rfl h0 (oN q2.2) q1) (fun q3=>an [b] (L n0 v0 (L v0 n1 .z)) rfl h1 q3.1))
theorem b344  : (a+1)+b=(a+b)+1:=qN (kN (an [a,b] (L (A (A v0 v1) n1) (A (A v0 n1) v1) .z) rfl)) (kN (an [a,b] (L (A (A v0 n1) v1) (A (A v0 v1) n1) .z) rfl))
theorem b345 (h0:¬ (c=(a+b) / 2))(h1:(a+b) / 2<=c):(a+b) / 2<c:=lN (fun q1=>(neN h0).elim (fun q2=>an [(a+b) / 2,c] (N v0 v1 (L v1 v0 .z)) rfl h1 q2) (fun q3=>an [(a+b) / 2,c] (L v0 v1 (N v1 v0 .z)) rfl q3 q1))
theorem b346 (h0:a<=127):a+((128 - a)+b)=128+b:=qN (kN (fun q1=>(sbc 128 a).elim (fun q2=>an [128 - a,a,b] (N (A v0 v1) (.n 128) (L (A (.n 128) v2) (A v1 (A v0 v2)) .z)) rfl (oN q2.2) q1) (fun q3=>an [a] (N v0 (.n 127) (L (.n 128) v0 .z)) rfl h0 q3.1))) (kN (fun q4=>(sbc 128 a).elim (fun q5=>an [128 - a,a,b] (N (.n 128) (A v0 v1) (L (A v1 (A v0 v2)) (A (.n 128) v2) .z)) rfl (pN q5.2) q4) (fun q6=>an [a] (N v0 (.n 127) (L (.n 128) v0 .z)) rfl h0 q6.1)))
theorem b347 (h0:b<=a)(h1:a<=127):a - b<=127:=kN (fun q1=>(sbc a b).elim (fun q2=>an [a,a - b,b] (N v0 (.n 127) (N (A v1 v2) v0 (L (.n 127) v1 .z))) rfl h1 (oN q2.2) q1) (fun q3=>an [b,a] (N v0 v1 (L v1 v0 .z)) rfl h0 q3.1))
theorem b348 (h0:c - a=b+1)(h1:¬ (c<a)):a+b=c - 1:=qN (kN (fun q1=>(sbc c a).elim (fun q2=>(sbc c 1).elim (fun q3=>an [c - a,b,a,c,c - 1] (N (A v1 n1) v0 (N (A v0 v2) v3 (N v3 (A v4 n1) (L v4 (A v2 v1) .z)))) rfl (pN h0) (oN q2.2) (pN q3.2) q1) (fun q4=>an [c - a,b,a,c,c - 1] (N (A v1 n1) v0 (N (A v0 v2) v3 (L v3 n1 (N n0 v4 (L v4 (A v2 v1) .z))))) rfl (pN h0) (oN q2.2) q4.1 (pN q4.2) q1)) (fun q5=>an [a,c] (N v0 v1 (L v1 v0 .z)) rfl (nlN h1) q5.1))) (kN (fun q6=>(sbc c a).elim (fun q7=>(sbc c 1).elim (fun q8=>an [c - a,b,a,c,c - 1] (N v0 (A v1 n1) (N v3 (A v0 v2) (N (A v4 n1) v3 (L (A v2 v1) v4 .z)))) rfl (oN h0) (pN q7.2) (oN q8.2) q6) (fun q9=>an [c - a,b,a,c] (N (A v1 n1) v0 (N (A v0 v2) v3 (L v3 n1 .z))) rfl (pN h0) (oN q7.2) q9.1)) (fun q10=>an [a,c] (N v0 v1 (L v1 v0 .z)) rfl (nlN h1) q10.1)))
theorem b349 (h0:a<b)(h1:b<=c):a<min b c:=lN (fun q1=>(mnN b c).elim (fun q2=>an [a,b,min b c] (L v0 v1 (N v1 v2 (N v2 v0 .z))) rfl h0 (pN q2.2) q1) (fun q3=>an [b,c] (N v0 v1 (L v1 v0 .z)) rfl h1 q3.1))
theorem b350 (h0:(c<=b)/\((b<=e)/\(b<=c+9)))(h1:(10 * (a+1))+f<d+1):(10 * a)+(b - c)<d:=lN (fun q1=>(sbc b c).elim (fun q2=>an [b,c,a,f,d,b - c] (N v0 (A v1 (.n 9)) (L (A (.mul 10 (A v2 n1)) v3) (A v4 n1) (N (A v5 v1) v0 (N v4 (A (.mul 10 v2) v5) .z)))) rfl h0.2.2 h1 (oN q2.2) q1) (fun q3=>an [c,b] (N v0 v1 (L v1 v0 .z)) rfl h0.1 q3.1))
theorem b351 (h0:¬ (a=(b+c) / 2))(h1:a<((b+c) / 2)+1):a<(b+c) / 2:=lN (fun q1=>(neN h0).elim (fun q2=>an [a,(b+c) / 2] (L v0 v1 (N v1 v0 .z)) rfl q2 q1) (fun q3=>an [a,(b+c) / 2] (L v0 (A v1 n1) (L v1 v0 .z)) rfl h1 q3))
theorem b352 (h0:(a<=b)/\((b<=c)/\(b<=a+9))):a+(b - a)=b:=qN (kN (fun q1=>(sbc b a).elim (fun q2=>an [b - a,a,b] (N (A v0 v1) v2 (L v2 (A v1 v0) .z)) rfl (oN q2.2) q1) (fun q3=>an [a,b] (N v0 v1 (L v1 v0 .z)) rfl h0.1 q3.1))) (kN (fun q4=>(sbc b a).elim (fun q5=>an [b - a,a,b] (N v2 (A v0 v1) (L (A v1 v0) v2 .z)) rfl (pN q5.2) q4) (fun q6=>an [a,b] (N v0 v1 (L v1 v0 .z)) rfl h0.1 q6.1)))
theorem b353 (h0:a - b<=c+1)(h1:b<a):a - (((b+a) / 2)+1)<=c:=kN (fun q1=>(sbc a b).elim (fun q2=>(sbc a (((b+a) / 2)+1)).elim (fun q3=>an [a - b,c,b,a,(b+a) / 2,a - (((b+a) / 2)+1)] (.m 2 (N v0 (A v1 n1) (L v2 v3 (L (A v2 v3) (A (.mul 2 v4) n2) (.m 2 (N v3 (A v0 v2) (.m 2 (N (A v5 (A v4 n1)) v3 (.m 2 (L v1 v5 .z)))))))))) rfl h0 h1 ((dv2 (b+a)).2) (pN q2.2) (oN q3.2) q1) (fun q4=>an [b,a,(b+a) / 2] (L v0 v1 (N (.mul 2 v2) (A v0 v1) (.m 2 (L v1 (A v2 n1) .z)))) rfl h1 ((dv2 (b+a)).1) q4.1)) (fun q5=>an [b,a] (L v0 v1 (L v1 v0 .z)) rfl h1 q5.1))
theorem b354 (h0:a<=b):a<b+1:=lN (an [a,b] (N v0 v1 (N (A v1 n1) v0 .z)) rfl h0)
theorem b355 (h0:a<c)(h1:c<d)(h2:b=d):a<b:=lN (an [a,c,d,b] (L v0 v1 (L v1 v2 (N v2 v3 (N v3 v0 .z)))) rfl h0 h1 (pN h2))
theorem b356  : ¬ (a<a):=an [a] (L v0 v0 .z) rfl
theorem b357 (h0:a<=b):0+a<=b:=kN (an [a,b] (N v0 v1 (L v1 (A n0 v0) .z)) rfl h0)
theorem b358  : a+(b+1)=(a+1)+b:=qN (kN (an [a,b] (L (A (A v0 n1) v1) (A v0 (A v1 n1)) .z) rfl)) (kN (an [a,b] (L (A v0 (A v1 n1)) (A (A v0 n1) v1) .z) rfl))
theorem b359 (h0:(a=127)/\(b=19)):((a=7)/\(b<=4))∨(((a=31)/\(b<=18))∨((a=127)/\(b<=70))):=Decidable.byContradiction (fun q1=>(nao (not_or.mp (not_or.mp q1).2).2).elim (fun q4=>(neN q4).elim (fun q9=>an [a] (N (.n 127) v0 (L v0 (.n 127) .z)) rfl (pN h0.1) q9) (fun q10=>an [a] (N v0 (.n 127) (L (.n 127) v0 .z)) rfl (oN h0.1) q10)) (fun q11=>an [b] (N v0 (.n 19) (L (.n 70) v0 .z)) rfl (oN h0.2) (neN_ q11)))
theorem b360 (h0:a+(c+1)<=b):a<=b:=kN (an [a,c,b] (N (A v0 (A v1 n1)) v2 (L v2 v0 .z)) rfl h0)
theorem b361 (h0:a=c)(h1:(c<=b)/\(((b=31)/\(c=5))∨((b=127)/\(c=19)))):a<=b:=kN (an [a,c,b] (N v0 v1 (N v1 v2 (L v2 v0 .z))) rfl (oN h0) h1.1)
theorem b362 (h0:a<=b+13):a<b+15:=lN (an [a,b] (N v0 (A v1 (.n 13)) (N (A v1 (.n 15)) v0 .z)) rfl h0)
theorem b363 (h0:a=19):a<=127:=kN (an [a] (N v0 (.n 19) (L (.n 127) v0 .z)) rfl (oN h0))
theorem b364 (h0:a<b+1):a<=b:=kN (an [a,b] (L v0 (A v1 n1) (L v1 v0 .z)) rfl h0)
theorem b365 (h0:(b<=a)/\((a<=c)/\(a<=b+9))):0<(a+1) - b:=lN (fun q1=>(sbc (a+1) b).elim (fun q2=>an [b,a,(a+1) - b] (N v0 v1 (N (A v1 n1) (A v2 v0) (N v2 n0 .z))) rfl h0.1 (pN q2.2) q1) (fun q3=>an [b,a] (N v0 v1 (L (A v1 n1) v0 .z)) rfl h0.1 q3.1))
theorem b366 (h0:b<(d+1) - a)(h1:(a<=d)/\((d<=c)/\(d<=a+9))):a+b<=c:=kN (fun q1=>(sbc (d+1) a).elim (fun q2=>an [b,(d+1) - a,d,c,a] (L v0 v1 (N v2 v3 (N (A v1 v4) (A v2 n1) (L v3 (A v4 v0) .z)))) rfl h0 h1.2.1 (oN q2.2) q1) (fun q3=>an [a,d] (N v0 v1 (L (A v1 n1) v0 .z)) rfl h1.1 q3.1))
theorem b367 (h0:b=c)(h1:a=c):a=b:=qN (kN (an [b,c,a] (N v1 v0 (N v2 v1 (L v0 v2 .z))) rfl (pN h0) (oN h1))) (kN (an [b,c,a] (N v0 v1 (N v1 v2 (L v2 v0 .z))) rfl (oN h0) (pN h1)))
theorem b368 (h0:a+1<b+1):a<b:=lN (an [a,b] (L (A v0 n1) (A v1 n1) (N v1 v0 .z)) rfl h0)
theorem b369 (h0:a=5):a<=31:=kN (an [a] (N v0 (.n 5) (L (.n 31) v0 .z)) rfl (oN h0))
theorem b370 (h0:(a=31)/\(b=5)):((a=7)/\(b<=4))∨(((a=31)/\(b<=18))∨((a=127)/\(b<=70))):=Decidable.byContradiction (fun q1=>(nao (not_or.mp (not_or.mp q1).2).1).elim (fun q3=>(neN q3).elim (fun q7=>an [a] (N (.n 31) v0 (L v0 (.n 31) .z)) rfl (pN h0.1) q7) (fun q8=>an [a] (N v0 (.n 31) (L (.n 31) v0 .z)) rfl (oN h0.1) q8)) (fun q9=>an [b] (N v0 (.n 5) (L (.n 18) v0 .z)) rfl (oN h0.2) (neN_ q9)))
theorem b371 (h0:a+(b+1)<=c):(a+1)+b<=c:=kN (an [a,b,c] (N (A v0 (A v1 n1)) v2 (L v2 (A (A v0 n1) v1) .z)) rfl h0)
theorem b372 (h0:¬ (b<=a)):a+1<=b:=kN (an [a,b] (L v0 v1 (L v1 (A v0 n1) .z)) rfl (neN_ h0))
theorem b373 (h0:(a=127)/\(b<=70))(h1:b=c)(h2:c<60):(((a=7)/\(b+1<=4))∨(((a=31)/\(b+1<=18))∨((a=127)/\(b+1<=70))))∨(((a=7)/\(b+1=5))∨((a=31)/\(b+1=19))):=Decidable.byContradiction (fun q1=>(nao (not_or.mp (not_or.mp (not_or.mp q1).1).2).2).elim (fun q4=>(neN q4).elim (fun q11=>an [a] (N (.n 127) v0 (L v0 (.n 127) .z)) rfl (pN h0.1) q11) (fun q12=>an [a] (N v0 (.n 127) (L (.n 127) v0 .z)) rfl (oN h0.1) q12)) (fun q13=>an [b,c] (N v0 v1 (L v1 (.n 60) (L (.n 70) (A v0 n1) .z))) rfl (oN h1) h2 (neN_ q13)))
theorem b374 (h0:(a=7)/\(b<=4)):(((a=7)/\(b+1<=4))∨(((a=31)/\(b+1<=18))∨((a=127)/\(b+1<=70))))∨(((a=7)/\(b+1=5))∨((a=31)/\(b+1=19))):=Decidable.byContradiction (fun q1=>(nao (not_or.mp (not_or.mp q1).1).1).elim (fun q2=>(neN q2).elim (fun q7=>an [a] (N (.n 7) v0 (L v0 (.n 7) .z)) rfl (pN h0.1) q7) (fun q8=>an [a] (N v0 (.n 7) (L (.n 7) v0 .z)) rfl (oN h0.1) q8)) (fun q9=>(nao (not_or.mp (not_or.mp q1).2).1).elim (fun q12=>(neN q12).elim (fun q16=>an [a] (N (.n 7) v0 (L v0 (.n 7) .z)) rfl (pN h0.1) q16) (fun q17=>an [a] (N v0 (.n 7) (L (.n 7) v0 .z)) rfl (oN h0.1) q17)) (fun q18=>(neN q18).elim (fun q22=>an [b] (L (.n 4) (A v0 n1) (L (A v0 n1) (.n 5) .z)) rfl (neN_ q9) q22) (fun q23=>an [b] (N v0 (.n 4) (L (.n 5) (A v0 n1) .z)) rfl h0.2 q23))))
theorem b375 (h0:(b=127)/\(a<=70))(h1:a=c)(h2:c<60):a+1<=b:=kN (an [b,a] (N (.n 127) v0 (N v1 (.n 70) (L v0 (A v1 n1) .z))) rfl (pN h0.1) h0.2)
theorem b376 (h0:a=b)(h1:b<60):a<4096:=lN (an [a,b] (N v0 v1 (L v1 (.n 60) (N (.n 4096) v0 .z))) rfl (oN h0) h1)
theorem b377 (h0:a<=b)(h1:b=31):a<=127:=kN (an [a,b] (N v0 v1 (N v1 (.n 31) (L (.n 127) v0 .z))) rfl h0 (oN h1))
theorem b378 (h0:a<=b)(h1:b=127):a<=127:=kN (an [a,b] (N v0 v1 (N v1 (.n 127) (L (.n 127) v0 .z))) rfl h0 (oN h1))
theorem b379 (h0:(b=7)/\(a<=4)):a+1<=b:=kN (an [b,a] (N (.n 7) v0 (N v1 (.n 4) (L v0 (A v1 n1) .z))) rfl (pN h0.1) h0.2)
theorem b380 (h0:(b=31)/\(a<=18)):a+1<=b:=kN (an [b,a] (N (.n 31) v0 (N v1 (.n 18) (L v0 (A v1 n1) .z))) rfl (pN h0.1) h0.2)
theorem b381 (h0:a<=b)(h1:b=7):a<=127:=kN (an [a,b] (N v0 v1 (N v1 (.n 7) (L (.n 127) v0 .z))) rfl h0 (oN h1))
theorem b382 (h0:a<=127):a<=16777216:=kN (an [a] (N v0 (.n 127) (L (.n 16777216) v0 .z)) rfl h0)
theorem b384 (h0:b<a+1):¬ (a<b):=an [b,a] (L v0 (A v1 n1) (L v1 v0 .z)) rfl h0
theorem b385 (h0:a<=0):a=0:=qN (kN (an [a] (N v0 n0 (L n0 v0 .z)) rfl h0)) (kN (an [a] (L v0 n0 .z) rfl))
theorem b386  : ¬ (a+1<=a):=an [a] (N (A v0 n1) v0 .z) rfl
theorem b387 (h0:a+1<c)(h1:c<=b):a+1<b:=lN (an [a,c,b] (L (A v0 n1) v1 (N v1 v2 (N v2 (A v0 n1) .z))) rfl h0 h1)
theorem b388 (h0:a=b):a<=b:=kN (an [a,b] (N v0 v1 (L v1 v0 .z)) rfl (oN h0))
theorem b389 (h0:¬ (a=0)):0<a:=lN (fun q1=>(neN h0).elim (fun q2=>an [a] (L v0 n0 .z) rfl q2) (fun q3=>an [a] (L n0 v0 (N v0 n0 .z)) rfl q3 q1))
theorem b390 (h0:a<=b+1)(h1:c % a<a):a - 1<=b:=kN (fun q1=>(sbc a 1).elim (fun q2=>an [a,b,a - 1] (N v0 (A v1 n1) (N (A v2 n1) v0 (L v1 v2 .z))) rfl h0 (oN q2.2) q1) (fun q3=>an [c % a,a] (L v0 v1 (L v1 n1 .z)) rfl h1 q3.1))
theorem b392 (h0:a+c=d)(h1:(e<=d)/\((d<=b)/\(d<=e+9))):a<=b:=kN (an [a,c,d,b] (N (A v0 v1) v2 (N v2 v3 (L v3 v0 .z))) rfl (oN h0) h1.2.1)
theorem b393 (h0:(10 * a)+b<(10 * d)+e)(h1:(10 * d)+e<c+1):(10 * a)+b<c:=lN (an [a,b,d,e,c] (L (A (.mul 10 v0) v1) (A (.mul 10 v2) v3) (L (A (.mul 10 v2) v3) (A v4 n1) (N v4 (A (.mul 10 v0) v1) .z))) rfl h0 h1)
theorem b394 (h0:b+1<=a):a > 0:=lN (an [b,a] (N (A v0 n1) v1 (N v1 n0 .z)) rfl h0)
theorem b395 (h0:b+1<=a):(a - 1) - b=a - (b+1):=qN (kN (fun q1=>(sbc a 1).elim (fun q2=>(sbc (a - 1) b).elim (fun q3=>(sbc a (b+1)).elim (fun q4=>an [a - 1,a,(a - 1) - b,b,a - (b+1)] (N (A v0 n1) v1 (N (A v2 v3) v0 (N v1 (A v4 (A v3 n1)) (L v4 v2 .z)))) rfl (oN q2.2) (oN q3.2) (pN q4.2) q1) (fun q5=>an [b,a] (N (A v0 n1) v1 (L v1 (A v0 n1) .z)) rfl h0 q5.1)) (fun q6=>an [b,a,a - 1] (N (A v0 n1) v1 (N v1 (A v2 n1) (L v2 v0 .z))) rfl h0 (pN q2.2) q6.1)) (fun q7=>an [b,a] (N (A v0 n1) v1 (L v1 n1 .z)) rfl h0 q7.1))) (kN (fun q8=>(sbc a 1).elim (fun q9=>(sbc (a - 1) b).elim (fun q10=>(sbc a (b+1)).elim (fun q11=>an [a - 1,a,(a - 1) - b,b,a - (b+1)] (N v1 (A v0 n1) (N v0 (A v2 v3) (N (A v4 (A v3 n1)) v1 (L v2 v4 .z)))) rfl (pN q9.2) (pN q10.2) (oN q11.2) q8) (fun q12=>an [b,a] (N (A v0 n1) v1 (L v1 (A v0 n1) .z)) rfl h0 q12.1)) (fun q13=>an [b,a,a - 1] (N (A v0 n1) v1 (N v1 (A v2 n1) (L v2 v0 .z))) rfl h0 (pN q9.2) q13.1)) (fun q14=>an [b,a] (N (A v0 n1) v1 (L v1 n1 .z)) rfl h0 q14.1)))
theorem b396 (h0:b<=d - a)(h1:(a<=d)/\((d<=c)/\(d<=a+9))):a+b<=c:=kN (fun q1=>(sbc d a).elim (fun q2=>an [b,d - a,d,c,a] (N v0 v1 (N v2 v3 (N (A v1 v4) v2 (L v3 (A v4 v0) .z)))) rfl h0 h1.2.1 (oN q2.2) q1) (fun q3=>an [a,d] (N v0 v1 (L v1 v0 .z)) rfl h1.1 q3.1))
theorem b397 (h0:d<(b+1) - c)(h1:a<d)(h2:(c<=b)/\((b<=e)/\(b<=c+9))):a<=b - c:=kN (fun q1=>(sbc (b+1) c).elim (fun q2=>(sbc b c).elim (fun q3=>an [d,(b+1) - c,a,c,b,b - c] (L v0 v1 (L v2 v0 (N (A v1 v3) (A v4 n1) (N v4 (A v5 v3) (L v5 v2 .z))))) rfl h0 h1 (oN q2.2) (pN q3.2) q1) (fun q4=>an [c,b] (N v0 v1 (L v1 v0 .z)) rfl h2.1 q4.1)) (fun q5=>an [c,b] (N v0 v1 (L (A v1 n1) v0 .z)) rfl h2.1 q5.1))
theorem b398 (h0:(a<=d)/\((d<=c)/\(d<=a+9)))(h1:e<(d+1) - a)(h2:b<e):a+b<=c:=kN (fun q1=>(sbc (d+1) a).elim (fun q2=>an [d,c,e,(d+1) - a,b,a] (N v0 v1 (L v2 v3 (L v4 v2 (N (A v3 v5) (A v0 n1) (L v1 (A v5 v4) .z))))) rfl h0.2.1 h1 h2 (oN q2.2) q1) (fun q3=>an [a,d] (N v0 v1 (L (A v1 n1) v0 .z)) rfl h0.1 q3.1))
theorem b399 (h0:¬ (a<=b - c)):a=((b - c)+1)+(a - ((b - c)+1)):=qN (kN (fun q1=>(sbc a ((b - c)+1)).elim (fun q3=>an [a - ((b - c)+1),b - c,a] (N v2 (A v0 (A v1 n1)) (L (A (A v1 n1) v0) v2 .z)) rfl (pN q3.2) q1) (fun q4=>an [b - c,a] (L v0 v1 (L v1 (A v0 n1) .z)) rfl (neN_ h0) q4.1))) (kN (fun q5=>(sbc a ((b - c)+1)).elim (fun q7=>an [a - ((b - c)+1),b - c,a] (N (A v0 (A v1 n1)) v2 (L v2 (A (A v1 n1) v0) .z)) rfl (oN q7.2) q5) (fun q8=>an [b - c,a] (L v0 v1 (L v1 (A v0 n1) .z)) rfl (neN_ h0) q8.1)))
theorem b400 (h0:a - 1=b)(h1:(c<=b)/\(((b=31)/\(c=5))∨((b=127)/\(c=19)))):a<=128:=kN (fun q1=>(sbc a 1).elim (fun q2=>Or.elim h1.2 (fun q3=>an [a - 1,b,a] (N v0 v1 (N v2 (A v0 n1) (N v1 (.n 31) (L (.n 128) v2 .z)))) rfl (oN h0) (pN q2.2) (oN q3.1) q1) (fun q4=>an [a - 1,b,a] (N v0 v1 (N v2 (A v0 n1) (N v1 (.n 127) (L (.n 128) v2 .z)))) rfl (oN h0) (pN q2.2) (oN q4.1) q1)) (fun q5=>an [a] (L v0 n1 (L (.n 128) v0 .z)) rfl q5.1 q1))
theorem b401 (h0:(c<=b)/\((b<=e)/\(b<=c+9))):(10 * a)+(b - c)<(10 * (a+1))+d:=lN (fun q1=>(sbc b c).elim (fun q2=>an [b,c,b - c,a,d] (N v0 (A v1 (.n 9)) (N (A v2 v1) v0 (N (A (.mul 10 (A v3 n1)) v4) (A (.mul 10 v3) v2) .z))) rfl h0.2.2 (oN q2.2) q1) (fun q3=>an [c,b] (N v0 v1 (L v1 v0 .z)) rfl h0.1 q3.1))
theorem b402 (h0:a<=128):a<=16777216:=kN (an [a] (N v0 (.n 128) (L (.n 16777216) v0 .z)) rfl h0)
theorem b403 (h0:a<=b - c)(h1:(c<=b)/\((b<=d)/\(b<=c+9))):a<(b+1) - c:=lN (fun q1=>(sbc b c).elim (fun q2=>(sbc (b+1) c).elim (fun q3=>an [a,b - c,c,b,(b+1) - c] (N v0 v1 (N (A v1 v2) v3 (N (A v3 n1) (A v4 v2) (N v4 v0 .z)))) rfl h0 (oN q2.2) (pN q3.2) q1) (fun q4=>an [c,b] (N v0 v1 (L (A v1 n1) v0 .z)) rfl h1.1 q4.1)) (fun q5=>an [c,b] (N v0 v1 (L v1 v0 .z)) rfl h1.1 q5.1))
theorem b404 (h0:a<(b+1) - c)(h1:(c<=b)/\((b<=d)/\(b<=c+9))):a<=b - c:=kN (fun q1=>(sbc (b+1) c).elim (fun q2=>(sbc b c).elim (fun q3=>an [a,(b+1) - c,c,b,b - c] (L v0 v1 (N (A v1 v2) (A v3 n1) (N v3 (A v4 v2) (L v4 v0 .z)))) rfl h0 (oN q2.2) (pN q3.2) q1) (fun q4=>an [c,b] (N v0 v1 (L v1 v0 .z)) rfl h1.1 q4.1)) (fun q5=>an [c,b] (N v0 v1 (L (A v1 n1) v0 .z)) rfl h1.1 q5.1))
theorem b405 (h0:b > 0):(10 * a)+(b - 1)<(10 * a)+b:=lN (fun q1=>(sbc b 1).elim (fun q2=>an [b - 1,b,a] (N (A v0 n1) v1 (N (A (.mul 10 v2) v1) (A (.mul 10 v2) v0) .z)) rfl (oN q2.2) q1) (fun q3=>an [b] (L n0 v0 (L v0 n1 .z)) rfl h0 q3.1))
theorem b406 (h0:a<=c)(h1:c=d)(h2:b=d):a<=b:=kN (an [a,c,d,b] (N v0 v1 (N v1 v2 (N v2 v3 (L v3 v0 .z)))) rfl h0 (oN h1) (pN h2))
theorem b407 (h0:b=c)(h1:a<d)(h2:d=e)(h3:e=c):a<b:=lN (an [b,c,a,d,e] (N v1 v0 (L v2 v3 (N v3 v4 (N v4 v1 (N v0 v2 .z))))) rfl (pN h0) h1 (oN h2) (oN h3))
theorem b408 (h0:a+1<=b):a<=b - 1:=kN (fun q1=>(sbc b 1).elim (fun q2=>an [a,b,b - 1] (N (A v0 n1) v1 (N v1 (A v2 n1) (L v2 v0 .z))) rfl h0 (pN q2.2) q1) (fun q3=>an [a,b,b - 1] (N (A v0 n1) v1 (L v1 n1 (N n0 v2 (L v2 v0 .z)))) rfl h0 q3.1 (pN q3.2) q1))
theorem b409  : (a+1)+b=a+(b+1):=qN (kN (an [a,b] (L (A v0 (A v1 n1)) (A (A v0 n1) v1) .z) rfl)) (kN (an [a,b] (L (A (A v0 n1) v1) (A v0 (A v1 n1)) .z) rfl))
theorem b410 (h0:¬ (a<c))(h1:b=c):¬ (a<b):=an [c,a,b] (N v0 v1 (N v2 v0 (L v1 v2 .z))) rfl (nlN h0) (oN h1)
theorem b411  : ¬ ((a - b) - (a - b) > 0):=fun q1=>(sbc (a - b) (a - b)).elim (fun q3=>an [(a - b) - (a - b),a - b] (N (A v0 v1) v1 (L n0 v0 .z)) rfl (oN q3.2) q1) (fun q4=>an [a - b] (L v0 v0 .z) rfl q4.1)
theorem b412 (h0:a<=b):min a b=a:=qN (kN (fun q1=>(mnN a b).elim (fun q2=>an [min a b,a] (N v0 v1 (L v1 v0 .z)) rfl (oN q2.2) q1) (fun q3=>an [a,b] (N v0 v1 (L v1 v0 .z)) rfl h0 q3.1))) (kN (fun q4=>(mnN a b).elim (fun q5=>an [min a b,a] (N v1 v0 (L v0 v1 .z)) rfl (pN q5.2) q4) (fun q6=>an [a,b] (N v0 v1 (L v1 v0 .z)) rfl h0 q6.1)))
theorem b413 (h0:c - a=b+1)(h1:¬ (c<a))(h2:d=a):a+b=c - 1:=qN (kN (fun q1=>(sbc c a).elim (fun q2=>(sbc c 1).elim (fun q3=>an [c - a,b,a,c,c - 1] (N (A v1 n1) v0 (N (A v0 v2) v3 (N v3 (A v4 n1) (L v4 (A v2 v1) .z)))) rfl (pN h0) (oN q2.2) (pN q3.2) q1) (fun q4=>an [c - a,b,a,c,c - 1] (N (A v1 n1) v0 (N (A v0 v2) v3 (L v3 n1 (N n0 v4 (L v4 (A v2 v1) .z))))) rfl (pN h0) (oN q2.2) q4.1 (pN q4.2) q1)) (fun q5=>an [a,c] (N v0 v1 (L v1 v0 .z)) rfl (nlN h1) q5.1))) (kN (fun q6=>(sbc c a).elim (fun q7=>(sbc c 1).elim (fun q8=>an [c - a,b,a,c,c - 1] (N v0 (A v1 n1) (N v3 (A v0 v2) (N (A v4 n1) v3 (L (A v2 v1) v4 .z)))) rfl (oN h0) (pN q7.2) (oN q8.2) q6) (fun q9=>an [c - a,b,a,c] (N (A v1 n1) v0 (N (A v0 v2) v3 (L v3 n1 .z))) rfl (pN h0) (oN q7.2) q9.1)) (fun q10=>an [a,c] (N v0 v1 (L v1 v0 .z)) rfl (nlN h1) q10.1)))
theorem b414 (h0:((c - d)+1)+a<((c - d)+1)+b):a<b:=lN (an [c - d,a,b] (L (A (A v0 n1) v1) (A (A v0 n1) v2) (N v2 v1 .z)) rfl h0)
theorem b415 (h0:¬ (a<b)):a+1≠b:=fun q1=>an [b,a] (N v0 v1 (N (A v1 n1) v0 .z)) rfl (nlN h0) (oN q1)
theorem b416 (h0:¬ (b<a)):a+(b - a)=b:=qN (kN (fun q1=>(sbc b a).elim (fun q2=>an [b - a,a,b] (N (A v0 v1) v2 (L v2 (A v1 v0) .z)) rfl (oN q2.2) q1) (fun q3=>an [a,b] (N v0 v1 (L v1 v0 .z)) rfl (nlN h0) q3.1))) (kN (fun q4=>(sbc b a).elim (fun q5=>an [b - a,a,b] (N v2 (A v0 v1) (L (A v1 v0) v2 .z)) rfl (pN q5.2) q4) (fun q6=>an [a,b] (N v0 v1 (L v1 v0 .z)) rfl (nlN h0) q6.1)))
theorem b417 (h0:¬ (b+c<=a))(h1:b<=a):a - b<c:=lN (fun q1=>(sbc a b).elim (fun q2=>an [a,b,c,a - b] (L v0 (A v1 v2) (N (A v3 v1) v0 (N v2 v3 .z))) rfl (neN_ h0) (oN q2.2) q1) (fun q3=>an [b,a] (N v0 v1 (L v1 v0 .z)) rfl h1 q3.1))
theorem b418 (h0:a<b+c)(h1:¬ (a<b)):a - b<c:=lN (fun q1=>(sbc a b).elim (fun q2=>an [a,b,c,a - b] (L v0 (A v1 v2) (N (A v3 v1) v0 (N v2 v3 .z))) rfl h0 (oN q2.2) q1) (fun q3=>an [b,a] (N v0 v1 (L v1 v0 .z)) rfl (nlN h1) q3.1))
theorem b419 (h0:a=b)(h1:b<60):a+1<=16777216:=kN (an [a,b] (N v0 v1 (L v1 (.n 60) (L (.n 16777216) (A v0 n1) .z))) rfl (oN h0) h1)
theorem b420 (h0:¬ (a=b))(h1:a<=b):a<b:=lN (fun q1=>(neN h0).elim (fun q2=>an [a,b] (L v0 v1 (N v1 v0 .z)) rfl q2 q1) (fun q3=>an [a,b] (N v0 v1 (L v1 v0 .z)) rfl h1 q3))
theorem b421 (h0:(10 * a)+b<(10 * d)+e)(h1:(10 * d)+e<10 * c):(10 * a)+b<10 * c:=lN (an [a,b,d,e,c] (L (A (.mul 10 v0) v1) (A (.mul 10 v2) v3) (L (A (.mul 10 v2) v3) (.mul 10 v4) (N (.mul 10 v4) (A (.mul 10 v0) v1) .z))) rfl h0 h1)
theorem b422 (h0:(10 * a)+b<10 * c)(h1:c<=142):(10 * a)+b<100000:=lN (an [a,b,c] (L (A (.mul 10 v0) v1) (.mul 10 v2) (.m 10 (N v2 (.n 142) (N (.n 100000) (A (.mul 10 v0) v1) .z)))) rfl h0 h1)
theorem b423 (h0:¬ (a+b=c))(h1:a+b<=c):a+(b+1)<=c:=kN (fun q1=>(neN h0).elim (fun q2=>an [a,b,c] (L (A v0 v1) v2 (L v2 (A v0 (A v1 n1)) .z)) rfl q2 q1) (fun q3=>an [a,b,c] (N (A v0 v1) v2 (L v2 (A v0 v1) .z)) rfl h1 q3))
theorem b424 (h0:¬ (a<b+c))(h1:a<b+(c+1)):a=b+c:=qN (kN (an [a,b,c] (L v0 (A v1 (A v2 n1)) (L (A v1 v2) v0 .z)) rfl h1)) (kN (an [b,c,a] (N (A v0 v1) v2 (L v2 (A v0 v1) .z)) rfl (nlN h0)))
theorem b425 (h0:a<=b)(h1:b - a=c+1):a<b:=lN (fun q1=>(sbc b a).elim (fun q2=>an [b - a,c,a,b] (N (A v1 n1) v0 (N (A v0 v2) v3 (N v3 v2 .z))) rfl (pN h1) (oN q2.2) q1) (fun q3=>an [a,b] (N v0 v1 (L v1 v0 .z)) rfl h0 q3.1))
theorem b426 (h0:a - b=c+1)(h1:b<a):a - (b+1)=c:=qN (kN (fun q1=>(sbc a b).elim (fun q2=>(sbc a (b+1)).elim (fun q3=>an [a - b,c,b,a,a - (b+1)] (N v0 (A v1 n1) (N v3 (A v0 v2) (N (A v4 (A v2 n1)) v3 (L v1 v4 .z)))) rfl (oN h0) (pN q2.2) (oN q3.2) q1) (fun q4=>an [b,a] (L v0 v1 (L v1 (A v0 n1) .z)) rfl h1 q4.1)) (fun q5=>an [b,a] (L v0 v1 (L v1 v0 .z)) rfl h1 q5.1))) (kN (fun q6=>(sbc a b).elim (fun q7=>(sbc a (b+1)).elim (fun q8=>an [a - b,c,b,a,a - (b+1)] (N (A v1 n1) v0 (N (A v0 v2) v3 (N v3 (A v4 (A v2 n1)) (L v4 v1 .z)))) rfl (pN h0) (oN q7.2) (pN q8.2) q6) (fun q9=>an [b,a] (L v0 v1 (L v1 (A v0 n1) .z)) rfl h1 q9.1)) (fun q10=>an [b,a] (L v0 v1 (L v1 v0 .z)) rfl h1 q10.1)))
theorem b427 (h0:a<=b)(h1:b - a=0):a=b:=qN (kN (an [a,b] (N v0 v1 (L v1 v0 .z)) rfl h0)) (kN (fun q2=>(sbc b a).elim (fun q3=>an [b - a,a,b] (N v0 n0 (N v2 (A v0 v1) (L v1 v2 .z))) rfl (oN h1) (pN q3.2) q2) (fun q4=>an [a,b] (N v0 v1 (L v1 v0 .z)) rfl h0 q4.1)))
theorem b428 (h0:a+100<b):a+1<b:=lN (an [a,b] (L (A v0 (.n 100)) v1 (N v1 (A v0 n1) .z)) rfl h0)
theorem b429 (h0:a<=c+5)(h1:c+1000<b):a+100<b:=lN (an [a,c,b] (N v0 (A v1 (.n 5)) (L (A v1 (.n 1000)) v2 (N v2 (A v0 (.n 100)) .z))) rfl h0 h1)
theorem b430 (h0:(b=7)/\(a<=4)):a<=100:=kN (an [a] (N v0 (.n 4) (L (.n 100) v0 .z)) rfl h0.2)
theorem b431 (h0:a=b)(h1:b<=100):a<=16777216:=kN (an [a,b] (N v0 v1 (N v1 (.n 100) (L (.n 16777216) v0 .z))) rfl (oN h0) h1)
theorem b432 (h0:(b=31)/\(a<=18)):a<=100:=kN (an [a] (N v0 (.n 18) (L (.n 100) v0 .z)) rfl h0.2)
theorem b433 (h0:(b=127)/\(a<=70)):a<=100:=kN (an [a] (N v0 (.n 70) (L (.n 100) v0 .z)) rfl h0.2)
theorem b434 (h0:a+1=b):a=b - 1:=qN (kN (fun q1=>(sbc b 1).elim (fun q2=>an [a,b,b - 1] (N (A v0 n1) v1 (N v1 (A v2 n1) (L v2 v0 .z))) rfl (oN h0) (pN q2.2) q1) (fun q3=>an [a,b,b - 1] (N (A v0 n1) v1 (L v1 n1 (N n0 v2 (L v2 v0 .z)))) rfl (oN h0) q3.1 (pN q3.2) q1))) (kN (fun q4=>(sbc b 1).elim (fun q5=>an [a,b,b - 1] (N v1 (A v0 n1) (N (A v2 n1) v1 (L v0 v2 .z))) rfl (pN h0) (oN q5.2) q4) (fun q6=>an [a,b] (N (A v0 n1) v1 (L v1 n1 .z)) rfl (oN h0) q6.1)))
theorem b435 (h0:a<=100):a<=16777216:=kN (an [a] (N v0 (.n 100) (L (.n 16777216) v0 .z)) rfl h0)
theorem b436 (h0:a<2):a<=16777216:=kN (an [a] (L v0 n2 (L (.n 16777216) v0 .z)) rfl h0)
theorem b437 (h0:b+1<=a):a≠b:=fun q1=>an [b,a] (N (A v0 n1) v1 (N v1 v0 .z)) rfl h0 (oN q1)
theorem b438 (h0:a<2):a<=16777216+1:=kN (an [a] (L v0 n2 (L (A (.n 16777216) n1) v0 .z)) rfl h0)
theorem b439 (h0:a<60):a<=16777216:=kN (an [a] (L v0 (.n 60) (L (.n 16777216) v0 .z)) rfl h0)
theorem b440 (h0:a<60):a<64:=lN (an [a] (L v0 (.n 60) (N (.n 64) v0 .z)) rfl h0)
theorem b441 (h0:(0<=x)/\(x<(b:Int)))(h1:a=c+1)(h2:c=b):x<(a:Int):=lZ (ac [b,a,c] [x] (M w0 (.c v0) (N (A v2 n1) v1 (N v0 v2 (Z (.c v1) w0 .z)))) rfl h0.2 (pN h1) (pN h2))
theorem b442 (h0:b=a):a=b:=qN (kN (an [b,a] (N v1 v0 (L v0 v1 .z)) rfl (pN h0))) (kN (an [b,a] (N v0 v1 (L v1 v0 .z)) rfl (oN h0)))
theorem b443 (h0:a<=1):a<60:=lN (an [a] (N v0 n1 (N (.n 60) v0 .z)) rfl h0)
theorem b444 (h0:a+300<b):a<b:=lN (an [a,b] (L (A v0 (.n 300)) v1 (N v1 v0 .z)) rfl h0)
theorem b445 (h0:a=b)(h1:b<24):a<50:=lN (an [a,b] (N v0 v1 (L v1 (.n 24) (N (.n 50) v0 .z))) rfl (oN h0) h1)
theorem b446 (h0:a<24):a<100000:=lN (an [a] (L v0 (.n 24) (N (.n 100000) v0 .z)) rfl h0)
theorem b447  : max a (a+1)=a+1:=qN (kN (fun q1=>(mxN a (a+1)).elim (fun q2=>an [max a (a+1),a] (N v0 (A v1 n1) (L (A v1 n1) v0 .z)) rfl (oN q2.2) q1) (fun q3=>an [a] (L (A v0 n1) v0 .z) rfl q3.1))) (kN (fun q4=>(mxN a (a+1)).elim (fun q5=>an [max a (a+1),a] (N (A v1 n1) v0 (L v0 (A v1 n1) .z)) rfl (pN q5.2) q4) (fun q6=>an [a] (L (A v0 n1) v0 .z) rfl q6.1)))
theorem b448 (h0:b<a):max a (b+1)=a:=qN (kN (fun q1=>(mxN a (b+1)).elim (fun q2=>an [b,a,max a (b+1)] (L v0 v1 (N v2 (A v0 n1) (L v1 v2 .z))) rfl h0 (oN q2.2) q1) (fun q3=>an [max a (b+1),a] (N v0 v1 (L v1 v0 .z)) rfl (oN q3.2) q1))) (kN (fun q4=>(mxN a (b+1)).elim (fun q5=>an [a,b,max a (b+1)] (N v0 (A v1 n1) (N (A v1 n1) v2 (L v2 v0 .z))) rfl q5.1 (pN q5.2) q4) (fun q6=>an [max a (b+1),a] (N v1 v0 (L v0 v1 .z)) rfl (pN q6.2) q4)))
theorem b449 (h0:¬ (a<b))(h1:a<=b):a=b:=qN (kN (an [a,b] (N v0 v1 (L v1 v0 .z)) rfl h1)) (kN (an [b,a] (N v0 v1 (L v1 v0 .z)) rfl (nlN h0)))
theorem b450 (h0:b=a):¬ ((a:Int)<(b:Int)):=an [b,a] (N v0 v1 (M (.c v1) (.c v0) .z)) rfl (oN h0)
theorem b451 (h0:1<=x)(h1:x<(((b+1):Nat):Int))(h2:a=b):Int.toNat (x - 1)<a:=lN (fun q1=>(tnc (x - 1)).elim (fun q2=>ac [b,a,Int.toNat (x - 1)] [x] (M w0 (.c (A v0 n1)) (N v0 v1 (Z (.c v2) (.sub w0 n1) (N v1 v2 .z)))) rfl h1 (pN h2) (oZ q2.2) q1) (fun q3=>ac [] [x] (Z n1 w0 (M (.sub w0 n1) n0 .z)) rfl h0 q3.1))
theorem b452 (h0:a<24):a+1<=24:=kN (an [a] (L v0 (.n 24) (L (.n 24) (A v0 n1) .z)) rfl h0)
theorem b453 (h0:a<=b)(h1:b<=1):a<60:=lN (an [a,b] (N v0 v1 (N v1 n1 (N (.n 60) v0 .z))) rfl h0 h1)
theorem b454 (h0:a<=b)(h1:b=c)(h2:c<24):a+1<60:=lN (an [a,b,c] (N v0 v1 (N v1 v2 (L v2 (.n 24) (N (.n 60) (A v0 n1) .z)))) rfl h0 (oN h1) h2)
theorem b456 (h0:a<b)(h1:b<=1):a=0:=qN (kN (an [a,b] (L v0 v1 (N v1 n1 (L n0 v0 .z))) rfl h0 h1)) (kN (an [a] (L v0 n0 .z) rfl))
theorem b457 (h0:a<24):a+1<1000:=lN (an [a] (L v0 (.n 24) (N (.n 1000) (A v0 n1) .z)) rfl h0)
theorem b458 (h0:a+(4000+(100 * c))<b):(a+3)+3000<b:=lN (an [a,c,b] (L (A v0 (A (.n 4000) (.mul 100 v1))) v2 (N v2 (A (A v0 (.n 3)) (.n 3000)) .z)) rfl h0)
theorem b459 (h0:a+(400+(10 * c))<b):a<b:=lN (an [a,c,b] (L (A v0 (A (.n 400) (.mul 10 v1))) v2 (N v2 v0 .z)) rfl h0)
theorem b460 (h0:a=b)(h1:b<=1):a<100000:=lN (an [a,b] (N v0 v1 (N v1 n1 (N (.n 100000) v0 .z))) rfl (oN h0) h1)
theorem b461 (h0:b=a+1):a<b:=lN (an [b,a] (N (A v1 n1) v0 (N v0 v1 .z)) rfl (pN h0))
theorem b462 (h0:a+(400+(10 * d))<c)(h1:d=b+1):(a+1)+(400+(10 * b))<c:=lN (an [a,d,c,b] (L (A v0 (A (.n 400) (.mul 10 v1))) v2 (.m 10 (N (A v3 n1) v1 (N v2 (A (A v0 n1) (A (.n 400) (.mul 10 v3))) .z)))) rfl h0 (pN h1))
theorem b463 (h0:a+(4000+(100 * d))<c)(h1:d=b+1):(a+3)+(4000+(100 * b))<c:=lN (an [a,d,c,b] (L (A v0 (A (.n 4000) (.mul 100 v1))) v2 (.m 100 (N (A v3 n1) v1 (N v2 (A (A v0 (.n 3)) (A (.n 4000) (.mul 100 v3))) .z)))) rfl h0 (pN h1))
theorem b464 (h0:c=b+1):max a (b+1)=max a c:=qN (kN (fun q1=>(mxN a (b+1)).elim (fun q2=>(mxN a c).elim (fun q3=>an [c,b,max a (b+1),max a c] (N (A v1 n1) v0 (N v2 (A v1 n1) (N v0 v3 (L v3 v2 .z)))) rfl (pN h0) (oN q2.2) (pN q3.2) q1) (fun q4=>an [c,b,a] (N (A v1 n1) v0 (N v2 (A v1 n1) (L v0 v2 .z))) rfl (pN h0) q2.1 q4.1)) (fun q5=>(mxN a c).elim (fun q6=>an [c,b,a] (N v0 (A v1 n1) (L (A v1 n1) v2 (N v2 v0 .z))) rfl (oN h0) q5.1 q6.1) (fun q7=>an [max a (b+1),a,max a c] (N v0 v1 (N v1 v2 (L v2 v0 .z))) rfl (oN q5.2) (pN q7.2) q1)))) (kN (fun q8=>(mxN a (b+1)).elim (fun q9=>(mxN a c).elim (fun q10=>an [c,b,max a (b+1),max a c] (N v0 (A v1 n1) (N (A v1 n1) v2 (N v3 v0 (L v2 v3 .z)))) rfl (oN h0) (pN q9.2) (oN q10.2) q8) (fun q11=>an [c,b,a] (N (A v1 n1) v0 (N v2 (A v1 n1) (L v0 v2 .z))) rfl (pN h0) q9.1 q11.1)) (fun q12=>(mxN a c).elim (fun q13=>an [c,b,a] (N v0 (A v1 n1) (L (A v1 n1) v2 (N v2 v0 .z))) rfl (oN h0) q12.1 q13.1) (fun q14=>an [max a (b+1),a,max a c] (N v1 v0 (N v2 v1 (L v0 v2 .z))) rfl (pN q12.2) (oN q14.2) q8))))
theorem b465 (h0:a=b+1):a≠0:=fun q1=>an [a,b] (N (A v1 n1) v0 (N v0 n0 .z)) rfl (pN h0) (oN q1)
theorem b466 (h0:a=0):a≠1:=fun q1=>an [a] (N v0 n0 (N n1 v0 .z)) rfl (oN h0) (pN q1)
theorem b467 (h0:b=max c a):a<=b:=kN (fun q1=>(mxN c a).elim (fun q2=>an [b,max c a,a] (N v1 v0 (N v2 v1 (L v0 v2 .z))) rfl (pN h0) (pN q2.2) q1) (fun q3=>an [b,max c a,a,c] (N v1 v0 (L v2 v3 (N v3 v1 (L v0 v2 .z)))) rfl (pN h0) q3.1 (pN q3.2) q1))
theorem b468 (h0:a+(400+(10 * c))<b):(a+1)+300<b:=lN (an [a,c,b] (L (A v0 (A (.n 400) (.mul 10 v1))) v2 (N v2 (A (A v0 n1) (.n 300)) .z)) rfl h0)
theorem b470 (h0:b=a+1)(h1:b<24):a<24:=lN (an [b,a] (N (A v1 n1) v0 (L v0 (.n 24) (N (.n 24) v1 .z))) rfl (pN h0) h1)
theorem b471 (h0:a=max b c)(h1:b<24)(h2:c<24):a<24:=lN (fun q1=>(mxN b c).elim (fun q2=>an [a,max b c,c] (N v0 v1 (L v2 (.n 24) (N v1 v2 (N (.n 24) v0 .z)))) rfl (oN h0) h2 (oN q2.2) q1) (fun q3=>an [a,max b c,b] (N v0 v1 (L v2 (.n 24) (N v1 v2 (N (.n 24) v0 .z)))) rfl (oN h0) h1 (oN q3.2) q1))
theorem b472 (h0:b=0):a=max a b:=qN (kN (fun q1=>(mxN a b).elim (fun q2=>an [a,b,max a b] (N v0 v1 (N v1 v2 (L v2 v0 .z))) rfl q2.1 (pN q2.2) q1) (fun q3=>an [max a b,a] (N v1 v0 (L v0 v1 .z)) rfl (pN q3.2) q1))) (kN (fun q4=>(mxN a b).elim (fun q5=>an [b,max a b,a] (N v0 n0 (N v1 v0 (L v2 v1 .z))) rfl (oN h0) (oN q5.2) q4) (fun q6=>an [max a b,a] (N v0 v1 (L v1 v0 .z)) rfl (oN q6.2) q4)))
theorem b473 (h0:a+200<b):a<b:=lN (an [a,b] (L (A v0 (.n 200)) v1 (N v1 v0 .z)) rfl h0)
theorem b474 (h0:a=b)(h1:0<(b:Int)):0<a:=lN (an [a,b] (N v1 v0 (M n0 (.c v1) (N v0 n0 .z))) rfl (pN h0) h1)
theorem b475 (h0:0<(a:Int)):0<a:=lN (an [a] (M n0 (.c v0) (N v0 n0 .z)) rfl h0)
theorem b476 (h0:¬ (0<(a:Int)))(h1:b=a):a=0:=qN (kN (an [a] (Z (.c v0) n0 (L n0 v0 .z)) rfl (nlZ h0))) (kN (an [a] (L v0 n0 .z) rfl))
theorem b477 (h0:0<(a:Int)):(a - 1)+1=a:=qN (kN (fun q1=>(sbc a 1).elim (fun q2=>an [a - 1,a] (N (A v0 n1) v1 (L v1 (A v0 n1) .z)) rfl (oN q2.2) q1) (fun q3=>an [a] (M n0 (.c v0) (L v0 n1 .z)) rfl h0 q3.1))) (kN (fun q4=>(sbc a 1).elim (fun q5=>an [a - 1,a] (N v1 (A v0 n1) (L (A v0 n1) v1 .z)) rfl (pN q5.2) q4) (fun q6=>an [a] (M n0 (.c v0) (L v0 n1 .z)) rfl h0 q6.1)))
theorem b478 (h0:a+1=b)(h1:(c<1000)/\((d<1000)/\((b<1000)/\(e<1000)))):a<1000:=lN (an [a,b] (N (A v0 n1) v1 (L v1 (.n 1000) (N (.n 1000) v0 .z))) rfl (oN h0) h1.2.2.1)
theorem b479 (h0:a+(25 * b)<(1+d)+(25 * e))(h1:c=f+(25 * e))(h2:d+1=f):a+(25 * b)<c:=lN (an [a,b,d,e,c,f] (L (A v0 (.mul 25 v1)) (A (A n1 v2) (.mul 25 v3)) (N (A v5 (.mul 25 v3)) v4 (N (A v2 n1) v5 (N v4 (A v0 (.mul 25 v1)) .z)))) rfl h0 (pN h1) (oN h2))
theorem b480 (h0:(b<1000)/\((c<1000)/\((a<1000)/\(d<1000)))):a<100000:=lN (an [a] (L v0 (.n 1000) (N (.n 100000) v0 .z)) rfl h0.2.2.1)
theorem b481 (h0:x<=(((Int.toNat y):Nat):Int))(h1:y<(a:Int))(h2:a<60):x<2 ^ 63:=lZ (fun q1=>(tnc y).elim (fun q2=>ac [Int.toNat y,a] [x,y,2 ^ 63] (Z w0 (.c v0) (M w1 (.c v1) (L v1 (.n 60) (Z (.n 9223372036854775808) w2 (Z (.c v0) w1 (Z w2 w0 .z)))))) rfl h0 h1 h2 (pZ p63) (oZ q2.2) q1) (fun q3=>ac [Int.toNat y] [x,2 ^ 63] (Z w0 (.c v0) (Z (.n 9223372036854775808) w1 (N v0 n0 (Z w1 w0 .z)))) rfl h0 (pZ p63) (oN q3.2) q1))
theorem b482 (h0:a=b)(h1:b=c)(h2:x<=(((Int.toNat y):Nat):Int))(h3:y<(c:Int))(h4:0<=y):Int.toNat x<a:=lN (fun q1=>(tnc y).elim (fun q2=>(tnc x).elim (fun q3=>ac [a,b,c,Int.toNat y,Int.toNat x] [x,y] (N v1 v0 (N v2 v1 (Z w0 (.c v3) (M w1 (.c v2) (Z (.c v3) w1 (Z (.c v4) w0 (N v0 v4 .z))))))) rfl (pN h0) (pN h1) h2 h3 (oZ q2.2) (oZ q3.2) q1) (fun q4=>ac [a,b,c,Int.toNat x] [y] (N v1 v0 (N v2 v1 (M w0 (.c v2) (Z n0 w0 (N v3 n0 (N v0 v3 .z)))))) rfl (pN h0) (pN h1) h3 h4 (oN q4.2) q1)) (fun q5=>ac [] [y] (Z n0 w0 (M w0 n0 .z)) rfl h4 q5.1))
theorem b483 (h0:a=b)(h1:x<=(((Int.toNat y):Nat):Int))(h2:y<(b:Int))(h3:0<=y):Int.toNat x<a:=lN (fun q1=>(tnc y).elim (fun q2=>(tnc x).elim (fun q3=>ac [a,b,Int.toNat y,Int.toNat x] [x,y] (N v1 v0 (Z w0 (.c v2) (M w1 (.c v1) (Z (.c v2) w1 (Z (.c v3) w0 (N v0 v3 .z)))))) rfl (pN h0) h1 h2 (oZ q2.2) (oZ q3.2) q1) (fun q4=>ac [a,b,Int.toNat x] [y] (N v1 v0 (M w0 (.c v1) (Z n0 w0 (N v2 n0 (N v0 v2 .z))))) rfl (pN h0) h2 h3 (oN q4.2) q1)) (fun q5=>ac [] [y] (Z n0 w0 (M w0 n0 .z)) rfl h3 q5.1))
theorem b484 (h0:a<b)(h1:b<60):(a:Int)<2 ^ 63:=lZ (ac [a,b] [2 ^ 63] (L v0 v1 (L v1 (.n 60) (Z (.n 9223372036854775808) w0 (Z w0 (.c v0) .z)))) rfl h0 h1 (pZ p63))
theorem b485 (h0:b=c)(h1:a<c):(a:Int)<(b:Int):=lZ (an [b,c,a] (N v1 v0 (L v2 v1 (Z (.c v0) (.c v2) .z))) rfl (pN h0) h1)
theorem b486 (h0:x<(b:Int))(h1:b=a):x<(a:Int):=lZ (ac [b,a] [x] (M w0 (.c v0) (N v0 v1 (Z (.c v1) w0 .z))) rfl h0 (oN h1))
theorem b487 (h0:a<=b+c):a+1<=(b+1)+(c+1):=kN (an [a,b,c] (N v0 (A v1 v2) (L (A (A v1 n1) (A v2 n1)) (A v0 n1) .z)) rfl h0)
theorem b488 (h0:a<9):a<10:=lN (an [a] (L v0 (.n 9) (N (.n 10) v0 .z)) rfl h0)
theorem b489 (h0:a+1<c)(h1:c=b):a+1<b:=lN (an [a,c,b] (L (A v0 n1) v1 (N v1 v2 (N v2 (A v0 n1) .z))) rfl h0 (oN h1))
theorem b490 (h0:a<=b+c):a+1<=b+(c+1):=kN (an [a,b,c] (N v0 (A v1 v2) (L (A v1 (A v2 n1)) (A v0 n1) .z)) rfl h0)
theorem b491 (h0:x<(b:Int))(h1:a=c)(h2:b=c):x<(a:Int):=lZ (ac [b,a,c] [x] (M w0 (.c v0) (N v2 v1 (N v0 v2 (Z (.c v1) w0 .z)))) rfl h0 (pN h1) (oN h2))
theorem b494 (h0:¬ (y<x))(h1:x≠y):x<y:=lZ (fun q1=>(neZ h1).elim (fun q2=>ac [] [x,y] (M w0 w1 (Z w1 w0 .z)) rfl q2 q1) (fun q3=>ac [] [x,y] (Z w0 w1 (M w1 w0 .z)) rfl (nlZ h0) q3))
theorem b495 (h0:a<=100):(a:Int)<2 ^ 63:=lZ (ac [a] [2 ^ 63] (N v0 (.n 100) (Z (.n 9223372036854775808) w0 (Z w0 (.c v0) .z))) rfl h0 (pZ p63))
theorem b496 (h0:a<=2):a<=16777216:=kN (an [a] (N v0 n2 (L (.n 16777216) v0 .z)) rfl h0)
theorem b497  : ¬ ((a+1)+1<2):=an [a] (L (A (A v0 n1) n1) n2 .z) rfl
theorem b498 (h0:x=(((b - 1):Nat):Int))(h1:(Int.toNat (b:Int))=b)(h2:a=c)(h3:b<c):(0<=x)/\(x<(a:Int)):=⟨kZ (ac [b - 1] [x] (Z (.c v0) w0 (M w0 n0 .z)) rfl (pZ h0)),lZ (fun q2=>(tnc (b:Int)).elim (fun q3=>(sbc b 1).elim (fun q4=>ac [b - 1,a,c,b] [x] (Z w0 (.c v0) (N v2 v1 (L v3 v2 (N (A v0 n1) v3 (Z (.c v1) w0 .z))))) rfl (oZ h0) (pN h2) h3 (oN q4.2) q2) (fun q5=>ac [b - 1,a,c,b] [x] (Z w0 (.c v0) (N v2 v1 (L v3 v2 (Z n0 (.c v3) (N v0 n0 (Z (.c v1) w0 .z)))))) rfl (oZ h0) (pN h2) h3 q3.1 (oN q5.2) q2)) (fun q6=>an [(Int.toNat (b:Int)),b] (N v0 v1 (M (.c v1) n0 (N n0 v0 .z))) rfl (oN h1) q6.1 (pN q6.2)))⟩
theorem b499 (h0:a+120<b):a<b:=lN (an [a,b] (L (A v0 (.n 120)) v1 (N v1 v0 .z)) rfl h0)
theorem b500 (h0:(0<=x)/\(x<(b:Int)))(h1:b=a):Int.toNat x<a:=lN (fun q1=>(tnc x).elim (fun q2=>ac [b,a,Int.toNat x] [x] (M w0 (.c v0) (N v0 v1 (Z (.c v2) w0 (N v1 v2 .z)))) rfl h0.2 (oN h1) (oZ q2.2) q1) (fun q3=>ac [] [x] (Z n0 w0 (M w0 n0 .z)) rfl h0.1 q3.1))
theorem b501 (h0:a=b)(h1:b=c)(h2:c<60):a<60:=lN (an [a,b,c] (N v0 v1 (N v1 v2 (L v2 (.n 60) (N (.n 60) v0 .z)))) rfl (oN h0) (oN h1) h2)
theorem b502 (h0:(0<=x)/\(x<(a:Int))):x=(((Int.toNat x):Nat):Int):=qZ (kZ (fun q1=>(tnc x).elim (fun q2=>ac [Int.toNat x] [x] (Z w0 (.c v0) (M (.c v0) w0 .z)) rfl (pZ q2.2) q1) (fun q3=>ac [] [x] (Z n0 w0 (M w0 n0 .z)) rfl h0.1 q3.1))) (kZ (fun q4=>(tnc x).elim (fun q5=>ac [Int.toNat x] [x] (Z (.c v0) w0 (M w0 (.c v0) .z)) rfl (oZ q5.2) q4) (fun q6=>ac [] [x] (Z n0 w0 (M w0 n0 .z)) rfl h0.1 q6.1)))
theorem b503 (h0:a+160<b):a<b:=lN (an [a,b] (L (A v0 (.n 160)) v1 (N v1 v0 .z)) rfl h0)
theorem b504 (h0:a<40):a<100000:=lN (an [a] (L v0 (.n 40) (N (.n 100000) v0 .z)) rfl h0)
theorem b505 (h0:¬ ((a:Int)<(b:Int))):¬ (a<b):=an [b,a] (Z (.c v0) (.c v1) (L v1 v0 .z)) rfl (nlZ h0)
theorem b506 (h0:(a:Int)<(b:Int)):a<b:=lN (an [a,b] (M (.c v0) (.c v1) (N v1 v0 .z)) rfl h0)
theorem b507 (h0:0<a):(a:Int)≠0:=fun q1=>an [a] (L n0 v0 (Z (.c v0) n0 .z)) rfl h0 (oZ q1)
theorem b508 (h0:¬ ((a:Int)<(b:Int))):((a:Int) - (b:Int))=(((a - b):Nat):Int):=qZ (kZ (fun q1=>(sbc a b).elim (fun q2=>an [a - b,b,a] (N v2 (A v0 v1) (M (.c v0) (.sub (.c v2) (.c v1)) .z)) rfl (pN q2.2) q1) (fun q3=>an [b,a] (Z (.c v0) (.c v1) (L v1 v0 .z)) rfl (nlZ h0) q3.1))) (kZ (fun q4=>(sbc a b).elim (fun q5=>an [a - b,b,a] (N (A v0 v1) v2 (M (.sub (.c v2) (.c v1)) (.c v0) .z)) rfl (oN q5.2) q4) (fun q6=>an [b,a] (Z (.c v0) (.c v1) (L v1 v0 .z)) rfl (nlZ h0) q6.1)))
theorem b509 (h0:0<a):0<=(a:Int):=kZ (an [a] (L n0 v0 (M (.c v0) n0 .z)) rfl h0)
theorem b510 (h0:(a:Int)=0):a=0:=qN (kN (an [a] (Z (.c v0) n0 (L n0 v0 .z)) rfl (oZ h0))) (kN (an [a] (Z n0 (.c v0) (L v0 n0 .z)) rfl (pZ h0)))
theorem b511 (h0:(a:Int)≠0):0<a:=lN (fun q1=>(neZ h0).elim (fun q2=>an [a] (M (.c v0) n0 .z) rfl q2) (fun q3=>an [a] (M n0 (.c v0) (N v0 n0 .z)) rfl q3 q1))
theorem b512 (h0:¬ ((b:Int) > (a:Int))):(a:Int)=(((max a b):Nat):Int):=qZ (kZ (fun q1=>(mxN a b).elim (fun q2=>an [a,b,max a b] (N v0 v1 (N v1 v2 (M (.c v2) (.c v0) .z))) rfl q2.1 (pN q2.2) q1) (fun q3=>an [max a b,a] (N v1 v0 (M (.c v0) (.c v1) .z)) rfl (pN q3.2) q1))) (kZ (fun q4=>(mxN a b).elim (fun q5=>an [b,a,max a b] (Z (.c v0) (.c v1) (N v2 v0 (M (.c v1) (.c v2) .z))) rfl (nlZ h0) (oN q5.2) q4) (fun q6=>an [max a b,a] (N v0 v1 (M (.c v1) (.c v0) .z)) rfl (oN q6.2) q4)))
theorem b514 (h0:(((min a b):Nat):Int)=(((max a b):Nat):Int)):a=b:=qN (kN (fun q1=>(mnN a b).elim (fun q2=>an [a,b] (N v0 v1 (L v1 v0 .z)) rfl q2.1 q1) (fun q3=>(mxN a b).elim (fun q4=>an [b,a] (L v0 v1 (N v1 v0 .z)) rfl q3.1 q4.1) (fun q5=>an [min a b,max a b,b,a] (Z (.c v1) (.c v0) (L v2 v3 (N v0 v2 (N v3 v1 .z)))) rfl (pZ h0) q3.1 (oN q3.2) (pN q5.2))))) (kN (fun q6=>(mnN a b).elim (fun q7=>(mxN a b).elim (fun q8=>an [min a b,max a b,a,b] (Z (.c v1) (.c v0) (N v0 v2 (N v3 v1 (L v2 v3 .z)))) rfl (pZ h0) (oN q7.2) (pN q8.2) q6) (fun q9=>an [a,b] (N v0 v1 (L v1 v0 .z)) rfl q7.1 q9.1)) (fun q10=>an [b,a] (L v0 v1 (L v1 v0 .z)) rfl q10.1 q6)))
theorem b515  : ((((max a b):Nat):Int) - (((min a b):Nat):Int))=((((max a b) - (min a b)):Nat):Int):=qZ (kZ (fun q1=>(sbc (max a b) (min a b)).elim (fun q2=>an [(max a b) - (min a b),min a b,max a b] (N v2 (A v0 v1) (M (.c v0) (.sub (.c v2) (.c v1)) .z)) rfl (pN q2.2) q1) (fun q3=>an [max a b,min a b,(max a b) - (min a b)] (L v0 v1 (N n0 v2 (M (.c v2) (.sub (.c v0) (.c v1)) .z))) rfl q3.1 (pN q3.2) q1))) (kZ (fun q4=>(sbc (max a b) (min a b)).elim (fun q5=>an [(max a b) - (min a b),min a b,max a b] (N (A v0 v1) v2 (M (.sub (.c v2) (.c v1)) (.c v0) .z)) rfl (oN q5.2) q4) (fun q6=>(mxN a b).elim (fun q7=>(mnN a b).elim (fun q8=>an [max a b,min a b,a,b] (L v0 v1 (N v2 v3 (N v3 v0 (N v1 v2 .z)))) rfl q6.1 q7.1 (pN q7.2) (oN q8.2)) (fun q9=>an [a,b] (N v0 v1 (L v1 v0 .z)) rfl q7.1 q9.1)) (fun q10=>(mnN a b).elim (fun q11=>an [b,a] (L v0 v1 (N v1 v0 .z)) rfl q10.1 q11.1) (fun q12=>an [max a b,min a b,b,a] (L v0 v1 (L v2 v3 (N v3 v0 (N v1 v2 .z)))) rfl q6.1 q10.1 (pN q10.2) (oN q12.2))))))
theorem b516 (h0:(a:Int)<(b:Int)):(a:Int)=(((min b a):Nat):Int):=qZ (kZ (fun q1=>(mnN b a).elim (fun q2=>an [a,b] (M (.c v0) (.c v1) (N v1 v0 .z)) rfl h0 q2.1) (fun q3=>an [min b a,a] (N v1 v0 (M (.c v0) (.c v1) .z)) rfl (pN q3.2) q1))) (kZ (fun q4=>(mnN b a).elim (fun q5=>an [a,b] (M (.c v0) (.c v1) (N v1 v0 .z)) rfl h0 q5.1) (fun q6=>an [min b a,a] (N v0 v1 (M (.c v1) (.c v0) .z)) rfl (oN q6.2) q4)))
theorem b517 (h0:¬ ((b:Int)<(a:Int))):(a:Int)=(((min a b):Nat):Int):=qZ (kZ (fun q1=>(mnN a b).elim (fun q2=>an [min a b,a] (N v1 v0 (M (.c v0) (.c v1) .z)) rfl (pN q2.2) q1) (fun q3=>an [a,b] (Z (.c v0) (.c v1) (L v1 v0 .z)) rfl (nlZ h0) q3.1))) (kZ (fun q4=>(mnN a b).elim (fun q5=>an [min a b,a] (N v0 v1 (M (.c v1) (.c v0) .z)) rfl (oN q5.2) q4) (fun q6=>an [a,b] (Z (.c v0) (.c v1) (L v1 v0 .z)) rfl (nlZ h0) q6.1)))
theorem b518 (h0:(((min a b):Nat):Int)≠(((max a b):Nat):Int)):a≠b:=fun q1=>(mnN a b).elim (fun q2=>(mxN a b).elim (fun q3=>(neZ h0).elim (fun q4=>an [min a b,a,max a b,b] (N v1 v0 (N v2 v3 (M (.c v0) (.c v2) (N v3 v1 .z)))) rfl (pN q2.2) (oN q3.2) q4 (pN q1)) (fun q5=>an [a,b,min a b,max a b] (N v0 v1 (N v2 v0 (N v1 v3 (M (.c v3) (.c v2) .z)))) rfl q2.1 (oN q2.2) (pN q3.2) q5)) (fun q6=>an [a,b] (N v0 v1 (L v1 v0 .z)) rfl q2.1 q6.1)) (fun q7=>an [b,a] (L v0 v1 (N v1 v0 .z)) rfl q7.1 (oN q1))
theorem b519 (h0:(a:Int) > (b:Int)):(a:Int)=(((max b a):Nat):Int):=qZ (kZ (fun q1=>(mxN b a).elim (fun q2=>an [max b a,a] (N v1 v0 (M (.c v0) (.c v1) .z)) rfl (pN q2.2) q1) (fun q3=>an [b,a] (M (.c v0) (.c v1) (L v1 v0 .z)) rfl h0 q3.1))) (kZ (fun q4=>(mxN b a).elim (fun q5=>an [max b a,a] (N v0 v1 (M (.c v1) (.c v0) .z)) rfl (oN q5.2) q4) (fun q6=>an [b,a] (M (.c v0) (.c v1) (L v1 v0 .z)) rfl h0 q6.1)))
theorem b520 (h0:¬ ((((min b c):Nat):Int)<(a:Int))):(a:Int)=(((min a (min b c)):Nat):Int):=qZ (kZ (fun q1=>(mnN a (min b c)).elim (fun q3=>an [min a (min b c),a] (N v1 v0 (M (.c v0) (.c v1) .z)) rfl (pN q3.2) q1) (fun q4=>an [a,min b c] (Z (.c v0) (.c v1) (L v1 v0 .z)) rfl (nlZ h0) q4.1))) (kZ (fun q5=>(mnN a (min b c)).elim (fun q7=>an [min a (min b c),a] (N v0 v1 (M (.c v1) (.c v0) .z)) rfl (oN q7.2) q5) (fun q8=>an [a,min b c] (Z (.c v0) (.c v1) (L v1 v0 .z)) rfl (nlZ h0) q8.1)))
theorem b521 (h0:(((min a b):Nat):Int)<(c:Int)):(((min a b):Nat):Int)=(((min c (min a b)):Nat):Int):=qZ (kZ (fun q1=>(mnN c (min a b)).elim (fun q3=>an [min a b,c] (M (.c v0) (.c v1) (N v1 v0 .z)) rfl h0 q3.1) (fun q4=>an [min c (min a b),min a b] (N v1 v0 (M (.c v0) (.c v1) .z)) rfl (pN q4.2) q1))) (kZ (fun q5=>(mnN c (min a b)).elim (fun q7=>an [min a b,c] (M (.c v0) (.c v1) (N v1 v0 .z)) rfl h0 q7.1) (fun q8=>an [min c (min a b),min a b] (N v0 v1 (M (.c v1) (.c v0) .z)) rfl (oN q8.2) q5)))
theorem b522 (h0:a<=24):a<100000:=lN (an [a] (N v0 (.n 24) (N (.n 100000) v0 .z)) rfl h0)
theorem b523 (h0:¬ ((b:Int)<((a:Int)+1))):(((a:Int)+1) - 1)<(b:Int):=lZ (an [a,b] (Z (A (.c v0) n1) (.c v1) (Z (.c v1) (.sub (A (.c v0) n1) n1) .z)) rfl (nlZ h0))
theorem b524 (h0:¬ ((b:Int)<((a:Int)+1)))(h1:b<=24):(((a:Int)+1) - 1)<2 ^ 63:=lZ (ac [a,b] [2 ^ 63] (Z (A (.c v0) n1) (.c v1) (N v1 (.n 24) (Z (.n 9223372036854775808) w0 (Z w0 (.sub (A (.c v0) n1) n1) .z)))) rfl (nlZ h0) h1 (pZ p63))
theorem b525  : 0<=(((a:Int)+1) - 1):=kZ (an [a] (M (.sub (A (.c v0) n1) n1) n0 .z) rfl)
theorem b526  : ¬ ((a:Int)<0):=an [a] (M (.c v0) n0 .z) rfl
theorem b527 (h0:0<a):((0:Int)<=0)/\(0<(a:Int)):=⟨kZ (an [] (M n0 n0 .z) rfl),lZ (an [a] (L n0 v0 (Z (.c v0) n0 .z)) rfl h0)⟩
theorem b528 (h0:¬ (a=0)):(a - 1)+1=a:=qN (kN (fun q1=>(sbc a 1).elim (fun q2=>an [a - 1,a] (N (A v0 n1) v1 (L v1 (A v0 n1) .z)) rfl (oN q2.2) q1) (fun q3=>(neN h0).elim (fun q4=>an [a] (L v0 n0 .z) rfl q4) (fun q5=>an [a] (L v0 n1 (L n0 v0 .z)) rfl q3.1 q5)))) (kN (fun q6=>(sbc a 1).elim (fun q7=>an [a - 1,a] (N v1 (A v0 n1) (L (A v0 n1) v1 .z)) rfl (pN q7.2) q6) (fun q8=>an [a,a - 1] (L v0 n1 (N n0 v1 (L (A v1 n1) v0 .z))) rfl q8.1 (pN q8.2) q6)))
theorem b530 (h0:a<b)(h1:¬ (a=0)):(a - 1)+1<b:=lN (fun q1=>(sbc a 1).elim (fun q2=>an [a,b,a - 1] (L v0 v1 (N (A v2 n1) v0 (N v1 (A v2 n1) .z))) rfl h0 (oN q2.2) q1) (fun q3=>(neN h1).elim (fun q4=>an [a] (L v0 n0 .z) rfl q4) (fun q5=>an [a] (L v0 n1 (L n0 v0 .z)) rfl q3.1 q5)))
theorem b532 (h0:(0<=x)/\(x<=((0:Nat):Int))):x=0:=qZ (kZ (ac [] [x] (Z w0 (.c n0) (M n0 w0 .z)) rfl h0.2)) (kZ (ac [] [x] (Z n0 w0 (M w0 n0 .z)) rfl h0.1))
theorem b533 (h0:a=b)(h1:0<b):0<a:=lN (an [a,b] (N v1 v0 (L n0 v1 (N v0 n0 .z))) rfl (pN h0) h1)
theorem b534 (h0:b<a):(a+1) - (b+1)<(a+1) - b:=lN (fun q1=>(sbc (a+1) (b+1)).elim (fun q2=>(sbc (a+1) b).elim (fun q3=>an [(a+1) - (b+1),b,a,(a+1) - b] (N (A v0 (A v1 n1)) (A v2 n1) (N (A v2 n1) (A v3 v1) (N v3 v0 .z))) rfl (oN q2.2) (pN q3.2) q1) (fun q4=>an [b,a] (L v0 v1 (L (A v1 n1) v0 .z)) rfl h0 q4.1)) (fun q5=>an [b,a] (L v0 v1 (L (A v1 n1) (A v0 n1) .z)) rfl h0 q5.1))
theorem b535 (h0:a<=1):max (0+1) a<=1:=kN (fun q1=>(mxN (0+1) a).elim (fun q2=>an [a,max (0+1) a] (N v0 n1 (N v1 v0 (L n1 v1 .z))) rfl h0 (oN q2.2) q1) (fun q3=>an [max (0+1) a] (N v0 (A n0 n1) (L n1 v0 .z)) rfl (oN q3.2) q1))
theorem b536 (h0:a<=1):a+1<=64:=kN (an [a] (N v0 n1 (L (.n 64) (A v0 n1) .z)) rfl h0)
theorem b537 (h0:¬ (a<b))(h1:c<=a - b)(h2:(a - b) % c<c):a≠0:=fun q1=>(sbc a b).elim (fun q2=>an [c,a - b,(a - b) % c,b,a] (N v0 v1 (L v2 v0 (N (A v1 v3) v4 (N v4 n0 .z)))) rfl h1 h2 (oN q2.2) (oN q1)) (fun q3=>an [b,a] (N v0 v1 (L v1 v0 .z)) rfl (nlN h0) q3.1)
theorem b539 (h0:b=a)(h1:c<b)(h2:c=0):((0:Nat):Int)<(a:Int):=lZ (an [b,a,c] (N v0 v1 (L v2 v0 (N n0 v2 (Z (.c v1) (.c n0) .z)))) rfl (oN h0) h1 (pN h2))
theorem b540  : (Int.toNat (((a+1):Nat):Int))=a+1:=qN (kN (fun q1=>(tnc (((a+1):Nat):Int)).elim (fun q2=>an [(Int.toNat (((a+1):Nat):Int)),a] (Z (.c v0) (.c (A v1 n1)) (L (A v1 n1) v0 .z)) rfl (oZ q2.2) q1) (fun q3=>an [a] (M (.c (A v0 n1)) n0 .z) rfl q3.1))) (kN (fun q4=>(tnc (((a+1):Nat):Int)).elim (fun q5=>an [(Int.toNat (((a+1):Nat):Int)),a] (Z (.c (A v1 n1)) (.c v0) (L v0 (A v1 n1) .z)) rfl (pZ q5.2) q4) (fun q6=>an [a,(Int.toNat (((a+1):Nat):Int))] (M (.c (A v0 n1)) n0 (N n0 v1 (L v1 (A v0 n1) .z))) rfl q6.1 (pN q6.2) q4)))
theorem b541 (h0:a - 1=(b * (a / b))+((a % b) - 1))(h1:a % b<b)(h2:(b * (a / b))+(a % b)=a)(h3:0<a % b):(a % b) - 1<b:=lN (fun q1=>(sbc a 1).elim (fun q2=>an [a - 1,b * (a / b),(a % b) - 1,a % b,b,a] (N (A v1 v2) v0 (L v3 v4 (N v5 (A v1 v3) (N (A v0 n1) v5 (N v4 v2 .z))))) rfl (pN h0) h1 (pN h2) (oN q2.2) q1) (fun q3=>an [b * (a / b),a % b,a] (N (A v0 v1) v2 (L n0 v1 (L v2 n1 .z))) rfl (oN h2) h3 q3.1))
theorem b542 (h0:¬ (a<b))(h1:c<=a - b)(h2:(a - b) % c<c):¬ (a - 1<b):=fun q1=>(sbc a b).elim (fun q2=>(sbc a 1).elim (fun q3=>an [c,a - b,(a - b) % c,b,a,a - 1] (N v0 v1 (L v2 v0 (N (A v1 v3) v4 (N v4 (A v5 n1) (L v5 v3 .z))))) rfl h1 h2 (oN q2.2) (pN q3.2) q1) (fun q4=>an [b,a,a - 1] (N v0 v1 (L v1 n1 (N n0 v2 (L v2 v0 .z)))) rfl (nlN h0) q4.1 (pN q4.2) q1)) (fun q5=>an [b,a] (N v0 v1 (L v1 v0 .z)) rfl (nlN h0) q5.1)
theorem b543 (h0:0<a):a - 1<a:=lN (fun q1=>(sbc a 1).elim (fun q2=>an [a - 1,a] (N (A v0 n1) v1 (N v1 v0 .z)) rfl (oN q2.2) q1) (fun q3=>an [a] (L n0 v0 (L v0 n1 .z)) rfl h0 q3.1))
theorem b544 (h0:a % b=0)(h1:0<a):0+(a % b)≠a:=fun q1=>an [a % b,a] (N v0 n0 (L n0 v1 (N v1 (A n0 v0) .z))) rfl (oN h0) h1 (pN q1)
theorem b546 (h0:(a - b) % c=0)(h1:c<=a - b)(h2:(a - b) % c<c):0<a - b:=lN (an [(a - b) % c,c,a - b] (N n0 v0 (N v1 v2 (L v0 v1 (N v2 n0 .z)))) rfl (pN h0) h1 h2)
theorem b547  : 0<=(((a+1):Nat):Int):=kZ (an [a] (M (.c (A v0 n1)) n0 .z) rfl)
theorem b548 (h0:0<=(a:Int)):(Int.toNat (a:Int))=a:=qN (kN (fun q1=>(tnc (a:Int)).elim (fun q2=>an [(Int.toNat (a:Int)),a] (Z (.c v0) (.c v1) (L v1 v0 .z)) rfl (oZ q2.2) q1) (fun q3=>an [a] (Z n0 (.c v0) (M (.c v0) n0 .z)) rfl h0 q3.1))) (kN (fun q4=>(tnc (a:Int)).elim (fun q5=>an [(Int.toNat (a:Int)),a] (Z (.c v1) (.c v0) (L v0 v1 .z)) rfl (pZ q5.2) q4) (fun q6=>an [a] (Z n0 (.c v0) (M (.c v0) n0 .z)) rfl h0 q6.1)))
theorem b549 (h0:¬ (a=0))(h1:0<=(a:Int)):(a - 1)+1=a:=qN (kN (fun q1=>(sbc a 1).elim (fun q2=>an [a - 1,a] (N (A v0 n1) v1 (L v1 (A v0 n1) .z)) rfl (oN q2.2) q1) (fun q3=>(neN h0).elim (fun q4=>an [a] (Z n0 (.c v0) (L v0 n0 .z)) rfl h1 q4) (fun q5=>an [a] (L v0 n1 (L n0 v0 .z)) rfl q3.1 q5)))) (kN (fun q6=>(sbc a 1).elim (fun q7=>an [a - 1,a] (N v1 (A v0 n1) (L (A v0 n1) v1 .z)) rfl (pN q7.2) q6) (fun q8=>an [a,a - 1] (L v0 n1 (N n0 v1 (L (A v1 n1) v0 .z))) rfl q8.1 (pN q8.2) q6)))
theorem b550 (h0:b+((c - b) % d)=a)(h1:(c - b) % d > 0):a≠0:=fun q1=>an [b,(c - b) % d,a] (N (A v0 v1) v2 (L n0 v1 (N v2 n0 .z))) rfl (oN h0) h1 (oN q1)
theorem b551 (h0:b+((d - b) % c)=a)(h1:(d - b) % c > 0)(h2:(d - b) % c<c):(a - 1) - b<c:=lN (fun q1=>(sbc a 1).elim (fun q3=>(sbc (a - 1) b).elim (fun q4=>an [b,(d - b) % c,a,c,a - 1,(a - 1) - b] (N v2 (A v0 v1) (L v1 v3 (N (A v4 n1) v2 (N (A v5 v0) v4 (N v3 v5 .z))))) rfl (pN h0) h2 (oN q3.2) (oN q4.2) q1) (fun q5=>an [b,(d - b) % c,a,a - 1] (N (A v0 v1) v2 (L n0 v1 (N v2 (A v3 n1) (L v3 v0 .z)))) rfl (oN h0) h1 (pN q3.2) q5.1)) (fun q6=>an [b,(d - b) % c,a] (N (A v0 v1) v2 (L n0 v1 (L v2 n1 .z))) rfl (oN h0) h1 q6.1))
theorem b552 (h0:b+1<=a)(h1:a<=b+1):a=1+b:=qN (kN (an [a,b] (N v0 (A v1 n1) (L (A n1 v1) v0 .z)) rfl h1)) (kN (an [b,a] (N (A v0 n1) v1 (L v1 (A n1 v0) .z)) rfl h0))
theorem b553 (h0:x≠y)(h1:x<=y):x<y:=lZ (fun q1=>(neZ h0).elim (fun q2=>ac [] [x,y] (M w0 w1 (Z w1 w0 .z)) rfl q2 q1) (fun q3=>ac [] [x,y] (Z w0 w1 (M w1 w0 .z)) rfl h1 q3))
theorem b554 (h0:a<b)(h1:c<b):a - 1<b:=lN (fun q1=>(sbc a 1).elim (fun q2=>an [a,b,a - 1] (L v0 v1 (N (A v2 n1) v0 (N v1 v2 .z))) rfl h0 (oN q2.2) q1) (fun q3=>an [a,b,a - 1] (L v0 v1 (N v2 n0 (N v1 v2 .z))) rfl h0 (oN q3.2) q1))
theorem b555 (h0:0<b):a+(b - 1)=(a+b) - 1:=qN (kN (fun q1=>(sbc b 1).elim (fun q2=>(sbc (a+b) 1).elim (fun q3=>an [b - 1,b,(a+b) - 1,a] (N (A v0 n1) v1 (N (A v3 v1) (A v2 n1) (L v2 (A v3 v0) .z))) rfl (oN q2.2) (pN q3.2) q1) (fun q4=>an [b - 1,b,a,(a+b) - 1] (N (A v0 n1) v1 (L (A v2 v1) n1 (N n0 v3 (L v3 (A v2 v0) .z)))) rfl (oN q2.2) q4.1 (pN q4.2) q1)) (fun q5=>an [b] (L n0 v0 (L v0 n1 .z)) rfl h0 q5.1))) (kN (fun q6=>(sbc b 1).elim (fun q7=>(sbc (a+b) 1).elim (fun q8=>an [b - 1,b,(a+b) - 1,a] (N v1 (A v0 n1) (N (A v2 n1) (A v3 v1) (L (A v3 v0) v2 .z))) rfl (pN q7.2) (oN q8.2) q6) (fun q9=>an [b,a] (L n0 v0 (L (A v1 v0) n1 .z)) rfl h0 q9.1)) (fun q10=>an [b] (L n0 v0 (L v0 n1 .z)) rfl h0 q10.1)))
theorem b556 (h0:b+((c - b) % d)=a)(h1:(c - b) % d > 0):¬ (a - 1<b):=fun q1=>(sbc a 1).elim (fun q3=>an [b,(c - b) % d,a,a - 1] (N (A v0 v1) v2 (L n0 v1 (N v2 (A v3 n1) (L v3 v0 .z)))) rfl (oN h0) h1 (pN q3.2) q1) (fun q4=>an [b,(c - b) % d,a,a - 1] (N (A v0 v1) v2 (L n0 v1 (L v2 n1 (N n0 v3 (L v3 v0 .z))))) rfl (oN h0) h1 q4.1 (pN q4.2) q1)
theorem b557 (h0:(b * (a / b))+(a % b)=a)(h1:0<a % b):a - 1=(b * (a / b))+((a % b) - 1):=qN (kN (fun q1=>(sbc a 1).elim (fun q2=>(sbc (a % b) 1).elim (fun q3=>an [b * (a / b),a % b,a,a - 1,(a % b) - 1] (N v2 (A v0 v1) (N (A v3 n1) v2 (N v1 (A v4 n1) (L (A v0 v4) v3 .z)))) rfl (pN h0) (oN q2.2) (pN q3.2) q1) (fun q4=>an [a % b] (L n0 v0 (L v0 n1 .z)) rfl h1 q4.1)) (fun q5=>an [b * (a / b),a % b,a] (N (A v0 v1) v2 (L n0 v1 (L v2 n1 .z))) rfl (oN h0) h1 q5.1))) (kN (fun q6=>(sbc a 1).elim (fun q7=>(sbc (a % b) 1).elim (fun q8=>an [b * (a / b),a % b,a,a - 1,(a % b) - 1] (N (A v0 v1) v2 (N v2 (A v3 n1) (N (A v4 n1) v1 (L v3 (A v0 v4) .z)))) rfl (oN h0) (pN q7.2) (oN q8.2) q6) (fun q9=>an [a % b] (L n0 v0 (L v0 n1 .z)) rfl h1 q9.1)) (fun q10=>an [b * (a / b),a % b,a] (N (A v0 v1) v2 (L n0 v1 (L v2 n1 .z))) rfl (oN h0) h1 q10.1)))
theorem b558 (h0:a+1<c)(h1:c=b):(((a+1):Nat):Int)<(b:Int):=lZ (an [a,c,b] (L (A v0 n1) v1 (N v1 v2 (Z (.c v2) (.c (A v0 n1)) .z))) rfl h0 (oN h1))
theorem b559 (h0:a+((b - a) % c)=d)(h1:(b - a) % c > 0):a+(((b - a) % c) - 1)=a+((d - 1) - a):=qN (kN (fun q1=>(sbc ((b - a) % c) 1).elim (fun q3=>(sbc d 1).elim (fun q4=>(sbc (d - 1) a).elim (fun q5=>an [a,(b - a) % c,d,((b - a) % c) - 1,d - 1,(d - 1) - a] (N (A v0 v1) v2 (N (A v3 n1) v1 (N v2 (A v4 n1) (N v4 (A v5 v0) (L (A v0 v5) (A v0 v3) .z))))) rfl (oN h0) (oN q3.2) (pN q4.2) (pN q5.2) q1) (fun q6=>an [a,(b - a) % c,d,d - 1] (N (A v0 v1) v2 (L n0 v1 (N v2 (A v3 n1) (L v3 v0 .z)))) rfl (oN h0) h1 (pN q4.2) q6.1)) (fun q7=>an [a,(b - a) % c,d,((b - a) % c) - 1,(d - 1) - a] (N (A v0 v1) v2 (N (A v3 n1) v1 (L v2 n1 (L (A v0 v4) (A v0 v3) .z)))) rfl (oN h0) (oN q3.2) q7.1 q1)) (fun q8=>an [(b - a) % c] (L n0 v0 (L v0 n1 .z)) rfl h1 q8.1))) (kN (fun q9=>(sbc ((b - a) % c) 1).elim (fun q11=>(sbc d 1).elim (fun q12=>(sbc (d - 1) a).elim (fun q13=>an [a,(b - a) % c,d,((b - a) % c) - 1,d - 1,(d - 1) - a] (N v2 (A v0 v1) (N v1 (A v3 n1) (N (A v4 n1) v2 (N (A v5 v0) v4 (L (A v0 v3) (A v0 v5) .z))))) rfl (pN h0) (pN q11.2) (oN q12.2) (oN q13.2) q9) (fun q14=>an [a,(b - a) % c,d,d - 1] (N (A v0 v1) v2 (L n0 v1 (N v2 (A v3 n1) (L v3 v0 .z)))) rfl (oN h0) h1 (pN q12.2) q14.1)) (fun q15=>an [a,(b - a) % c,d] (N (A v0 v1) v2 (L n0 v1 (L v2 n1 .z))) rfl (oN h0) h1 q15.1)) (fun q16=>an [(b - a) % c] (L n0 v0 (L v0 n1 .z)) rfl h1 q16.1)))
theorem b560 (h0:0=(a:Int)):a=0:=qN (kN (an [a] (Z (.c v0) n0 (L n0 v0 .z)) rfl (pZ h0))) (kN (an [a] (Z n0 (.c v0) (L v0 n0 .z)) rfl (oZ h0)))
theorem b561 (h0:¬ (a=0))(h1:0<=(a:Int))(h2:(a:Int)<(c:Int))(h3:b=c):(a - 1)+1<b:=lN (fun q1=>(sbc a 1).elim (fun q2=>an [a,c,b,a - 1] (M (.c v0) (.c v1) (N v1 v2 (N (A v3 n1) v0 (N v2 (A v3 n1) .z)))) rfl h2 (pN h3) (oN q2.2) q1) (fun q3=>(neN h0).elim (fun q4=>an [a] (Z n0 (.c v0) (L v0 n0 .z)) rfl h1 q4) (fun q5=>an [a] (L v0 n1 (L n0 v0 .z)) rfl q3.1 q5)))
theorem b562 (h0:0<a / b):a / b=((a / b) - 1)+1:=qN (kN (fun q1=>(sbc (a / b) 1).elim (fun q2=>an [(a / b) - 1,a / b] (N v1 (A v0 n1) (L (A v0 n1) v1 .z)) rfl (pN q2.2) q1) (fun q3=>an [a / b] (L n0 v0 (L v0 n1 .z)) rfl h0 q3.1))) (kN (fun q4=>(sbc (a / b) 1).elim (fun q5=>an [(a / b) - 1,a / b] (N (A v0 n1) v1 (L v1 (A v0 n1) .z)) rfl (oN q5.2) q4) (fun q6=>an [a / b] (L n0 v0 (L v0 n1 .z)) rfl h0 q6.1)))
theorem b563 (h0:(b * (c+1))+(a % b)=a)(h1:b * (c+1)=(b * c)+b)(h2:a % b=0)(h3:0<a)(h4:0<b):a - 1=(b * c)+(b - 1):=qN (kN (fun q1=>(sbc a 1).elim (fun q2=>(sbc b 1).elim (fun q3=>an [b * (c+1),a % b,a,b * c,b,a - 1,b - 1] (N v2 (A v0 v1) (N v0 (A v3 v4) (N v1 n0 (N (A v5 n1) v2 (N v4 (A v6 n1) (L (A v3 v6) v5 .z)))))) rfl (pN h0) (oN h1) (oN h2) (oN q2.2) (pN q3.2) q1) (fun q4=>an [b] (L n0 v0 (L v0 n1 .z)) rfl h4 q4.1)) (fun q5=>an [a] (L n0 v0 (L v0 n1 .z)) rfl h3 q5.1))) (kN (fun q6=>(sbc a 1).elim (fun q7=>(sbc b 1).elim (fun q8=>an [b * (c+1),a % b,a,b * c,b,a - 1,b - 1] (N (A v0 v1) v2 (N (A v3 v4) v0 (N n0 v1 (N v2 (A v5 n1) (N (A v6 n1) v4 (L v5 (A v3 v6) .z)))))) rfl (oN h0) (pN h1) (pN h2) (pN q7.2) (oN q8.2) q6) (fun q9=>an [b] (L n0 v0 (L v0 n1 .z)) rfl h4 q9.1)) (fun q10=>an [a] (L n0 v0 (L v0 n1 .z)) rfl h3 q10.1)))
theorem b564 (h0:c+(a - c)=b)(h1:¬ (a<c)):a=b:=qN (kN (fun q1=>(sbc a c).elim (fun q2=>an [c,a - c,b,a] (N (A v0 v1) v2 (N v3 (A v1 v0) (L v2 v3 .z))) rfl (oN h0) (pN q2.2) q1) (fun q3=>an [c,a] (N v0 v1 (L v1 v0 .z)) rfl (nlN h1) q3.1))) (kN (fun q4=>(sbc a c).elim (fun q5=>an [c,a - c,b,a] (N v2 (A v0 v1) (N (A v1 v0) v3 (L v3 v2 .z))) rfl (pN h0) (oN q5.2) q4) (fun q6=>an [c,a] (N v0 v1 (L v1 v0 .z)) rfl (nlN h1) q6.1)))
theorem b565 (h0:a<=c)(h1:c<b+1):a<b+1:=lN (an [a,c,b] (N v0 v1 (L v1 (A v2 n1) (N (A v2 n1) v0 .z))) rfl h0 h1)
theorem b566 (h0:a+1<b+1):a<b+1:=lN (an [a,b] (L (A v0 n1) (A v1 n1) (N (A v1 n1) v0 .z)) rfl h0)
theorem b567 (h0:a<min b c)(h1:c=b+1):a+1<b+1:=lN (fun q1=>(mnN b c).elim (fun q2=>an [a,min b c,b] (L v0 v1 (N v1 v2 (N (A v2 n1) (A v0 n1) .z))) rfl h0 (oN q2.2) q1) (fun q3=>an [c,b] (N (A v1 n1) v0 (L v0 v1 .z)) rfl (pN h1) q3.1))
theorem b568 (h0:a<=0):(a:Int)=0:=qZ (kZ (an [a] (N v0 n0 (M n0 (.c v0) .z)) rfl h0)) (kZ (an [a] (M (.c v0) n0 .z) rfl))
theorem b569 (h0:b=a):0<=(a:Int):=kZ (an [a] (M (.c v0) n0 .z) rfl)
theorem b570 (h0:a<=c)(h1:c<b+1):(a:Int)<(((b+1):Nat):Int):=lZ (an [a,c,b] (N v0 v1 (L v1 (A v2 n1) (Z (.c (A v2 n1)) (.c v0) .z))) rfl h0 h1)
theorem b571 (h0:a<min b c)(h1:c=b+1):a<b:=lN (fun q1=>(mnN b c).elim (fun q2=>an [a,min b c,b] (L v0 v1 (N v1 v2 (N v2 v0 .z))) rfl h0 (oN q2.2) q1) (fun q3=>an [c,b] (N (A v1 n1) v0 (L v0 v1 .z)) rfl (pN h1) q3.1))
theorem b572  : 0<a+1:=lN (an [a] (N (A v0 n1) n0 .z) rfl)
theorem b573 (h0:a+1<b+1)(h1:c=b+1):a<min b c:=lN (fun q1=>(mnN b c).elim (fun q2=>an [a,b,min b c] (L (A v0 n1) (A v1 n1) (N v1 v2 (N v2 v0 .z))) rfl h0 (pN q2.2) q1) (fun q3=>an [c,b] (N (A v1 n1) v0 (L v0 v1 .z)) rfl (pN h1) q3.1))
theorem b574 (h0:y<x):¬ (x<y):=ac [] [y,x] (M w0 w1 (M w1 w0 .z)) rfl h0
theorem b575 (h0:x<100000):x<2 ^ 62:=lZ (ac [] [x,2 ^ 62] (M w0 (.n 100000) (Z (.n 4611686018427387904) w1 (Z w1 w0 .z))) rfl h0 (pZ p62))
theorem b576 (h0:0<=x) : -(2 ^ 62)<=(x+(a:Int)):=kZ (ac [a] [x,2 ^ 62,-(2 ^ 62)] (Z n0 w0 (Z (.n 4611686018427387904) w1 (Z (A w2 w1) n0 (M (A w0 (.c v0)) w2 .z)))) rfl h0 (pZ p62) (oZ (Int.add_left_neg (2 ^ 62))))
theorem b577 (h0:¬ (b<=a)):a<=b:=kN (an [a,b] (L v0 v1 (L v1 v0 .z)) rfl (neN_ h0))
theorem b578  : ((x+(a:Int)) - x)=(a:Int):=qZ (kZ (ac [a] [x] (M (.c v0) (.sub (A w0 (.c v0)) w0) .z) rfl)) (kZ (ac [a] [x] (M (.sub (A w0 (.c v0)) w0) (.c v0) .z) rfl))
theorem b579 (h0:a<10000):a<=16777216:=kN (an [a] (L v0 (.n 10000) (L (.n 16777216) v0 .z)) rfl h0)
theorem b580 (h0:¬ (a<=b)):(max 0 (min (a:Int) (b:Int)))=(max 0 (min (b:Int) (b:Int))):=qZ (kZ (fun q1=>(mnZ (a:Int) (b:Int)).elim (fun q2=>an [b,a] (L v0 v1 (Z (.c v1) (.c v0) .z)) rfl (neN_ h0) q2.1) (fun q3=>(mxZ 0 (min (a:Int) (b:Int))).elim (fun q4=>(mnZ (b:Int) (b:Int)).elim (fun q5=>(mxZ 0 (min (b:Int) (b:Int))).elim (fun q6=>ac [b] [(min (a:Int) (b:Int)),(max 0 (min (a:Int) (b:Int))),(min (b:Int) (b:Int)),(max 0 (min (b:Int) (b:Int)))] (Z w0 (.c v0) (Z w1 w0 (Z (.c v0) w2 (Z w2 w3 (M w3 w1 .z))))) rfl (oZ q3.2) (oZ q4.2) (pZ q5.2) (pZ q6.2) q1) (fun q7=>ac [b] [(min (a:Int) (b:Int)),(min (b:Int) (b:Int))] (Z w0 (.c v0) (Z n0 w0 (Z (.c v0) w1 (M w1 n0 .z)))) rfl (oZ q3.2) q4.1 (pZ q5.2) q7.1)) (fun q8=>an [b] (M (.c v0) (.c v0) .z) rfl q8.1)) (fun q9=>ac [b] [(min (a:Int) (b:Int))] (Z (.c v0) w0 (M w0 n0 .z)) rfl (pZ q3.2) q9.1)))) (kZ (fun q10=>(mnZ (a:Int) (b:Int)).elim (fun q11=>an [b,a] (L v0 v1 (Z (.c v1) (.c v0) .z)) rfl (neN_ h0) q11.1) (fun q12=>(mxZ 0 (min (a:Int) (b:Int))).elim (fun q13=>(mnZ (b:Int) (b:Int)).elim (fun q14=>(mxZ 0 (min (b:Int) (b:Int))).elim (fun q15=>ac [b] [(min (a:Int) (b:Int)),(max 0 (min (a:Int) (b:Int))),(min (b:Int) (b:Int)),(max 0 (min (b:Int) (b:Int)))] (Z (.c v0) w0 (Z w0 w1 (Z w2 (.c v0) (Z w3 w2 (M w1 w3 .z))))) rfl (pZ q12.2) (pZ q13.2) (oZ q14.2) (oZ q15.2) q10) (fun q16=>ac [b] [(min (a:Int) (b:Int)),(min (b:Int) (b:Int))] (Z w0 (.c v0) (Z n0 w0 (Z (.c v0) w1 (M w1 n0 .z)))) rfl (oZ q12.2) q13.1 (pZ q14.2) q16.1)) (fun q17=>an [b] (M (.c v0) (.c v0) .z) rfl q17.1)) (fun q18=>ac [b] [(min (a:Int) (b:Int))] (Z (.c v0) w0 (M w0 n0 .z)) rfl (pZ q12.2) q18.1))))
theorem b581 (h0:0<=x) : -(2 ^ 62)<=x:=kZ (ac [] [x,2 ^ 62,-(2 ^ 62)] (Z n0 w0 (Z (.n 4611686018427387904) w1 (Z (A w2 w1) n0 (M w0 w2 .z)))) rfl h0 (pZ p62) (oZ (Int.add_left_neg (2 ^ 62))))
theorem b582 (h0:a<100000)(h1:x<100000):(x+(a:Int))<2 ^ 62:=lZ (ac [a] [x,2 ^ 62] (L v0 (.n 100000) (M w0 (.n 100000) (Z (.n 4611686018427387904) w1 (Z w1 (A w0 (.c v0)) .z)))) rfl h0 h1 (pZ p62))
theorem b583 (h0:¬ (x<(x+(a:Int)))):0=(a:Int):=qZ (kZ (an [a] (M (.c v0) n0 .z) rfl)) (kZ (ac [a] [x] (Z (A w0 (.c v0)) w0 (M n0 (.c v0) .z)) rfl (nlZ h0)))
theorem b584  : a+1≠(((a+1)+1)+1)+1:=fun q1=>an [a] (N (A (A (A (A v0 n1) n1) n1) n1) (A v0 n1) .z) rfl (pN q1)
theorem b585  : (((a+1)+1)+1)+1≠((a+1)+1)+1:=fun q1=>an [a] (N (A (A (A (A v0 n1) n1) n1) n1) (A (A (A v0 n1) n1) n1) .z) rfl (oN q1)
theorem b586 (h0:0<a):0<a+1:=lN (an [a] (L n0 v0 (N (A v0 n1) n0 .z)) rfl h0)
theorem b587  : (a+1)+1≠(((a+1)+1)+1)+1:=fun q1=>an [a] (N (A (A (A (A v0 n1) n1) n1) n1) (A (A v0 n1) n1) .z) rfl (pN q1)
theorem b588 (h0:a=b)(h1:b=c+1)(h2:c<24):a<10000:=lN (an [a,b,c] (N v0 v1 (N v1 (A v2 n1) (L v2 (.n 24) (N (.n 10000) v0 .z)))) rfl (oN h0) (oN h1) h2)
theorem b589 (h0:a<b):a≠((b+1)+1)+1:=fun q1=>an [a,b] (L v0 v1 (N (A (A (A v1 n1) n1) n1) v0 .z)) rfl h0 (pN q1)
theorem b590 (h0:a<=min b c)(h1:c=b+1)(h2:b<24):a<60:=lN (fun q1=>(mnN b c).elim (fun q2=>an [a,min b c,b] (N v0 v1 (L v2 (.n 24) (N v1 v2 (N (.n 60) v0 .z)))) rfl h0 h2 (oN q2.2) q1) (fun q3=>an [c,b] (N (A v1 n1) v0 (L v0 v1 .z)) rfl (pN h1) q3.1))
theorem b591  : ((a:Int)+1)=(((a+1):Nat):Int):=qZ (kZ (an [a] (M (.c (A v0 n1)) (A (.c v0) n1) .z) rfl)) (kZ (an [a] (M (A (.c v0) n1) (.c (A v0 n1)) .z) rfl))
theorem b592 (h0:a=b)(h1:b<=c)(h2:c<24):a<5000:=lN (an [a,b,c] (N v0 v1 (N v1 v2 (L v2 (.n 24) (N (.n 5000) v0 .z)))) rfl (oN h0) h1 h2)
theorem b593  : a+1≠((a+1)+1)+1:=fun q1=>an [a] (N (A (A (A v0 n1) n1) n1) (A v0 n1) .z) rfl (pN q1)
theorem b594 (h0:a<=min b c)(h1:c=b+1)(h2:b<24):a<24:=lN (fun q1=>(mnN b c).elim (fun q2=>an [a,min b c,b] (N v0 v1 (L v2 (.n 24) (N v1 v2 (N (.n 24) v0 .z)))) rfl h0 h2 (oN q2.2) q1) (fun q3=>an [c,b] (N (A v1 n1) v0 (L v0 v1 .z)) rfl (pN h1) q3.1))
theorem b595 (h0:a<b):a≠(((b+1)+1)+1)+1:=fun q1=>an [a,b] (L v0 v1 (N (A (A (A (A v1 n1) n1) n1) n1) v0 .z)) rfl h0 (pN q1)
theorem b596 (h0:(a:Int)≠0):a≠0:=fun q1=>(neZ h0).elim (fun q2=>an [a] (M (.c v0) n0 (N n0 v0 .z)) rfl q2 (pN q1)) (fun q3=>an [a] (M n0 (.c v0) (N v0 n0 .z)) rfl q3 (oN q1))
theorem b597 (h0:a<24):a+1<60:=lN (an [a] (L v0 (.n 24) (N (.n 60) (A v0 n1) .z)) rfl h0)
theorem b598 (h0:a=1+b):¬ ((a:Int)≠(1+(b:Int))):=fun q1=>(neZ q1).elim (fun q2=>an [a,b] (N (A n1 v1) v0 (M (.c v0) (A n1 (.c v1)) .z)) rfl (pN h0) q2) (fun q3=>an [a,b] (N v0 (A n1 v1) (M (A n1 (.c v1)) (.c v0) .z)) rfl (oN h0) q3)
theorem b599 (h0:b=a+1)(h1:a<24):min a b<60:=lN (fun q1=>(mnN a b).elim (fun q2=>an [a,min a b] (L v0 (.n 24) (N v1 v0 (N (.n 60) v1 .z))) rfl h1 (oN q2.2) q1) (fun q3=>an [b,a] (N (A v1 n1) v0 (L v0 v1 .z)) rfl (pN h0) q3.1))
theorem b600 (h0:a=b)(h1:b<24):a<100000:=lN (an [a,b] (N v0 v1 (L v1 (.n 24) (N (.n 100000) v0 .z))) rfl (oN h0) h1)
theorem b601  : (a+1)+1≠((a+1)+1)+1:=fun q1=>an [a] (N (A (A (A v0 n1) n1) n1) (A (A v0 n1) n1) .z) rfl (pN q1)
theorem b602  : ¬ ((((a+1):Nat):Int)≠((a:Int)+1)):=fun q1=>(neZ q1).elim (fun q2=>an [a] (M (.c (A v0 n1)) (A (.c v0) n1) .z) rfl q2) (fun q3=>an [a] (M (A (.c v0) n1) (.c (A v0 n1)) .z) rfl q3)
theorem b603 (h0:a<=b)(h1:b=c+1)(h2:c<24):a<60:=lN (an [a,b,c] (N v0 v1 (N v1 (A v2 n1) (L v2 (.n 24) (N (.n 60) v0 .z)))) rfl h0 (oN h1) h2)
theorem b604 (h0:a<10):a<5000:=lN (an [a] (L v0 (.n 10) (N (.n 5000) v0 .z)) rfl h0)
theorem b605 (h0:(a:Int)≠(b:Int)):a≠b:=fun q1=>(neZ h0).elim (fun q2=>an [a,b] (M (.c v0) (.c v1) (N v1 v0 .z)) rfl q2 (pN q1)) (fun q3=>an [b,a] (M (.c v0) (.c v1) (N v1 v0 .z)) rfl q3 (oN q1))
theorem b606 (h0:a<24):a+1<100000:=lN (an [a] (L v0 (.n 24) (N (.n 100000) (A v0 n1) .z)) rfl h0)
theorem b607 (h0:a<b+1)(h1:b<24):(a:Int)<2 ^ 63:=lZ (ac [a,b] [2 ^ 63] (L v0 (A v1 n1) (L v1 (.n 24) (Z (.n 9223372036854775808) w0 (Z w0 (.c v0) .z)))) rfl h0 h1 (pZ p63))
theorem b608 (h0:a=b+1)(h1:b<24):a<60:=lN (an [a,b] (N v0 (A v1 n1) (L v1 (.n 24) (N (.n 60) v0 .z))) rfl (oN h0) h1)
theorem b609  : ((a+1)+1)+1≠(((a+1)+1)+1)+1:=fun q1=>an [a] (N (A (A (A (A v0 n1) n1) n1) n1) (A (A (A v0 n1) n1) n1) .z) rfl (pN q1)
theorem b610 (h0:a<=b)(h1:b=c+1)(h2:c<24):a<25:=lN (an [a,b,c] (N v0 v1 (N v1 (A v2 n1) (L v2 (.n 24) (N (.n 25) v0 .z)))) rfl h0 (oN h1) h2)
theorem b611 (h0:b=c)(h1:a<d+1)(h2:c=d+1):a<b:=lN (an [b,c,a,d] (N v1 v0 (L v2 (A v3 n1) (N (A v3 n1) v1 (N v0 v2 .z)))) rfl (pN h0) h1 (pN h2))
theorem b612 (h0:a<c+1)(h1:b=c+1):a<b:=lN (an [a,c,b] (L v0 (A v1 n1) (N (A v1 n1) v2 (N v2 v0 .z))) rfl h0 (pN h1))
theorem b613 (h0:c<a)(h1:d<c)(h2:e<d)(h3:b<e):a≠b:=fun q1=>an [c,a,d,e,b] (L v0 v1 (L v2 v0 (L v3 v2 (L v4 v3 (N v1 v4 .z))))) rfl h0 h1 h2 h3 (oN q1)
theorem b614 (h0:c<a)(h1:b<c):a≠b:=fun q1=>an [c,a,b] (L v0 v1 (L v2 v0 (N v1 v2 .z))) rfl h0 h1 (oN q1)
theorem b615 (h0:c<a)(h1:d<c)(h2:b<d):a≠b:=fun q1=>an [c,a,d,b] (L v0 v1 (L v2 v0 (L v3 v2 (N v1 v3 .z)))) rfl h0 h1 h2 (oN q1)
theorem b616 (h0:c<a)(h1:d<c)(h2:e<d)(h3:f<e)(h4:b<f):a≠b:=fun q1=>an [c,a,d,e,f,b] (L v0 v1 (L v2 v0 (L v3 v2 (L v4 v3 (L v5 v4 (N v1 v5 .z)))))) rfl h0 h1 h2 h3 h4 (oN q1)
theorem b617 (h0:c<a)(h1:d<c)(h2:e<d)(h3:f<e)(h4:g<f)(h5:b<g):a≠b:=fun q1=>an [c,a,d,e,f,g,b] (L v0 v1 (L v2 v0 (L v3 v2 (L v4 v3 (L v5 v4 (L v6 v5 (N v1 v6 .z))))))) rfl h0 h1 h2 h3 h4 h5 (oN q1)
theorem b619 (h0:(4+(b:Int))=(a:Int)):0<a:=lN (an [b,a] (Z (A (.n 4) (.c v0)) (.c v1) (N v1 n0 .z)) rfl (oZ h0))
theorem b620 (h0:(4+(b:Int))=(a:Int)):0<=((a:Int)+1):=kZ (an [a] (M (A (.c v0) n1) n0 .z) rfl)
theorem b621 (h0:b=c+1)(h1:a<c+1):a<b:=lN (an [b,c,a] (N (A v1 n1) v0 (L v2 (A v1 n1) (N v0 v2 .z))) rfl (pN h0) h1)
theorem b622 (h0:(4+(b:Int))=(a:Int))(h1:b<14):a+1<=24:=kN (an [b,a] (Z (.c v1) (A (.n 4) (.c v0)) (L v0 (.n 14) (L (.n 24) (A v1 n1) .z))) rfl (pZ h0) h1)
theorem b623  : (1+(a:Int))=(((1+a):Nat):Int):=qZ (kZ (an [a] (M (.c (A n1 v0)) (A n1 (.c v0)) .z) rfl)) (kZ (an [a] (M (A n1 (.c v0)) (.c (A n1 v0)) .z) rfl))
theorem b624  : (((a:Int)+1)+(b:Int))=((((a+1)+b):Nat):Int):=qZ (kZ (an [a,b] (M (.c (A (A v0 n1) v1)) (A (A (.c v0) n1) (.c v1)) .z) rfl)) (kZ (an [a,b] (M (A (A (.c v0) n1) (.c v1)) (.c (A (A v0 n1) v1)) .z) rfl))
theorem b625  : min 24 a<=24:=kN (fun q1=>(mnN 24 a).elim (fun q2=>an [min 24 a] (N v0 (.n 24) (L (.n 24) v0 .z)) rfl (oN q2.2) q1) (fun q3=>an [a,min 24 a] (L v0 (.n 24) (N v1 v0 (L (.n 24) v1 .z))) rfl q3.1 (oN q3.2) q1))
theorem b626  : ((a:Int)+4)=(((a:Int)+1)+((3:Nat):Int)):=qZ (kZ (an [a] (M (A (A (.c v0) n1) (.c (.n 3))) (A (.c v0) (.n 4)) .z) rfl)) (kZ (an [a] (M (A (.c v0) (.n 4)) (A (A (.c v0) n1) (.c (.n 3))) .z) rfl))
theorem b627 (h0:(4+(b:Int))=(a:Int))(h1:b<14):a<24:=lN (an [b,a] (Z (.c v1) (A (.n 4) (.c v0)) (L v0 (.n 14) (N (.n 24) v1 .z))) rfl (pZ h0) h1)
theorem b628  : 1<=1+a:=kN (an [a] (L (A n1 v0) n1 .z) rfl)
theorem b630 (h0:a<4):1+a<=4:=kN (an [a] (L v0 (.n 4) (L (.n 4) (A n1 v0) .z)) rfl h0)
theorem b631 (h0:a<24):a<40:=lN (an [a] (L v0 (.n 24) (N (.n 40) v0 .z)) rfl h0)
theorem b632  : 4<=4+a:=kN (an [a] (L (A (.n 4) v0) (.n 4) .z) rfl)
theorem b633 (h0:a=b)(h1:¬ (((63:Nat):Int)<(b:Int))):a<10000:=lN (an [a,b] (N v0 v1 (Z (.c v1) (.c (.n 63)) (N (.n 10000) v0 .z))) rfl (oN h0) (nlZ h1))
theorem b634  : (a+1)+1≠a+1:=fun q1=>an [a] (N (A (A v0 n1) n1) (A v0 n1) .z) rfl (oN q1)
theorem b635 (h0:b<3)(h1:(4+(c:Int))=(a:Int))(h2:c<14):(a+1)+b<40:=lN (an [b,c,a] (L v0 (.n 3) (Z (.c v2) (A (.n 4) (.c v1)) (L v1 (.n 14) (N (.n 40) (A (A v2 n1) v0) .z)))) rfl h0 (pZ h1) h2)
theorem b636 (h0:(1+(b:Int))=(a:Int))(h1:b<4):a<100000:=lN (an [b,a] (Z (.c v1) (A n1 (.c v0)) (L v0 (.n 4) (N (.n 100000) v1 .z))) rfl (pZ h0) h1)
theorem b637 (h0:a<4):(a:Int)<10 ^ 10:=lZ (ac [a] [10 ^ 10] (L v0 (.n 4) (Z (.n 10000000000) w0 (Z w0 (.c v0) .z))) rfl h0 (pZ p10))
theorem b638 (h0:(1+(b:Int))=(a:Int))(h1:b<4):a<10:=lN (an [b,a] (Z (.c v1) (A n1 (.c v0)) (L v0 (.n 4) (N (.n 10) v1 .z))) rfl (pZ h0) h1)
theorem b639 (h0:a<4):a+1<10:=lN (an [a] (L v0 (.n 4) (N (.n 10) (A v0 n1) .z)) rfl h0)
theorem b640 (h0:(4+(b:Int))=(a:Int)):0<a+1:=lN (an [a] (N (A v0 n1) n0 .z) rfl)
theorem b642 (h0:b<3)(h1:(4+(c:Int))=(a:Int))(h2:c<14):(301+1)+(400+(10 * ((a+1)+b)))<1000:=lN (an [b,c,a] (.m 10 (L v0 (.n 3) (.m 10 (Z (.c v2) (A (.n 4) (.c v1)) (.m 10 (L v1 (.n 14) (N (.n 1000) (A (A (.n 301) n1) (A (.n 400) (.mul 10 (A (A v2 n1) v0)))) .z))))))) rfl h0 (pZ h1) h2)
theorem b643  : (a+1)+3=(a+3)+1:=qN (kN (an [a] (L (A (A v0 (.n 3)) n1) (A (A v0 n1) (.n 3)) .z) rfl)) (kN (an [a] (L (A (A v0 n1) (.n 3)) (A (A v0 (.n 3)) n1) .z) rfl))
theorem b644 (h0:(4+(b:Int))=(a:Int)):0<a+3:=lN (an [a] (N (A v0 (.n 3)) n0 .z) rfl)
theorem b646 (h0:a<b)(h1:b=c)(h2:(1+(d:Int))=(c:Int))(h3:d<4):a<4:=lN (an [a,b,c,d] (L v0 v1 (N v1 v2 (Z (.c v2) (A n1 (.c v3)) (L v3 (.n 4) (N (.n 4) v0 .z))))) rfl h0 (oN h1) (pZ h2) h3)
theorem b647 (h0:a<b):max a b=b:=qN (kN (fun q1=>(mxN a b).elim (fun q2=>an [max a b,b] (N v0 v1 (L v1 v0 .z)) rfl (oN q2.2) q1) (fun q3=>an [a,b] (L v0 v1 (L v1 v0 .z)) rfl h0 q3.1))) (kN (fun q4=>(mxN a b).elim (fun q5=>an [max a b,b] (N v1 v0 (L v0 v1 .z)) rfl (pN q5.2) q4) (fun q6=>an [a,b] (L v0 v1 (L v1 v0 .z)) rfl h0 q6.1)))
theorem b648 (h0:(4+(b:Int))=(a:Int))(h1:b<14):a+1<24:=lN (an [b,a] (Z (.c v1) (A (.n 4) (.c v0)) (L v0 (.n 14) (N (.n 24) (A v1 n1) .z))) rfl (pZ h0) h1)
theorem b649  : max ((a+1)+b) (((a+1)+b)+1)=(a+1)+(b+1):=qN (kN (fun q1=>(mxN ((a+1)+b) (((a+1)+b)+1)).elim (fun q2=>an [max ((a+1)+b) (((a+1)+b)+1),a,b] (N v0 (A (A (A v1 n1) v2) n1) (L (A (A v1 n1) (A v2 n1)) v0 .z)) rfl (oN q2.2) q1) (fun q3=>an [a,b] (L (A (A (A v0 n1) v1) n1) (A (A v0 n1) v1) .z) rfl q3.1))) (kN (fun q4=>(mxN ((a+1)+b) (((a+1)+b)+1)).elim (fun q5=>an [max ((a+1)+b) (((a+1)+b)+1),a,b] (N (A (A (A v1 n1) v2) n1) v0 (L v0 (A (A v1 n1) (A v2 n1)) .z)) rfl (pN q5.2) q4) (fun q6=>an [a,b] (L (A (A (A v0 n1) v1) n1) (A (A v0 n1) v1) .z) rfl q6.1)))
theorem b650 (h0:b<3)(h1:(4+(c:Int))=(a:Int))(h2:c<14):(a+1)+b<24:=lN (an [b,c,a] (L v0 (.n 3) (Z (.c v2) (A (.n 4) (.c v1)) (L v1 (.n 14) (N (.n 24) (A (A v2 n1) v0) .z)))) rfl h0 (pZ h1) h2)
theorem b651  : (a+1)+b<(a+1)+(b+1):=lN (an [a,b] (N (A (A v0 n1) (A v1 n1)) (A (A v0 n1) v1) .z) rfl)
theorem b652  : (4+(a:Int))=(((4+a):Nat):Int):=qZ (kZ (an [a] (M (.c (A (.n 4) v0)) (A (.n 4) (.c v0)) .z) rfl)) (kZ (an [a] (M (A (.n 4) (.c v0)) (.c (A (.n 4) v0)) .z) rfl))
theorem b653 (h0:a<24):(301+1)+(400+(10 * a))<1000:=lN (an [a] (.m 10 (L v0 (.n 24) (N (.n 1000) (A (A (.n 301) n1) (A (.n 400) (.mul 10 v0))) .z))) rfl h0)
theorem b656 (h0:a<b)(h1:(4+(c:Int))=(b:Int))(h2:c<14):a+1<24:=lN (an [a,b,c] (L v0 v1 (Z (.c v1) (A (.n 4) (.c v2)) (L v2 (.n 14) (N (.n 24) (A v0 n1) .z)))) rfl h0 (pZ h1) h2)
theorem b657 (h0:a<14):4+a<=17:=kN (an [a] (L v0 (.n 14) (L (.n 17) (A (.n 4) v0) .z)) rfl h0)
theorem b658 (h0:b=9900)(h1:a<24):(4+3)+(4000+(100 * a))<b:=lN (an [b,a] (N (.n 9900) v0 (.m 100 (L v1 (.n 24) (N v0 (A (A (.n 4) (.n 3)) (A (.n 4000) (.mul 100 v1))) .z)))) rfl (pN h0) h1)
theorem b659 (h0:a<b)(h1:(4+(c:Int))=(b:Int))(h2:c<14):a<24:=lN (an [a,b,c] (L v0 v1 (Z (.c v1) (A (.n 4) (.c v2)) (L v2 (.n 14) (N (.n 24) v0 .z)))) rfl h0 (pZ h1) h2)
theorem b660 (h0:(4+(b:Int))=(a:Int))(h1:b<14):a+3<24:=lN (an [b,a] (Z (.c v1) (A (.n 4) (.c v0)) (L v0 (.n 14) (N (.n 24) (A v1 (.n 3)) .z))) rfl (pZ h0) h1)
theorem b661  : ((a:Int)+3)=(((a+3):Nat):Int):=qZ (kZ (an [a] (M (.c (A v0 (.n 3))) (A (.c v0) (.n 3)) .z) rfl)) (kZ (an [a] (M (A (.c v0) (.n 3)) (.c (A v0 (.n 3))) .z) rfl))
theorem b662 (h0:a<4):a<9:=lN (an [a] (L v0 (.n 4) (N (.n 9) v0 .z)) rfl h0)
theorem b664 (h0:c=9900)(h1:b<3)(h2:(4+(d:Int))=(a:Int))(h3:d<14):(4+3)+(4000+(100 * ((a+1)+b)))<c:=lN (an [c,b,d,a] (N (.n 9900) v0 (.m 100 (L v1 (.n 3) (.m 100 (Z (.c v3) (A (.n 4) (.c v2)) (.m 100 (L v2 (.n 14) (N v0 (A (A (.n 4) (.n 3)) (A (.n 4000) (.mul 100 (A (A v3 n1) v1)))) .z)))))))) rfl (pN h0) h1 (pZ h2) h3)
theorem b665 (h0:(4+(b:Int))=(a:Int))(h1:b<14):((a:Int)+1)<100000:=lZ (an [b,a] (Z (.c v1) (A (.n 4) (.c v0)) (L v0 (.n 14) (Z (.n 100000) (A (.c v1) n1) .z))) rfl (pZ h0) h1)
end
section
variable {a b c d e f g h i j k l m n o p q:Type}{Z:Prop}
theorem E1 {Y:a->Prop}(u:∃ A,Y A) (v:∀ A,Y A->Z):Z:=u.elim v
theorem K1 {Y:a->Prop}(A:a) (u:Y A):∃ A,Y A:=⟨A,u⟩
theorem E2 {Y:a->b->Prop}(u:∃ A B,Y A B) (v:∀ A B,Y A B->Z):Z:=u.elim fun A u=>E1 u (v A)
theorem K2 {Y:a->b->Prop}(A:a) (B:b) (u:Y A B):∃ A B,Y A B:=⟨A,K1 B u⟩
theorem E3 {Y:a->b->c->Prop}(u:∃ A B C,Y A B C) (v:∀ A B C,Y A B C->Z):Z:=u.elim fun A u=>E2 u (v A)
theorem K3 {Y:a->b->c->Prop}(A:a) (B:b) (C:c) (u:Y A B C):∃ A B C,Y A B C:=⟨A,K2 B C u⟩
theorem E4 {Y:a->b->c->d->Prop}(u:∃ A B C D,Y A B C D) (v:∀ A B C D,Y A B C D->Z):Z:=u.elim fun A u=>E3 u (v A)
theorem K4 {Y:a->b->c->d->Prop}(A:a) (B:b) (C:c) (D:d) (u:Y A B C D):∃ A B C D,Y A B C D:=⟨A,K3 B C D u⟩
theorem E5 {Y:a->b->c->d->e->Prop}(u:∃ A B C D E,Y A B C D E) (v:∀ A B C D E,Y A B C D E->Z):Z:=u.elim fun A u=>E4 u (v A)
theorem K5 {Y:a->b->c->d->e->Prop}(A:a) (B:b) (C:c) (D:d) (E:e) (u:Y A B C D E):∃ A B C D E,Y A B C D E:=⟨A,K4 B C D E u⟩
theorem E6 {Y:a->b->c->d->e->f->Prop}(u:∃ A B C D E F,Y A B C D E F) (v:∀ A B C D E F,Y A B C D E F->Z):Z:=u.elim fun A u=>E5 u (v A)
theorem K6 {Y:a->b->c->d->e->f->Prop}(A:a) (B:b) (C:c) (D:d) (E:e) (F:f) (u:Y A B C D E F):∃ A B C D E F,Y A B C D E F:=⟨A,K5 B C D E F u⟩
theorem E7 {Y:a->b->c->d->e->f->g->Prop}(u:∃ A B C D E F G,Y A B C D E F G) (v:∀ A B C D E F G,Y A B C D E F G->Z):Z:=u.elim fun A u=>E6 u (v A)
theorem K7 {Y:a->b->c->d->e->f->g->Prop}(A:a) (B:b) (C:c) (D:d) (E:e) (F:f) (G:g) (u:Y A B C D E F G):∃ A B C D E F G,Y A B C D E F G:=⟨A,K6 B C D E F G u⟩
theorem E8 {Y:a->b->c->d->e->f->g->h->Prop}(u:∃ A B C D E F G H,Y A B C D E F G H) (v:∀ A B C D E F G H,Y A B C D E F G H->Z):Z:=u.elim fun A u=>E7 u (v A)
theorem K8 {Y:a->b->c->d->e->f->g->h->Prop}(A:a) (B:b) (C:c) (D:d) (E:e) (F:f) (G:g) (H:h) (u:Y A B C D E F G H):∃ A B C D E F G H,Y A B C D E F G H:=⟨A,K7 B C D E F G H u⟩
theorem E9 {Y:a->b->c->d->e->f->g->h->i->Prop}(u:∃ A B C D E F G H I,Y A B C D E F G H I) (v:∀ A B C D E F G H I,Y A B C D E F G H I->Z):Z:=u.elim fun A u=>E8 u (v A)
theorem K9 {Y:a->b->c->d->e->f->g->h->i->Prop}(A:a) (B:b) (C:c) (D:d) (E:e) (F:f) (G:g) (H:h) (I:i) (u:Y A B C D E F G H I):∃ A B C D E F G H I,Y A B C D E F G H I:=⟨A,K8 B C D E F G H I u⟩
theorem E10 {Y:a->b->c->d->e->f->g->h->i->j->Prop}(u:∃ A B C D E F G H I J,Y A B C D E F G H I J) (v:∀ A B C D E F G H I J,Y A B C D E F G H I J->Z):Z:=u.elim fun A u=>E9 u (v A)
theorem K10 {Y:a->b->c->d->e->f->g->h->i->j->Prop}(A:a) (B:b) (C:c) (D:d) (E:e) (F:f) (G:g) (H:h) (I:i) (J:j) (u:Y A B C D E F G H I J):∃ A B C D E F G H I J,Y A B C D E F G H I J:=⟨A,K9 B C D E F G H I J u⟩
theorem E11 {Y:a->b->c->d->e->f->g->h->i->j->k->Prop}(u:∃ A B C D E F G H I J K,Y A B C D E F G H I J K) (v:∀ A B C D E F G H I J K,Y A B C D E F G H I J K->Z):Z:=u.elim fun A u=>E10 u (v A)
theorem K11 {Y:a->b->c->d->e->f->g->h->i->j->k->Prop}(A:a) (B:b) (C:c) (D:d) (E:e) (F:f) (G:g) (H:h) (I:i) (J:j) (K:k) (u:Y A B C D E F G H I J K):∃ A B C D E F G H I J K,Y A B C D E F G H I J K:=⟨A,K10 B C D E F G H I J K u⟩
theorem E12 {Y:a->b->c->d->e->f->g->h->i->j->k->l->Prop}(u:∃ A B C D E F G H I J K L,Y A B C D E F G H I J K L) (v:∀ A B C D E F G H I J K L,Y A B C D E F G H I J K L->Z):Z:=u.elim fun A u=>E11 u (v A)
theorem K12 {Y:a->b->c->d->e->f->g->h->i->j->k->l->Prop}(A:a) (B:b) (C:c) (D:d) (E:e) (F:f) (G:g) (H:h) (I:i) (J:j) (K:k) (L:l) (u:Y A B C D E F G H I J K L):∃ A B C D E F G H I J K L,Y A B C D E F G H I J K L:=⟨A,K11 B C D E F G H I J K L u⟩
theorem E13 {Y:a->b->c->d->e->f->g->h->i->j->k->l->m->Prop}(u:∃ A B C D E F G H I J K L M,Y A B C D E F G H I J K L M) (v:∀ A B C D E F G H I J K L M,Y A B C D E F G H I J K L M->Z):Z:=u.elim fun A u=>E12 u (v A)
theorem K13 {Y:a->b->c->d->e->f->g->h->i->j->k->l->m->Prop}(A:a) (B:b) (C:c) (D:d) (E:e) (F:f) (G:g) (H:h) (I:i) (J:j) (K:k) (L:l) (M:m) (u:Y A B C D E F G H I J K L M):∃ A B C D E F G H I J K L M,Y A B C D E F G H I J K L M:=⟨A,K12 B C D E F G H I J K L M u⟩
theorem E14 {Y:a->b->c->d->e->f->g->h->i->j->k->l->m->n->Prop}(u:∃ A B C D E F G H I J K L M N,Y A B C D E F G H I J K L M N) (v:∀ A B C D E F G H I J K L M N,Y A B C D E F G H I J K L M N->Z):Z:=u.elim fun A u=>E13 u (v A)
theorem K14 {Y:a->b->c->d->e->f->g->h->i->j->k->l->m->n->Prop}(A:a) (B:b) (C:c) (D:d) (E:e) (F:f) (G:g) (H:h) (I:i) (J:j) (K:k) (L:l) (M:m) (N:n) (u:Y A B C D E F G H I J K L M N):∃ A B C D E F G H I J K L M N,Y A B C D E F G H I J K L M N:=⟨A,K13 B C D E F G H I J K L M N u⟩
theorem E15 {Y:a->b->c->d->e->f->g->h->i->j->k->l->m->n->o->Prop}(u:∃ A B C D E F G H I J K L M N O,Y A B C D E F G H I J K L M N O) (v:∀ A B C D E F G H I J K L M N O,Y A B C D E F G H I J K L M N O->Z):Z:=u.elim fun A u=>E14 u (v A)
theorem E16 {Y:a->b->c->d->e->f->g->h->i->j->k->l->m->n->o->p->Prop}(u:∃ A B C D E F G H I J K L M N O P,Y A B C D E F G H I J K L M N O P) (v:∀ A B C D E F G H I J K L M N O P,Y A B C D E F G H I J K L M N O P->Z):Z:=u.elim fun A u=>E15 u (v A)
end
section
variable {a b c d e f g h i j k l Z:Prop}
theorem G2 (u:a->b->Z) (v:a/\b):Z:=u v.1 v.2
theorem M2 (A:a) (B:b):a/\b:=⟨A,B⟩
theorem G3 (u:a->b->c->Z) (v:a/\b/\c):Z:=G2 (u v.1) v.2
theorem M3 (A:a) (B:b) (C:c):a/\b/\c:=⟨A,M2 B C⟩
theorem G4 (u:a->b->c->d->Z) (v:a/\b/\c/\d):Z:=G3 (u v.1) v.2
theorem M4 (A:a) (B:b) (C:c) (D:d):a/\b/\c/\d:=⟨A,M3 B C D⟩
theorem G5 (u:a->b->c->d->e->Z) (v:a/\b/\c/\d/\e):Z:=G4 (u v.1) v.2
theorem M5 (A:a) (B:b) (C:c) (D:d) (E:e):a/\b/\c/\d/\e:=⟨A,M4 B C D E⟩
theorem G6 (u:a->b->c->d->e->f->Z) (v:a/\b/\c/\d/\e/\f):Z:=G5 (u v.1) v.2
theorem M6 (A:a) (B:b) (C:c) (D:d) (E:e) (F:f):a/\b/\c/\d/\e/\f:=⟨A,M5 B C D E F⟩
theorem G7 (u:a->b->c->d->e->f->g->Z) (v:a/\b/\c/\d/\e/\f/\g):Z:=G6 (u v.1) v.2
theorem M7 (A:a) (B:b) (C:c) (D:d) (E:e) (F:f) (G:g):a/\b/\c/\d/\e/\f/\g:=⟨A,M6 B C D E F G⟩
theorem G8 (u:a->b->c->d->e->f->g->h->Z) (v:a/\b/\c/\d/\e/\f/\g/\h):Z:=G7 (u v.1) v.2
theorem M8 (A:a) (B:b) (C:c) (D:d) (E:e) (F:f) (G:g) (H:h):a/\b/\c/\d/\e/\f/\g/\h:=⟨A,M7 B C D E F G H⟩
theorem G9 (u:a->b->c->d->e->f->g->h->i->Z) (v:a/\b/\c/\d/\e/\f/\g/\h/\i):Z:=G8 (u v.1) v.2
theorem M9 (A:a) (B:b) (C:c) (D:d) (E:e) (F:f) (G:g) (H:h) (I:i):a/\b/\c/\d/\e/\f/\g/\h/\i:=⟨A,M8 B C D E F G H I⟩
theorem G10 (u:a->b->c->d->e->f->g->h->i->j->Z) (v:a/\b/\c/\d/\e/\f/\g/\h/\i/\j):Z:=G9 (u v.1) v.2
theorem M10 (A:a) (B:b) (C:c) (D:d) (E:e) (F:f) (G:g) (H:h) (I:i) (J:j):a/\b/\c/\d/\e/\f/\g/\h/\i/\j:=⟨A,M9 B C D E F G H I J⟩
theorem G11 (u:a->b->c->d->e->f->g->h->i->j->k->Z) (v:a/\b/\c/\d/\e/\f/\g/\h/\i/\j/\k):Z:=G10 (u v.1) v.2
theorem M11 (A:a) (B:b) (C:c) (D:d) (E:e) (F:f) (G:g) (H:h) (I:i) (J:j) (K:k):a/\b/\c/\d/\e/\f/\g/\h/\i/\j/\k:=⟨A,M10 B C D E F G H I J K⟩
end
section
def KAt (K:Flow->Shared->Prop) (f:Flow) (s:Shared):Prop:=K f s
def Cont (M:Model) (A:Around) (rest:List Stmt) (env:Env) (Q:Flow->Shared->Prop) (E:Value->Shared->Prop) (K:Flow->Shared->Prop):Prop :=
 (∀ s',wpAny M A (execs rest env) Q E s'->K .next s')/\∀ f s',f≠.next->Q f s'->K f s'
theorem Cont.next {M:Model}{A:Around}{rest:List Stmt}{env:Env}{Q K:Flow->Shared->Prop}{E:Value->Shared->Prop}{s:Shared}(c:Cont M A rest env Q E K) (h:wpAny M A (execs rest env) Q E s):KAt K .next s:=c.1 s h
theorem Cont.ret {M:Model}{A:Around}{rest:List Stmt}{env:Env}{Q K:Flow->Shared->Prop}{E:Value->Shared->Prop}{s:Shared}{v:Value}(c:Cont M A rest env Q E K) (h:Q (.ret v) s):KAt K (.ret v) s:=c.2 _ s nofun h
theorem Cont.brk {M:Model}{A:Around}{rest:List Stmt}{env:Env}{Q K:Flow->Shared->Prop}{E:Value->Shared->Prop}{s:Shared}(c:Cont M A rest env Q E K) (h:Q .brk s):KAt K .brk s:=c.2 _ s nofun h
theorem Cont.con {M:Model}{A:Around}{rest:List Stmt}{env:Env}{Q K:Flow->Shared->Prop}{E:Value->Shared->Prop}{s:Shared}(c:Cont M A rest env Q E K) (h:Q .cont s):KAt K .cont s:=c.2 _ s nofun h
theorem execs_cut {M:Model}{A:Around}{E:Value->Shared->Prop}{s:Shared}{env:Env}{st:Stmt}{rest:List Stmt}{Q:Flow->Shared->Prop}
  (h:∀ K,Cont M A rest env Q E K->wpAny M A (exec st env) (KAt K) E s):wpAny M A (execs (st::rest) env) Q E s :=
 wpAny_execs_cons (h _ ⟨fun _ x=>x,fun f _ hf x=>by cases f <;> first | exact absurd rfl hf | exact x⟩)
def Leav (hO:Heap) (L:Addr) (m:Str->Option Value) (g:Heap) (R:Result->Shared->Prop) (K:Flow->Shared->Prop):Prop :=
 (∀ v s',LeaveK hO L m g R v s'->K (.ret v) s')/\∀ s',LeaveK hO L m g R .none s'->K .next s'
theorem Leav.ret {hO:Heap}{L:Addr}{m:Str->Option Value}{g:Heap}{R:Result->Shared->Prop}{K:Flow->Shared->Prop}{v:Value}{s:Shared}(c:Leav hO L m g R K) (h:LeaveK hO L m g R v s):KAt K (.ret v) s:=c.1 v s h
theorem Leav.next {hO:Heap}{L:Addr}{m:Str->Option Value}{g:Heap}{R:Result->Shared->Prop}{K:Flow->Shared->Prop}{s:Shared}(c:Leav hO L m g R K) (h:LeaveK hO L m g R .none s):KAt K .next s:=c.2 s h
theorem body_cut {M:Model}{A:Around}{body:List Stmt}{env:Env}{hO g:Heap}{L:Addr}{m:Str->Option Value}{R:Result->Shared->Prop}{E:Value->Shared->Prop}{s:Shared}
  (h:∀ (K:Flow->Shared->Prop),Leav hO L m g R K->wpAny M A (execs body env) (KAt K) E s) :
  wpAny M A (execs body env) (fun fl s'=>LeaveK hO L m g R (match fl with | .ret v=>v | _=>.none) s') E s:=h _ ⟨fun _ _ x=>x,fun _ x=>x⟩
end
local macro_rules | `(tactic| walk_at $s:str)=>`(tactic| k_extra $s)
local macro_rules | `(tactic| k_mem)=>`(tactic| k_extra "k_mem")
local macro_rules | `(tactic| ktr_rel)=>`(tactic| k_extra "ktr_rel")
local macro_rules | `(tactic| kso_len)=>`(tactic| k_extra "kso_len")
local macro_rules | `(tactic| tb_start)=>`(tactic| k_extra "tb_start")
local macro_rules | `(tactic| ktr_room)=>`(tactic| k_extra "ktr_room")
local macro_rules | `(tactic| ktr_units)=>`(tactic| k_extra "ktr_units")
local macro_rules | `(tactic| exists $ts,*)=>`(tactic| with_reducible (first $[| (apply $ts <;> assumption)]*))
local macro_rules | `(tactic| omega)=>`(tactic| k_extra "omega")
example:True:=by
 w_top off
 k_with_none
 k_with "omega"=>((fail_if_success (fail_if_success (omega +splitDisjunctions)));(first | k_extra "bank" | lia | (omega +splitDisjunctions)))
 k_with "c0"=>((refine' code_def (binds:=kzb) ?kz1 ?kz2 ?kz3 ?kz4 ?kz5 ?kzA ?kzF ?kzK ?kz6 ?kz7 ?kz8 ?kz9 ?kzB ?_ ?kzc2 ?kzc3 ?kzc4 ?kzc5;(case kzA=>exact rfl);(case kzF=>assumption);(case kzK=>assumption);(case kz1=>k_asm);(case kz2=>k_asm);(case kz3=>k_asm);(case kz4=>k_asm);(case kz5=>k_asm);(case kz6=>k_is);(case kz7=>k_is);(case kz8=>first | omega | ktr_room | (dsimp only;omega));(case kz9=>exact BindsTo.of_eq rfl);(case kzc5=>decide);(case kzB=>exact locs rfl);(case kzc2=>exact rfl);(case kzc3=>exact rfl);(case kzc4=>exact rfl);k_whole);intro g' L' h' FG';refine m_let ?_;intro kzm F' N' B' X' T';(try dsimp only);(try k_lift B');(try (with_reducible show wpAny _ _ _ _ _ _));(try k_fold);(try (refine a_let ?_;intro kzA));(try k_extra "el");(try k_extra "bodycut"))
 k_with "c1"=>((refine' code_defC (binds:=kzb) ?kz1 ?kz2 ?kz3 ?kz4 ?kz5 ?kzA ?kzF ?kzK ?kz6 ?kz7 ?kz8 ?kz9 ?kzB ?kzD ?_ ?kzc2 ?kzc3 ?kzc4;(case kzA=>exact rfl);(case kzF=>assumption);(case kzK=>assumption);(case kz1=>k_asm);(case kz2=>k_asm);(case kz3=>k_asm);(case kz4=>k_asm);(case kz5=>k_asm);(case kz6=>k_is);(case kz7=>k_is);(case kz8=>first | omega | ktr_room | (dsimp only;omega));(case kz9=>exact BindsTo.of_eq rfl);(case kzB=>exact rfl);(case kzD=>decide +kernel);(case kzc2=>exact rfl);(case kzc3=>exact rfl);(case kzc4=>exact rfl);k_whole);intro g' L' h' tk' cells' FG';refine m_let ?_;intro kzm F' N' kzY B' X' T' l1;k_cells kzY;(try simp only [List.cons_append,List.nil_append] at N');(try dsimp only);(try (with_reducible show wpAny _ _ _ _ _ _));(try k_fold);(try (refine a_let ?_;intro kzA));(try k_extra "el");(try k_extra "bodycut"))
 k_with "storeName"=>(k_here;k_dflt (refine' storeX_L ?kzF ?kzN ?_ ?kza ?kzb;(case kzF=>k_asm);(case kzN=>k_asm);(case kza=>rfl);(case kzb=>rfl);k_whole);intro _;(refine m_let ?_);intro kzs _ _;(try dsimp only);(try k_sweep))
 k_with "ktr_room"=>((try unfold kzA);(try simp only [depth_under_make,depth_under_kw,depth_in1,depth_deeper,depth_caller]);(try dsimp only);first | exact room_up2 (by with_reducible assumption) rfl | exact room_up (by with_reducible assumption) rfl | exact room_0 (by with_reducible assumption) rfl | omega)
 k_with "ktr_units"=>((try unfold kzA);(try simp only [units_in1,units_deeper,Around.mark_units,units_caller,units_under_make]);(try dsimp only);first | exact room_up2 (by with_reducible assumption) rfl | exact room_up (by with_reducible assumption) rfl | exact room_0 (by with_reducible assumption) rfl | omega)
 k_with "tb_start"=>((case kB=>k_asm);(case kF=>k_asm);(case kX=>k_asm);(case kN=>k_asm);(case kT=>k_asm);(case kA=>exact rfl);(case kH=>exact rfl);(case kf=>exact rfl);(case kk=>exact rfl);(case kd=>ktr_room);(case ku=>ktr_units))
 k_with "call ref"=>(k_here;(with_reducible show wpAny _ _ (call (Value.ref 213) _) _ _ _);k_dflt (refine' con_use (find_con _ _ _ _ _ _ _ _ ?kzFO) ?kB ?kF ?kX ?kN ?kT ?kA ?kH ?kf ?kk ?kd ?ku ?hp ?_;(case kzFO=>assumption);(case hp=>exact ⟨by assumption,by first | assumption | omega,by first | assumption | omega⟩);tb_start); intro kzQ _ _ _ _ _ _ hp';obtain ⟨e',_,e2'⟩:=hp';subst e';subst e2';(try unfold kzQ);(try clear kzQ);(try dsimp only))
 k_with "subscriptTail"=>(k_here;(with_reducible show wpAny _ _ (subscriptTail _ _ (Value.ref _) (Value.int _ _)) _ _ _);k_dflt (refine' item_ref ?kzN ?kzm ?kzh0 ?kzhk ?kzhh ?_ ?kzhs;(case kzN=>k_asm);(case kzhk=>assumption);(case kzm=>k_mem);(case kzh0=>omega);(case kzhh=>omega);(case kzhs=>with_unfolding_all rfl);k_whole))
 k_with "newList"=>(k_here;k_dflt (refine' newList_led ?kzF ?kzN ?_ ?kzz;(case kzF=>k_asm);(case kzN=>k_asm);(case kzz=>first | decide | kso_len));intro _ _ _ _ _;(try dsimp only);(try k_sweep))
 k_with "call builtin:sorted"=>(k_here;(with_reducible show wpAny _ _ (call (Value.builtin _) [Value.ref _]) _ _ _);k_dflt (with_unfolding_all refine' kso_sorted ?kzk1 ?kzk2 (is_listN ?kzk2 ?kzk3) ?kzk4 ?kzk5 ?_;(case kzk1=>k_asm);(case kzk2=>k_asm);(case kzk3=>k_mem);(case kzk4=>l_ints);(case kzk5=>omega);k_whole);intro _ _ _ _ _ _ _ _ _ _ _ _ _;(try dsimp only);(try k_sweep))
 k_with "kso_len"=>first | omega | (simp only [List.length_append,List.length_map,List.length_cons,List.length_nil,List.length_set];omega)
 k_with "call builtin:len"=>(k_here;(with_reducible show wpAny _ _ (call (Value.builtin "len") [Value.ref _]) _ _ _);k_dflt (refine' len_led ?kzN ?kzm ?kzk ?kzz ?_;(case kzN=>k_asm);(case kzm=>k_mem);(case kzk=>first | exact IntsAre.length (by with_reducible assumption) | exact List.length_map _ | ((try simp only [List.length_append,List.length_map,List.length_cons,List.length_nil,List.length_set]);exact rfl));(case kzz=>kso_len));intro _ _)
 k_with "call builtin:list.append"=>(k_here;(with_reducible show wpAny _ _ (call (Value.builtin _) [Value.ref _,_]) _ _ _);k_dflt (refine' append_led ?kzF ?kzN ?kzm ?kzz ?_;(case kzF=>k_asm);(case kzN=>k_asm);(case kzm=>k_mem);(case kzz=>kso_len));intro _ _ _;(try dsimp only);(try k_sweep))
 k_with "call builtin:list.extend"=>(k_here;(with_reducible show wpAny _ _ (call (Value.builtin _) [Value.ref _,Value.ref _]) _ _ _);k_dflt (refine' extend_led ?kzF ?kzN ?kzm ?kzb ?kzz ?kzy ?_;(case kzF=>k_asm);(case kzN=>k_asm);(case kzm=>k_mem);(case kzb=>k_mem);(case kzz=>kso_len);(case kzy=>kso_len));intro _ _ _ _;(try dsimp only);(try k_sweep))
 k_with "call type:list"=>(k_here;(with_reducible show wpAny _ _ (call (Value.type _) [Value.ref _]) _ _ _);k_dflt (refine' list_led ?kzF ?kzN ?kzm ?kzz ?_;(case kzF=>k_asm);(case kzN=>k_asm);(case kzm=>k_mem);(case kzz=>kso_len));intro _ _ _ _ _ _;(try dsimp only);(try k_sweep))
 k_with "setItem ref int"=>(k_here;(with_reducible show wpAny _ _ (setItem (Value.ref _) (Value.int _ _) (Value.int _ _)) _ _ _);k_dflt (refine' set_led ?kzF ?kzN ?kzm ?kzi ?kza ?kzb ?kzz ?_;(case kzF=>k_asm);(case kzN=>k_asm);(case kzm=>k_mem);(case kzi=>with_reducible assumption);(case kza=>omega);(case kzb=>omega);(case kzz=>omega));intro _ _ _ _;(try dsimp only);(try k_sweep))
 k_with "call builtin:sorted"=>(k_here;(with_reducible show wpAny _ _ (call (Value.builtin _) [Value.ref _]) _ _ _);k_dflt (refine' sorted_two ?kzF ?kzN ?kzm ?_;(case kzF=>k_asm);(case kzN=>k_asm);(case kzm=>k_mem));intro _ _ _ _ _ _ _ _;(try dsimp only);(try k_sweep))
 k_with "k_mem"=>first | with_reducible assumption | ktr_member | ((with_reducible refine' mem_setL_self ?kya);(case kya=>k_mem)) | ((with_reducible refine' mem_setL_ne ?kya ?kyb);(case kyb=>first | with_reducible assumption | exact Ne.symm (by with_reducible assumption) | omega);(case kya=>k_mem)) | exact List.Mem.head _ | (refine' List.mem_cons_of_mem _ ?_;k_mem)
 k_with "newTuple"=>(k_here;k_dflt (refine' newTuple_led ?kzF ?kzN ?_ ?kzz;(case kzF=>k_asm);(case kzN=>k_asm);(case kzz=>first | decide | kso_len));intro _ _ _ _ _;(try dsimp only);(try k_sweep))
 k_with "CompSrc"=>refine Hold.out ?_
 k_with "CompSrcT"=>refine Hold.out ?_
 k_with "Src3"=>refine Hold.out ?_
 k_with "eval ListComp"=>(k_here;(fail_if_success lct_look);k_dflt (refine ListComp_3 (F₀:=by k_asm) (by with_unfolding_all rfl) (by decide) (by rfl) (by decide) (by rfl) ?_))
 k_with "eval ListComp"=>(k_here;lct_look;k_dflt (refine LCt.ListComp_T (F₀:=by k_asm) (by with_unfolding_all rfl) (by decide) (by rfl) (by decide) (by rfl) ?_))
 k_with "StrSrc"=>refine Hold.out ?_
 k_with "ktr_rel"=>first | with_reducible assumption | exact tupIn_s (by k_mem) | exact tupIn_si (by k_mem) | ((with_reducible refine DH.cons ?_);ktr_rel) | ((with_reducible refine DI.cons ?_);ktr_rel) | ((with_reducible refine TupIn.cons ?_);ktr_rel)
 k_with "call type:tuple"=>(k_here;(with_reducible show wpAny _ _ (call (Value.type _) [Value.ref _]) _ _ _);k_dflt (first | (refine' tup_same ?kzN ?kzm ?_;(case kzN=>k_asm);(case kzm=>k_mem)) | (refine' tup_list ?kzF ?kzN ?kzm ?kzz ?_;(case kzF=>k_asm);(case kzN=>k_asm);(case kzm=>k_mem);(case kzz=>first | decide | kso_len);intro _ _ _ _ _;(try k_sweep))))
 k_with "binaryOp Add"=>(k_here;(with_reducible show wpAny _ _ (binaryOp _ (Value.ref _) (Value.ref _)) _ _ _);k_dflt (first | (refine' tup_add0 ?kzF ?kzN ?kzm ?kzb ?kzv ?kzz ?_;(case kzF=>k_asm);(case kzN=>k_asm);(case kzm=>k_mem);(case kzb=>k_mem);(case kzv=>simp);(case kzz=>first | decide | kso_len)) | (refine' tup_add ?kzF ?kzN ?kzm ?kzb ?kzv ?kzy ?kzz ?kzx ?_;(case kzF=>k_asm);(case kzN=>k_asm);(case kzm=>k_mem);(case kzb=>k_mem);(case kzv=>simp);(case kzy=>simp);(case kzz=>first | decide | kso_len);(case kzx=>first | decide | kso_len);intro _ _ _ _ _;(try k_sweep))))
 k_with "subscriptTail"=>(k_here;(with_reducible show wpAny _ _ (subscriptTail _ (Expr.Slice _ _ _ _) (Value.ref _) (Value.ref _)) _ _ _);k_dflt (refine' tup_slice1 ?kzF ?kzN ?kzm ?kzz ?_ ?kzs;(case kzs=>with_unfolding_all rfl);(case kzF=>k_asm);(case kzN=>k_asm);(case kzm=>k_mem);(case kzz=>first | decide | kso_len));intro _ _ _ _ _;(try dsimp only);(try k_sweep))
 k_with "compareOp In"=>(k_here;(with_reducible show wpAny _ _ (compareOp CmpOp.In (Value.ref _) (Value.ref _)) _ _ _);k_dflt (refine' dh_in ?kzu ?kzN ?kzH ?kzT ?_;(case kzN=>k_asm);(case kzH=>ktr_rel);(case kzT=>ktr_rel);(case kzu=>ktr_units));intro _;(try dsimp only))
 k_with "compareOp In"=>(k_here;(with_reducible show wpAny _ _ (compareOp CmpOp.In (Value.ref _) (Value.ref _)) _ _ _);k_dflt (refine' dh_in_none ?kzu ?kzN ?kzH ?kzT ?kzK ?_;(case kzN=>k_asm);(case kzH=>ktr_rel);(case kzT=>ktr_rel);(case kzK=>with_reducible assumption);(case kzu=>ktr_units));intro _;(try dsimp only))
 k_with "setItem ref ref"=>(k_here;k_dflt (refine' dh_set ?kzu ?kzF ?kzN ?kzH ?kzT ?kzz ?_;(case kzF=>k_asm);(case kzN=>k_asm);(case kzH=>ktr_rel);(case kzT=>ktr_rel);(case kzu=>ktr_units);(case kzz=>omega));intro _ _ _ _ _ _;(try dsimp only);(try k_sweep))
 k_with "getMethod ref"=>(k_here;(with_reducible show wpAny _ _ (getMethod (Value.ref _) (Str.ofString "setdefault") _) _ _ _);k_dflt (refine' dh_method PySem.F.slot_dict_setdefault PySem.F.type_dict_setdefault ?kzN ?kzH ?_;(case kzN=>k_asm);(case kzH=>ktr_rel)))
 k_with "getMethod ref"=>(k_here;(with_reducible show wpAny _ _ (getMethod (Value.ref _) (Str.ofString "get") _) _ _ _);k_dflt (refine' dh_method PySem.F.slot_dict_get PySem.F.type_dict_get ?kzN ?kzH ?_;(case kzN=>k_asm);(case kzH=>ktr_rel)))
 k_with "getMethod ref"=>(k_here;(with_reducible show wpAny _ _ (getMethod (Value.ref _) (Str.ofString "pop") _) _ _ _);k_dflt (refine' di_method PySem.F.slot_dict_pop PySem.F.type_dict_pop ?kzN ?kzH ?_;(case kzN=>k_asm);(case kzH=>ktr_rel)))
 k_with "k_mem"=>((fail_if_success k_extra "ld");(first | with_reducible assumption | ktr_member | (refine' SetTo.it ?kys ?kya;(case kys=>with_reducible assumption);(case kya=>k_mem)) | (refine' SetTo.mem ?kys ?kya ?kyb;(case kys=>with_reducible assumption);(case kyb=>first | with_reducible assumption | exact Ne.symm (by with_reducible assumption) | (refine nen ?_;omega));(case kya=>k_mem)) | exact List.Mem.head _ | (refine' List.mem_cons_of_mem _ ?_;k_mem)))
 k_with "ktr_rel"=>((fail_if_success k_extra "ld");((refine' TupIn.setTo ?kya ?kys ?kyb;(case kys=>with_reducible assumption);(case kyb=>first | with_reducible assumption | exact Ne.symm (by with_reducible assumption) | (refine nen ?_;omega));(case kya=>ktr_rel))))
 k_with "call builtin:list.append"=>((fail_if_success k_extra "ld");((k_here;(with_reducible show wpAny _ _ (call (Value.builtin _) [Value.ref _,_]) _ _ _);k_dflt (refine' append_o ?kzF ?kzN ?kzm ?kzz ?_;(case kzF=>k_asm);(case kzN=>k_asm);(case kzm=>k_mem);(case kzz=>kso_len));intro _ _ _ _ _;(try dsimp only);(try k_sweep))))
 k_with "call builtin:list.extend"=>((fail_if_success k_extra "ld");((k_here;(with_reducible show wpAny _ _ (call (Value.builtin _) [Value.ref _,Value.ref _]) _ _ _);k_dflt (refine' extend_o ?kzF ?kzN ?kzm ?kzb ?kzz ?kzy ?_;(case kzF=>k_asm);(case kzN=>k_asm);(case kzm=>k_mem);(case kzb=>k_mem);(case kzz=>kso_len);(case kzy=>kso_len));intro _ _ _ _ _ _;(try dsimp only);(try k_sweep))))
 k_with "setItem ref int"=>((fail_if_success k_extra "ld");((k_here;(with_reducible show wpAny _ _ (setItem (Value.ref _) (Value.int _ _) (Value.int _ _)) _ _ _);k_dflt (refine' set_o ?kzF ?kzN ?kzm ?kzi ?kza ?kzb ?kzz ?_;(case kzF=>k_asm);(case kzN=>k_asm);(case kzm=>k_mem);(case kzi=>with_reducible assumption);(case kza=>omega);(case kzb=>omega);(case kzz=>omega));intro _ _ _ _ _ _;(try dsimp only);(try k_sweep))))
 k_with "setItem ref ref"=>((fail_if_success k_extra "ld");((k_here;k_dflt (refine' dh_set_o ?kzu ?kzF ?kzN ?kzH ?kzT ?kzz ?_;(case kzF=>k_asm);(case kzN=>k_asm);(case kzH=>ktr_rel);(case kzT=>ktr_rel);(case kzu=>ktr_units);(case kzz=>omega));intro _ _ _ _ _ _ _ _;(try dsimp only);(try k_sweep))))
 k_with "subscriptTail"=>((fail_if_success k_extra "ld");((k_here;(with_reducible show wpAny _ _ (subscriptTail _ _ (Value.ref _) (Value.int 0 _)) _ _ _);k_dflt (refine' tup_item0 ?kzN ?kzm ?_ ?kzs;(case kzN=>k_asm);(case kzm=>k_mem);(case kzs=>with_unfolding_all rfl));k_whole)))
 k_with "exec For"=>((fail_if_success k_extra "lc");((k_here;(rename Fr _ _ _ _=>lF');k_dflt ((with_unfolding_all refine' For_invVF lF' ?kzk1 ?kzk2 ?_);(case kzk1=>exact rfl);(case kzk2=>exact rfl));k_whole)))
 k_with "pyIter ref"=>((fail_if_success k_extra "lc");(((with_reducible show wpAny _ _ (pyIter (Value.ref _)) (fun it s₂=>LoopAtV _ _ _ _ _ _ _ _ _ it s₂) _ _);refine Hold.out ?_)))
 k_with "eval Name"=>((fail_if_success k_extra "lc");((k_here;name_kind "cell";k_dflt (refine' ldCN ?kzN ?kzc ?kzm ?kzd ?_ ?kzk ?kzl ?kzb;(case kzk=>rfl);(case kzl=>rfl);(case kzb=>decide);(case kzN=>k_asm);(case kzc=>exact rfl);(case kzm=>k_mem);(case kzd=>with_reducible assumption));k_whole)))
 k_with "ktr_rel"=>((fail_if_success k_extra "lb");((refine' DI.setTo ?kya ?kys ?kyb;(case kys=>with_reducible assumption);(case kyb=>first | with_reducible assumption | exact Ne.symm (by with_reducible assumption) | (refine nen ?_;omega));(case kya=>ktr_rel))))
 k_with "subscriptTail"=>((fail_if_success k_extra "lb");((k_here;(with_reducible show wpAny _ _ (subscriptTail _ _ (Value.ref _) (Value.int _ _)) _ _ _);k_dflt (refine' di_item ?kzN ?kzH ?kzp ?_ ?kzs;(case kzN=>k_asm);(case kzH=>ktr_rel);(case kzp=>with_reducible assumption);(case kzs=>with_unfolding_all rfl));intro _;(try dsimp only))))
 k_with "call builtin:dict.pop"=>((fail_if_success k_extra "lb");((k_here;(with_reducible show wpAny _ _ (call (Value.builtin _) [Value.ref _,Value.int _ _]) _ _ _);k_dflt (refine' di_pop_o ?kzF ?kzN ?kzH ?kzz ?kzp ?_;(case kzF=>k_asm);(case kzN=>k_asm);(case kzH=>ktr_rel);(case kzp=>with_reducible assumption);(case kzz=>omega));intro _ _ _ _ _ _ _ _;(try dsimp only);(try k_sweep))))
 k_with "binaryOp Add"=>((fail_if_success k_extra "lb");((k_here;(with_reducible show wpAny _ _ (binaryOp _ (Value.ref _) (Value.ref _)) _ _ _);k_dflt (refine' list_add ?kzF ?kzN ?kzm ?kzb ?kzy ?kzz ?_;(case kzF=>k_asm);(case kzN=>k_asm);(case kzm=>k_mem);(case kzb=>k_mem);(case kzy=>kso_len);(case kzz=>kso_len));intro _ _ _ _ _;(try dsimp only);(try k_sweep))))
 k_with "call type:set"=>((fail_if_success k_extra "la");((k_here;(with_reducible show wpAny _ _ (call (Value.type _) [Value.ref _]) _ _ _);k_dflt (refine' set_led_new ?kzF ?kzN ?kzhh ?kzm ?kzi ?kzz ?_;(case kzF=>k_asm);(case kzN=>k_asm);(case kzhh=>exact rfl);(case kzm=>k_mem);(case kzi=>first | l_ints | exact IntsAre.nil | with_reducible assumption);(case kzz=>first | decide | kso_len));intro _ _ _ _ _ _ _ _ _ _ _;(try dsimp only);(try k_sweep))))
 k_with "call builtin:sorted"=>((fail_if_success k_extra "la");((k_here;(with_reducible show wpAny _ _ (call (Value.builtin _) [Value.ref _]) _ _ _);k_dflt (refine' sorted_set_led ?kzF ?kzN ?kzhh ?kzm ?kzS ?kzz ?_;(case kzF=>k_asm);(case kzN=>k_asm);(case kzhh=>exact rfl);(case kzS=>with_reducible assumption);(case kzm=>k_mem);(case kzz=>first | kso_len | ((simp only [List.length_nil] at *);omega)));intro _ _ _ _ _ _ _ _ _ _ _ _;(try dsimp only);(try k_sweep))))
 k_with "el"=>(refine e_let ?_;intro kzE)
 k_with "bodycut"=>((k_extra "cuton");((refine body_cut ?_;intro kzB kzL)))
 k_with "execs cons"=>((k_extra "cuton");((first | ((with_reducible refine execs_cut ?_);(fail_if_success (have _:=kzK));intro kzK kzC) | ((with_reducible refine execs_cut ?_);(fail_if_success (have _:=kzK2));intro kzK2 kzC2) | ((with_reducible refine execs_cut ?_);(fail_if_success (have _:=kzK3));intro kzK3 kzC3) | ((with_reducible refine execs_cut ?_);(fail_if_success (have _:=kzK4));intro kzK4 kzC4) | ((with_reducible refine execs_cut ?_);(fail_if_success (have _:=kzK5));intro kzK5 kzC5))))
 k_with "KAt1"=>((k_extra "cuton");((first | ((with_reducible refine Cont.next kzC5 ?_);(try clear kzC5 kzK5)) | ((with_reducible refine Cont.ret kzC5 ?_);(try clear kzC5 kzK5)) | ((with_reducible refine Cont.brk kzC5 ?_);(try clear kzC5 kzK5)) | ((with_reducible refine Cont.con kzC5 ?_);(try clear kzC5 kzK5)) | ((with_reducible refine Cont.next kzC4 ?_);(try clear kzC4 kzK4)) | ((with_reducible refine Cont.ret kzC4 ?_);(try clear kzC4 kzK4)) | ((with_reducible refine Cont.brk kzC4 ?_);(try clear kzC4 kzK4)) | ((with_reducible refine Cont.con kzC4 ?_);(try clear kzC4 kzK4)) | ((with_reducible refine Cont.next kzC3 ?_);(try clear kzC3 kzK3)) | ((with_reducible refine Cont.ret kzC3 ?_);(try clear kzC3 kzK3)) | ((with_reducible refine Cont.brk kzC3 ?_);(try clear kzC3 kzK3)) | ((with_reducible refine Cont.con kzC3 ?_);(try clear kzC3 kzK3)) | ((with_reducible refine Cont.next kzC2 ?_);(try clear kzC2 kzK2)) | ((with_reducible refine Cont.ret kzC2 ?_);(try clear kzC2 kzK2)) | ((with_reducible refine Cont.brk kzC2 ?_);(try clear kzC2 kzK2)) | ((with_reducible refine Cont.con kzC2 ?_);(try clear kzC2 kzK2)) | ((with_reducible refine Cont.next kzC ?_);(try clear kzC kzK)) | ((with_reducible refine Cont.ret kzC ?_);(try clear kzC kzK)) | ((with_reducible refine Cont.brk kzC ?_);(try clear kzC kzK)) | ((with_reducible refine Cont.con kzC ?_);(try clear kzC kzK)) | (with_reducible refine Leav.ret kzL ?_) | (with_reducible refine Leav.next kzL ?_))))
 k_with "KAt"=>((k_extra "cuton");(((repeat k_extra "KAt1");(try dsimp only);(try walk1))))
 trivial
section
set_option tactic.hygienic false
example:True:=by
 k_with "bank"=>((fail_if_success k_extra "x0");(exists b9,b0,b1,b2,b3,b4,b5,b6,b7,b8,b10,b11,b12,b13,b14,b15))
 trivial
noncomputable abbrev Led:=List (Addr × Obj)
@[reducible] def top (dp un:Nat) (gd:Option (List Code)) (env:Env) (outer:List Env):Around:={ handled:=none,depth:=dp,frames:=some (env::outer),guards:=gd,units:=un }
noncomputable abbrev Nod (l:Led):Prop:=(l.map (·.1)).Nodup
noncomputable abbrev fm (bs:List (Str × Value)):Str->Option Value:=fun y=>List.lookup y bs

noncomputable def setL (d:Addr) (o':Obj) (l:Led):Led:=l.map fun p=>if p.1=d then (d,o') else p
theorem setL_fst (d:Addr) (o':Obj) (l:Led):(setL d o' l).map (·.1)=l.map (·.1):=by
 unfold setL
 rw [List.map_map]
 refine List.map_congr_left fun p _=>?_
 by_cases h:p.1=d
 ·simp [h]
 ·simp [h]
theorem mem_setL_self {d:Addr}{o o':Obj}{l:Led}(h:(d,o)∈l):(d,o')∈setL d o' l :=
 List.mem_map.mpr ⟨(d,o),h,by simp⟩
theorem mem_setL_ne {a d:Addr}{x o':Obj}{l:Led}(h:(a,x)∈l) (hn:a≠d):(a,x)∈setL d o' l :=
 List.mem_map.mpr ⟨(a,x),h,by simp [hn]⟩
theorem mem_setL_ne' {p:Addr × Obj}{d:Addr}{o':Obj}{l:Led}(h:p∈l) (hn:p.1≠d):p∈setL d o' l :=
 List.mem_map.mpr ⟨p,h,by simp [hn]⟩
theorem setL_none {d:Addr}{o':Obj} : ∀ {l:Led},(∀ p∈l,p.1≠d)->setL d o' l=l
 | [],_=>rfl
 | p::r,h=>by
  have h1:=h p (.head _)
  have h2:=setL_none (o':=o') fun q hq=>h q (.tail _ hq)
  unfold setL at h2 ⊢
  rw [List.map_cons,h2,if_neg h1]
theorem upd_setL {d:Addr}{o o':Obj} : ∀ {l:Led},Nod l->(d,o)∈l->Upd d o o' l (setL d o' l)
 | p::r,hn,hm=>by
  unfold Nod at hn
  rw [List.map_cons,List.nodup_cons] at hn
  by_cases h:p.1=d
  ·have hr:∀ q∈r,q.1≠d:=fun q hq e=>hn.1 (List.mem_map.mpr ⟨q,hq,e.trans h.symm⟩)
   have hp:p=(d,o):=by
    rcases List.mem_cons.mp hm with e | e
    ·exact e.symm
    ·exact absurd rfl (hr _ e)
   subst hp
   have e:setL d o' ((d,o)::r)=(d,o')::r:=by
    have:=setL_none (o':=o') hr
    unfold setL at this ⊢
    rw [List.map_cons,this];simp
   rw [e]
   exact .head hr
  ·have hm':(d,o)∈r:=by
    rcases List.mem_cons.mp hm with e | e
    ·exact absurd (by rw [← e]) h
    ·exact e
   have e:setL d o' (p::r)=p::setL d o' r:=by
    unfold setL;rw [List.map_cons,if_neg h]
   rw [e]
   exact .tail h (upd_setL hn.2 hm')
theorem set_head {x:Str}{v v0:Value}{r:List (Str × Value)} : (fun y=>if y=x then some v else List.lookup y ((x,v0)::r))=fun y=>List.lookup y ((x,v)::r):=by
 funext y
 by_cases h:y=x
 ·subst h;simp [List.lookup]
 ·have:(y == x)=false:=by simpa using h
  simp [List.lookup,h,this]
theorem getD_mem {α:Type}{l:List α}{i:Nat}{d:α}(h:i<l.length):l.getD i d∈l:=by
 have e:l.getD i d=l[i]:=by simp [h]
 rw [e];exact List.getElem_mem h
noncomputable def Keeps (foot:List Addr) (l l':Led):Prop:=∀ p∈l,p.1∉foot->p∈l'
noncomputable def Grow (foot foot':List Addr) (l:Led):Prop:=∀ a∈foot',a∈foot∨∀ p∈l,p.1≠a
noncomputable def Lists (as:List Addr) (cs:List (List Int)) (l:Led):Prop:=as.length=cs.length/\∀ i,i<as.length->∃ vs n,(as.getD i 0,PySem.W.listOf (List.toArray vs) n)∈l/\IntsAre vs (cs.getD i [])
noncomputable def Tups (bs:List Addr) (ms:List (Int × Int)) (l:Led):Prop:=bs.length=ms.length/\∀ i,i<bs.length->∃ t1 t2 n,(bs.getD i 0,({ cls:=.type "tuple",data:=.seq #[.int (ms.getD i (0,0)).1 t1,.int (ms.getD i (0,0)).2 t2] n } : Obj))∈l

structure Forest (ns ls:List Int):Prop where
 len:ls.length=ns.length
 lo:∀ i,i<ns.length->0<=ns.getD i 0/\ns.getD i 0<=i
 up:∀ i,i<ns.length->ls.getD (ns.getD i 0).toNat 0=ls.getD i 0
 fix:∀ i,i<ns.length->ns.getD i 0=i->ls.getD i 0=i
theorem Forest.rng {ns ls:List Int}(F:Forest ns ls):∀ i,i<ns.length->0<=ls.getD i 0/\ls.getD i 0<=i:=by
 intro i
 induction i using Nat.strongRecOn with
 | ind i ih =>
  intro hi
  (refine G2 ?_ (F.lo i hi);intro h1 h2)
  by_cases he:ns.getD i 0=i
  ·have:=F.fix i hi he;omega
  ·have h3:=F.up i hi
   have h4:=ih (ns.getD i 0).toNat (by omega) (by omega)
   rw [h3] at h4
   omega
theorem item_ref {prog:Program}{w:World}{A:Around}{E:Value->Shared->Prop}{s:Shared}{hO:Heap}{L l:Addr}{news:Led}{value slice:PySem.Expr}{vs:List Value}{n:Nat}{k:Int}{u:Tok}{v:Value}{Q:Value->Shared->Prop}
  (N:News hO L s.heap news) (hm:(l,PySem.W.listOf vs.toArray n)∈news) (h0:0<=k) (hx:vs[k.toNat]?=some v) (hhi:k<2 ^ 63) (h:Q v s)
  (hs:subscripted slice false (.ref l) (.int k u)=operate [.ref l,.int k u] (getItem (.ref l) (.int k u)):=by with_unfolding_all rfl) :
  wpAny (model prog w) A (subscriptTail value slice (.ref l) (.int k u)) Q E s:=by
 have hl:s.heap.IsList l vs.toArray:=⟨_,(N _ hm).1,rfl,n,rfl⟩
 exact tail_any hl.typeIs slot_list_getitem.lookup (wpAny_getItem_list hl h0 hhi (by simpa using hx) h) hs
theorem ref_at {as:List Addr}{k:Int}(h:k.toNat<as.length):(as.map Value.ref)[k.toNat]?=some (.ref (as.getD k.toNat 0)):=by
 simp [h]
theorem is_listN {s:Shared}{hO:Heap}{L l:Addr}{news:Led}{vs:List Value}{n:Nat}(N:News hO L s.heap news) (hm:(l,PySem.W.listOf vs.toArray n)∈news):s.heap.IsList l vs.toArray:=⟨_,(N _ hm).1,rfl,n,rfl⟩
theorem News.nod {hO h:Heap}{L:Addr} : ∀ {l:Led},News hO L h l->∃ l',Nod l'/\∀ p,p∈l↔p∈l'
 | [],_=>⟨[],List.nodup_nil,fun _=>Iff.rfl⟩
 | p::r,N=>by
  (refine E1 (News.nod (l:=r) fun q hq=>N q (.tail _ hq)) fun l'=>G2 fun ND hi=>?_)
  by_cases h:p∈l'
  ·refine K1 l' (M2 ND (fun q=>⟨fun hq=>?_,fun hq=>.tail _ ((hi q).mpr hq)⟩))
   rcases List.mem_cons.mp hq with e | hq
   ·rw [e];exact h
   ·exact (hi q).mp hq
  ·refine K1 (p::l') (M2 ?_ (fun q=>?_))
   ·show ((p.1::l'.map (·.1)):List Addr).Nodup
    rw [List.nodup_cons]
    refine ⟨fun hm=>h ?_,ND⟩
    (refine E1 (List.mem_map.mp hm) fun q=>G2 fun hq e=>?_)
    have h1:=(N q (.tail _ ((hi q).mpr hq))).1
    have h2:=(N p (.head _)).1
    rw [e,h2] at h1
    have e2:p=q:=Prod.ext e.symm (Option.some.inj h1)
    rw [e2];exact hq
   ·rw [List.mem_cons,List.mem_cons,hi q]
theorem mem_setL_iff {d:Addr}{o':Obj}{l l':Led}(h:∀ p,p∈l↔p∈l') (q:Addr × Obj):q∈setL d o' l↔q∈setL d o' l':=by
 unfold setL
 rw [List.mem_map,List.mem_map]
 exact ⟨fun ⟨p,hp,e⟩=>⟨p,(h p).mp hp,e⟩,fun ⟨p,hp,e⟩=>⟨p,(h p).mpr hp,e⟩⟩
theorem lt_setL {d D:Addr}{o:Obj}{l:Led}(h:∀ p∈setL d o l,p.1<D):∀ p∈l,p.1<D:=fun p hp=>by
 have h1:p.1∈(setL d o l).map (·.1):=by rw [setL_fst];exact List.mem_map_of_mem hp
 (refine E1 (List.mem_map.mp h1) fun q=>G2 fun hq e=>?_)
 rw [← e];exact h q hq
theorem lt_tail {D:Addr}{p:Addr × Obj}{l:Led}(h:∀ q∈p::l,q.1<D):∀ q∈l,q.1<D:=fun q hq=>h q (.tail _ hq)
theorem ne_of_lts {D:Addr}{l:Led}(h:∀ p∈l,p.1<D):∀ p∈l,p.1≠D:=fun p hp=>Nat.ne_of_lt (h p hp)
theorem News.inj {hO h:Heap}{L a:Addr}{o o':Obj}{l:Led}(N:News hO L h l) (h1:(a,o)∈l) (h2:(a,o')∈l):o=o':=Option.some.inj ((N _ h1).1.symm.trans (N _ h2).1)
theorem News.sub {hO h:Heap}{L:Addr}{l l':Led}(N:News hO L h l) (h':∀ p∈l',p∈l):News hO L h l':=fun p hp=>N p (h' p hp)
theorem room_up {dp a b c N:Nat}(h:dp+b<N) (e:Nat.ble (c+a) b=true):dp+c+a<N:=by
 have:=Nat.le_of_ble_eq_true e
 omega
theorem room_up2 {dp a b c d N:Nat}(h:dp+b<N) (e:Nat.ble (c+d+a) b=true):dp+c+d+a<N:=by
 have:=Nat.le_of_ble_eq_true e
 omega
theorem room_0 {dp a b N:Nat}(h:dp+b<N) (e:Nat.ble a b=true):dp+a<N:=by
 have:=Nat.le_of_ble_eq_true e
 omega
theorem ints_two {ys:List Value}{a c:Int}(h:IntsAre ys [a,c]):∃ ta tc,ys=[.int a ta,.int c tc]:=by
 cases h with
 | cons _ t h=>cases h with
  | cons _ t2 h=>cases h;refine K2 _ _ rfl

section
variable {prog:Program}{w:World}{A:Around}{E:Value->Shared->Prop}{s:Shared}{hO:Heap}{L D b:Addr}{m:Str->Option Value}{news:Led}{vs vs2:List Value}{n n2:Nat}
theorem len_led {Q:Value->Shared->Prop}{k:Nat}(N:News hO L s.heap news) (hm:(D,PySem.W.listOf vs.toArray n)∈news) (hk:vs.length=k) (hz:k<100000) (h:∀ t tk,Q (.int (k:Int) t) { s with toks:=tk }) :
  wpAny (model prog w) A (call (.builtin "len") [.ref D]) Q E s:=by
 have hl:s.heap.IsList D vs.toArray:=is_listN N hm
 refine len_list hl (by rw [List.size_toArray];omega) ?_
 rw [List.size_toArray,hk]
 exact h _ _
theorem append_led {Q:Value->Shared->Prop}{x:Value}(F:Fr hO L s.heap m) (N:News hO L s.heap news) (hm:(D,PySem.W.listOf vs.toArray n)∈news) (hz:vs.length<100000)
  (h:∀ h',Fr hO L h' m->News hO L h' (setL D (PySem.W.listOf (vs++[x]).toArray (n+1)) news)->Q .none { s with heap:=h' }) :
  wpAny (model prog w) A (call (.builtin "list.append") [.ref D,x]) Q E s:=by
 (refine E1 (News.nod N) fun l'=>G2 fun ND hi=>?_)
 have N2:News hO L s.heap l':=News.sub N fun p hp=>(hi p).mpr hp
 have hm:=(hi _).mp hm
 have U:=upd_setL (o':=PySem.W.listOf (vs++[x]).toArray (n+1)) ND hm
 have e:(vs++[x]).toArray=vs.toArray.push x:=by simp
 rw [e] at U h
 exact append_K F N2 U (fun h' F' N'=>h h' F' (News.sub N' fun p hp=>(mem_setL_iff hi p).mp hp)) (by rw [List.size_toArray,sizeLine_eq];omega)
theorem extend_led {Q:Value->Shared->Prop}(F:Fr hO L s.heap m) (N:News hO L s.heap news) (hm:(D,PySem.W.listOf vs.toArray n)∈news) (hb:(b,PySem.W.listOf vs2.toArray n2)∈news) (hz:vs.length<100000) (hz2:vs2.length<100000)
  (h:∀ h' n',Fr hO L h' m->News hO L h' (setL D (PySem.W.listOf (vs++vs2).toArray n') news)->Q .none { s with heap:=h' }) :
  wpAny (model prog w) A (call (.builtin "list.extend") [.ref D,.ref b]) Q E s:=by
 (refine E1 (News.nod N) fun l'=>G2 fun ND hi=>?_)
 have N2:News hO L s.heap l':=News.sub N fun p hp=>(hi p).mpr hp
 have hm:=(hi _).mp hm
 have hb:=(hi _).mp hb
 have hd:¬(!vs.toArray.isEmpty && Builtin.List.listTooLong (vs.toArray.size+vs2.toArray.size))=true:=extend_door (by rw [List.size_toArray,List.size_toArray,sizeLine_eq];omega)
 by_cases h0:vs2.length=0
 ·have e:vs2=[]:=List.eq_nil_of_length_eq_zero h0
  subst e
  have U:=upd_setL (o':=PySem.W.listOf vs.toArray n) ND hm
  exact kxn_extend F N2 hb rfl U hd (by show vs.length<=sizeLine;rw [sizeLine_eq];omega) (by rw [List.size_toArray,List.size_toArray,sizeLine_eq];omega) fun h' F' N'=>h h' n F' (News.sub (by simpa using N') fun p hp=>(mem_setL_iff hi p).mp hp)
 ·have U:=upd_setL (o':=PySem.W.listOf (vs++vs2).toArray (n+1)) ND hm
  exact kl_extend F N2 hb rfl h0 U hd (by show vs.length<=sizeLine;rw [sizeLine_eq];omega) (by rw [List.size_toArray,List.size_toArray,sizeLine_eq];omega) fun h' F' N'=>h h' (n+1) F' (News.sub N' fun p hp=>(mem_setL_iff hi p).mp hp)
theorem list_led {Q:Value->Shared->Prop}(F:Fr hO L s.heap m) (N:News hO L s.heap news) (hm:(D,PySem.W.listOf vs.toArray n)∈news) (hz:vs.length<100000)
  (h:∀ D' c h',Fr hO L h' m->News hO L h' ((D',PySem.W.listOf vs.toArray c)::news)->(∀ q∈news,q.1<D')->Q (.ref D') { s with heap:=h' }) :
  wpAny (model prog w) A (call (.type "list") [.ref D]) Q E s :=
 list_copyK F N (is_listN N hm) (fun D' c h' F' N' l1=>h D' c h' F' N' l1) (by rw [List.size_toArray,sizeLine_eq];omega)
theorem set_led {Q:Unit->Shared->Prop}{ns:List Int}{k x:Int}{t u:Tok}(F:Fr hO L s.heap m) (N:News hO L s.heap news) (hm:(D,PySem.W.listOf vs.toArray n)∈news) (hi:IntsAre vs ns) (h0:0<=k) (h1:k<ns.length) (hz:k<100000)
  (h:∀ h',Fr hO L h' m->News hO L h' (setL D (PySem.W.listOf (vs.set k.toNat (.int x u)).toArray n) news)->IntsAre (vs.set k.toNat (.int x u)) (ns.set k.toNat x)->Q () { s with heap:=h' }) :
  wpAny (model prog w) A (setItem (.ref D) (.int k t) (.int x u)) Q E s:=by
 (refine E1 (News.nod N) fun l'=>G2 fun ND hl=>?_)
 have N2:News hO L s.heap l':=News.sub N fun p hp=>(hl p).mpr hp
 exact ksa_set F N2 (upd_setL ND ((hl _).mp hm)) hi h0 h1 (by omega) fun h' F' N' i' _ _=>h h' F' (News.sub N' fun p hp=>(mem_setL_iff hl p).mp hp) i'
theorem sorted_two {Q:Value->Shared->Prop}{x y:Int}{tx ty:Tok}(F:Fr hO L s.heap m) (N:News hO L s.heap news) (hm:(D,PySem.W.listOf #[.int x tx,.int y ty] n)∈news)
  (h:∀ D' c h' t1 t2,Fr hO L h' m->News hO L h' ((D',PySem.W.listOf #[.int (min x y) t1,.int (max x y) t2] c)::news)->(∀ q∈news,q.1<D')->Q (.ref D') { s with heap:=h' }) :
  wpAny (model prog w) A (call (.builtin "sorted") [.ref D]) Q E s:=by
 have hi:IntsAre [.int x tx,.int y ty] [x,y]:=.cons _ _ (.cons _ _ .nil)
 refine kso_sorted (vs:=[.int x tx,.int y ty]) F N (is_listN N hm) hi (by show (2:Nat)<64;decide) fun D' v' n' c' h' F' N' l1 i' e' p' o' _=>?_
 have hn:n'=[min x y,max x y]:=by
  match n',e',p',o' with
  | [p,q],_,p',o' =>
   have h1:p<=q:=by simpa using o'
   have h2:p=x∨p=y:=by simpa using p'.mem_iff (a:=p)
   have:p=min x y/\q=max x y:=by
    rcases h2 with e | e
    ·subst e
     have h3:q=y:=by simpa using p'.cons_inv
     omega
    ·subst e
     have h3:q=x:=by simpa using (p'.trans (List.Perm.swap _ _ _)).cons_inv
     omega
   rw [this.1,this.2]
 subst hn
 (refine E2 (ints_two i') fun t1 t2 zo1=>?_;rcases zo1 with rfl)
 exact h D' c' h' t1 t2 F' N' l1
end

section
variable {M:Model}{w:World}{A:Around}{E:Value->Shared->Prop}{s:Shared}{hO:Heap}{L D b:Addr}{m:Str->Option Value}{news:Led}
noncomputable abbrev tupOf (vs:Array Value) (n:Nat):Obj:={ cls:=.type "tuple",data:=.seq vs n }
theorem newList_led {vs:List Value}{Q:Value->Shared->Prop}(F:Fr hO L s.heap m) (N:News hO L s.heap news)
  (h:∀ D h',Fr hO L h' m->News hO L h' ((D,PySem.W.listOf vs.toArray 0)::news)->(∀ p∈news,p.1<D)->Q (.ref D) { s with heap:=h' }) (hsz:vs.length<=100000) :
  wpAny M A (newList vs) Q E s :=
 have l1:∀ p∈news,p.1<s.heap.objs.size:=fun p hp=>Heap.lt_size (N p hp).1
 newList_N F N (fun h' F' N'=>h _ h' F' N' l1) (by rw [sizeLine_eq];omega)
theorem newTuple_led {vs:List Value}{Q:Value->Shared->Prop}(F:Fr hO L s.heap m) (N:News hO L s.heap news)
  (h:∀ D h',Fr hO L h' m->News hO L h' ((D,tupOf vs.toArray 0)::news)->(∀ p∈news,p.1<D)->Q (.ref D) { s with heap:=h' }) (hsz:vs.length<=100000) :
  wpAny M A (newTuple vs) Q E s :=
 have l1:∀ p∈news,p.1<s.heap.objs.size:=fun p hp=>Heap.lt_size (N p hp).1
 newTuple_N F N (fun h' F' N'=>h _ h' F' N' l1) (by rw [sizeLine_eq];omega)
end

theorem getD_set_self {α:Type}{l:List α}{i:Nat}{x d:α}(h:i<l.length):(l.set i x).getD i d=x:=by
 simp [List.getD_eq_getElem?_getD,h]
theorem getD_set_ne {α:Type}{l:List α}{i j:Nat}{x d:α}(h:i≠j):(l.set i x).getD j d=l.getD j d:=by
 simp [List.getD_eq_getElem?_getD,List.getElem?_set,h]
theorem getD_app_lt {α:Type}{l r:List α}{i:Nat}{d:α}(h:i<l.length):(l++r).getD i d=l.getD i d:=by
 simp [List.getD_eq_getElem?_getD,List.getElem?_append,h]
theorem getD_app_last {α:Type}{l:List α}{x d:α}{i:Nat}(h:i=l.length):(l++[x]).getD i d=x:=by
 subst h
 simp [List.getD_eq_getElem?_getD,List.getElem?_append]
theorem mem_set_or {α:Type}{l:List α}{i:Nat}{x y:α}(h:y∈l.set i x):y∈l∨y=x:=List.mem_or_eq_of_mem_set h
set_option cleanup.letToHave false in
theorem m_let {hO:Heap}{L:Addr}{h:Heap}{m:Str->Option Value}{C:Prop}(k:let m':=m;Fr hO L h m'->C):Fr hO L h m->C:=k
end
section
open PyProof.Rows.LCg
set_option tactic.hygienic false
example:True:=by
 k_with "x0"=>skip
 k_with "bank"=>((fail_if_success k_extra "x1");(exists b9,b17,b16,b18,b19,b20,b21,b22))
 trivial
noncomputable def Hold (P:Prop):Prop:=P
theorem Hold.out {P:Prop}(h:Hold P):P:=h
theorem Hold.done {P:Prop}(h:P):Hold P:=h
theorem off1_all {D:Addr}{l:Led}(h:Off1 D l):∀ p∈l,p.1≠D:=by
 induction l with
 | nil=>intro p hp;exact absurd hp List.not_mem_nil
 | cons a r ih =>
  intro p hp
  rcases List.mem_cons.mp hp with e | hp
  ·rw [e];exact h.1
  ·exact ih h.2 p hp
section
variable {prog:Program}{w:World}{A:Around}{E:Value->Shared->Prop}{s s₁:Shared}{hO:Heap}{L:Addr}{m:Str->Option Value}{env:Env}{elt ct:Expr}{x:Str}{scope:Scope}{cl:List (Str × Addr)}{news:Led}{Q:Value->Shared->Prop}
theorem comp_rest {S:Led->Prop}{P:Nat->Value->Prop}{Fin:List Value->Led->Prop}{n:Nat}(J:Nat->List Value->Led->Prop)
  (turn:∀ i v I oI C oC D m₂ ys news h tk (E':Value->Shared->Prop),i<n->P i v->J i ys news->NsObj oC m₂->m₂ x=some v->Fr hO L h m->News hO L h ((I,oI)::(C,oC)::(D,lst ys)::news)->Off3 I C D news ->
   wpAny (model prog w) A (eval elt (compEnvC scope cl C env)) (CompEnd hO L m { s with heap:=h,toks:=tk } I oI C oC D (lst ys) S (fun y news'=>J (i+1) (ys++[y]) news')) E' { s with heap:=h,toks:=tk })
  (fin:∀ ys news,J n ys news->Fin ys news):∀ j i ys news,i+j=n->J i ys news->CompRest prog w A hO L m env elt x scope cl s S P Fin j i ys news
 | 0,i,ys,news,hi,hJ=>CompRest.zero (fin ys news ((show i=n by omega) ▸ hJ))
 | j+1,i,ys,news,hi,hJ=>by
  refine CompRest.succ ?_
  intro v I oI C oC D m₂ h tk E' hP hC hx F N off ne
  refine wpAny_mono (turn i v I oI C oC D m₂ ys news h tk E' (by omega) hP hJ hC hx F N off) (fun y s₂ hq=>?_) fun _ _ e=>e
  (refine E3 hq fun h' tk' nw=>G6 fun e F' N' off' hS hJ'=>?_;try clear hq)
  refine K3 h' tk' nw (M6 e F' N' off' hS (comp_rest J turn fin j (i+1) _ _ (by omega) hJ'))

theorem comp_range {r:Addr}{b:Int}{t u v:Tok}{n:Nat}(J:Nat->List Value->Led->Prop) (hh:A.handled=none) (F:Fr hO L s₁.heap m) (N:News hO L s₁.heap news) (hr:IsRange s₁.heap r 0 b 1 t u v) (hb:b=n) (hn:n<100000)
  (hJ:J 0 [] news)
  (turn:∀ (i:Nat) t I oI C oC D m₂ ys news h tk (E':Value->Shared->Prop),i<n->J i ys news->NsObj oC m₂->m₂ x=some (.int (i:Int) t)->Fr hO L h m->News hO L h ((I,oI)::(C,oC)::(D,lst ys)::news)->Off3 I C D news ->
   wpAny (model prog w) A (eval elt (compEnvC scope cl C env)) (CompEnd hO L m { s₁ with heap:=h,toks:=tk } I oI C oC D (lst ys) (fun _=>True) (fun y news'=>J (i+1) (ys++[y]) news')) E' { s₁ with heap:=h,toks:=tk })
  (fin:∀ D ys news h tk,J n ys news->Fr hO L h m->News hO L h ((D,PySem.W.listOf ys.toArray ys.length)::news)->(∀ p∈news,p.1≠D)->Q (.ref D) { s₁ with heap:=h,toks:=tk }) :
  CompSrc prog w A hO L m env elt x scope cl (fun s₂=>FinE hO L m s₂ Q) (.ref r) s₁:=by
 subst hb
 have h1:Builtin.Range.small 0 (n:Int) 1=true:=small_one (by decide) (by decide) (by omega) (by omega)
 have h2:Builtin.Range.rangeSize 0 (n:Int) 1=((n:Nat):Int):=by
  rw [rangeSize_one];split <;> omega
 refine CompSrc.range hh F N hr h1 h2 (by rw [sizeLine_eq];omega) fun g=>?_
 refine comp_rest (n:=n) J (fun i v I oI C oC D m₂ ys news h tk E' hi hP hJ hC hx F N off=>?_) (fun ys news hJ D h tk F' N' off=>?_) n 0 [] news (by omega) hJ
 ·(refine E1 hP fun t e=>?_;try clear hP)
  have e':v = .int (i:Int) t:=by rw [e,Int.zero_add]
  rw [e'] at hx
  exact turn i t I oI C oC D m₂ ys news h tk E' hi hJ hC hx F N off
 ·exact fin D ys news h tk hJ F' N' (off1_all off)

theorem comp_list {r:Addr}{vs:List Value}{k:Nat}(J:Nat->List Value->Led->Prop) (hh:A.handled=none) (F:Fr hO L s₁.heap m) (N:News hO L s₁.heap news) (hm:(r,PySem.W.listOf vs.toArray k)∈news) (hn:vs.length<100000)
  (hJ:J 0 [] news) (hS:∀ i ys news,J i ys news->(r,PySem.W.listOf vs.toArray k)∈news)
  (turn:∀ (i:Nat) v I oI C oC D m₂ ys news h tk (E':Value->Shared->Prop),vs[i]?=some v->J i ys news->NsObj oC m₂->m₂ x=some v->Fr hO L h m->News hO L h ((I,oI)::(C,oC)::(D,lst ys)::news)->Off3 I C D news ->
   wpAny (model prog w) A (eval elt (compEnvC scope cl C env)) (CompEnd hO L m { s₁ with heap:=h,toks:=tk } I oI C oC D (lst ys) (fun _=>True) (fun y news'=>J (i+1) (ys++[y]) news')) E' { s₁ with heap:=h,toks:=tk })
  (fin:∀ D ys news h tk,J vs.length ys news->Fr hO L h m->News hO L h ((D,PySem.W.listOf ys.toArray ys.length)::news)->(∀ p∈news,p.1≠D)->Q (.ref D) { s₁ with heap:=h,toks:=tk }) :
  CompSrc prog w A hO L m env elt x scope cl (fun s₂=>FinE hO L m s₂ Q) (.ref r) s₁:=by
 refine CompSrc.ledger (its:=vs.toArray) (k:=k) hh F N hm (by rw [List.size_toArray,sizeLine_eq];omega) fun g=>?_
 refine comp_rest (n:=vs.toArray.size) J (fun i v I oI C oC D m₂ ys news h tk E' hi hP hJ hC hx F N off=>?_) (fun ys news hJ D h tk F' N' off=>?_) vs.toArray.size 0 [] news (by omega) hJ
 ·refine wpAny_mono (turn i v I oI C oC D m₂ ys news h tk E' (by simpa using hP) hJ hC hx F N off) (fun y s₂ hq=>?_) fun _ _ e=>e
  (refine E3 hq fun h' tk' nw=>G6 fun e F' N' off' _ hJ'=>?_;try clear hq)
  refine K3 h' tk' nw (M6 e F' N' off' (.inr ⟨_,hS _ _ _ hJ',rfl,_,rfl⟩) hJ')
 ·exact fin D ys news h tk (by simpa using hJ) F' N' (off1_all off)
end
section
open PyProof.Rows.LCt
variable {prog:Program}{w:World}{A:Around}{E:Value->Shared->Prop}{s s₁:Shared}{hO:Heap}{L:Addr}{m:Str->Option Value}{env:Env}{elt ct:Expr}{x:Str}{scope:Scope}{cl:List (Str × Addr)}{news:Led}{Q:Value->Shared->Prop}
theorem compT_rest {S:Led->Prop}{P:Nat->Value->Prop}{Fin:List Value->Led->Prop}{n:Nat}(J:Nat->List Value->Led->Prop)
  (turn:∀ i v I oI C oC D m₂ ys news h tk (E':Value->Shared->Prop),i<n->P i v->J i ys news->NsObj oC m₂->m₂ x=some v->Fr hO L h m->News hO L h ((I,oI)::(C,oC)::(D,lst ys)::news)->Off3 I C D news ->
   wpAny (model prog w) A (isTrue ct (compEnvC scope cl C env) (eval ct (compEnvC scope cl C env))) (fun ok s'=>if ok=true then
    wpAny (model prog w) A (eval elt (compEnvC scope cl C env)) (CompEnd hO L m { s with heap:=h,toks:=tk } I oI C oC D (lst ys) S (fun y news'=>J (i+1) (ys++[y]) news')) E' s'
    else CompEnd hO L m { s with heap:=h,toks:=tk } I oI C oC D (lst ys) S (fun _ news'=>J (i+1) ys news') Value.none s') E' { s with heap:=h,toks:=tk })
  (fin:∀ ys news,J n ys news->Fin ys news):∀ j i ys news,i+j=n->J i ys news->CompRestT prog w A hO L m env ct elt x scope cl s S P Fin j i ys news
 | 0,i,ys,news,hi,hJ=>CompRestT.zero (fin ys news ((show i=n by omega) ▸ hJ))
 | j+1,i,ys,news,hi,hJ=>by
  refine CompRestT.succ ?_
  intro v I oI C oC D m₂ h tk E' hP hC hx F N off ne
  refine wpAny_mono (turn i v I oI C oC D m₂ ys news h tk E' (by omega) hP hJ hC hx F N off) (fun ok s₂ hq=>?_) fun _ _ e=>e
  cases ok with
  | true =>
   simp only [if_true] at hq ⊢
   refine wpAny_mono hq (fun y s₃ hq=>?_) fun _ _ e=>e
   (refine E3 hq fun h' tk' nw=>G6 fun e F' N' off' hS hJ'=>?_;try clear hq)
   refine K3 h' tk' nw (M6 e F' N' off' hS (compT_rest J turn fin j (i+1) _ _ (by omega) hJ'))
  | false =>
   simp only [Bool.false_eq_true,if_false] at hq ⊢
   (refine E3 hq fun h' tk' nw=>G6 fun e F' N' off' hS hJ'=>?_;try clear hq)
   refine K3 h' tk' nw (M6 e F' N' off' hS (compT_rest J turn fin j (i+1) _ _ (by omega) hJ'))
theorem compT_range {r:Addr}{b:Int}{t u v:Tok}{n:Nat}(J:Nat->List Value->Led->Prop) (hh:A.handled=none) (F:Fr hO L s₁.heap m) (N:News hO L s₁.heap news) (hr:IsRange s₁.heap r 0 b 1 t u v) (hb:b=n) (hn:n<100000)
  (hJ:J 0 [] news)
  (turn:∀ (i:Nat) t I oI C oC D m₂ ys news h tk (E':Value->Shared->Prop),i<n->J i ys news->NsObj oC m₂->m₂ x=some (.int (i:Int) t)->Fr hO L h m->News hO L h ((I,oI)::(C,oC)::(D,lst ys)::news)->Off3 I C D news ->
   wpAny (model prog w) A (isTrue ct (compEnvC scope cl C env) (eval ct (compEnvC scope cl C env))) (fun ok s'=>if ok=true then
    wpAny (model prog w) A (eval elt (compEnvC scope cl C env)) (CompEnd hO L m { s₁ with heap:=h,toks:=tk } I oI C oC D (lst ys) (fun _=>True) (fun y news'=>J (i+1) (ys++[y]) news')) E' s'
    else CompEnd hO L m { s₁ with heap:=h,toks:=tk } I oI C oC D (lst ys) (fun _=>True) (fun _ news'=>J (i+1) ys news') Value.none s') E' { s₁ with heap:=h,toks:=tk })
  (fin:∀ D ys news h tk,J n ys news->Fr hO L h m->News hO L h ((D,PySem.W.listOf ys.toArray ys.length)::news)->(∀ p∈news,p.1≠D)->Q (.ref D) { s₁ with heap:=h,toks:=tk }) :
  CompSrcT prog w A hO L m env ct elt x scope cl (fun s₂=>FinE hO L m s₂ Q) (.ref r) s₁:=by
 subst hb
 have h1:Builtin.Range.small 0 (n:Int) 1=true:=small_one (by decide) (by decide) (by omega) (by omega)
 have h2:Builtin.Range.rangeSize 0 (n:Int) 1=((n:Nat):Int):=by
  rw [rangeSize_one];split <;> omega
 refine CompSrcT.range hh F N hr h1 h2 (by rw [sizeLine_eq];omega) fun g=>?_
 refine compT_rest (n:=n) J (fun i v I oI C oC D m₂ ys news h tk E' hi hP hJ hC hx F N off=>?_) (fun ys news hJ D h tk F' N' off=>?_) n 0 [] news (by omega) hJ
 ·(refine E1 hP fun t e=>?_;try clear hP)
  have e':v = .int (i:Int) t:=by rw [e,Int.zero_add]
  rw [e'] at hx
  exact turn i t I oI C oC D m₂ ys news h tk E' hi hJ hC hx F N off
 ·exact fin D ys news h tk hJ F' N' (off1_all off)
end
end
section
set_option tactic.hygienic false
example:True:=by
 k_with "x1"=>skip
 k_with "bank"=>((fail_if_success k_extra "x2");(exists b9,b23,b24))
 trivial
noncomputable abbrev Mix:=Str ⊕ Int
section
variable {prog:Program}{w:World}{A:Around}{E:Value->Shared->Prop}{s:Shared}
theorem eqBool_mix {u v:Value}{Q:Bool->Shared->Prop}(h1:(u == v)=false) (h2:∀ a t,u≠.float a t) (h:wpAny (model prog w) A (richCompare .Eq u v) (fun r s'=>r = .bool false/\Q false s') E s) :
  wpAny (model prog w) A (PySem.eqBool u v) Q E s:=by
 unfold PySem.eqBool
 try with_reducible refine wpAny_holding ?_
 rw [h1]
 simp only [Bool.false_eq_true,if_false]
 have fin:wpAny (model prog w) A (richCompare .Eq u v >>= truthOfDropped) Q E s :=
  wpAny_bind (wpAny_mono h (fun r s' hr=>by (refine G2 ?_ hr;try clear hr;intro zo2 hq;rcases zo2 with rfl);exact wpAny_truthy_bool hq) fun _ _ e=>e)
 cases u <;> first | exact fin | exact absurd rfl (h2 _ _)
end
noncomputable def mixIs:Mix->Value->Bool
 | .inl x,v=>Value.isStrOf x v
 | .inr i,v=>Value.isInt i v
noncomputable def mixKind (prog:Program) (w:World):PySem.KeyKind prog w Mix where
 is:=mixIs
 hash:=fun k=>match k with | .inl x=>hashStr w x | .inr i=>hashInt i
 inj:=fun v a b ha hb=>by
  cases a <;> cases b <;> simp only [mixIs] at ha hb
  ·rw [Value.isStrOf_inj _ _ _ ha hb]
  ·(refine E1 (Value.isStrOf_shape ha) fun t zo3=>?_;rcases zo3 with rfl)
   simp [Value.isInt] at hb
  ·(refine E1 (Value.isInt_shape ha) fun t zo4=>?_;rcases zo4 with rfl)
   simp [Value.isStrOf] at hb
  ·rw [Value.isInt_inj _ _ _ ha hb]
 byValue:=fun k v h=>by
  cases k <;> simp only [mixIs] at h
  ·(refine E1 (Value.isStrOf_shape h) fun t zo5=>?_;rcases zo5 with rfl);rfl
  ·(refine E1 (Value.isInt_shape h) fun t zo6=>?_;rcases zo6 with rfl);rfl
 pyHash:=fun {A E s k v Q} hv h=>by
  cases k <;> simp only [mixIs] at hv
  ·(refine E1 (Value.isStrOf_shape hv) fun t zo7=>?_;rcases zo7 with rfl);exact wpAny_pyHash_str h
  ·(refine E1 (Value.isInt_shape hv) fun t zo8=>?_;rcases zo8 with rfl);exact wpAny_pyHash_int h
 eqBool:=fun {A E s a b u v Q} hu hv h=>by
  cases a <;> cases b <;> simp only [mixIs] at hu hv
  ·(refine E1 (Value.isStrOf_shape hu) fun t zo9=>?_;rcases zo9 with rfl)
   (refine E1 (Value.isStrOf_shape hv) fun t' zo10=>?_;rcases zo10 with rfl)
   exact wpAny_eqBool_str (by simpa using h)
  ·(refine E1 (Value.isStrOf_shape hu) fun t zo11=>?_;rcases zo11 with rfl)
   (refine E1 (Value.isInt_shape hv) fun t' zo12=>?_;rcases zo12 with rfl)
   exact eqBool_mix rfl (fun _ _ e=>nomatch e) (EqMixed.eq_str_int ⟨rfl,by simpa using h⟩)
  ·(refine E1 (Value.isInt_shape hu) fun t zo13=>?_;rcases zo13 with rfl)
   (refine E1 (Value.isStrOf_shape hv) fun t' zo14=>?_;rcases zo14 with rfl)
   exact eqBool_mix rfl (fun _ _ e=>nomatch e) (EqMixed.eq_int_str ⟨rfl,by simpa using h⟩)
  ·(refine E1 (Value.isInt_shape hu) fun t zo15=>?_;rcases zo15 with rfl)
   (refine E1 (Value.isInt_shape hv) fun t' zo16=>?_;rcases zo16 with rfl)
   refine wpAny_eqBool_int ?_
   simp only [Sum.inr.injEq] at h
   exact h
 «strs»:=fun k x t v h=>by
  cases k <;> simp only [mixIs] at h
  ·(refine E1 (Value.isStrOf_shape h) fun u hu=>?_)
   injection hu with hx
   subst hx
   cases v <;> rfl
  ·simp [Value.isInt] at h

noncomputable abbrev tupK (prog:Program) (w:World):HeapKind prog w (List Mix):=tupleKind (mixKind prog w)
noncomputable def TupIn (prog:Program) (w:World) (a:Addr) (k:List Mix) (l:Led):Prop:=∃ items n,(a,tupOf items n)∈l/\ItemsAre (mixKind prog w) k items.toList
theorem TupIn.key {prog:Program}{w:World}{a:Addr}{k:List Mix}{l:Led}{hO h:Heap}{L:Addr}(T:TupIn prog w a k l) (N:News hO L h l):(tupK prog w).is h k a:=by
 (refine E2 T fun items n=>G2 fun hm hi=>?_;try clear T)
 refine K3 _ items n (M4 ((N _ hm).1) rfl rfl hi)
theorem TupIn.mono {prog:Program}{w:World}{a:Addr}{k:List Mix}{l l':Led}(T:TupIn prog w a k l) (h:∀ p∈l,p.1=a->p∈l'):TupIn prog w a k l':=by
 (refine E2 T fun items n=>G2 fun hm hi=>?_;try clear T)
 refine K2 items n (M2 (h _ hm rfl) hi)

noncomputable abbrev Ents:=List (List Mix × Addr × Value)
noncomputable def DH (prog:Program) (w:World) (d:Addr) (xs:Ents) (l:Led):Prop :=
 (d == sysModules)=false/\∃ o es ep,(d,o)∈l/\o.ExactDict/\o.data = .dict es ep/\es.toList=xs.map (entryOfKey (tupK prog w))/\(xs.map (·.1)).Nodup/\∀ x∈xs,TupIn prog w x.2.1 x.1 l
noncomputable def entAddrs (xs:Ents):List Addr:=xs.map fun x=>x.2.1
theorem DH.move {prog:Program}{w:World}{d:Addr}{xs:Ents}{l l':Led}(H:DH prog w d xs l) (h:∀ p∈l,(p.1=d∨p.1∈entAddrs xs)->p∈l'):DH prog w d xs l':=by
 obtain ⟨a,o,es,ep,hm,b,c,e,f,g⟩:=H
 refine ⟨a,o,es,ep,h _ hm (.inl rfl),b,c,e,f,fun x hx=>(g x hx).mono fun p hp e=>h p hp (.inr (e ▸ List.mem_map_of_mem hx))⟩
theorem DH.of {prog:Program}{w:World}{d:Addr}{xs:Ents}{l:Led}{hO h:Heap}{L:Addr}(H:DH prog w d xs l) (N:News hO L h l):h.DictOfH (tupK prog w) d xs:=by
 obtain ⟨a,o,es,ep,hm,b,c,e,f,g⟩:=H
 refine K3 o es ep (M6 ((N _ hm).1) b c e (fun x hx=>(g x hx).key N) f)
theorem DH.obj {prog:Program}{w:World}{d:Addr}{xs:Ents}{l:Led}(H:DH prog w d xs l):∃ o,(d,o)∈l:=let ⟨_,o,_,_,hm,_⟩:=H;⟨o,hm⟩
section
variable {prog:Program}{w:World}{A:Around}{E:Value->Shared->Prop}{s:Shared}{hO:Heap}{L d a:Addr}{m:Str->Option Value}{news:Led}{k:List Mix}{xs:Ents}
theorem DH.after {h':Heap}{xs':Ents}(H:DH prog w d xs news) (N:News hO L s.heap news) (F:Fr hO L s.heap m) (hm:h'.DictOfH (tupK prog w) d xs') (hs:Heap.SameBut d s.heap h') (hx:∀ x∈xs',TupIn prog w x.2.1 x.1 news) :
  ∃ o',Fr hO L h' m/\News hO L h' (setL d o' news)/\DH prog w d xs' (setL d o' news):=by
 obtain ⟨lo,o,es,ep,hm0,b,c,e,f,g⟩:=H
 (refine E3 hm fun o' es' ep'=>G6 fun ho' b' c' e' g' f'=>?_;try clear hm)
 have z:=N _ hm0
 refine ⟨o',F.change hs z.2.1 z.2.2,N.replace hs ho',lo,o',es',ep',mem_setL_self hm0,b',c',e',f',fun x hx'=>(hx x hx').mono fun p hp e=>mem_setL_ne' hp fun q=>?_⟩
 (refine E2 (hx x hx') fun items n=>G2 fun hmx _=>?_)
 have h1:=(N _ hmx).1
 rw [← e,q] at h1
 have h2:tupOf items n=o:=Option.some.inj (h1.symm.trans z.1)
 rw [← h2] at c
 cases c
theorem dh_in {Q:Value->Shared->Prop}(hu:A.units+1<cLine) (N:News hO L s.heap news) (H:DH prog w d xs news) (T:TupIn prog w a k news) (h:∀ tk,Q (.bool (atKey xs k).isSome) { s with toks:=tk }) :
  wpAny (model prog w) A (compareOp .In (.ref a) (.ref d)) Q E s:=wpAny_in_heap (knd:=tupK prog w) (tupleKind_room_in1 hu) (T.key N) H.1 (H.of N) (h _)
theorem dh_item {Q:Value->Shared->Prop}{value slice:Expr}{p:Addr × Value}(hu:A.units+1<cLine) (N:News hO L s.heap news) (H:DH prog w d xs news) (T:TupIn prog w a k news) (hp:atKey xs k=some p) (h:∀ tk,Q p.2 { s with toks:=tk })
  (hs:subscripted slice false (.ref d) (.ref a)=operate [.ref d,.ref a] (getItem (.ref d) (.ref a)):=by with_unfolding_all rfl) :
  wpAny (model prog w) A (subscriptTail value slice (.ref d) (.ref a)) Q E s :=
 tail_any (H.of N).typeIs slot_dict_getitem.lookup (wpAny_getItem_heap (knd:=tupK prog w) (tupleKind_room_in1 hu) (T.key N) (H.of N) hp (h _)) hs
theorem dh_get2 {Q:Value->Shared->Prop}{dflt:Value}(hu:A.units+1<cLine) (N:News hO L s.heap news) (H:DH prog w d xs news) (T:TupIn prog w a k news) (h:∀ tk,Q (((atKey xs k).map (·.2)).getD dflt) { s with toks:=tk }) :
  wpAny (model prog w) A (call (.builtin "dict.get") [.ref d,.ref a,dflt]) Q E s :=
 call_meetsIn PySem.F.slot_dict_get (H.of N).typeIs PySem.F.entry_dict_get (PySem.F.args_dict_get_3 _ _ _) (meetsH_dict_get_default (tupK prog w) d a H.1 dflt) ⟨tupleKind_room_in1 hu,k,xs,T.key N,H.of N,h _⟩
theorem dh_set {Q:Unit->Shared->Prop}{v:Value}(hu:A.units+1<cLine) (F:Fr hO L s.heap m) (N:News hO L s.heap news) (H:DH prog w d xs news) (T:TupIn prog w a k news) (hz:xs.length<100000)
  (h:∀ h' tk o',Fr hO L h' m->News hO L h' (setL d o' news)->DH prog w d (storedH xs k a v) (setL d o' news)->Q () { s with heap:=h',toks:=tk }) :
  wpAny (model prog w) A (setItem (.ref d) (.ref a) v) Q E s:=by
 refine wpAny_setItem_heap (knd:=tupK prog w) (tupleKind_room_in1 hu) (T.key N) (H.of N) (fun h' hm hs=>?_) (by rw [sizeLine_eq];omega)
 obtain ⟨o',(F'),N',H'⟩:=H.after N F hm hs fun x hx=>by
  obtain ⟨_,_,_,_,_,_,_,_,_,g⟩:=H
  unfold storedH at hx
  split at hx
  ·(refine E1 (List.mem_map.mp hx) fun y=>G2 fun hy zo17=>?_;rcases zo17 with rfl)
   unfold putAt
   split
   ·exact g y hy
   ·exact g y hy
  ·rcases List.mem_append.mp hx with hx | hx
   ·exact g x hx
   ·rw [List.mem_singleton.mp hx];exact T
 exact h h' _ o' F' N' H'

theorem dictSetDefault_heap {dflt:Value}{Q:Value->Shared->Prop}(hu:A.units<cLine) (hkey:(tupK prog w).is s.heap k a) (hm:s.heap.DictOfH (tupK prog w) d xs) (hsz:xs.length<100000)
  (h1:∀ p,atKey xs k=some p->∀ tk,Q p.2 { s with toks:=tk })
  (h2:atKey xs k=none->∀ h',h'.DictOfH (tupK prog w) d (xs++[(k,a,dflt)])->Heap.SameBut d s.heap h'->∀ tk,Q dflt { s with heap:=h',toks:=tk }) :
  wpAny (model prog w) A (dictSetDefault d (.ref a) dflt) Q E s:=by
 (refine E3 hm fun o es ep=>G6 fun ho hc hd he his hn=>?_;try clear hm)
 unfold dictSetDefault
 try with_reducible refine wpAny_holding ?_
 refine wpAny_bind ((tupK prog w).pyHash hu hkey ?_)
 refine wpAny_bind (wpAny_dictFind_heap (knd:=tupK prog w) (s:={ s with toks:=s.toks+(tupK prog w).draws k }) hu hkey ho hd he his hn ?_ ?_)
 ·intro hno
  have hnot:k∉xs.map (·.1):=not_mem_keys_of_get hno
  refine wpAny_bind (wpAny_rule (wpAny_bind (wpAny_updateDictKeys (hz:=by have e:=size_of_entries he;rw [sizeLine_eq];omega) (s:={ s with toks:=s.toks+(tupK prog w).draws k }) ho hd (wpAny_pure (h2 (atKey_none_of_get hno) _ ⟨_,_,ep+1,Heap.get?_update_self _ ho (Obj.isFreed_of_dict (Obj.data_mapDictKeys hd _)),
   hc.mapDictKeys _,Obj.data_mapDictKeys hd _,?_,?_,?_⟩ (Heap.SameBut.update ..) _)))))
  ·simp [he,entryOfKey]
  ·intro x hx
   rcases List.mem_append.mp hx with hx | hx
   ·exact (tupK prog w).keeps (his x hx) ho hd (Heap.SameBut.update ..)
   ·simp only [List.mem_singleton] at hx
    subst hx
    exact (tupK prog w).keeps hkey ho hd (Heap.SameBut.update ..)
  ·rw [List.map_append,List.nodup_append]
   refine M3 hn (by simp) ?_
   intro x hx y hy
   simp only [List.map_cons,List.map_nil,List.mem_singleton] at hy
   subst hy
   exact fun e=>hnot (e ▸ hx)
 ·intro j p hj
  refine wpAny_bind (wpAny_dictEntries (s:={ s with toks:=s.toks+(tupK prog w).draws k }) ho hd ?_)
  have e1:es[j]?=some (entryOfKey (tupK prog w) (k,p)):=by
   rw [entry_at he j,hj];rfl
  rw [e1]
  exact wpAny_bind (wpAny_rule (wpAny_pure (h1 p (atKey_of_get hn hj) _)))
theorem dh_setdefault {dflt:Value}{Q:Value->Shared->Prop}(hu:A.units+1<cLine) (F:Fr hO L s.heap m) (N:News hO L s.heap news) (H:DH prog w d xs news) (T:TupIn prog w a k news) (hz:xs.length<100000)
  (hargs:argsOk "dict.setdefault" ⟨[.ref d,.ref a,dflt],[]⟩)
  (h1:∀ p,atKey xs k=some p->∀ tk,Q p.2 { s with toks:=tk })
  (h2:atKey xs k=none->∀ h' tk o',Fr hO L h' m->News hO L h' (setL d o' news)->DH prog w d (xs++[(k,a,dflt)]) (setL d o' news)->Q dflt { s with heap:=h',toks:=tk }) :
  wpAny (model prog w) A (call (.builtin "dict.setdefault") [.ref d,.ref a,dflt]) Q E s:=by
 have M:MeetsIn prog w (Builtin.«dict.setdefault» ⟨[.ref d,.ref a,dflt],[]⟩) (fun A R s=>A.units+1<cLine/\(tupK prog w).is s.heap k a/\s.heap.DictOfH (tupK prog w) d xs /\
   (∀ p,atKey xs k=some p->∀ tk,R (.ok (.ret p.2)) { s with toks:=tk }) /\
   (atKey xs k=none->∀ h',h'.DictOfH (tupK prog w) d (xs++[(k,a,dflt)])->Heap.SameBut d s.heap h'->∀ tk,R (.ok (.ret dflt)) { s with heap:=h',toks:=tk })) :=
  .of_wp fun A R s ⟨hu,hk,hm,h1,h2⟩=>by
   unfold Builtin.«dict.setdefault»
   refine wpAny_bind ?_
   unfold Builtin.Dict.keyAndDefault
   refine wpAny_bind (wpAny_notOrdered_dict hm.typeIs ?_)
   show wpAny _ _ (pure (d,Value.ref a,some dflt)) _ _ s
   refine wpAny_pure ?_
   show wpAny _ _ (if (d == sysModules)=true then _ else (dictSetDefault d (.ref a) dflt >>= _)) _ _ s
   rw [if_neg (by rw [H.1];exact Bool.false_ne_true)]
   exact wpAny_bind (dictSetDefault_heap hu hk hm hz (fun p hp tk=>wpAny_pure ⟨p.2,rfl,h1 p hp tk⟩) fun hn h' hm' hs' tk=>wpAny_pure ⟨dflt,rfl,h2 hn h' hm' hs' tk⟩)
 refine call_meetsIn PySem.F.slot_dict_setdefault (H.of N).typeIs PySem.F.entry_dict_setdefault hargs M ⟨hu,T.key N,H.of N,h1,fun hn h' hm hs tk=>?_⟩
 obtain ⟨o',(F'),N',H'⟩:=H.after N F hm hs fun x hx=>by
  obtain ⟨_,_,_,_,_,_,_,_,_,g⟩:=H
  rcases List.mem_append.mp hx with hx | hx
  ·exact g x hx
  ·rw [List.mem_singleton.mp hx];exact T
 exact h2 hn h' tk o' F' N' H'
theorem dh_new {Q:Value->Shared->Prop}{env:Env}{pos:Pos}(F:Fr hO L s.heap m) (N:News hO L s.heap news) (hbig:hO.NoLimit)
  (h:∀ d h' o,Fr hO L h' m->News hO L h' ((d,o)::news)->(∀ p∈news,p.1<d)->(d == sysModules)=false->o.IsDictOf (PySem.intKind prog w) []->DH prog w d [] ((d,o)::news)->Q (.ref d) { s with heap:=h' }) :
  wpAny (model prog w) A (eval (.Dict [] [] pos) env) Q E s:=by
 refine newDict_K F N hbig fun d h' o F' N' l1 lo hs' fs' hi' fi'=>h d h' o F' N' l1 lo hi' ?_
 (refine E2 hi' fun es ep=>G5 fun hc hd _ hp _=>?_;try clear hi')
 have he:es.toList=[]:=List.length_eq_zero_iff.mp hp.length
 refine ⟨lo,o,es,ep,.head _,hc,hd,by rw [he];rfl,List.nodup_nil,fun x hx=>absurd hx List.not_mem_nil⟩
end
end
section
set_option tactic.hygienic false
example:True:=by
 k_with "x2"=>skip
 k_with "bank"=>((fail_if_success k_extra "x3");(exists b25,b26))
 trivial
section
variable {K:Type} [DecidableEq K]
theorem valueAt_cons (x:K × Value) (r:List (K × Value)) (k:K):valueAt (x::r) k=if x.1=k then some x.2 else valueAt r k:=by
 unfold valueAt
 rw [List.find?_cons]
 by_cases h:x.1=k <;> simp [h]
theorem valueAt_append (l r:List (K × Value)) (k:K):valueAt (l++r) k=(valueAt l k).or (valueAt r k):=by
 induction l with
 | nil=>simp [valueAt]
 | cons x l ih =>
  rw [List.cons_append,valueAt_cons,valueAt_cons,ih]
  by_cases h:x.1=k <;> simp [h]
theorem valueAt_none {kvs:List (K × Value)}{k:K}(h:valueAt kvs k=none):(kvs.any fun kv=>kv.1=k)=false:=by
 induction kvs with
 | nil=>rfl
 | cons x l ih =>
  rw [valueAt_cons] at h
  by_cases hx:x.1=k
  ·simp [hx] at h
  ·simp only [hx,if_false] at h
   rw [List.any_cons,ih h];simp [hx]
theorem valueAt_some {kvs:List (K × Value)}{k:K}{v:Value}(h:valueAt kvs k=some v):(kvs.any fun kv=>kv.1=k)=true:=by
 induction kvs with
 | nil=>simp [valueAt] at h
 | cons x l ih =>
  rw [valueAt_cons] at h
  by_cases hx:x.1=k
  ·simp [hx]
  ·simp only [hx,if_false] at h
   rw [List.any_cons,ih h];simp
theorem valueAt_put (kvs:List (K × Value)) (k:K) (v:Value) (j:K):valueAt (kvs.map (fun kv=>if kv.1=k then (kv.1,v) else kv)) j=if j=k then (if (valueAt kvs j).isSome then some v else none) else valueAt kvs j:=by
 induction kvs with
 | nil=>simp [valueAt]
 | cons x l ih =>
  rw [List.map_cons,valueAt_cons,valueAt_cons,ih]
  by_cases hx:x.1=k
  ·by_cases hj:j=k
   ·subst hj;simp [hx]
   ·have:¬ k=j:=fun e=>hj e.symm
    simp [hx,hj,this]
  ·by_cases hj:j=k
   ·subst hj;simp [hx]
   ·simp [hx,hj]
theorem valueAt_stored (kvs:List (K × Value)) (k:K) (v:Value) (j:K):valueAt (stored kvs k v) j=if j=k then some v else valueAt kvs j:=by
 unfold stored
 cases h:valueAt kvs k with
 | none =>
  rw [valueAt_none h]
  simp only [Bool.false_eq_true,if_false]
  rw [valueAt_append,valueAt_cons]
  by_cases hj:j=k
  ·subst hj;simp [h]
  ·have:¬ k=j:=fun e=>hj e.symm
   simp [hj,this,valueAt]
 | some u =>
  rw [valueAt_some h]
  simp only [if_true]
  rw [valueAt_put]
  by_cases hj:j=k
  ·subst hj;simp [h]
  ·simp [hj]
theorem valueAt_without (kvs:List (K × Value)) (k:K) (j:K):valueAt (without kvs k) j=if j=k then none else valueAt kvs j:=by
 unfold without
 induction kvs with
 | nil=>simp [valueAt]
 | cons x l ih =>
  by_cases hx:x.1=k
  ·rw [List.filter_cons_of_neg (by simp [hx]),ih,valueAt_cons]
   by_cases hj:j=k
   ·simp [hj]
   ·have:¬ k=j:=fun e=>hj e.symm
    simp [hj,hx,this]
  ·rw [List.filter_cons_of_pos (by simp [hx]),valueAt_cons,valueAt_cons,ih]
   by_cases hj:j=k
   ·subst hj;simp [hx]
   ·simp [hj]
theorem stored_len_new {kvs:List (K × Value)}{k:K}{v:Value}(h:valueAt kvs k=none):(stored kvs k v).length=kvs.length+1:=by
 unfold stored;rw [valueAt_none h];simp
theorem stored_len_old {kvs:List (K × Value)}{k:K}{v u:Value}(h:valueAt kvs k=some u):(stored kvs k v).length=kvs.length:=by
 unfold stored;rw [valueAt_some h];simp
end
noncomputable def DI (prog:Program) (w:World) (d:Addr) (N:Nat) (f:Int->Option Addr) (l:Led):Prop :=
 (d == sysModules)=false/\∃ o kvs,(d,o)∈l/\o.IsDictOf (PySem.intKind prog w) kvs/\kvs.length<=N/\∀ k,valueAt kvs k=(f k).map Value.ref
theorem DI.move {prog:Program}{w:World}{d:Addr}{n:Nat}{f:Int->Option Addr}{l l':Led}(H:DI prog w d n f l) (h:∀ p∈l,p.1=d->p∈l'):DI prog w d n f l':=by
 obtain ⟨a,o,kvs,hm,r⟩:=H
 refine ⟨a,o,kvs,h _ hm rfl,r⟩
theorem DI.obj {prog:Program}{w:World}{d:Addr}{n:Nat}{f:Int->Option Addr}{l:Led}(H:DI prog w d n f l):∃ o,(d,o)∈l:=let ⟨_,o,_,hm,_⟩:=H;⟨o,hm⟩
section
variable {prog:Program}{w:World}{A:Around}{E:Value->Shared->Prop}{s:Shared}{hO:Heap}{L d a:Addr}{m:Str->Option Value}{news:Led}{k:Int}{t:Tok}{n:Nat}{f:Int->Option Addr}
theorem DI.of (H:DI prog w d n f news) (N:News hO L s.heap news):∃ kvs,s.heap.DictOf (PySem.intKind prog w) d kvs/\kvs.length<=n/\∀ k,valueAt kvs k=(f k).map Value.ref:=by
 obtain ⟨a,o,kvs,hm,b,c,e⟩:=H
 refine K1 kvs (M3 (Heap.dictOf_iff.mpr ⟨o,(N _ hm).1,b⟩) c e)
theorem DI.after {h':Heap}{kvs':List (Int × Value)}{n':Nat}{f':Int->Option Addr}(H:DI prog w d n f news) (N:News hO L s.heap news) (F:Fr hO L s.heap m) (hm:h'.DictOf (PySem.intKind prog w) d kvs') (hs:Heap.SameBut d s.heap h') (hl:kvs'.length<=n') (hf:∀ k,valueAt kvs' k=(f' k).map Value.ref) :
  ∃ o',Fr hO L h' m/\News hO L h' (setL d o' news)/\DI prog w d n' f' (setL d o' news):=by
 obtain ⟨lo,o,kvs,hm0,b,c,e⟩:=H
 (refine E1 (Heap.dictOf_iff.mp hm) fun o'=>G2 fun ho' hd'=>?_)
 have z:=N _ hm0
 refine ⟨o',F.change hs z.2.1 z.2.2,N.replace hs ho',lo,o',kvs',mem_setL_self hm0,hd',hl,hf⟩
theorem di_item {Q:Value->Shared->Prop}{value slice:Expr}(N:News hO L s.heap news) (H:DI prog w d n f news) (hp:f k=some a) (h:∀ tk,Q (.ref a) { s with toks:=tk })
  (hs:subscripted slice false (.ref d) (.int k t)=operate [.ref d,.int k t] (getItem (.ref d) (.int k t)):=by with_unfolding_all rfl) :
  wpAny (model prog w) A (subscriptTail value slice (.ref d) (.int k t)) Q E s:=by
 (refine E1 (H.of N) fun kvs=>G3 fun hD _ hv=>?_)
 exact tail_any hD.typeIs slot_dict_getitem.lookup (wpAny_getItem_of (knd:=PySem.intKind prog w) (PySem.intKind_is prog w k t) hD.mapOf (by rw [hv,hp];rfl) (h _)) hs
theorem di_set {Q:Unit->Shared->Prop}{n':Nat}(F:Fr hO L s.heap m) (N:News hO L s.heap news) (H:DI prog w d n f news) (hz:n<100000) (hn:(f k=none/\n'=n+1)∨(f k≠none/\n'=n))
  (h:∀ h' tk o',Fr hO L h' m->News hO L h' (setL d o' news)->DI prog w d n' (fun j=>if j=k then some a else f j) (setL d o' news)->Q () { s with heap:=h',toks:=tk }) :
  wpAny (model prog w) A (setItem (.ref d) (.int k t) (.ref a)) Q E s:=by
 (refine E1 (H.of N) fun kvs=>G3 fun hD hl hv=>?_)
 refine wpAny_setItem_pairs (knd:=PySem.intKind prog w) (PySem.intKind_is prog w k t) hD (fun h' hm hs=>?_) (by rw [sizeLine_eq];omega)
 (refine E1 (H.after (f':=fun j=>if j=k then some a else f j) (n':=n') N F hm hs (by
   rcases hn with ⟨h1,rfl⟩ | ⟨h1,rfl⟩
   ·rw [stored_len_new (by rw [hv,h1];rfl)];omega
   ·obtain ⟨u,(hu)⟩:=Option.ne_none_iff_exists'.mp h1
    rw [stored_len_old (u:=.ref u) (by rw [hv,hu];rfl)];exact hl) (fun j=>by
   rw [valueAt_stored,hv]
   by_cases hj:j=k <;> simp [hj])) fun o'=>G3 fun F' N' H'=>?_)
 exact h h' _ o' F' N' H'
theorem di_pop {Q:Value->Shared->Prop}(F:Fr hO L s.heap m) (N:News hO L s.heap news) (H:DI prog w d n f news) (hz:n<100000) (hp:f k=some a)
  (h:∀ h' tk o',Fr hO L h' m->News hO L h' (setL d o' news)->DI prog w d n (fun j=>if j=k then none else f j) (setL d o' news)->Q (.ref a) { s with heap:=h',toks:=tk }) :
  wpAny (model prog w) A (call (.builtin "dict.pop") [.ref d,.int k t]) Q E s:=by
 (refine E1 (H.of N) fun kvs=>G3 fun hD hl hv=>?_)
 refine call_meetsIn PySem.F.slot_dict_pop hD.typeIs PySem.F.entry_dict_pop (PySem.F.args_dict_pop_2 _ _) (meets_dict_pop_there (PySem.intKind prog w) d (PySem.intKind_is prog w k t) [] (.inl rfl) rfl) ⟨kvs,.ref a,hD,by rw [sizeLine_eq];omega,by rw [hv,hp];rfl,fun h' hm hs=>?_⟩
 (refine E1 (H.after (f':=fun j=>if j=k then none else f j) (n':=n) N F hm hs (by
   unfold without
   exact Nat.le_trans (List.length_filter_le ..) hl) (fun j=>by
   rw [valueAt_without,hv]
   by_cases hj:j=k <;> simp [hj])) fun o'=>G3 fun F' N' H'=>?_)
 exact h h' _ o' F' N' H'
theorem di_method {pl:Sem Bool}{Q:Value × List Value->Shared->Prop}{name:Str}{id:String}(slot:Slot "dict" name id) (hty:typeOf (.builtin id)=pure (.type "method_descriptor")) (N:News hO L s.heap news) (H:DI prog w d n f news) (h:Q (.builtin id,[.ref d]) s) :
  wpAny (model prog w) A (getMethod (.ref d) name pl) Q E s:=by
 (refine E1 (H.of N) fun kvs=>G2 fun hD _=>?_)
 exact getMethod_builtin hD.typeIs PySem.F.plainAttrs_dict slot hty hD.mapOf.noDict h
theorem dh_method {pl:Sem Bool}{xs:Ents}{Q:Value × List Value->Shared->Prop}{name:Str}{id:String}(slot:Slot "dict" name id) (hty:typeOf (.builtin id)=pure (.type "method_descriptor")) (N:News hO L s.heap news) (H:DH prog w d xs news) (h:Q (.builtin id,[.ref d]) s) :
  wpAny (model prog w) A (getMethod (.ref d) name pl) Q E s :=
 getMethod_builtin (H.of N).typeIs PySem.F.plainAttrs_dict slot hty (dictOfH_noDict (H.of N)) h
end
end
section
open PyProof.Rows.LCg
set_option tactic.hygienic false
example:True:=by
 k_with "x3"=>skip
 k_with "bank"=>((fail_if_success k_extra "x4");(exists b17,b9,b27,b28,b29,b30,b31))
 trivial
section
variable {prog:Program}{w:World}{A:Around}{E:Value->Shared->Prop}{s s₁:Shared}{hO:Heap}{L:Addr}{m:Str->Option Value}{env:Env}{elt ct:Expr}{x:Str}{scope:Scope}{cl:List (Str × Addr)}{news:Led}{Q:Value->Shared->Prop}{t b D:Addr}{vs vs2:List Value}{n n2:Nat}
theorem is_tupN (N:News hO L s.heap news) (hm:(t,tupOf vs.toArray n)∈news):IsTup s.heap t vs.toArray:=⟨_,(N _ hm).1,rfl,n,rfl⟩
theorem tup_same (N:News hO L s.heap news) (hm:(t,tupOf vs.toArray n)∈news) (h:Q (.ref t) s):wpAny (model prog w) A (call (.type "tuple") [.ref t]) Q E s:=call_tuple_same (is_tupN N hm) h
theorem tup_list (F:Fr hO L s.heap m) (N:News hO L s.heap news) (hm:(t,PySem.W.listOf vs.toArray n)∈news) (hz:vs.length<10000)
  (h:∀ D h',Fr hO L h' m->News hO L h' ((D,tupOf vs.toArray 0)::news)->(∀ p∈news,p.1<D)->Q (.ref D) { s with heap:=h' }):wpAny (model prog w) A (call (.type "tuple") [.ref t]) Q E s :=
 kde_tupleOf F N (is_listN N hm) (by rw [List.size_toArray];omega) rfl h
theorem tup_add0 (F:Fr hO L s.heap m) (N:News hO L s.heap news) (hm:(t,tupOf vs.toArray n)∈news) (hb:(b,tupOf #[] n2)∈news) (hv:vs≠[]) (hz:vs.length<10000) (h:Q (.ref t) s):wpAny (model prog w) A (binaryOp .Add (.ref t) (.ref b)) Q E s :=
 kde_addT1 F N (is_tupN N hm) (is_tupN (vs:=[]) N hb) hv rfl (by show vs.length+0<=16384;omega) h
theorem tup_add (F:Fr hO L s.heap m) (N:News hO L s.heap news) (hm:(t,tupOf vs.toArray n)∈news) (hb:(b,tupOf vs2.toArray n2)∈news) (hv:vs≠[]) (hw:vs2≠[]) (hz:vs.length<5000) (hz2:vs2.length<5000)
  (h:∀ D h',Fr hO L h' m->News hO L h' ((D,tupOf (vs++vs2).toArray 0)::news)->(∀ p∈news,p.1<D)->Q (.ref D) { s with heap:=h' }):wpAny (model prog w) A (binaryOp .Add (.ref t) (.ref b)) Q E s :=
 kde_addT F N (is_tupN N hm) (is_tupN N hb) hv hw (by show vs.length+vs2.length<=16384;omega) rfl h
theorem tup_slice1 {value slice:Expr}{v0:Value}{u:Tok}(F:Fr hO L s.heap m) (N:News hO L s.heap news) (hm:(t,tupOf (v0::vs).toArray n)∈news) (hz:vs.length<10000)
  (h:∀ D h',Fr hO L h' m->News hO L h' ((D,tupOf vs.toArray 0)::news)->(∀ p∈news,p.1<D)->Q (.ref D) { s with heap:=h' })
  (hs:subscripted slice false (.ref t) (.ref s.heap.objs.size)=operate [.ref s.heap.objs.size,.ref t] (getItem (.ref t) (.ref s.heap.objs.size)):=by with_unfolding_all rfl) :
  wpAny (model prog w) A (subscriptTail value slice (.ref t) (.ref s.heap.objs.size)) Q E { s with heap:=s.heap.push { cls:=.type "slice",data:=.fields #[.int 1 u,.none,.none] } }:=by
 have ht:=is_tupN N hm
 have ht':IsTup (s.heap.push { cls:=.type "slice",data:=.fields #[.int 1 u,.none,.none] }) t (v0::vs).toArray:=ht.keeps fun _ _ e=>Heap.get?_push_of_some _ e
 have hz1:(v0::vs).toArray.size<=sizeLine:=by rw [List.size_toArray,List.length_cons,sizeLine_eq];omega
 refine tail_any (s:={ s with heap:=s.heap.push { cls:=.type "slice",data:=.fields #[.int 1 u,.none,.none] } }) ht'.typeIs slot_tuple_getitem.lookup
  (getItem_tuple_from (a:=1) ht' (Heap.IsSliceOf.new ..) (Nat.le_refl _) (by rw [List.size_toArray,List.length_cons];omega) ?_ hz1) hs
 have N1:=News.push (F.push { cls:=.type "slice",data:=.fields #[.int 1 u,.none,.none] }) (N.grown fun _ _ e=>Heap.get?_push_of_some _ e) (tupOf vs.toArray 0)
 show Q (.ref (s.heap.push _).objs.size) _
 exact h _ _ ((F.push _).push _) N1 fun p hp=>by rw [Heap.size_push];exact Nat.lt_succ_of_lt (Heap.lt_size (N p hp).1)

noncomputable def TupSrc (prog:Program) (w:World) (A:Around) (hO:Heap) (L:Addr) (m:Str->Option Value) (env:Env) (elt:Expr) (x:Str) (scope:Scope) (cl:List (Str × Addr)) (Fin:Shared->List Value->Led->Prop) (xv:Value) (s₁:Shared):Prop :=
 ∃ ax vs n news,xv = .ref ax/\A.handled=none/\Fr hO L s₁.heap m/\News hO L s₁.heap news/\(ax,tupOf (List.toArray vs) n)∈news/\vs.length<100000 /\
  ∀ s₂:Shared,(∃ h,s₂ = { s₁ with heap:=h })->CompRest prog w A hO L m env elt x scope cl s₂ (fun l=>(ax,tupOf vs.toArray n)∈l) (fun i v=>vs[i]?=some v) (Fin s₂) vs.length 0 [] news
noncomputable def Src3 (prog:Program) (w:World) (A:Around) (hO:Heap) (L:Addr) (m:Str->Option Value) (env:Env) (elt:Expr) (x:Str) (scope:Scope) (cl:List (Str × Addr)) (Fin:Shared->List Value->Led->Prop) (xv:Value) (s₁:Shared):Prop :=
 CompSrc prog w A hO L m env elt x scope cl Fin xv s₁∨TupSrc prog w A hO L m env elt x scope cl Fin xv s₁
theorem ListComp_3 {iter:Expr}{px:Pos}{pos:Pos}(F₀:Fr hO L s.heap m)
  (hclos:closureFor scope env=pure cl) (hcell:∀ y∈scope.names,y.2≠.cell) (hkind:scope.kind = .function)
  (hnames:∀ y∈scope.names,y.2 = .local->scope.names.lookup y.1=some .local) (hx:scope.names.lookup x=some .local)
  (h:wpAny (model prog w) A (eval iter env) (Src3 prog w A hO L m env elt x scope cl (fun s₂=>FinE hO L m s₂ Q)) E s)
  (hs:∀ x,foldedSetIterable iter env x=pure x:=by intro _;rfl) :
  wpAny (model prog w) A (eval (.ListComp elt [⟨.Name x px,iter,[],0⟩] scope pos) env) Q E s:=by
 rw [eval_ListComp]
 refine wpAny_comprehension_free (use:=none) rfl hs hclos hkind hnames (wpAny_mono h (fun xv s₁ h₁=>?_) fun _ _ e=>e)
 rcases h₁ with (⟨ax,its,news,rfl,hh,F,N,S,hsz,R⟩ | ⟨r,a,b,t,u,v,n,news,rfl,hh,F,N,hr,hsm,hn,hsz,R⟩) | ⟨ax,vs,n,news,rfl,hh,F,N,hm,hsz,R⟩
 ·have hl:=S.list F.keep N
  have hlt:ax<s₁.heap.objs.size:=by (refine E1 hl fun _=>G2 fun e _=>?_;try clear hl);exact Heap.lt_size e
  refine wpAny_pyIter_list hl ?_
  have up:∀ b o,s₁.heap.get? b=some o->(s₁.heap.push { cls:=.type "list_iterator",data:=.fields #[.ref ax,.int 0 0] }).get? b=some o:=fun b o e=>Heap.get?_push_of_some _ e
  refine block_U (Walks.list hh s₁.heap.objs.size ax (Nat.ne_of_lt hlt) its) hsz (fun i h st=>by (refine E1 st.1 fun o=>G2 fun e _=>?_);exact ⟨o,e⟩) list_st hcell hkind hx ⟨⟨_,Heap.get?_push_size _ rfl,rfl,rfl⟩,hl.push _⟩ (fun b hb=>?_)
   (F.keeps up) (N.grown up) (Nat.ne_of_lt F.ns.lt) (next_is_new F) (fun p hp=>Nat.ne_of_lt (Heap.lt_size (N p hp).1)) S (R _ ⟨_,rfl⟩) ?_
  ·show b<(s₁.heap.push _).objs.size
   rw [Heap.size_push]
   rcases List.mem_cons.mp hb with rfl | hb
   ·exact Nat.lt_succ_self _
   ·rw [List.mem_singleton.mp hb];exact Nat.lt_succ_of_lt hlt
  ·intro D C h tk m' ys news' F' N' o1 hn hC₀ hD₀ hCL hDL hCD offC fin
   refine K1 m' (M2 hn (fun h'' hs''=>fin D h'' tk (F'.change hs'' hCL hC₀) (fun p hp=>?_) o1))
   refine ⟨hs''.extBut _ _ ?_ (N' p hp).1,(N' p hp).2⟩
   rcases List.mem_cons.mp hp with rfl | hp
   ·exact Ne.symm hCD
   ·exact offC p hp
 ·refine wpAny_pyIter_range hr hsm ?_
  refine block_U (range_walks hh a n) hsz (fun i h st=>⟨_,st⟩) range_st hcell hkind hx (by show IsRangeIter _ _ _ _ _;rw [hn];simpa using Heap.get?_push_size _ rfl) (fun b hb=>?_)
   (F.keeps fun _ _ e=>Heap.get?_push_of_some _ e) (N.grown fun _ _ e=>Heap.get?_push_of_some _ e) (Nat.ne_of_lt F.ns.lt) (next_is_new F) (fun p hp=>Nat.ne_of_lt (Heap.lt_size (N p hp).1)) trivial (R _ ⟨_,rfl⟩) ?_
  ·rw [List.mem_singleton.mp hb]
   show s₁.heap.objs.size<(s₁.heap.push _).objs.size
   rw [Heap.size_push];exact Nat.lt_succ_self _
  ·intro D C h tk m' ys news' F' N' o1 hn hC₀ hD₀ hCL hDL hCD offC fin
   refine K1 m' (M2 hn (fun h'' hs''=>fin D h'' tk (F'.change hs'' hCL hC₀) (fun p hp=>?_) o1))
   refine ⟨hs''.extBut _ _ ?_ (N' p hp).1,(N' p hp).2⟩
   rcases List.mem_cons.mp hp with rfl | hp
   ·exact Ne.symm hCD
   ·exact offC p hp
 ·have hl:s₁.heap.IsTuple ax vs.toArray:=⟨_,(N _ hm).1,rfl,n,rfl⟩
  have hlt:ax<s₁.heap.objs.size:=Heap.lt_size (N _ hm).1
  refine wpAny_pyIter_tuple hl ?_
  have up:∀ b o,s₁.heap.get? b=some o->(s₁.heap.push { cls:=.type "tuple_iterator",data:=.fields #[.ref ax,.int 0 0] }).get? b=some o:=fun b o e=>Heap.get?_push_of_some _ e
  have st:∀ i (h h':Heap) (o:Obj) (nw:Led),(h.IsTupleIter s₁.heap.objs.size ax i/\h.IsTuple ax vs.toArray)->h.get? s₁.heap.objs.size=some o->h'.get? s₁.heap.objs.size=some o->(∀ b o,hO.get? b=some o->h'.get? b=some o)->News hO L h' nw->(ax,tupOf vs.toArray n)∈nw->(h'.IsTupleIter s₁.heap.objs.size ax i/\h'.IsTuple ax vs.toArray) :=
   fun i h h' o nw st e e' k N S=>⟨by (refine E1 st.1 fun o'=>G2 fun q r=>?_);rw [e] at q;cases q;exact ⟨o,e',r⟩,⟨_,(N _ S).1,rfl,n,rfl⟩⟩
  have R':=R { s₁ with heap:=s₁.heap.push { cls:=.type "tuple_iterator",data:=.fields #[.ref ax,.int 0 0] } } ⟨_,rfl⟩
  refine block_U (n:=vs.toArray.size) (P:=fun i v=>vs.toArray[i]?=some v) (Walks.tuple hh s₁.heap.objs.size ax (Nat.ne_of_lt hlt) vs.toArray) (by rw [List.size_toArray,sizeLine_eq];omega) (fun i h st=>by (refine E1 st.1 fun o=>G2 fun e _=>?_);exact ⟨o,e⟩) st hcell hkind hx ⟨⟨_,Heap.get?_push_size _ rfl,rfl,rfl⟩,⟨_,up _ _ (N _ hm).1,rfl,n,rfl⟩⟩ (fun b hb=>?_)
   (F.keeps up) (N.grown up) (Nat.ne_of_lt F.ns.lt) (next_is_new F) (fun p hp=>Nat.ne_of_lt (Heap.lt_size (N p hp).1)) hm (by simpa using R') ?_
  ·show b<(s₁.heap.push _).objs.size
   rw [Heap.size_push]
   rcases List.mem_cons.mp hb with rfl | hb
   ·exact Nat.lt_succ_self _
   ·rw [List.mem_singleton.mp hb];exact Nat.lt_succ_of_lt hlt
  ·intro D C h tk m' ys news' F' N' o1 hn hC₀ hD₀ hCL hDL hCD offC fin
   refine K1 m' (M2 hn (fun h'' hs''=>fin D h'' tk (F'.change hs'' hCL hC₀) (fun p hp=>?_) o1))
   refine ⟨hs''.extBut _ _ ?_ (N' p hp).1,(N' p hp).2⟩
   rcases List.mem_cons.mp hp with rfl | hp
   ·exact Ne.symm hCD
   ·exact offC p hp
theorem comp_tup {r:Addr}{k:Nat}(J:Nat->List Value->Led->Prop) (hh:A.handled=none) (F:Fr hO L s₁.heap m) (N:News hO L s₁.heap news) (hm:(r,tupOf vs.toArray k)∈news) (hn:vs.length<100000)
  (hJ:J 0 [] news) (hS:∀ i ys news,J i ys news->(r,tupOf vs.toArray k)∈news)
  (turn:∀ (i:Nat) v I oI C oC D m₂ ys news h tk (E':Value->Shared->Prop),vs[i]?=some v->J i ys news->NsObj oC m₂->m₂ x=some v->Fr hO L h m->News hO L h ((I,oI)::(C,oC)::(D,lst ys)::news)->Off3 I C D news ->
   wpAny (model prog w) A (eval elt (compEnvC scope cl C env)) (CompEnd hO L m { s₁ with heap:=h,toks:=tk } I oI C oC D (lst ys) (fun _=>True) (fun y news'=>J (i+1) (ys++[y]) news')) E' { s₁ with heap:=h,toks:=tk })
  (fin:∀ D ys news h tk,J vs.length ys news->Fr hO L h m->News hO L h ((D,PySem.W.listOf ys.toArray ys.length)::news)->(∀ p∈news,p.1≠D)->Q (.ref D) { s₁ with heap:=h,toks:=tk }) :
  Src3 prog w A hO L m env elt x scope cl (fun s₂=>FinE hO L m s₂ Q) (.ref r) s₁:=by
 refine .inr ⟨r,vs,k,news,rfl,hh,F,N,hm,hn,?_⟩
 (intro s₂ zr1;(refine E1 zr1 fun g zo18=>?_;try clear zr1;rcases zo18 with rfl))
 refine comp_rest (n:=vs.length) J (fun i v I oI C oC D m₂ ys news h tk E' hi hP hJ hC hx F N off=>?_) (fun ys news hJ D h tk F' N' off=>?_) vs.length 0 [] news (by omega) hJ
 ·refine wpAny_mono (turn i v I oI C oC D m₂ ys news h tk E' hP hJ hC hx F N off) (fun y s₂ hq=>?_) fun _ _ e=>e
  (refine E3 hq fun h' tk' nw=>G6 fun e F' N' off' _ hJ'=>?_;try clear hq)
  refine K3 h' tk' nw (M6 e F' N' off' (hS _ _ _ hJ') hJ')
 ·exact fin D ys news h tk hJ F' N' (off1_all off)
end

theorem tupIn_s {prog:Program}{w:World}{a:Addr}{x:Str}{t:Tok}{n:Nat}{l:Led}(h:(a,tupOf #[.str x t] n)∈l):TupIn prog w a [.inl x] l :=
 ⟨_,_,h,.cons (by simp [mixKind,mixIs,Value.isStrOf]) .nil⟩
theorem tupIn_si {prog:Program}{w:World}{a:Addr}{x:Str}{t u:Tok}{i:Int}{n:Nat}{l:Led}(h:(a,tupOf #[.str x t,.int i u] n)∈l):TupIn prog w a [.inl x,.inr i] l :=
 ⟨_,_,h,.cons (by simp [mixKind,mixIs,Value.isStrOf]) (.cons (by simp [mixKind,mixIs,Value.isInt]) .nil)⟩
theorem TupIn.cons {prog:Program}{w:World}{a:Addr}{k:List Mix}{p:Addr × Obj}{l:Led}(h:TupIn prog w a k l):TupIn prog w a k (p::l):=h.mono fun _ hq _=>.tail _ hq
theorem DH.cons {prog:Program}{w:World}{d:Addr}{xs:Ents}{p:Addr × Obj}{l:Led}(h:DH prog w d xs l):DH prog w d xs (p::l):=h.move fun _ hq _=>.tail _ hq
theorem DI.cons {prog:Program}{w:World}{d:Addr}{n:Nat}{f:Int->Option Addr}{p:Addr × Obj}{l:Led}(h:DI prog w d n f l):DI prog w d n f (p::l):=h.move fun _ hq _=>.tail _ hq
section
open PyProof.Rows.LCt
variable {prog:Program}{w:World}{A:Around}{E:Value->Shared->Prop}{s s₁:Shared}{hO:Heap}{L:Addr}{m:Str->Option Value}{env:Env}{elt ct:Expr}{x:Str}{scope:Scope}{cl:List (Str × Addr)}{news:Led}{Q:Value->Shared->Prop}
noncomputable def StrSrc (prog:Program) (w:World) (A:Around) (hO:Heap) (L:Addr) (m:Str->Option Value) (env:Env) (ct elt:Expr) (x:Str) (scope:Scope) (cl:List (Str × Addr)) (Fin:Shared->List Value->Led->Prop) (xv:Value) (s₁:Shared):Prop :=
 ∃ (t:Str) (tt:Tok) (news:Led),xv = .str t tt/\A.handled=none/\Fr hO L s₁.heap m/\News hO L s₁.heap news/\t.cps.all (· < 128)=true/\t.cps.size<100000 /\
  ∀ s₂:Shared,(∃ h,s₂ = { s₁ with heap:=h })->CompRestT prog w A hO L m env ct elt x scope cl s₂ (fun _=>True) (SignAt t) (Fin s₂) t.cps.size 0 [] news
theorem ListComp_S {iter:Expr}{px:Pos}{pos:Pos}(_F₀:Fr hO L s.heap m)
  (hclos:closureFor scope env=pure cl) (hcell:∀ y∈scope.names,y.2≠.cell) (hkind:scope.kind = .function)
  (hnames:∀ y∈scope.names,y.2 = .local->scope.names.lookup y.1=some .local) (hx:scope.names.lookup x=some .local)
  (h:wpAny (model prog w) A (eval iter env) (StrSrc prog w A hO L m env ct elt x scope cl (fun s₂=>FinE hO L m s₂ Q)) E s)
  (hs:∀ x,foldedSetIterable iter env x=pure x:=by intro _;rfl) :
  wpAny (model prog w) A (eval (.ListComp elt [⟨.Name x px,iter,[ct],0⟩] scope pos) env) Q E s:=by
 rw [eval_ListComp]
 refine wpAny_comprehension_free (use:=none) rfl hs hclos hkind hnames (wpAny_mono h (fun xv s₁ h₁=>?_) fun _ _ e=>e)
 (refine E3 h₁ fun t tt news=>G7 fun zo21 hh F N ha hsz R=>?_;try clear h₁;rcases zo21 with rfl)
 refine wpAny_pyIter_ascii ha ?_
 have st:∀ i (h h':Heap) (o:Obj) (nw:Led),h.IsStrIter s₁.heap.objs.size "str_ascii_iterator" t tt i->h.get? s₁.heap.objs.size=some o->h'.get? s₁.heap.objs.size=some o->(∀ b o,hO.get? b=some o->h'.get? b=some o)->News hO L h' nw->True->h'.IsStrIter s₁.heap.objs.size "str_ascii_iterator" t tt i :=
  fun i h h' o nw st e e' k N S=>by (refine E1 st fun o'=>G2 fun q r=>?_;try clear st);rw [e] at q;cases q;refine K1 o (M2 e' r)
 refine block_T (Walks.strAscii hh s₁.heap.objs.size t tt) (by rw [sizeLine_eq];omega) (fun i h st=>by (refine E1 st fun o=>G2 fun e _=>?_;try clear st);exact ⟨o,e⟩) st hcell hkind hx ⟨_,Heap.get?_push_size _ rfl,rfl,rfl⟩ (fun b hb=>?_)
  (F.keeps fun _ _ e=>Heap.get?_push_of_some _ e) (N.grown fun _ _ e=>Heap.get?_push_of_some _ e) (Nat.ne_of_lt F.ns.lt) (next_is_new F) (fun p hp=>Nat.ne_of_lt (Heap.lt_size (N p hp).1)) trivial (R _ ⟨_,rfl⟩) ?_
 ·rw [List.mem_singleton.mp hb]
  show s₁.heap.objs.size<(s₁.heap.push _).objs.size
  rw [Heap.size_push];exact Nat.lt_succ_self _
 ·intro D C h tk m' ys news' F' N' o1 hn hC₀ hD₀ hCL hDL hCD offC fin
  refine K1 m' (M2 hn (fun h'' hs''=>fin D h'' tk (F'.change hs'' hCL hC₀) (fun p hp=>?_) o1))
  refine ⟨hs''.extBut _ _ ?_ (N' p hp).1,(N' p hp).2⟩
  rcases List.mem_cons.mp hp with rfl | hp
  ·exact Ne.symm hCD
  ·exact offC p hp
theorem comp_str_none {t:Str}{tt:Tok}(hh:A.handled=none) (F:Fr hO L s₁.heap m) (N:News hO L s₁.heap news) (ha:t.cps.all (· < 128)=true) (hn:t.cps.size<100000)
  (turn:∀ c u I oI C oC D m₂ h tk (E':Value->Shared->Prop),c∈t.cps->NsObj oC m₂->m₂ x=some (.str ⟨#[c]⟩ u)->Fr hO L h m->News hO L h ((I,oI)::(C,oC)::(D,lst [])::news)->Off3 I C D news ->
   wpAny (model prog w) A (isTrue ct (compEnvC scope cl C env) (eval ct (compEnvC scope cl C env))) (fun ok s'=>ok=false/\CompEnd hO L m { s₁ with heap:=h,toks:=tk } I oI C oC D (lst []) (fun _=>True) (fun _ news'=>news'=news) Value.none s') E' { s₁ with heap:=h,toks:=tk })
  (fin:∀ D h tk,Fr hO L h m->News hO L h ((D,PySem.W.listOf #[] 0)::news)->(∀ p∈news,p.1≠D)->Q (.ref D) { s₁ with heap:=h,toks:=tk }) :
  StrSrc prog w A hO L m env ct elt x scope cl (fun s₂=>FinE hO L m s₂ Q) (.str t tt) s₁:=by
 refine K3 t tt news (M7 rfl hh F N ha hn ?_)
 (intro s₂ zr1;(refine E1 zr1 fun g zo22=>?_;try clear zr1;rcases zo22 with rfl))
 refine compT_rest (n:=t.cps.size) (fun _ ys l=>ys=[]/\l=news) (fun i v I oI C oC D m₂ ys l h tk E' hi hP hJ hC hx F9 N9 off=>?_) (fun ys l hJ D h tk F9 N9 off=>?_) t.cps.size 0 [] news (by omega) ⟨rfl,rfl⟩
 ·(refine G2 ?_ hJ;try clear hJ;intro zo23 zo24;rcases zo23 with rfl;rcases zo24 with rfl)
  (refine E2 hP fun c u=>G2 fun hc zo25=>?_;try clear hP;rcases zo25 with rfl)
  refine wpAny_mono (turn c u I oI C oC D m₂ h tk E' (Array.mem_of_getElem? hc) hC hx F9 N9 off) (fun ok s₂ hq=>?_) fun _ _ e=>e
  obtain ⟨rfl,h',tk',nw,e,F',N',off',_,hJ'⟩:=hq
  simp only [Bool.false_eq_true,if_false]
  refine K3 h' tk' nw (M7 e F' N' off' trivial trivial hJ')
 ·(refine G2 ?_ hJ;try clear hJ;intro zo26 zo27;rcases zo26 with rfl;rcases zo27 with rfl)
  exact fin D h tk F9 N9 (off1_all off)
end

theorem dh_in_none {prog:Program}{w:World}{A:Around}{E:Value->Shared->Prop}{s:Shared}{hO:Heap}{L d a:Addr}{news:Led}{k:List Mix}{xs:Ents}{Q:Value->Shared->Prop}(hu:A.units+1<cLine) (N:News hO L s.heap news) (H:DH prog w d xs news) (T:TupIn prog w a k news) (hk:atKey xs k=none) (h:∀ tk,Q (.bool false) { s with toks:=tk }) :
  wpAny (model prog w) A (compareOp .In (.ref a) (.ref d)) Q E s:=dh_in hu N H T fun tk=>by rw [hk];exact h tk
end
section
open PyProof.Rows.LCg
set_option tactic.hygienic false
example:True:=by
 k_with "x4"=>skip
 k_with "bank"=>((fail_if_success k_extra "x5");(exists b18,b19,b21,b20))
 trivial
section
variable {prog:Program}{w:World}{A:Around}{E:Value->Shared->Prop}{s:Shared}{hO:Heap}{L:Addr}{env:Env}{x:Str}{body:List Stmt}{Q:Flow->Shared->Prop}{news:Led}{m₀:Str->Option Value}
noncomputable def ForEnd (hO:Heap) (L:Addr) (J:(Str->Option Value)->Led->Prop) (I:Addr) (oI:Obj) (s₁:Shared) (Q:Flow->Shared->Prop) (f:Flow) (s₂:Shared):Prop :=
 match f with
 | .ret v=>Q (.ret v) s₂
 | .brk=>Q .next s₂
 | _=>∃ h' tk m' l',s₂ = { s₁ with heap:=h',toks:=tk }/\Fr hO L h' m'/\News hO L h' ((I,oI)::l')/\(∀ p∈l',p.1≠I)/\J m' l'
theorem ForEnd.mk {J:(Str->Option Value)->Led->Prop}{I:Addr}{oI:Obj}{s₁:Shared}{h':Heap}{tk:Nat}{m':Str->Option Value}{l':Led}(F:Fr hO L h' m') (N:News hO L h' ((I,oI)::l')) (hI:∀ p∈l',p.1≠I) (hJ:J m' l') :
  ForEnd hO L J I oI s₁ Q .next { s₁ with heap:=h',toks:=tk }:=⟨h',tk,m',l',rfl,F,N,hI,hJ⟩
theorem for_range {r:Addr}{b:Int}{t u v:Tok}{n:Nat}(J:Nat->(Str->Option Value)->Led->Prop) (hh:A.handled=none) (F:Fr hO env.locals s.heap m₀) (N:News hO env.locals s.heap news) (hr:IsRange s.heap r 0 b 1 t u v) (hb:b=n) (hn:n<100000) (hJ:J 0 m₀ news)
  (turn:∀ (i:Nat) t m₁ l h tk I oI,i<n->J i m₁ l->(∀ p∈l,p.1≠I)->Fr hO env.locals h (fun y=>if y=x then some (.int (i:Int) t) else m₁ y)->News hO env.locals h ((I,oI)::l) ->
   wpAny (model prog w) A (execs body env) (ForEnd hO env.locals (J (i+1)) I oI { s with heap:=h,toks:=tk } Q) E { s with heap:=h,toks:=tk })
  (done:∀ m₁ l h tk,J n m₁ l->Fr hO env.locals h m₁->News hO env.locals h l->Q .next { s with heap:=h,toks:=tk }) :
  wpAny (model prog w) A (pyIter (.ref r)) (fun it s₂=>LoopAtV prog w A hO env x body Q E it s₂) E s:=by
 subst hb
 have hsm:Builtin.Range.small 0 (n:Int) 1=true:=small_one (by decide) (by decide) (by omega) (by omega)
 have h2:Builtin.Range.rangeSize 0 (n:Int) 1=((n:Nat):Int):=by
  rw [rangeSize_one];split <;> omega
 refine wpAny_pyIter_range hr hsm ?_
 refine K9 s.heap.objs.size [s.heap.objs.size] [s.heap.objs.size] n _ _ m₀ news J (M11 rfl (range_walks hh 0 n) ?_ ?_ ?_ (by show IsRangeIter _ _ _ _ _;rw [h2];simpa using Heap.get?_push_size _ rfl) (F.push _) (fun p hp=>⟨Heap.get?_push_of_some _ (N p hp).1,(N p hp).2⟩) hJ ?_ ?_)
 ·intro hm
  exact absurd F.ns.lt ((List.mem_singleton.mp hm) ▸ Nat.lt_irrefl _)
 ·intro b hb
  rw [List.mem_singleton.mp hb]
  exact next_is_new F
 ·intro p hp hI
  exact absurd (Heap.lt_size (N p hp).1) ((List.mem_singleton.mp hI) ▸ Nat.lt_irrefl _)
 ·(intro i v m₁ l s₁ own zr6 hin zr8 hJ hoff hown hget hfp hst F₁ N₁;(refine E2 zr6 fun hh' tk' zo28=>?_;try clear zr6;rcases zo28 with rfl);(refine E1 zr8 fun t hP=>?_;try clear zr8))
  obtain ⟨oI,hst'⟩:∃ o,hh'.get? s.heap.objs.size=some o:=⟨_,hst⟩
  have hIown:=hfp _ (List.mem_singleton.mpr rfl) (next_is_new F) _ hst'
  have e':v = .int (i:Int) t:=by rw [hP,Int.zero_add]
  subst e'
  refine wpAny_mono (turn i t m₁ l hh' tk' s.heap.objs.size oI hin hJ (fun p hp q=>hoff p hp (List.mem_singleton.mpr q)) F₁ (fun p hp=>by
   rcases List.mem_cons.mp hp with e | hp
   ·exact e ▸ N₁ _ (List.mem_append_left _ hIown)
   ·exact N₁ _ (List.mem_append_right _ hp))) (fun f s₂ p=>?_) fun _ _ e=>e
  have fin:(∃ h' tk m' l',s₂ = { ({ s with heap:=hh',toks:=tk' } : Shared) with heap:=h',toks:=tk }/\Fr hO env.locals h' m'/\News hO env.locals h' ((s.heap.objs.size,oI)::l')/\(∀ p∈l',p.1≠s.heap.objs.size)/\J (i+1) m' l') ->
    LoopStepU hO env.locals [s.heap.objs.size] own (J (i+1)) { s with heap:=hh',toks:=tk' } .next s₂:=by
   (intro zr0;(refine E4 zr0 fun h' tk m' l'=>G5 fun e F' N' hI hj=>?_;try clear zr0))
   refine ⟨rfl,h',tk,m',l',e,F',fun p hp=>?_,fun p hp q=>hI p hp (List.mem_singleton.mp q),hj⟩
   rcases List.mem_append.mp hp with hp | hp
   ·have h1:p.1=s.heap.objs.size:=List.mem_singleton.mp (hown p hp)
    have h3:=hget p hp
    rw [h1] at h3
    have h2:p=(s.heap.objs.size,oI):=Prod.ext h1 (Option.some.inj (h3.symm.trans hst'))
    rw [h2];exact N' _ (.head _)
   ·exact N' _ (.tail _ hp)
  cases f with
  | ret v=>exact .ret p
  | brk=>exact .brk p
  | next=>exact .next (fin p)
  | cont=>exact .cont (fin p)
 ·rintro h' tk m' l F' N' _ hJ
  exact done m' l h' tk hJ F' N'
theorem for_seq {ax:Addr}{oa:Obj}{vs:List Value}{T:String}{St:Nat->Heap->Prop}{oi:Obj}(J:Nat->(Str->Option Value)->Led->Prop) (F:Fr hO env.locals s.heap m₀) (N:News hO env.locals s.heap news) (hm:(ax,oa)∈news) (hJ:J 0 m₀ news)
  (hit:∀ {Q':Value->Shared->Prop},Q' (.ref s.heap.objs.size) { s with heap:=s.heap.push oi }->wpAny (model prog w) A (pyIter (.ref ax)) Q' E s)
  (W:Walks prog w A s.heap.objs.size [s.heap.objs.size,ax] [s.heap.objs.size] vs.toArray.size (fun i v=>vs.toArray[i]?=some v) St) (h0:St 0 (s.heap.push oi)) (hI:∀ i h,St i h->∃ o,h.get? s.heap.objs.size=some o)
  (hS:∀ i m l,J i m l->(ax,oa)∈l)
  (turn:∀ (i:Nat) v m₁ l h tk I oI,vs[i]?=some v->J i m₁ l->(∀ p∈l,p.1≠I)->Fr hO env.locals h (fun y=>if y=x then some v else m₁ y)->News hO env.locals h ((I,oI)::l) ->
   wpAny (model prog w) A (execs body env) (ForEnd hO env.locals (J (i+1)) I oI { s with heap:=h,toks:=tk } Q) E { s with heap:=h,toks:=tk })
  (done:∀ m₁ l h tk,J vs.length m₁ l->Fr hO env.locals h m₁->News hO env.locals h l->Q .next { s with heap:=h,toks:=tk }) :
  wpAny (model prog w) A (pyIter (.ref ax)) (fun it s₂=>LoopAtV prog w A hO env x body Q E it s₂) E s:=by
 refine hit ?_
 refine K9 s.heap.objs.size [s.heap.objs.size,ax] [s.heap.objs.size] vs.toArray.size _ St m₀ news J (M11 rfl W ?_ ?_ ?_ h0 (F.push _) (fun p hp=>⟨Heap.get?_push_of_some _ (N p hp).1,(N p hp).2⟩) hJ ?_ ?_)
 ·intro hm'
  rcases List.mem_cons.mp hm' with e | hm'
  ·exact absurd F.ns.lt (e ▸ Nat.lt_irrefl _)
  ·exact (N _ hm).2.1 ((List.mem_singleton.mp hm').symm)
 ·intro b hb
  rw [List.mem_singleton.mp hb]
  exact next_is_new F
 ·intro p hp hI
  exact absurd (Heap.lt_size (N p hp).1) ((List.mem_singleton.mp hI) ▸ Nat.lt_irrefl _)
 ·(intro i v m₁ l s₁ own zr6 hin hP hJ hoff hown hget hfp hst F₁ N₁;(refine E2 zr6 fun hh' tk' zo29=>?_;try clear zr6;rcases zo29 with rfl))
  (refine E1 (hI _ _ hst) fun oI hst'=>?_)
  have hIown:=hfp _ (.head _) (next_is_new F) _ hst'
  refine wpAny_mono (turn i v m₁ l hh' tk' s.heap.objs.size oI (by simpa using hP) hJ (fun p hp q=>hoff p hp (List.mem_singleton.mpr q)) F₁ (fun p hp=>by
   rcases List.mem_cons.mp hp with e | hp
   ·exact e ▸ N₁ _ (List.mem_append_left _ hIown)
   ·exact N₁ _ (List.mem_append_right _ hp))) (fun f s₂ p=>?_) fun _ _ e=>e
  have hax:hh'.get? ax=some oa:=(N₁ _ (List.mem_append_right _ (hS _ _ _ hJ))).1
  have fin:(∃ h' tk m' l',s₂ = { ({ s with heap:=hh',toks:=tk' } : Shared) with heap:=h',toks:=tk }/\Fr hO env.locals h' m'/\News hO env.locals h' ((s.heap.objs.size,oI)::l')/\(∀ p∈l',p.1≠s.heap.objs.size)/\J (i+1) m' l') ->
    LoopStepU hO env.locals [s.heap.objs.size] own (J (i+1)) { s with heap:=hh',toks:=tk' } .next s₂:=by
   (intro zr0;(refine E4 zr0 fun h' tk m' l'=>G5 fun e F' N' hI hj=>?_;try clear zr0))
   refine ⟨rfl,h',tk,m',l',e,F',fun p hp=>?_,fun p hp q=>hI p hp (List.mem_singleton.mp q),hj⟩
   rcases List.mem_append.mp hp with hp | hp
   ·have h3:=hget p hp
    rcases List.mem_cons.mp (hown p hp) with h1 | h1
    ·rw [h1] at h3
     have h2:p=(s.heap.objs.size,oI):=Prod.ext h1 (Option.some.inj (h3.symm.trans hst'))
     rw [h2];exact N' _ (.head _)
    ·have h1:=List.mem_singleton.mp h1
     rw [h1] at h3
     have h2:p=(ax,oa):=Prod.ext h1 (Option.some.inj (h3.symm.trans hax))
     rw [h2];exact N' _ (.tail _ (hS _ _ _ hj))
   ·exact N' _ (.tail _ hp)
  cases f with
  | ret v=>exact .ret p
  | brk=>exact .brk p
  | next=>exact .next (fin p)
  | cont=>exact .cont (fin p)
 ·rintro h' tk m' l F' N' _ hJ
  exact done m' l h' tk (by simpa using hJ) F' N'
theorem for_list {ax:Addr}{vs:List Value}{k:Nat}(J:Nat->(Str->Option Value)->Led->Prop) (hh:A.handled=none) (F:Fr hO env.locals s.heap m₀) (N:News hO env.locals s.heap news) (hm:(ax,PySem.W.listOf vs.toArray k)∈news) (hJ:J 0 m₀ news)
  (hS:∀ i m l,J i m l->(ax,PySem.W.listOf vs.toArray k)∈l)
  (turn:∀ (i:Nat) v m₁ l h tk I oI,vs[i]?=some v->J i m₁ l->(∀ p∈l,p.1≠I)->Fr hO env.locals h (fun y=>if y=x then some v else m₁ y)->News hO env.locals h ((I,oI)::l) ->
   wpAny (model prog w) A (execs body env) (ForEnd hO env.locals (J (i+1)) I oI { s with heap:=h,toks:=tk } Q) E { s with heap:=h,toks:=tk })
  (done:∀ m₁ l h tk,J vs.length m₁ l->Fr hO env.locals h m₁->News hO env.locals h l->Q .next { s with heap:=h,toks:=tk }) :
  wpAny (model prog w) A (pyIter (.ref ax)) (fun it s₂=>LoopAtV prog w A hO env x body Q E it s₂) E s:=by
 have hl:=is_listN N hm
 have hlt:ax<s.heap.objs.size:=Heap.lt_size (N _ hm).1
 exact for_seq (T:="list") (oi:={ cls:=.type "list_iterator",data:=.fields #[.ref ax,.int 0 0] }) J F N hm hJ (fun h=>wpAny_pyIter_list hl h) (Walks.list hh s.heap.objs.size ax (Nat.ne_of_lt hlt) vs.toArray) ⟨⟨_,Heap.get?_push_size _ rfl,rfl,rfl⟩,hl.push _⟩ (fun i h st=>by (refine E1 st.1 fun o=>G2 fun e _=>?_);exact ⟨o,e⟩) hS turn done
theorem for_tup {ax:Addr}{vs:List Value}{k:Nat}(J:Nat->(Str->Option Value)->Led->Prop) (hh:A.handled=none) (F:Fr hO env.locals s.heap m₀) (N:News hO env.locals s.heap news) (hm:(ax,tupOf vs.toArray k)∈news) (hJ:J 0 m₀ news)
  (hS:∀ i m l,J i m l->(ax,tupOf vs.toArray k)∈l)
  (turn:∀ (i:Nat) v m₁ l h tk I oI,vs[i]?=some v->J i m₁ l->(∀ p∈l,p.1≠I)->Fr hO env.locals h (fun y=>if y=x then some v else m₁ y)->News hO env.locals h ((I,oI)::l) ->
   wpAny (model prog w) A (execs body env) (ForEnd hO env.locals (J (i+1)) I oI { s with heap:=h,toks:=tk } Q) E { s with heap:=h,toks:=tk })
  (done:∀ m₁ l h tk,J vs.length m₁ l->Fr hO env.locals h m₁->News hO env.locals h l->Q .next { s with heap:=h,toks:=tk }) :
  wpAny (model prog w) A (pyIter (.ref ax)) (fun it s₂=>LoopAtV prog w A hO env x body Q E it s₂) E s:=by
 have hl:s.heap.IsTuple ax vs.toArray:=⟨_,(N _ hm).1,rfl,k,rfl⟩
 have hlt:ax<s.heap.objs.size:=Heap.lt_size (N _ hm).1
 exact for_seq (T:="tuple") (oi:={ cls:=.type "tuple_iterator",data:=.fields #[.ref ax,.int 0 0] }) J F N hm hJ (fun h=>wpAny_pyIter_tuple hl h) (Walks.tuple hh s.heap.objs.size ax (Nat.ne_of_lt hlt) vs.toArray) ⟨⟨_,Heap.get?_push_size _ rfl,rfl,rfl⟩,⟨_,Heap.get?_push_of_some _ (N _ hm).1,rfl,k,rfl⟩⟩ (fun i h st=>by (refine E1 st.1 fun o=>G2 fun e _=>?_);exact ⟨o,e⟩) hS turn done
end
end
section
set_option tactic.hygienic false
example:True:=by
 k_with "x5"=>skip
 trivial
theorem ltn {a b:Addr}(h:a<b) : @LT.lt Nat _ a b:=h
theorem nen {a b:Addr}(h : @Ne Nat a b):a≠b:=h
structure SetTo (d:Addr) (o':Obj) (l l':Led):Prop where
 keep:∀ p∈l,p.1≠d->p∈l'
 self:∀ o,(d,o)∈l->(d,o')∈l'
 back:∀ p∈l',p=(d,o')∨(p∈l/\p.1≠d)
theorem SetTo.of (d:Addr) (o':Obj) (l:Led):SetTo d o' l (setL d o' l) :=
 ⟨fun p hp hn=>mem_setL_ne' hp hn,fun o h=>mem_setL_self h,fun p hp=>by
  (refine E1 (List.mem_map.mp hp) fun q=>G2 fun hq e=>?_)
  split at e
  ·exact .inl e.symm
  ·rename_i hn
   exact .inr ⟨e ▸ hq,e ▸ hn⟩⟩
theorem SetTo.mem {d a:Addr}{o' x:Obj}{l l':Led}(S:SetTo d o' l l') (h:(a,x)∈l) (hn:a≠d):(a,x)∈l':=S.keep _ h hn
theorem SetTo.it {d:Addr}{o o':Obj}{l l':Led}(S:SetTo d o' l l') (h:(d,o)∈l):(d,o')∈l':=S.self _ h
theorem SetTo.addr {d:Addr}{o':Obj}{l l':Led}(S:SetTo d o' l l') {p:Addr × Obj}(h:p∈l):∃ o,(p.1,o)∈l':=by
 by_cases e:p.1=d
 ·exact ⟨o',e ▸ S.self p.2 (e ▸ h)⟩
 ·exact ⟨p.2,S.keep p h e⟩
theorem DH.setTo {prog:Program}{w:World}{d e:Addr}{o':Obj}{xs:Ents}{l l':Led}(H:DH prog w d xs l) (S:SetTo e o' l l') (h1:d≠e) (h2:∀ a∈entAddrs xs,a≠e):DH prog w d xs l' :=
 H.move fun p hp h=>S.keep p hp (by rcases h with h | h;exact h ▸ h1;exact h2 _ h)
theorem DI.setTo {prog:Program}{w:World}{d e:Addr}{o':Obj}{n:Nat}{f:Int->Option Addr}{l l':Led}(H:DI prog w d n f l) (S:SetTo e o' l l') (h1:d≠e):DI prog w d n f l' :=
 H.move fun p hp h=>S.keep p hp (h ▸ h1)
theorem TupIn.setTo {prog:Program}{w:World}{d e:Addr}{o':Obj}{k:List Mix}{l l':Led}(H:TupIn prog w d k l) (S:SetTo e o' l l') (h1:d≠e):TupIn prog w d k l' :=
 H.mono fun p hp h=>S.keep p hp (h ▸ h1)
section
variable {prog:Program}{w:World}{A:Around}{E:Value->Shared->Prop}{s:Shared}{hO:Heap}{L D d b a:Addr}{m:Str->Option Value}{news:Led}{vs vs2:List Value}{n n2:Nat}{xs:Ents}{k:List Mix}{f:Int->Option Addr}
theorem append_o {Q:Value->Shared->Prop}{x:Value}(F:Fr hO L s.heap m) (N:News hO L s.heap news) (hm:(D,PySem.W.listOf vs.toArray n)∈news) (hz:vs.length<100000)
  (h:∀ h' l',Fr hO L h' m->News hO L h' l'->SetTo D (PySem.W.listOf (vs++[x]).toArray (n+1)) news l'->Q .none { s with heap:=h' }) :
  wpAny (model prog w) A (call (.builtin "list.append") [.ref D,x]) Q E s :=
 append_led F N hm hz fun h' F' N'=>h h' _ F' N' (.of _ _ _)
theorem extend_o {Q:Value->Shared->Prop}(F:Fr hO L s.heap m) (N:News hO L s.heap news) (hm:(D,PySem.W.listOf vs.toArray n)∈news) (hb:(b,PySem.W.listOf vs2.toArray n2)∈news) (hz:vs.length<100000) (hz2:vs2.length<100000)
  (h:∀ h' n' l',Fr hO L h' m->News hO L h' l'->SetTo D (PySem.W.listOf (vs++vs2).toArray n') news l'->Q .none { s with heap:=h' }) :
  wpAny (model prog w) A (call (.builtin "list.extend") [.ref D,.ref b]) Q E s :=
 extend_led F N hm hb hz hz2 fun h' n' F' N'=>h h' n' _ F' N' (.of _ _ _)
theorem set_o {Q:Unit->Shared->Prop}{ns:List Int}{k x:Int}{t u:Tok}(F:Fr hO L s.heap m) (N:News hO L s.heap news) (hm:(D,PySem.W.listOf vs.toArray n)∈news) (hi:IntsAre vs ns) (h0:0<=k) (h1:k<ns.length) (hz:k<100000)
  (h:∀ h' l',Fr hO L h' m->News hO L h' l'->SetTo D (PySem.W.listOf (vs.set k.toNat (.int x u)).toArray n) news l'->IntsAre (vs.set k.toNat (.int x u)) (ns.set k.toNat x)->Q () { s with heap:=h' }) :
  wpAny (model prog w) A (setItem (.ref D) (.int k t) (.int x u)) Q E s :=
 set_led F N hm hi h0 h1 hz fun h' F' N' i=>h h' _ F' N' (.of _ _ _) i
theorem dh_set_o {Q:Unit->Shared->Prop}{v:Value}(hu:A.units+1<cLine) (F:Fr hO L s.heap m) (N:News hO L s.heap news) (H:DH prog w d xs news) (T:TupIn prog w a k news) (hz:xs.length<100000)
  (h:∀ h' tk o' l',Fr hO L h' m->News hO L h' l'->SetTo d o' news l'->DH prog w d (storedH xs k a v) l'->Q () { s with heap:=h',toks:=tk }) :
  wpAny (model prog w) A (setItem (.ref d) (.ref a) v) Q E s :=
 dh_set hu F N H T hz fun h' tk o' F' N' H'=>h h' tk o' _ F' N' (.of _ _ _) H'
theorem dh_setdefault_o {dflt:Value}{Q:Value->Shared->Prop}(hu:A.units+1<cLine) (F:Fr hO L s.heap m) (N:News hO L s.heap news) (H:DH prog w d xs news) (T:TupIn prog w a k news) (hz:xs.length<100000)
  (hargs:argsOk "dict.setdefault" ⟨[.ref d,.ref a,dflt],[]⟩)
  (h1:∀ p,atKey xs k=some p->∀ tk,Q p.2 { s with toks:=tk })
  (h2:atKey xs k=none->∀ h' tk o' l',Fr hO L h' m->News hO L h' l'->SetTo d o' news l'->DH prog w d (xs++[(k,a,dflt)]) l'->Q dflt { s with heap:=h',toks:=tk }) :
  wpAny (model prog w) A (call (.builtin "dict.setdefault") [.ref d,.ref a,dflt]) Q E s :=
 dh_setdefault hu F N H T hz hargs h1 fun e h' tk o' F' N' H'=>h2 e h' tk o' _ F' N' (.of _ _ _) H'
theorem di_set_o {Q:Unit->Shared->Prop}{k:Int}{t:Tok}{n':Nat}(F:Fr hO L s.heap m) (N:News hO L s.heap news) (H:DI prog w d n f news) (hz:n<100000) (hn:(f k=none/\n'=n+1)∨(f k≠none/\n'=n))
  (h:∀ h' tk o' l',Fr hO L h' m->News hO L h' l'->SetTo d o' news l'->DI prog w d n' (fun j=>if j=k then some a else f j) l'->Q () { s with heap:=h',toks:=tk }) :
  wpAny (model prog w) A (setItem (.ref d) (.int k t) (.ref a)) Q E s :=
 di_set F N H hz hn fun h' tk o' F' N' H'=>h h' tk o' _ F' N' (.of _ _ _) H'
theorem di_pop_o {Q:Value->Shared->Prop}{k:Int}{t:Tok}(F:Fr hO L s.heap m) (N:News hO L s.heap news) (H:DI prog w d n f news) (hz:n<100000) (hp:f k=some a)
  (h:∀ h' tk o' l',Fr hO L h' m->News hO L h' l'->SetTo d o' news l'->DI prog w d n (fun j=>if j=k then none else f j) l'->Q (.ref a) { s with heap:=h',toks:=tk }) :
  wpAny (model prog w) A (call (.builtin "dict.pop") [.ref d,.int k t]) Q E s :=
 di_pop F N H hz hp fun h' tk o' F' N' H'=>h h' tk o' _ F' N' (.of _ _ _) H'
end
theorem nod6 {a b c d e f:Addr}(h:[a,b,c,d,e,f].Nodup):(¬a=b/\¬a=c/\¬a=d/\¬a=e/\¬a=f)/\(¬b=c/\¬b=d/\¬b=e/\¬b=f)/\(¬c=d/\¬c=e/\¬c=f)/\(¬d=e/\¬d=f)/\¬e=f/\¬False/\List.Nodup ([]:List Addr):=by
 simp only [List.nodup_cons,List.mem_cons,List.not_mem_nil,or_false,not_or] at h
 exact h
theorem nod7 {a b c d e f g:Addr}(h:[a,b,c,d,e,f,g].Nodup):(¬a=b/\¬a=c/\¬a=d/\¬a=e/\¬a=f/\¬a=g)/\(¬b=c/\¬b=d/\¬b=e/\¬b=f/\¬b=g)/\(¬c=d/\¬c=e/\¬c=f/\¬c=g)/\(¬d=e/\¬d=f/\¬d=g)/\(¬e=f/\¬e=g)/\¬f=g/\¬False/\List.Nodup ([]:List Addr):=by
 simp only [List.nodup_cons,List.mem_cons,List.not_mem_nil,or_false,not_or] at h
 exact h
noncomputable def Asc:Nat->List Nat->Prop
 | _,[]=>True
 | a,b::l=>a<b/\Asc b l
theorem Asc.nil {a:Nat} : Asc a []:=trivial
theorem Asc.cons {a b:Nat}{l:List Nat}(h:a<b) (hl:Asc b l):Asc a (b::l):=⟨h,hl⟩
theorem Asc.low:∀ {l:List Nat}{a:Nat},Asc a l->∀ b∈l,a<b
 | [],_,_,_,h=>absurd h List.not_mem_nil
 | c::l,a,h,b,hb=>by
  rcases List.mem_cons.mp hb with e | e
  ·exact e ▸ h.1
  ·exact Nat.lt_trans h.1 (Asc.low h.2 b e)
theorem Asc.nod:∀ {l:List Nat}{a:Nat},Asc a l->(a::l).Nodup
 | [],_,_=>by simp
 | c::l,a,h=>List.nodup_cons.mpr ⟨fun q=>Nat.lt_irrefl _ (Asc.low (l:=c::l) h _ q),Asc.nod h.2⟩
theorem nod_up {x d:Nat}{l:List Nat}(g:d<x) (h:Asc x l):(x::d::l).Nodup:=by
 refine List.nodup_cons.mpr ⟨fun q=>?_,List.nodup_cons.mpr ⟨fun q=>?_,(List.nodup_cons.mp (Asc.nod h)).2⟩⟩
 ·rcases List.mem_cons.mp q with e | e
  ·exact Nat.lt_irrefl _ (e ▸ g)
  ·exact Nat.lt_irrefl _ (Asc.low h _ e)
 ·exact Nat.lt_irrefl _ (Nat.lt_trans g (Asc.low h _ q))
theorem low_up {x d:Nat}{l:List Nat}(g:d<x) (h:Asc x l):∀ a∈x::d::l,d<=a:=fun a ha=>by
 rcases List.mem_cons.mp ha with e | e
 ·exact e ▸ Nat.le_of_lt g
 ·rcases List.mem_cons.mp e with e | e
  ·exact e ▸ Nat.le_refl _
  ·exact Nat.le_of_lt (Nat.lt_trans g (Asc.low h _ e))
theorem all_nil {P:Addr->Prop} : ∀ a∈([]:List Addr),P a:=fun _ h=>absurd h List.not_mem_nil
theorem all_cons {P:Addr->Prop}{b:Addr}{l:List Addr}(h:P b) (hl:∀ a∈l,P a):∀ a∈b::l,P a:=fun a ha=>by
 rcases List.mem_cons.mp ha with e | e
 ·exact e ▸ h
 ·exact hl a e
end
section
example:True:=by
 k_with "bank"=>((fail_if_success k_extra "x7");(exists b55,b57,b56,b58,b59,b9))
 trivial
theorem items_ints {prog:Program}{w:World} : ∀ {vs:List Value}{ks:List Int},IntsAre vs ks->ItemsAre (mixKind prog w) (ks.map .inr) vs
 | _,_,.nil=>.nil
 | _,_,.cons i t h=>.cons (by simp [mixKind,mixIs,Value.isInt]) (items_ints h)
theorem ints_items {prog:Program}{w:World} : ∀ {ks:List Int}{vs:List Value},ItemsAre (mixKind prog w) (ks.map .inr) vs->IntsAre vs ks
 | [],_,h=>by cases h;exact .nil
 | k::ks,_,h=>by
  cases h with
  | cons hk hr =>
   rename_i v vs
   have hk:mixIs (.inr k) v=true:=hk
   (refine E1 (Value.isInt_shape hk) fun t zo32=>?_;rcases zo32 with rfl)
   exact .cons _ _ (ints_items hr)
noncomputable abbrev nKey (x:Str) (ks:List Int):List Mix:=.inl x::ks.map .inr
theorem tupIn_n {prog:Program}{w:World}{a:Addr}{x:Str}{t:Tok}{vs:List Value}{ks:List Int}{n:Nat}{l:Led}(h:(a,tupOf (.str x t::vs).toArray n)∈l) (hi:IntsAre vs ks):TupIn prog w a (nKey x ks) l :=
 ⟨_,_,h,.cons (by simp [mixKind,mixIs,Value.isStrOf]) (items_ints hi)⟩
theorem tupIn_n_inv {prog:Program}{w:World}{a:Addr}{x:Str}{ks:List Int}{l:Led}(h:TupIn prog w a (nKey x ks) l):∃ t vs n,(a,tupOf (.str x t::vs).toArray n)∈l/\IntsAre vs ks:=by
 (refine E2 h fun items n=>G2 fun hm hi=>?_;try clear h)
 obtain ⟨its⟩:=items
 cases hi with
 | cons hk hr =>
  rename_i v vs
  have hk:mixIs (.inl x) v=true:=hk
  (refine E1 (Value.isStrOf_shape hk) fun t zo33=>?_;rcases zo33 with rfl)
  refine K3 t vs n (M2 hm (ints_items hr))
section
variable {prog:Program}{w:World}{A:Around}{E:Value->Shared->Prop}{s:Shared}{hO:Heap}{L:Addr}{m:Str->Option Value}{news:Led}{Q:Value->Shared->Prop}{t b:Addr}{vs vs2:List Value}{n n2:Nat}
theorem tup_addG (F:Fr hO L s.heap m) (N:News hO L s.heap news) (hm:(t,tupOf vs.toArray n)∈news) (hb:(b,tupOf vs2.toArray n2)∈news) (hv:vs≠[]) (hz:vs.length<5000) (hz2:vs2.length<5000)
  (h:∀ D h' l' k,Fr hO L h' m->News hO L h' l'->(D,tupOf (vs++vs2).toArray k)∈l'->(∀ p∈news,p∈l')->(∀ p∈l',p∈news∨p.1=D)->(D=t∨∀ p∈news,p.1<D)->Q (.ref D) { s with heap:=h' }):wpAny (model prog w) A (binaryOp .Add (.ref t) (.ref b)) Q E s:=by
 cases vs2 with
 | nil=>exact tup_add0 F N hm hb hv (by omega) (h t s.heap news n F N (by simpa using hm) (fun _ hp=>hp) (fun _ hp=>.inl hp) (.inl rfl))
 | cons x r =>
  refine tup_add F N hm hb hv (by simp) hz hz2 fun D h' F' N' l1=>?_
  exact h D h' _ 0 F' N' (.head _) (fun _ hp=>.tail _ hp) (fun p hp=>by
   rcases List.mem_cons.mp hp with e | hp
   ·exact .inr (by rw [e])
   ·exact .inl hp) (.inr l1)
end
theorem dh_in_some {prog:Program}{w:World}{A:Around}{E:Value->Shared->Prop}{s:Shared}{hO:Heap}{L d a:Addr}{news:Led}{k:List Mix}{xs:Ents}{p:Addr × Value}{Q:Value->Shared->Prop}(hu:A.units+1<cLine) (N:News hO L s.heap news) (H:DH prog w d xs news) (T:TupIn prog w a k news) (hk:atKey xs k=some p) (h:∀ tk,Q (.bool true) { s with toks:=tk }) :
  wpAny (model prog w) A (compareOp .In (.ref a) (.ref d)) Q E s:=dh_in hu N H T fun tk=>by rw [hk];exact h tk
theorem get_of_atKey {xs:Ents}{k:List Mix}{p:Addr × Value}(h:atKey xs k=some p):∃ j:Nat,xs[j]?=some (k,p):=by
 unfold atKey at h
 cases hf:xs.find? (fun x=>x.1=k) with
 | none=>rw [hf] at h;cases h
 | some x =>
  rw [hf] at h
  have e1:x.2=p:=by simpa using h
  have e2:x.1=k:=by simpa using List.find?_some hf
  obtain ⟨j,hj,e⟩:=List.getElem_of_mem (List.mem_of_find?_eq_some hf)
  exact ⟨j,by rw [List.getElem?_eq_getElem hj,e,← e1,← e2]⟩
theorem over_self {m:Str->Option Value}(x:Str):m=fun y=>if y=x then m x else m y:=by
 funext y
 by_cases h:y=x
 ·rw [if_pos h,h]
 ·rw [if_neg h]
theorem over_over {m:Str->Option Value}{x:Str}{a b:Option Value} : (fun y=>if y=x then a else (fun y=>if y=x then b else m y) y)=fun y=>if y=x then a else m y:=by
 funext y
 by_cases h:y=x
 ·rw [if_pos h,if_pos h]
 ·rw [if_neg h,if_neg h];exact if_neg h
section
variable {prog:Program}{w:World}{A:Around}{E:Value->Shared->Prop}{s:Shared}{hO:Heap}{env:Env}{x:Str}{body:List Stmt}{Q:Flow->Shared->Prop}{news:Led}{m₀:Str->Option Value}
theorem for_tup_read {ax:Addr}{vs:List Value}{k:Nat}(hh:A.handled=none) (F:Fr hO env.locals s.heap m₀) (N:News hO env.locals s.heap news) (hm:(ax,tupOf vs.toArray k)∈news)
  (turn:∀ (i:Nat) v h tk I oI,vs[i]?=some v->(∀ p∈news,p.1≠I)->Fr hO env.locals h (fun y=>if y=x then some v else m₀ y)->News hO env.locals h ((I,oI)::news) ->
   wpAny (model prog w) A (execs body env) (ForEnd hO env.locals (fun m l=>l=news/\m=fun y=>if y=x then some v else m₀ y) I oI { s with heap:=h,toks:=tk } Q) E { s with heap:=h,toks:=tk })
  (done:∀ ov h tk,Fr hO env.locals h (fun y=>if y=x then ov else m₀ y)->News hO env.locals h news->Q .next { s with heap:=h,toks:=tk }) :
  wpAny (model prog w) A (pyIter (.ref ax)) (fun it s₂=>LoopAtV prog w A hO env x body Q E it s₂) E s:=by
 refine for_tup (fun _ m l=>l=news/\∃ ov,m=fun y=>if y=x then ov else m₀ y) hh F N hm ⟨rfl,_,over_self x⟩ (fun _ _ _ h=>h.1 ▸ hm) (fun i v m₁ l h tk I oI hv hJ hI F1 N1=>?_) fun m₁ l h tk hJ F1 N1=>?_
 ·obtain ⟨rfl,ov,rfl⟩:=hJ
  rw [over_over] at F1
  refine wpAny_mono (turn i v h tk I oI hv hI F1 N1) (fun f s₂ hq=>?_) fun _ _ e=>e
  cases f with
  | ret v=>exact hq
  | brk=>exact hq
  | next=>(refine E4 hq fun h' tk m' l'=>G6 fun e F' N' hI' e1 e2=>?_;try clear hq);refine ⟨h',tk,m',l',e,F',N',hI',e1,_,e2⟩
  | cont=>(refine E4 hq fun h' tk m' l'=>G6 fun e F' N' hI' e1 e2=>?_;try clear hq);refine ⟨h',tk,m',l',e,F',N',hI',e1,_,e2⟩
 ·obtain ⟨rfl,ov,rfl⟩:=hJ
  exact done ov h tk F1 N1
end
section
variable {prog:Program}{w:World}{A:Around}{E:Value->Shared->Prop}{s:Shared}{hO:Heap}{env:Env}{x:Str}{body:List Stmt}{Q:Flow->Shared->Prop}{news:Led}{m₀:Str->Option Value}
theorem for_list_J {ax:Addr}{vs:List Value}{k:Nat}(J:Nat->Led->Prop) (hh:A.handled=none) (F:Fr hO env.locals s.heap m₀) (N:News hO env.locals s.heap news) (hm:(ax,PySem.W.listOf vs.toArray k)∈news) (hJ:J 0 news)
  (hS:∀ i l,J i l->(ax,PySem.W.listOf vs.toArray k)∈l)
  (turn:∀ (i:Nat) v l h tk I oI,vs[i]?=some v->J i l->(∀ p∈l,p.1≠I)->Fr hO env.locals h (fun y=>if y=x then some v else m₀ y)->News hO env.locals h ((I,oI)::l) ->
   wpAny (model prog w) A (execs body env) (ForEnd hO env.locals (fun m l'=>J (i+1) l'/\m=fun y=>if y=x then some v else m₀ y) I oI { s with heap:=h,toks:=tk } Q) E { s with heap:=h,toks:=tk })
  (done:∀ ov l h tk,J vs.length l->Fr hO env.locals h (fun y=>if y=x then ov else m₀ y)->News hO env.locals h l->Q .next { s with heap:=h,toks:=tk }) :
  wpAny (model prog w) A (pyIter (.ref ax)) (fun it s₂=>LoopAtV prog w A hO env x body Q E it s₂) E s:=by
 refine for_list (fun i m l=>J i l/\∃ ov,m=fun y=>if y=x then ov else m₀ y) hh F N hm ⟨hJ,_,over_self x⟩ (fun i _ l h=>hS i l h.1) (fun i v m₁ l h tk I oI hv hJ' hI F1 N1=>?_) fun m₁ l h tk hJ' F1 N1=>?_
 ·obtain ⟨hj,ov,rfl⟩:=hJ'
  rw [over_over] at F1
  refine wpAny_mono (turn i v l h tk I oI hv hj hI F1 N1) (fun f s₂ hq=>?_) fun _ _ e=>e
  cases f with
  | ret v=>exact hq
  | brk=>exact hq
  | next=>(refine E4 hq fun h' tk m' l'=>G6 fun e F' N' hI' e1 e2=>?_;try clear hq);refine ⟨h',tk,m',l',e,F',N',hI',e1,_,e2⟩
  | cont=>(refine E4 hq fun h' tk m' l'=>G6 fun e F' N' hI' e1 e2=>?_;try clear hq);refine ⟨h',tk,m',l',e,F',N',hI',e1,_,e2⟩
 ·obtain ⟨hj,ov,rfl⟩:=hJ'
  exact done ov l h tk hj F1 N1
end
theorem ForEnd.mkS {hO:Heap}{L:Addr}{Q:Flow->Shared->Prop}{J:(Str->Option Value)->Led->Prop}{I:Addr}{oI:Obj}{s₁:Shared}{h':Heap}{tk:Nat}{m':Str->Option Value}{l':Led}(F:Fr hO L h' m') (N:News hO L h' l') (hm:(I,oI)∈l') (hJ:∀ l'',(∀ p∈l',p.1≠I->p∈l'')->J m' l'') :
  ForEnd hO L J I oI s₁ Q .next { s₁ with heap:=h',toks:=tk }:=by
 refine ForEnd.mk (l':=l'.filter fun p=>decide (p.1≠I)) F (News.sub N fun p hp=>?_) (fun p hp=>?_) (hJ _ fun p hp hn=>?_)
 ·rcases List.mem_cons.mp hp with rfl | h
  ·exact hm
  ·exact (List.mem_filter.mp h).1
 ·exact of_decide_eq_true (List.mem_filter.mp hp).2
 ·exact List.mem_filter.mpr ⟨hp,decide_eq_true hn⟩
open PyProof.Rows.LCg in
theorem CompEnd.mkS {hO:Heap}{L I C D:Addr}{m:Str->Option Value}{s₁:Shared}{oI oC oD:Obj}{rest:Value->Led->Prop}{y:Value}{h':Heap}{tk:Nat}{l':Led}(F:Fr hO L h' m) (N:News hO L h' l') (mI:(I,oI)∈l') (mC:(C,oC)∈l') (mD:(D,oD)∈l')
  (hJ:∀ l'',(∀ p∈l',p.1≠I->p.1≠C->p.1≠D->p∈l'')->rest y l'') :
  CompEnd hO L m s₁ I oI C oC D oD (fun _=>True) rest y { s₁ with heap:=h',toks:=tk }:=by
 refine CompEnd.intro F N (l'.filter fun p=>decide (p.1≠I/\p.1≠C/\p.1≠D)) (fun p hp=>?_) (Off3.of fun p hp=>?_) trivial (hJ _ fun p hp h1 h2 h3=>?_)
 ·rcases List.mem_cons.mp hp with rfl | h
  ·exact mI
  rcases List.mem_cons.mp h with rfl | h
  ·exact mC
  rcases List.mem_cons.mp h with rfl | h
  ·exact mD
  exact (List.mem_filter.mp h).1
 ·have:=of_decide_eq_true (List.mem_filter.mp hp).2
  exact this
 ·exact List.mem_filter.mpr ⟨hp,decide_eq_true ⟨h1,h2,h3⟩⟩
theorem pop_o {prog:Program}{w:World}{A:Around}{E:Value->Shared->Prop}{s:Shared}{hO:Heap}{L D:Addr}{m:Str->Option Value}{news:Led}{vs:List Value}{ns:List Int}{n:Nat}{Q:Value->Shared->Prop}
  (F:Fr hO L s.heap m) (N:News hO L s.heap news) (hm:(D,PySem.W.listOf vs.toArray n)∈news) (hi:IntsAre vs ns) (hne:0<vs.length) (hz:vs.length<100000)
  (h:∀ h' l' t,Fr hO L h' m->News hO L h' l'->SetTo D (PySem.W.listOf vs.dropLast.toArray (n+1)) news l'->IntsAre vs.dropLast ns.dropLast->Q (.int (ns.getLastD 0) t) { s with heap:=h' }) :
  wpAny (model prog w) A (call (.builtin "list.pop") [.ref D]) Q E s:=by
 (refine E1 (News.nod N) fun l'=>G2 fun ND hl=>?_)
 have N2:News hO L s.heap l':=News.sub N fun p hp=>(hl p).mpr hp
 have U:=upd_setL (o':=PySem.W.listOf vs.dropLast.toArray (n+1)) ND ((hl _).mp hm)
 exact kpa_pop F N2 U hi hne (by rw [sizeLine_eq];omega) fun h' t F' N' hi'=>h h' _ t F' (News.sub N' fun p hp=>(mem_setL_iff hl p).mp hp) (.of _ _ _) hi'
theorem one_of {ks ms out:List Int}(h:ks.length<=1) (hm:∀ j,j∈ms↔j∈ks) (hl:ms.length<=ks.length) (p:out.Perm ms):out=ks:=by
 match ks,h with
 | [],_ =>
  have e:ms=[]:=List.eq_nil_of_length_eq_zero (by simpa using hl)
  rw [e] at p;exact p.eq_nil
 | [c],_ =>
  have hc:c∈ms:=(hm c).mpr (.head _)
  match ms,hl with
  | [],_=>cases hc
  | [d],_ =>
   rw [List.mem_singleton] at hc
   subst hc
   exact List.perm_singleton.mp p
theorem ints_at {vs:List Value}{ks:List Int}(h:IntsAre vs ks) {i:Nat}{v:Value}(hv:vs[i]?=some v):∃ t,v = .int (ks.getD i 0) t/\i<ks.length:=by
 induction h generalizing i with
 | nil=>simp at hv
 | cons j t h ih =>
  cases i with
  | zero=>simp at hv;refine K1 t (M2 hv.symm (by simp))
  | succ i =>
   (refine E1 (ih (i:=i) (by simpa using hv)) fun t=>G2 fun e hl=>?_)
   refine K1 t (M2 (by simpa using e) (by simpa using hl))
section
open PyProof.Rows.LCg
variable {prog:Program}{w:World}{A:Around}{E:Value->Shared->Prop}{s s₁:Shared}{hO:Heap}{L:Addr}{m:Str->Option Value}{env:Env}{elt:Expr}{x:Str}{scope:Scope}{cl:List (Str × Addr)}{news:Led}{Q:Value->Shared->Prop}
theorem comp_tup_ints {r:Addr}{k:Nat}{vs:List Value}{ks:List Int}(f:Int->Int) (hh:A.handled=none) (F:Fr hO L s₁.heap m) (N:News hO L s₁.heap news) (hm:(r,tupOf vs.toArray k)∈news) (hi:IntsAre vs ks) (hn:ks.length<10000)
  (turn:∀ j t I oI C oC D m₂ ys h tk (E':Value->Shared->Prop),j∈ks->NsObj oC m₂->m₂ x=some (.int j t)->Fr hO L h m->News hO L h ((I,oI)::(C,oC)::(D,lst ys)::news)->Off3 I C D news ->
   wpAny (model prog w) A (eval elt (compEnvC scope cl C env)) (CompEnd hO L m { s₁ with heap:=h,toks:=tk } I oI C oC D (lst ys) (fun _=>True) (fun y news'=>news'=news/\∃ t,y = .int (f j) t)) E' { s₁ with heap:=h,toks:=tk })
  (fin:∀ D ys h tk,IntsAre ys (ks.map f)->Fr hO L h m->News hO L h ((D,PySem.W.listOf ys.toArray ys.length)::news)->(∀ p∈news,p.1≠D)->Q (.ref D) { s₁ with heap:=h,toks:=tk }) :
  Src3 prog w A hO L m env elt x scope cl (fun s₂=>FinE hO L m s₂ Q) (.ref r) s₁:=by
 have hl:=hi.length
 refine comp_tup (fun i ys l=>l=news/\IntsAre ys ((ks.take i).map f)) hh F N hm (by omega) ⟨rfl,.nil⟩ (fun i ys l h=>h.1 ▸ hm) (fun i v I oI C oC D m₂ ys l h tk E' hv hJ hC hx F9 N9 off=>?_) fun D ys l h tk hJ F9 N9 hD=>?_
 ·(refine G2 ?_ hJ;try clear hJ;intro zo34 hys;rcases zo34 with rfl)
  (refine E1 (ints_at hi hv) fun t=>G2 fun zo35 hil=>?_;rcases zo35 with rfl)
  refine wpAny_mono (turn (ks.getD i 0) t I oI C oC D m₂ ys h tk E' (getD_mem hil) hC hx F9 N9 off) (fun y s₂ hq=>?_) fun _ _ e=>e
  obtain ⟨h',tk',nw,e,F',N',off',hS,e1,t2,e2⟩:=hq
  refine K3 h' tk' nw (M7 e F' N' off' hS e1 ?_)
  subst e2
  have e3:ks.take (i+1)=ks.take i++[ks.getD i 0]:=by
   rw [List.take_add_one,List.getD_eq_getElem?_getD,List.getElem?_eq_getElem hil];rfl
  rw [e3,List.map_append]
  exact hys.append (.cons _ _ .nil)
 ·(refine G2 ?_ hJ;try clear hJ;intro zo36 hys;rcases zo36 with rfl)
  rw [hl,List.take_length] at hys
  exact fin D ys h tk hys F9 N9 hD
end
theorem SetTo.two {d1 d2:Addr}{o1 o2:Obj}{l l1 l2:Led}{p0:Addr × Obj}(S1:SetTo d1 o1 (p0::l) l1) (S2:SetTo d2 o2 l1 l2):Hold (∀ p∈l,p.1≠d1->p.1≠d2->p∈l2):=fun p hp e1 e2=>S2.keep p (S1.keep p (.tail _ hp) e1) e2
section
variable {prog:Program}{w:World}{A:Around}{E:Value->Shared->Prop}{s:Shared}{hO:Heap}{L l:Addr}{m:Str->Option Value}{news:Led}{vs:List Value}{ns:List Int}{n:Nat}{Q:Value->Shared->Prop}
theorem sum_led_B (lo hi:Int) (hh:A.handled=none) (F:Fr hO L s.heap m) (N:News hO L s.heap news) (hm:(l,PySem.W.listOf vs.toArray n)∈news) (hi':IntsAre vs ns) (hB:lo<=ns.sum/\ns.sum<=hi)
  (h:∀ W h' tk t',lo<=W->W<=hi->Fr hO L h' m->News hO L h' news->Q (.int W t') { s with heap:=h',toks:=tk }) :
  wpAny (model prog w) A (call (.builtin "sum") [.ref l]) Q E s :=
 sumK hh F N (is_listN N hm) hi' fun h' tk t' F' N'=>h _ h' tk t' hB.1 hB.2 F' N'
theorem max_led_B (lo hi:Int) (hh:A.handled=none) (F:Fr hO L s.heap m) (N:News hO L s.heap news) (hm:(l,PySem.W.listOf vs.toArray n)∈news) (hi':IntsAre vs ns) (hne:0<ns.length) (hB:∀ a∈ns,lo<=a/\a<=hi)
  (h:∀ W h' tk t',lo<=W->W<=hi->Fr hO L h' m->News hO L h' news->Q (.int W t') { s with heap:=h',toks:=tk }) :
  wpAny (model prog w) A (call (.builtin "max") [.ref l]) Q E s :=
 kso_max F N (is_listN N hm) hi' hne hh fun h' M t tk F' N' hM _=>h M h' tk t (hB M hM).1 (hB M hM).2 F' N'
end
theorem SetTo.at2 {d1:Addr}{o1:Obj}{l l1:Led}{p0 p1:Addr × Obj}(S1:SetTo d1 o1 (p0::p1::l) l1):Hold (∀ p∈l,p.1≠d1->p∈l1):=fun p hp e1=>S1.keep p (.tail _ (.tail _ hp)) e1
theorem ne_of_atKey_none {xs:Ents}{k:List Mix}(h:atKey xs k=none):∀ x∈xs,x.1≠k:=fun x hx e=>by
 unfold atKey at h
 rw [Option.map_eq_none_iff,List.find?_eq_none] at h
 exact h x hx (by simpa using e)
theorem SetTo.at4 {d1:Addr}{o1:Obj}{l l1:Led}{p0 p1 p2 p3:Addr × Obj}(S1:SetTo d1 o1 (p0::p1::p2::p3::l) l1):Hold (∀ p∈l,p.1≠d1->p∈l1):=fun p hp e1=>S1.keep p (.tail _ (.tail _ (.tail _ (.tail _ hp)))) e1
theorem sum_one {ks:List Int}(h:ks.length<=1) (f:Int->Int):(ks.map f).sum=match ks with | []=>0 | k::_=>f k:=by
 match ks,h with
 | [],_=>rfl
 | [k],_=>simp
theorem sum_bound1 {ks ws:List Int}{N:Nat}(hk1:ks.length<=1) (hkr:∀ k∈ks,0<=k/\k<N) (hw:∀ i:Nat,i<ws.length->0<=ws.getD i 0/\ws.getD i 0<=i+1) (hl:ws.length=N):0<=(ks.map fun k=>ws.getD k.toNat 0).sum/\(ks.map fun k=>ws.getD k.toNat 0).sum<=N:=by
 rw [sum_one hk1]
 match ks,hk1,hkr with
 | [],_,_=>exact ⟨Int.le_refl _,Int.natCast_nonneg _⟩
 | [k],_,hkr =>
  have h1:=hkr k (.head _)
  have h2:=hw k.toNat (by omega)
  show 0<=ws.getD k.toNat 0/\ws.getD k.toNat 0<=N
  omega
theorem max_bound1 {ks ws:List Int}{N:Nat}(hkr:∀ k∈ks,0<=k/\k<N) (hw:∀ i:Nat,i<ws.length->0<=ws.getD i 0/\ws.getD i 0<=i+1) (hl:ws.length=N):∀ a∈(ks.map fun k=>ws.getD k.toNat 0)++[(0:Int)],0<=a/\a<=N:=by
 intro a ha
 rcases List.mem_append.mp ha with ha | ha
 ·(refine E1 (List.mem_map.mp ha) fun k=>G2 fun hk zo37=>?_;rcases zo37 with rfl)
  have h1:=hkr k hk
  have h2:=hw k.toNat (by omega)
  show 0<=ws.getD k.toNat 0/\ws.getD k.toNat 0<=N
  omega
 ·rw [List.mem_singleton.mp ha];omega
end
section
set_option tactic.hygienic false
example:True:=by
 k_with "x7"=>skip
 k_with "bank"=>((fail_if_success k_extra "x8");(exists b79,b94,b103,b109,b33,b115,b82,b104,b105,b106,b107,b108,b110,b45,b111,b112,b113,b114,b116,b117,b118,b119,b120,b121,b122,b123,b124,b125,b126,b127,b128,b129,b130,b13,b131,b88,b132,b133,b134,b12,b135,b136))
 trivial
theorem Forest.root {ns ls:List Int}(F:Forest ns ls):∀ i,i<ns.length->ns.getD (ls.getD i 0).toNat 0=ls.getD i 0/\ls.getD (ls.getD i 0).toNat 0=ls.getD i 0:=by
 intro i
 induction i using Nat.strongRecOn with
 | ind i ih =>
  intro hi
  (refine G2 ?_ (F.lo i hi);intro h1 h2)
  by_cases he:ns.getD i 0=i
  ·have e:=F.fix i hi he
   rw [e]
   exact ⟨by simpa using he,by simpa using e⟩
  ·have h3:=F.up i hi
   have h4:=ih (ns.getD i 0).toNat (by omega) (by omega)
   rw [h3] at h4
   exact h4
theorem Forest.root_iff {ns ls:List Int}(F:Forest ns ls) (i:Nat) (hi:i<ns.length):ns.getD i 0=i↔ls.getD i 0=i:=by
 refine ⟨F.fix i hi,fun e=>?_⟩
 have:=(F.root i hi).1
 rw [e] at this
 simpa using this
theorem Forest.make {ns ls:List Int}(F:Forest ns ls):Forest (ns++[(ns.length:Int)]) (ls++[(ns.length:Int)]):=by
 have hl:=F.len
 refine ⟨by simp [hl],fun i hi=>?_,fun i hi=>?_,fun i hi he=>?_⟩
 ·rw [List.length_append,List.length_singleton] at hi
  by_cases h:i<ns.length
  ·rw [getD_app_lt h];exact F.lo i h
  ·have e:i=ns.length:=by omega
   rw [getD_app_last e];omega
 ·rw [List.length_append,List.length_singleton] at hi
  by_cases h:i<ns.length
  ·(refine G2 ?_ (F.lo i h);intro h1 h2)
   rw [getD_app_lt h,getD_app_lt (by omega),getD_app_lt (by omega)];exact F.up i h
  ·have e:i=ns.length:=by omega
   rw [getD_app_last e,getD_app_last (by omega),getD_app_last (by omega)]
 ·rw [List.length_append,List.length_singleton] at hi
  by_cases h:i<ns.length
  ·rw [getD_app_lt h] at he
   rw [getD_app_lt (by omega)];exact F.fix i h he
  ·have e:i=ns.length:=by omega
   rw [getD_app_last (by omega)];omega
noncomputable def relab (k g:Int) (ls:List Int):List Int:=ls.map fun x=>if x=g then k else x
theorem relab_len (k g:Int) (ls:List Int):(relab k g ls).length=ls.length:=List.length_map _
theorem relab_at {k g:Int}{ls:List Int}{i:Nat}(h:i<ls.length):(relab k g ls).getD i 0=if ls.getD i 0=g then k else ls.getD i 0:=by
 unfold relab
 rw [List.getD_eq_getElem?_getD,List.getElem?_map,List.getD_eq_getElem?_getD,List.getElem?_eq_getElem h];rfl
theorem Forest.merge {ns ls:List Int}(F:Forest ns ls) {k g:Int}(hk0:0<=k) (hkg:k<g) (hg:g<ns.length) (rk:ns.getD k.toNat 0=k) (rg:ns.getD g.toNat 0=g):Forest (ns.set g.toNat k) (relab k g ls):=by
 have hl:=F.len
 have lg:ls.getD g.toNat 0=g:=by have:=F.fix g.toNat (by omega) (by rw [rg];omega);omega
 have lk:ls.getD k.toNat 0=k:=by have:=F.fix k.toNat (by omega) (by rw [rk];omega);omega
 refine ⟨by rw [relab_len,List.length_set];exact hl,fun i hi=>?_,fun i hi=>?_,fun i hi he=>?_⟩
 ·rw [List.length_set] at hi
  by_cases h:g.toNat=i
  ·subst h;rw [getD_set_self (by omega)];omega
  ·rw [getD_set_ne h];exact F.lo i hi
 ·rw [List.length_set] at hi
  by_cases h:g.toNat=i
  ·subst h
   rw [getD_set_self (by omega),relab_at (by omega),relab_at (by omega),lk,lg,if_neg (by omega),if_pos rfl]
  ·(refine G2 ?_ (F.lo i hi);intro h1 h2)
   rw [getD_set_ne h,relab_at (by omega),relab_at (by omega),F.up i hi]
 ·rw [List.length_set] at hi
  by_cases h:g.toNat=i
  ·subst h
   rw [getD_set_self (by omega)] at he
   omega
  ·rw [getD_set_ne h] at he
   have e:=F.fix i hi he
   rw [relab_at (by omega),e,if_neg (by omega)]
noncomputable def nums (n:Nat):List Int:=(List.range n).map fun (i:Nat)=>(i:Int)
theorem mem_nums {n:Nat}{x:Int} : x∈nums n↔0<=x/\x<n:=by
 unfold nums
 rw [List.mem_map]
 constructor
 ·(intro zr0;(refine E1 zr0 fun i=>G2 fun hi zo38=>?_;try clear zr0;rcases zo38 with rfl))
  have:=List.mem_range.mp hi
  omega
 ·intro h
  refine K1 x.toNat (M2 (List.mem_range.mpr (by omega)) (by omega))
theorem nums_len (n:Nat):(nums n).length=n:=by unfold nums;rw [List.length_map,List.length_range]
theorem nums_succ (n:Nat):nums (n+1)=nums n++[(n:Int)]:=by unfold nums;rw [List.range_succ,List.map_append];rfl
theorem nums_lt (n:Nat):(nums n).Pairwise (· < ·):=by
 unfold nums
 rw [List.pairwise_map]
 exact List.pairwise_lt_range.imp fun h=>by omega
theorem nums_le (n:Nat):(nums n).Pairwise (·<=·):=(nums_lt n).imp fun h=>by omega
theorem nums_nodup (n:Nat):(nums n).Nodup:=by
 rw [List.nodup_iff_pairwise_ne]
 exact (nums_lt n).imp fun h=>by omega
noncomputable def ofLab (ls:List Int) (r:Int):List Int:=(nums ls.length).filter fun i=>ls.getD i.toNat 0 == r
theorem mem_ofLab {ls:List Int}{r x:Int} : x∈ofLab ls r↔(0<=x/\x<ls.length)/\ls.getD x.toNat 0=r:=by
 unfold ofLab
 rw [List.mem_filter,mem_nums,beq_iff_eq]
theorem ofLab_nodup (ls:List Int) (r:Int):(ofLab ls r).Nodup:=(nums_nodup _).sublist List.filter_sublist
theorem ofLab_le (ls:List Int) (r:Int):(ofLab ls r).Pairwise (·<=·):=(nums_le _).sublist List.filter_sublist
theorem ofLab_len (ls:List Int) (r:Int):(ofLab ls r).length<=ls.length:=by
 have:=List.length_filter_le (fun i:Int=>ls.getD i.toNat 0 == r) (nums ls.length)
 rw [nums_len] at this
 exact this
structure Lots (cs:List (List Int)) (ls:List Int):Prop where
 len:cs.length=ls.length
 at_:∀ r:Nat,r<ls.length->ls.getD r 0=r->(cs.getD r []).Perm (ofLab ls r)
theorem Lots.make {cs:List (List Int)}{ls:List Int}{n:Nat}(h:Lots cs ls) (hn:n=ls.length) (hlt:∀ x∈ls,x<n):Lots (cs++[[(n:Int)]]) (ls++[(n:Int)]):=by
 subst hn
 have hl:=h.len
 have key:∀ r:Int,ofLab (ls++[(ls.length:Int)]) r=ofLab ls r++(if r=ls.length then [(ls.length:Int)] else []):=by
  intro r
  unfold ofLab
  rw [List.length_append,List.length_singleton,nums_succ,List.filter_append]
  congr 1
  ·refine List.filter_congr fun x hx=>?_
   have:=mem_nums.mp hx
   rw [getD_app_lt (by omega)]
  ·rw [List.filter_cons,List.filter_nil,getD_app_last (by omega)]
   by_cases e:r=ls.length
   ·rw [if_pos e,if_pos (by rw [e];simp)]
   ·rw [if_neg e,if_neg (by simp;exact fun q=>e q.symm)]
 refine ⟨by simp [hl],fun r hr hrr=>?_⟩
 rw [List.length_append,List.length_singleton] at hr
 rw [key]
 by_cases e:r<ls.length
 ·rw [getD_app_lt e] at hrr
  rw [getD_app_lt (by omega),if_neg (by omega),List.append_nil]
  exact h.at_ r e hrr
 ·have e2:r=ls.length:=by omega
  rw [getD_app_last (by omega),if_pos (by omega)]
  have:ofLab ls (r:Int)=[]:=by
   cases hx:ofLab ls (r:Int) with
   | nil=>rfl
   | cons x t =>
    have h1:x∈ofLab ls (r:Int):=by rw [hx];exact .head _
    (refine G2 ?_ (mem_ofLab.mp h1);intro h2 h3)
    have h4:=hlt _ (getD_mem (l:=ls) (i:=x.toNat) (d:=0) (by omega))
    omega
  rw [this]
  exact .refl _
theorem Lots.merge {cs:List (List Int)}{ls:List Int}(h:Lots cs ls) {k g:Int}(hk0:0<=k) (hkg:k<g) (hg:g<ls.length) (rk:ls.getD k.toNat 0=k) (rg:ls.getD g.toNat 0=g):Lots (cs.set k.toNat (cs.getD k.toNat []++cs.getD g.toNat [])) (relab k g ls):=by
 have hl:=h.len
 refine ⟨by rw [List.length_set,relab_len];exact hl,fun r hr hrr=>?_⟩
 rw [relab_len] at hr
 rw [relab_at hr] at hrr
 have mem:∀ (q x:Int),x∈ofLab (relab k g ls) q↔(0<=x/\x<ls.length)/\(if ls.getD x.toNat 0=g then k else ls.getD x.toNat 0)=q:=fun q x=>by
  rw [mem_ofLab,relab_len]
  constructor
  ·(intro zr0;(refine G2 ?_ zr0;try clear zr0;intro h1 h2))
   exact ⟨h1,by rw [relab_at (by omega)] at h2;exact h2⟩
  ·(intro zr0;(refine G2 ?_ zr0;try clear zr0;intro h1 h2))
   exact ⟨h1,by rw [relab_at (by omega)];exact h2⟩
 by_cases e:k.toNat=r
 ·subst e
  rw [getD_set_self (by omega)]
  have p1:=h.at_ k.toNat (by omega) (by omega)
  have p2:=h.at_ g.toNat (by omega) (by omega)
  refine (p1.append p2).trans ?_
  rw [List.perm_ext_iff_of_nodup _ (ofLab_nodup _ _)]
  ·intro x
   rw [List.mem_append,mem_ofLab,mem_ofLab,mem]
   have e1:((k.toNat:Nat):Int)=k:=by omega
   have e2:((g.toNat:Nat):Int)=g:=by omega
   rw [e1,e2]
   constructor
   ·(intro zr0;rcases zr0 with zr0 | zr0;(refine G2 ?_ zr0;try clear zr0;intro h1 h2);rotate_left;(refine G2 ?_ zr0;try clear zr0;intro h1 h2);rotate_right)
    ·exact ⟨h1,by rw [h2,if_neg (by omega)]⟩
    ·exact ⟨h1,by rw [if_pos h2]⟩
   ·(intro zr0;(refine G2 ?_ zr0;try clear zr0;intro h1 h2))
    by_cases q:ls.getD x.toNat 0=g
    ·exact .inr ⟨h1,q⟩
    ·rw [if_neg q] at h2
     exact .inl ⟨h1,h2⟩
  ·rw [List.nodup_append]
   refine M3 (ofLab_nodup _ _) (ofLab_nodup _ _) (fun a ha b hb e=>?_)
   have:=(mem_ofLab.mp ha).2
   have:=(mem_ofLab.mp hb).2
   subst e
   omega
 ·rw [getD_set_ne e]
  have hrk:ls.getD r 0=r:=by
   by_cases q:ls.getD r 0=g
   ·rw [if_pos q] at hrr;omega
   ·rw [if_neg q] at hrr;exact hrr
  refine (h.at_ r hr hrk).trans ?_
  rw [List.perm_ext_iff_of_nodup (ofLab_nodup _ _) (ofLab_nodup _ _)]
  intro x
  rw [mem_ofLab,mem]
  have hrg:(r:Int)≠g:=fun q=>by
   rw [hrk,if_pos q] at hrr;omega
  constructor
  ·(intro zr0;(refine G2 ?_ zr0;try clear zr0;intro h1 h2))
   exact ⟨h1,by rw [h2,if_neg hrg]⟩
  ·(intro zr0;(refine G2 ?_ zr0;try clear zr0;intro h1 h2))
   refine ⟨h1,?_⟩
   by_cases q:ls.getD x.toNat 0=g
   ·rw [if_pos q] at h2;omega
   ·rw [if_neg q] at h2;exact h2
theorem Lots.size {cs:List (List Int)}{ls:List Int}(h:Lots cs ls) {k:Int}(hk0:0<=k) (hg:k<ls.length) (rk:ls.getD k.toNat 0=k):(cs.getD k.toNat []).length<=ls.length:=by
 rw [(h.at_ k.toNat (by omega) (by omega)).length_eq]
 exact ofLab_len _ _
theorem rise_eq {a b:List Int}(ha:a.Pairwise (·<=·)) (hb:b.Pairwise (·<=·)) (p:a.Perm b):a=b :=
 p.eq_of_pairwise (fun x y _ _ h1 h2=>by omega) ha hb
theorem members_eq {cs:List (List Int)}{ls:List Int}(h:Lots cs ls) {r:Int}(hk0:0<=r) (hg:r<ls.length) (rk:ls.getD r.toNat 0=r) {out:List Int}(ho:out.Pairwise (·<=·)) (hp:out.Perm (cs.getD r.toNat [])):out=ofLab ls r:=by
 refine rise_eq ho (ofLab_le _ _) (hp.trans ?_)
 have:=h.at_ r.toNat (by omega) (by omega)
 rw [show ((r.toNat:Nat):Int)=r by omega] at this
 exact this
theorem forest_nil:Forest [] []:=⟨rfl,fun i h=>absurd h (Nat.not_lt_zero _),fun i h=>absurd h (Nat.not_lt_zero _),fun i h=>absurd h (Nat.not_lt_zero _)⟩
theorem lots_nil:Lots [] []:=⟨rfl,fun i h=>absurd h (Nat.not_lt_zero _)⟩
theorem Forest.lt {ns ls:List Int}(F:Forest ns ls):∀ x∈ls,x<ns.length:=fun x hx=>by
 obtain ⟨i,hi,e⟩:=List.getElem_of_mem hx
 have hl:=F.len
 have h2:=F.rng i (by omega)
 have e1:ls.getD i 0=x:=by rw [List.getD_eq_getElem?_getD,List.getElem?_eq_getElem hi];exact e
 omega
theorem nums_map (ls:List Int):(nums ls.length).map (fun x=>ls.getD x.toNat 0)=ls:=by
 unfold nums
 rw [List.map_map]
 apply List.ext_getElem
 ·simp
 ·intro i h1 h2
  simp [List.getD_eq_getElem?_getD,h2]
end
section
set_option tactic.hygienic false
example:True:=by
 k_with "x8"=>skip
 k_with "bank"=>((fail_if_success k_extra "x9");(exists b79,b139,b137,b143,b147,b103,b153,b155,b166,b138,b140,b141,b142,b144,b145,b146,b148,b149,b150,b151,b152,b110,b154,b156,b157,b158,b159,b160,b111,b121,b161,b162,b163,b94,b164,b165,b167,b168,b169,b170,b45,b171,b172,b173))
 trivial
noncomputable def xK:List Mix:=[.inl (Str.ofString "x")]
noncomputable def fK (c:Int):List Mix:=[.inl (Str.ofString "f"),.inr c]
theorem fK_inj {a b:Int}(h:fK a=fK b):a=b:=by
 unfold fK at h
 simpa using h
theorem xK_ne_fK (c:Int):xK≠fK c:=fun h=>by
 have:=congrArg List.length h
 simp [xK,fK] at this
noncomputable def bankK (N:Nat):List (List Mix):=(List.range N).map fun k=>if k=0 then xK else fK ((k - 1:Nat):Int)
noncomputable def keyOf (ls:List Int) (n:Nat):List Mix:=if n=0 then xK else fK (ls.getD (n - 1) 0)
noncomputable def KeyFor (ls:List Int) (key:List Mix) (n:Nat):Prop:=if n=0 then key=xK else ∃ c:Nat,c<ls.length/\key=fK (c:Int)/\ls.getD c 0=ls.getD (n - 1) 0
noncomputable def cnt (ls:List Int):Nat:=((nums ls.length).filter fun i=>ls.getD i.toNat 0 == i).length
noncomputable def usersOf (ls:List Int) (r:Int):List Int:=(nums ls.length).filter fun n=>decide (1<=n) && (ls.getD (n - 1).toNat 0 == r)
theorem mem_usersOf {ls:List Int}{r x:Int} : x∈usersOf ls r↔(1<=x/\x<ls.length)/\ls.getD (x - 1).toNat 0=r:=by
 unfold usersOf
 rw [List.mem_filter,mem_nums,Bool.and_eq_true,decide_eq_true_eq,beq_iff_eq]
 constructor
 ·(intro zr0;(refine G3 ?_ zr0;try clear zr0;intro zo39 h3 h4;obtain ⟨h1,h2⟩:=zo39));exact ⟨⟨h3,h2⟩,h4⟩
 ·(intro zr0;(refine G2 ?_ zr0;try clear zr0;intro zo40 h3;obtain ⟨h1,h2⟩:=zo40));refine M3 ⟨by omega,h2⟩ h1 h3
theorem usersOf_nodup (ls:List Int) (r:Int):(usersOf ls r).Nodup:=(nums_nodup _).sublist List.filter_sublist
theorem usersOf_len (ls:List Int) (r:Int):(usersOf ls r).length<=ls.length:=by
 have:=List.length_filter_le (fun n:Int=>decide (1<=n) && (ls.getD (n - 1).toNat 0 == r)) (nums ls.length)
 rw [nums_len] at this
 exact this
noncomputable def isRoot (ls:List Int) (r:Int):Prop:=0<=r/\r<ls.length/\ls.getD r.toNat 0=r

structure St (N:Nat) (kn:List (List Mix × Int)) (ab:Int->Option (List Int)) (pd:List Int) (EE q:Nat) (ns ls:List Int) (cs:List (List Int)) (ms:List (Int × Int)):Prop where
 fo:Forest ns ls
 lo:Lots cs ls
 nlen:ns.length=N
 nd:(kn.map (·.1)).Nodup
 knx:∀ p∈kn,∃ n:Nat,n<N/\p.2=n/\KeyFor ls p.1 n
 abr:∀ r,isRoot ls r->∃ us,ab r=some us/\us.Perm (usersOf ls r)
 abn:∀ r,¬ isRoot ls r->ab r=none
 pds:∀ n∈pd,0<=n/\n<N
 pend:∀ n:Nat,n<N->(n:Int)∈pd∨∃ n':Nat,n'<N/\(keyOf ls n,(n':Int))∈kn/\ls.getD n' 0=ls.getD n 0
 mcnt:ms.length+cnt ls=N
 pot:kn.length+pd.length+25 * cnt ls<=26 * N
 ecnt:EE<=ms.length+q

theorem St.llen {N:Nat}{kn:List (List Mix × Int)}{ab:Int->Option (List Int)}{pd:List Int}{EE q:Nat}{ns ls:List Int}{cs:List (List Int)}{ms:List (Int × Int)}(S:St N kn ab pd EE q ns ls cs ms):ls.length=N:=S.fo.len.trans S.nlen
theorem keyOf_key {ns ls:List Int}(F:Forest ns ls) {n:Nat}(hn:n<ls.length):KeyFor ls (keyOf ls n) n:=by
 have hl:=F.len
 unfold KeyFor keyOf
 by_cases h:n=0
 ·rw [if_pos h,if_pos h]
 ·rw [if_neg h,if_neg h]
  have h1:=F.rng (n - 1) (by omega)
  refine K1 ((ls.getD (n - 1) 0).toNat) (M3 (by omega) ?_ ((F.root (n - 1) (by omega)).2))
  rw [show (((ls.getD (n - 1) 0).toNat:Nat):Int)=ls.getD (n - 1) 0 by omega]
theorem KeyFor.same {ns ls:List Int}(F:Forest ns ls) {n n':Nat}(hn:n<ls.length) (h:KeyFor ls (keyOf ls n) n'):(n=0/\n'=0)∨(n≠0/\n'≠0/\ls.getD (n - 1) 0=ls.getD (n' - 1) 0):=by
 unfold KeyFor keyOf at h
 by_cases h0:n=0
 ·rw [if_pos h0] at h
  by_cases h1:n'=0
  ·exact .inl ⟨h0,h1⟩
  ·rw [if_neg h1] at h
   (refine E1 h fun c=>G3 fun _ e _=>?_;try clear h)
   exact absurd e (xK_ne_fK _)
 ·rw [if_neg h0] at h
  by_cases h1:n'=0
  ·rw [if_pos h1] at h
   exact absurd h.symm (xK_ne_fK _)
  ·rw [if_neg h1] at h
   (refine E1 h fun c=>G3 fun _ e e2=>?_;try clear h)
   have e3:=fK_inj e
   have hl:=F.len
   have h4:=(F.root (n - 1) (by omega)).2
   rw [e3] at h4
   rw [show ((c:Int)).toNat=c by omega] at h4
   exact .inr ⟨h0,h1,by rw [← e2,h4,e3]⟩
theorem St.look_new {N:Nat}{kn:List (List Mix × Int)}{ab:Int->Option (List Int)}{pd:List Int}{EE q:Nat}{ns ls:List Int}{cs:List (List Int)}{ms:List (Int × Int)}{n:Nat}(S:St N kn ab ((n:Int)::pd) EE q ns ls cs ms) (hk:∀ p∈kn,p.1≠keyOf ls n) :
  St N (kn++[(keyOf ls n,(n:Int))]) ab pd EE q ns ls cs ms:=by
 have hl:=S.llen
 have hn:n<N:=by have:=S.pds _ (.head _);omega
 refine ⟨S.fo,S.lo,S.nlen,?_,fun p hp=>?_,S.abr,S.abn,fun m hm=>S.pds m (.tail _ hm),fun m hm=>?_,S.mcnt,?_,S.ecnt⟩
 ·rw [List.map_append,List.nodup_append]
  refine M3 S.nd (by simp) (fun a ha b hb=>?_)
  simp only [List.map_cons,List.map_nil,List.mem_singleton] at hb
  (refine E1 (List.mem_map.mp ha) fun p=>G2 fun hp zo41=>?_;rcases zo41 with rfl)
  rw [hb];exact hk p hp
 ·rcases List.mem_append.mp hp with hp | hp
  ·exact S.knx p hp
  ·rw [List.mem_singleton.mp hp]
   refine K1 n (M3 hn rfl (keyOf_key S.fo (by omega)))
 ·rcases S.pend m hm with h | ⟨n',h1,h2,h3⟩
  ·rcases List.mem_cons.mp h with h | h
   ·have e:m=n:=by omega
    subst e
    exact .inr ⟨m,hn,List.mem_append_right _ (.head _),rfl⟩
   ·exact .inl h
  ·exact .inr ⟨n',h1,List.mem_append_left _ h2,h3⟩
 ·have:=S.pot
  rw [List.length_append,List.length_singleton]
  rw [List.length_cons] at this
  omega
theorem St.look_old {N:Nat}{kn:List (List Mix × Int)}{ab:Int->Option (List Int)}{pd:List Int}{EE q:Nat}{ns ls:List Int}{cs:List (List Int)}{ms:List (Int × Int)}{n n':Nat}(S:St N kn ab ((n:Int)::pd) EE q ns ls cs ms) (hk:(keyOf ls n,(n':Int))∈kn) (he:ls.getD n' 0=ls.getD n 0) :
  St N kn ab pd EE q ns ls cs ms:=by
 have hn':n'<N:=by (refine E1 (S.knx _ hk) fun m=>G3 fun h1 h2 _=>?_);have:(n':Int)=m:=h2;omega
 refine ⟨S.fo,S.lo,S.nlen,S.nd,S.knx,S.abr,S.abn,fun m hm=>S.pds m (.tail _ hm),fun m hm=>?_,S.mcnt,?_,S.ecnt⟩
 ·rcases S.pend m hm with h | h
  ·rcases List.mem_cons.mp h with h | h
   ·have e:m=n:=by omega
    subst e
    exact .inr ⟨n',hn',hk,he⟩
   ·exact .inl h
  ·exact .inr h
 ·have:=S.pot
  rw [List.length_cons] at this
  omega
theorem cnt_relab {ls:List Int}{k g:Int}(hk0:0<=k) (hkg:k<g) (hg:g<ls.length) (rk:ls.getD k.toNat 0=k) (rg:ls.getD g.toNat 0=g):cnt (relab k g ls)+1=cnt ls:=by
 unfold cnt
 rw [relab_len]
 have h1:(nums ls.length).filter (fun i=>(relab k g ls).getD i.toNat 0 == i)=((nums ls.length).filter fun i=>ls.getD i.toNat 0 == i).filter fun i=>i != g:=by
  rw [List.filter_filter]
  refine List.filter_congr fun i hi=>?_
  have:=mem_nums.mp hi
  rw [relab_at (by omega)]
  by_cases e:ls.getD i.toNat 0=g
  ·rw [if_pos e,e]
   have h2:(k == i)=false:=by
    rw [beq_eq_false_iff_ne]
    intro q
    rw [← q,rk] at e
    omega
   rw [h2]
   by_cases e2:i=g
   ·simp [e2]
   ·have h1:(g == i)=false:=by rw [beq_eq_false_iff_ne];exact fun q=>e2 q.symm
    rw [h1,Bool.and_false]
  ·rw [if_neg e]
   by_cases e2:i=g
   ·subst e2;exact absurd rg e
   ·simp [e2]
 rw [h1]
 have h2:g∈(nums ls.length).filter fun i=>ls.getD i.toNat 0 == i:=by
  rw [List.mem_filter,mem_nums,beq_iff_eq]
  exact ⟨by omega,rg⟩
 have h3:((nums ls.length).filter fun i=>ls.getD i.toNat 0 == i).Nodup:=(nums_nodup _).sublist List.filter_sublist
 rw [← List.Nodup.erase_eq_filter h3 g,List.length_erase_of_mem h2]
 have:=List.length_pos_of_mem h2
 omega
theorem relab_eq {ls:List Int}{k g:Int}{i j:Nat}(hi:i<ls.length) (hj:j<ls.length) (h:ls.getD i 0=ls.getD j 0):(relab k g ls).getD i 0=(relab k g ls).getD j 0:=by
 rw [relab_at hi,relab_at hj,h]
theorem KeyFor.relab {ls:List Int}{k g:Int}{key:List Mix}{n:Nat}(hn:n<ls.length) (h:KeyFor ls key n):KeyFor (relab k g ls) key n:=by
 unfold KeyFor at h ⊢
 by_cases h0:n=0
 ·rw [if_pos h0] at h ⊢;exact h
 ·rw [if_neg h0] at h ⊢
  (refine E1 h fun c=>G3 fun h1 h2 h3=>?_;try clear h)
  refine K1 c (M3 (by rw [relab_len];exact h1) h2 (relab_eq h1 (by omega) h3))
theorem isRoot_relab {ls:List Int}{k g:Int}(hk0:0<=k) (hkg:k<g) (hg:g<ls.length) (rk:ls.getD k.toNat 0=k) (rg:ls.getD g.toNat 0=g) (r:Int):isRoot (relab k g ls) r↔isRoot ls r/\r≠g:=by
 unfold isRoot
 rw [relab_len]
 constructor
 ·(intro zr0;(refine G3 ?_ zr0;try clear zr0;intro h1 h2 h3))
  rw [relab_at (by omega)] at h3
  by_cases e:ls.getD r.toNat 0=g
  ·rw [if_pos e] at h3
   subst h3
   omega
  ·rw [if_neg e] at h3
   exact ⟨⟨h1,h2,h3⟩,fun q=>e (by rw [h3,q])⟩
 ·(intro zr0;(refine G2 ?_ zr0;try clear zr0;intro zo42 h4;obtain ⟨h1,h2,h3⟩:=zo42))
  refine M3 h1 h2 (by rw [relab_at (by omega),h3,if_neg h4])
theorem St.merge {N:Nat}{kn:List (List Mix × Int)}{ab:Int->Option (List Int)}{pd:List Int}{EE q:Nat}{ns ls:List Int}{cs:List (List Int)}{ms:List (Int × Int)}(S:St N kn ab pd EE q ns ls cs ms)
  {k g:Int}(hk0:0<=k) (hkg:k<g) (hg:g<N) (rk:ls.getD k.toNat 0=k) (rg:ls.getD g.toNat 0=g) {uk ug:List Int}(ek:ab k=some uk) (eg:ab g=some ug) (hN:N<=24) :
  St N kn (fun j=>if j=k then some (uk++ug) else if j=g then none else ab j) (pd++ug) (EE+1) q (ns.set g.toNat k) (relab k g ls) (cs.set k.toNat (cs.getD k.toNat []++cs.getD g.toNat [])) (ms++[(k,g)]):=by
 have hl:=S.llen
 have hll:=S.fo.len
 have hc:=cnt_relab (ls:=ls) hk0 hkg (by omega) rk rg
 have irk:isRoot ls k:=⟨hk0,by omega,rk⟩
 have irg:isRoot ls g:=⟨by omega,by omega,rg⟩
 have pk:uk.Perm (usersOf ls k):=by
  (refine E1 (S.abr k irk) fun us=>G2 fun h1 h2=>?_)
  rw [ek] at h1;cases h1;exact h2
 have pg:ug.Perm (usersOf ls g):=by
  (refine E1 (S.abr g irg) fun us=>G2 fun h1 h2=>?_)
  rw [eg] at h1;cases h1;exact h2
 have nsk:ns.getD k.toNat 0=k:=by
  have:=(S.fo.root_iff k.toNat (by omega)).mpr (by omega);omega
 have nsg:ns.getD g.toNat 0=g:=by
  have:=(S.fo.root_iff g.toNat (by omega)).mpr (by omega);omega
 refine ⟨S.fo.merge hk0 hkg (by omega) nsk nsg,S.lo.merge hk0 hkg (by omega) rk rg,by rw [List.length_set];exact S.nlen,S.nd,fun p hp=>?_,fun r hr=>?_,fun r hr=>?_,fun n hn=>?_,fun n hn=>?_,?_,?_,?_⟩
 ·(refine E1 (S.knx p hp) fun n=>G3 fun h1 h2 h3=>?_)
  refine K1 n (M3 h1 h2 (h3.relab (by omega)))
 ·(refine G2 ?_ ((isRoot_relab hk0 hkg (by omega) rk rg r).mp hr);intro h1 h2)
  by_cases e:r=k
  ·subst e
   refine K1 (uk++ug) (M2 (by rw [if_pos rfl]) ((pk.append pg).trans ?_))
   rw [List.perm_ext_iff_of_nodup _ (usersOf_nodup _ _)]
   ·intro x
    rw [List.mem_append,mem_usersOf,mem_usersOf,mem_usersOf,relab_len]
    constructor
    ·(intro zr0;rcases zr0 with zr0 | zr0;(refine G2 ?_ zr0;try clear zr0;intro q1 q2);rotate_left;(refine G2 ?_ zr0;try clear zr0;intro q1 q2);rotate_right)
     ·exact ⟨q1,by rw [relab_at (by omega),q2,if_neg (by omega)]⟩
     ·exact ⟨q1,by rw [relab_at (by omega),if_pos q2]⟩
    ·(intro zr0;(refine G2 ?_ zr0;try clear zr0;intro q1 q2))
     rw [relab_at (by omega)] at q2
     by_cases e:ls.getD (x - 1).toNat 0=g
     ·exact .inr ⟨q1,e⟩
     ·rw [if_neg e] at q2;exact .inl ⟨q1,q2⟩
   ·rw [List.nodup_append]
    refine M3 (usersOf_nodup _ _) (usersOf_nodup _ _) (fun a ha b hb e=>?_)
    have x1:=(mem_usersOf.mp ha).2
    have x2:=(mem_usersOf.mp hb).2
    subst e
    omega
  ·(refine E1 (S.abr r h1) fun us=>G2 fun q1 q2=>?_)
   refine K1 us (M2 (by rw [if_neg e,if_neg h2];exact q1) (q2.trans ?_))
   rw [List.perm_ext_iff_of_nodup (usersOf_nodup _ _) (usersOf_nodup _ _)]
   intro x
   rw [mem_usersOf,mem_usersOf,relab_len]
   constructor
   ·(intro zr0;(refine G2 ?_ zr0;try clear zr0;intro x1 x2))
    exact ⟨x1,by rw [relab_at (by omega),x2,if_neg h2]⟩
   ·(intro zr0;(refine G2 ?_ zr0;try clear zr0;intro x1 x2))
    refine ⟨x1,?_⟩
    rw [relab_at (by omega)] at x2
    by_cases e3:ls.getD (x - 1).toNat 0=g
    ·rw [if_pos e3] at x2;exact absurd x2.symm e
    ·rw [if_neg e3] at x2;exact x2
 ·have h1:¬ (isRoot ls r/\r≠g):=fun h=>hr ((isRoot_relab hk0 hkg (by omega) rk rg r).mpr h)
  by_cases e:r=k
  ·subst e;exact absurd ⟨irk,by omega⟩ h1
  ·by_cases e2:r=g
   ·rw [if_neg e,if_pos e2]
   ·rw [if_neg e,if_neg e2];exact S.abn r fun h=>h1 ⟨h,e2⟩
 ·rcases List.mem_append.mp hn with h | h
  ·exact S.pds n h
  ·have:=(mem_usersOf.mp (pg.mem_iff.mp h)).1
   omega
 ·rcases S.pend n hn with h | ⟨n',h1,h2,h3⟩
  ·exact .inl (List.mem_append_left _ h)
  ·by_cases e:n≠0/\ls.getD (n - 1) 0=g
   ·refine .inl (List.mem_append_right _ (pg.mem_iff.mpr (mem_usersOf.mpr ⟨by omega,?_⟩)))
    rw [show ((n:Int) - 1).toNat=n - 1 by omega];exact e.2
   ·refine .inr ⟨n',h1,?_,relab_eq (by omega) (by omega) h3⟩
    have e2:keyOf (relab k g ls) n=keyOf ls n:=by
     unfold keyOf
     by_cases h0:n=0
     ·rw [if_pos h0,if_pos h0]
     ·rw [if_neg h0,if_neg h0,relab_at (by omega),if_neg fun q=>e ⟨h0,q⟩]
    rw [e2];exact h2
 ·have:=S.mcnt
  rw [List.length_append,List.length_singleton]
  omega
 ·have h1:=S.pot
  have h2:=usersOf_len ls g
  have h3:=pg.length_eq
  rw [List.length_append]
  omega
 ·have:=S.ecnt
  rw [List.length_append,List.length_singleton]
  omega
structure Cg (R:Nat->Nat->Prop):Prop where
 refl:∀ a,R a a
 symm:∀ {a b},R a b->R b a
 trans:∀ {a b c},R a b->R b c->R a c
 succ:∀ {a b},R a b->R (a+1) (b+1)
noncomputable def Sub (ls:List Int) (R:Nat->Nat->Prop):Prop:=∀ a b:Nat,a<ls.length->b<ls.length->ls.getD a 0=ls.getD b 0->R a b
structure Up (ls ls':List Int):Prop where
 len:ls.length<=ls'.length
 keep:∀ a b:Nat,a<ls.length->b<ls.length->ls.getD a 0=ls.getD b 0->ls'.getD a 0=ls'.getD b 0
 sound:∀ R,Cg R->Sub ls R->Sub ls' R
theorem Up.rfl {ls:List Int} : Up ls ls:=⟨Nat.le_refl _,fun _ _ _ _ h=>h,fun _ _ h=>h⟩
theorem Up.trans {a b c:List Int}(h1:Up a b) (h2:Up b c):Up a c :=
 ⟨Nat.le_trans h1.len h2.len,fun x y hx hy h=>h2.keep x y (Nat.lt_of_lt_of_le hx h1.len) (Nat.lt_of_lt_of_le hy h1.len) (h1.keep x y hx hy h),fun R C s=>h2.sound R C (h1.sound R C s)⟩
theorem sub_relab {ls:List Int}{R:Nat->Nat->Prop}(C:Cg R) (h:Sub ls R) {k g:Int}{i j:Nat}(hi:i<ls.length) (hj:j<ls.length) (ei:ls.getD i 0=k) (ej:ls.getD j 0=g) (r:R i j):Sub (relab k g ls) R:=by
 intro a b ha hb e
 rw [relab_len] at ha hb
 rw [relab_at ha,relab_at hb] at e
 by_cases ea:ls.getD a 0=g
 ·by_cases eb:ls.getD b 0=g
  ·exact h a b ha hb (by rw [ea,eb])
  ·rw [if_pos ea,if_neg eb] at e
   exact C.trans (h a j ha hj (by rw [ea,ej])) (C.trans (C.symm r) (h i b hi hb (by rw [ei,e])))
 ·by_cases eb:ls.getD b 0=g
  ·rw [if_neg ea,if_pos eb] at e
   exact C.trans (h a i ha hi (by rw [ei,e])) (C.trans r (h j b hj hb (by rw [ej,eb])))
  ·rw [if_neg ea,if_neg eb] at e
   exact h a b ha hb e
theorem sub_relab2 {ls:List Int}{R:Nat->Nat->Prop}(C:Cg R) (h:Sub ls R) {k g:Int}{i j:Nat}(hi:i<ls.length) (hj:j<ls.length) (hk:k=min (ls.getD i 0) (ls.getD j 0)) (hg:g=max (ls.getD i 0) (ls.getD j 0)) (r:R i j):Sub (relab k g ls) R:=by
 by_cases e:ls.getD i 0<=ls.getD j 0
 ·exact sub_relab C h hi hj (by omega) (by omega) r
 ·exact sub_relab C h hj hi (by omega) (by omega) (C.symm r)
theorem up_relab {ls:List Int}{k g:Int}{i j:Nat}(hi:i<ls.length) (hj:j<ls.length) (hk:k=min (ls.getD i 0) (ls.getD j 0)) (hg:g=max (ls.getD i 0) (ls.getD j 0)) (r:∀ R,Cg R->Sub ls R->R i j):Up ls (relab k g ls) :=
 ⟨by rw [relab_len];exact Nat.le_refl _,fun a b ha hb h=>relab_eq ha hb h,fun R C s=>sub_relab2 C s hi hj hk hg (r R C s)⟩
theorem St.same_rule {N:Nat}{kn:List (List Mix × Int)}{ab:Int->Option (List Int)}{pd:List Int}{EE q:Nat}{ns ls:List Int}{cs:List (List Int)}{ms:List (Int × Int)}(S:St N kn ab pd EE q ns ls cs ms) {n n':Nat}(hn:n<N) (hk:(keyOf ls n,(n':Int))∈kn):n'<N/\∀ R,Cg R->Sub ls R->R n' n:=by
 have hl:=S.llen
 (refine E1 (S.knx _ hk) fun m=>G3 fun h1 h2 h3=>?_)
 have e:m=n':=by have:(n':Int)=m:=h2;omega
 subst e
 refine ⟨h1,fun R C s=>?_⟩
 rcases h3.same S.fo (by omega) with ⟨a,b⟩ | ⟨a,b,c⟩
 ·rw [a,b];exact C.refl _
 ·have:=C.succ (s (m - 1) (n - 1) (by omega) (by omega) c.symm)
  rwa [show m - 1+1=m by omega,show n - 1+1=n by omega] at this
theorem St.settled {N:Nat}{kn:List (List Mix × Int)}{ab:Int->Option (List Int)}{EE q:Nat}{ns ls:List Int}{cs:List (List Int)}{ms:List (Int × Int)}(S:St N kn ab [] EE q ns ls cs ms) {a b:Nat}(ha:a+1<N) (hb:b+1<N) (h:ls.getD a 0=ls.getD b 0):ls.getD (a+1) 0=ls.getD (b+1) 0:=by
 rcases S.pend (a+1) ha with x | ⟨n1,_,h1,e1⟩
 ·cases x
 rcases S.pend (b+1) hb with x | ⟨n2,_,h2,e2⟩
 ·cases x
 have ke:keyOf ls (a+1)=keyOf ls (b+1):=by
  unfold keyOf
  rw [if_neg (by omega),if_neg (by omega)]
  simp only [Nat.add_sub_cancel]
  rw [h]
 rw [ke] at h1
 have e3:(n1:Int)=n2:=by
  have hnd:=S.nd
  obtain ⟨i,hi,ei⟩:=List.getElem_of_mem h1
  obtain ⟨j,hj,ej⟩:=List.getElem_of_mem h2
  have e4:(kn.map (·.1))[i]'(by simpa using hi)=(kn.map (·.1))[j]'(by simpa using hj):=by simp [ei,ej]
  have e5:=(List.getElem_inj hnd).mp e4
  subst e5
  rw [ei] at ej
  exact congrArg Prod.snd ej
 have e4:n1=n2:=by omega
 subst e4
 rw [← e1,← e2]
end
section
set_option tactic.hygienic false
example:True:=by
 k_with "x9"=>skip
 k_with "bank"=>((fail_if_success k_extra "x10");(exists b182,b186,b203,b217,b174,b175,b176,b177,b178,b179,b180,b181,b183,b184,b185,b187,b188,b189,b190,b191,b192,b193,b194,b195,b196,b197,b198,b199,b200,b201,b202,b204,b205,b206,b207,b208,b209,b127,b210,b211,b212,b213,b214,b215,b216,b218,b219,b220,b221,b222,b223,b224))
 trivial
noncomputable abbrev Wd:=Option (Nat × Nat)
noncomputable def homeN:Wd->Nat->Nat
 | none,n=>n
 | some (b,t),n=>if n<b then n else b+(n - b) % t
noncomputable def toldN (w:Wd) (i j:Nat):Wd:=if i=j then w else match w with
 | none=>some (min i j,max i j - min i j)
 | some (b,t)=>some (min b (min i j),Nat.gcd (max i j - min i j) t)
noncomputable def WdOk:Wd->Prop
 | none=>True
 | some (_,t)=>0<t
theorem home_le (w:Wd) (n:Nat):homeN w n<=n:=by
 cases w with
 | none=>exact Nat.le_refl _
 | some p =>
  obtain ⟨b,t⟩:=p
  show (if n<b then n else b+(n - b) % t)<=n
  split
  ·exact Nat.le_refl _
  ·have:=Nat.mod_le (n - b) t;omega
theorem home_lt {b t n:Nat}(h:n<b):homeN (some (b,t)) n=n:=if_pos h
theorem home_ge {b t n:Nat}(h:¬ n<b):homeN (some (b,t)) n=b+(n - b) % t:=if_neg h
theorem home_home (w:Wd) (n:Nat):homeN w (homeN w n)=homeN w n:=by
 cases w with
 | none=>rfl
 | some p =>
  obtain ⟨b,t⟩:=p
  by_cases h:n<b
  ·rw [home_lt h,home_lt h]
  ·rw [home_ge h,home_ge (by omega),Nat.add_sub_cancel_left,Nat.mod_mod]
theorem home_succ {w:Wd}(n:Nat):homeN w (n+1)=homeN w (homeN w n+1):=by
 cases w with
 | none=>rfl
 | some p =>
  obtain ⟨b,t⟩:=p
  by_cases h:n<b
  ·rw [home_lt h]
  ·rw [home_ge h,home_ge (n:=n+1) (by omega),home_ge (n:=b+(n - b) % t+1) (by omega)]
   rw [show n+1 - b=(n - b)+1 by omega,show b+(n - b) % t+1 - b=(n - b) % t+1 by omega]
   rw [Nat.mod_add_mod]
noncomputable def Ar (w:Wd) (a b:Nat):Prop:=homeN w a=homeN w b
theorem ar_cg (w:Wd):Cg (Ar w) :=
 ⟨fun _=>rfl,fun h=>Eq.symm h,fun h1 h2=>Eq.trans h1 h2,fun {a b} h=>by
  show homeN w (a+1)=homeN w (b+1)
  rw [home_succ a,home_succ b,show homeN w a=homeN w b from h]⟩
theorem told_ok {w:Wd}(h:WdOk w) (i j:Nat):WdOk (toldN w i j):=by
 unfold toldN
 by_cases e:i=j
 ·rw [if_pos e];exact h
 ·rw [if_neg e]
  cases w with
  | none=>show 0<max i j - min i j;omega
  | some p =>
   obtain ⟨b,t⟩:=p
   exact Nat.gcd_pos_of_pos_right _ h
theorem ar_coarse {b t b' g:Nat}(hb:b'<=b) (hg:g∣t) {x y:Nat}(h:Ar (some (b,t)) x y):Ar (some (b',g)) x y:=by
 have key:∀ z,¬ z<b'->homeN (some (b',g)) (homeN (some (b,t)) z)=homeN (some (b',g)) z:=by
  intro z hz
  show homeN (some (b',g)) (if z<b then z else b+(z - b) % t)=_
  by_cases h1:z<b
  ·rw [if_pos h1]
  ·rw [if_neg h1]
   show (if b+(z - b) % t<b' then _ else b'+(b+(z - b) % t - b') % g)=(if z<b' then z else b'+(z - b') % g)
   rw [if_neg (by omega),if_neg hz]
   congr 1
   have e1:b+(z - b) % t - b'=(b - b')+(z - b) % t:=by omega
   have e2:z - b'=(b - b')+(z - b):=by omega
   rw [e1,e2,Nat.add_mod,Nat.mod_mod_of_dvd _ hg,← Nat.add_mod]
 show homeN (some (b',g)) x=homeN (some (b',g)) y
 have low:∀ z,z<b'->homeN (some (b,t)) z=z:=fun z hz=>if_pos (by omega)
 have hx:x<b'->x=y:=fun hx=>by
  have h2:homeN (some (b,t)) x=homeN (some (b,t)) y:=h
  rw [low x hx] at h2
  have h3:homeN (some (b,t)) y=(if y<b then y else b+(y - b) % t):=rfl
  by_cases h4:y<b
  ·rw [h3,if_pos h4] at h2;exact h2
  ·rw [h3,if_neg h4] at h2;omega
 have hy:y<b'->x=y:=fun hy=>by
  have h2:homeN (some (b,t)) x=homeN (some (b,t)) y:=h
  rw [low y hy] at h2
  have h3:homeN (some (b,t)) x=(if x<b then x else b+(x - b) % t):=rfl
  by_cases h4:x<b
  ·rw [h3,if_pos h4] at h2;exact h2
  ·rw [h3,if_neg h4] at h2;omega
 by_cases e1:x<b'
 ·rw [hx e1]
 ·by_cases e2:y<b'
  ·rw [hy e2]
  ·rw [← key x e1,← key y e2,show homeN (some (b,t)) x=homeN (some (b,t)) y from h]
theorem told_more {w:Wd}(hw:WdOk w) (i j:Nat) {x y:Nat}(h:Ar w x y):Ar (toldN w i j) x y:=by
 unfold toldN
 by_cases e:i=j
 ·rw [if_pos e];exact h
 ·rw [if_neg e]
  cases w with
  | none =>
   have h2:x=y:=h
   rw [h2];exact (ar_cg _).refl _
  | some p =>
   obtain ⟨b,t⟩:=p
   exact ar_coarse (by omega) (Nat.gcd_dvd_right _ _) h
theorem ar_pair {b g i j:Nat}(hij:i<j) (hb:b<=i) (hg:g∣j - i):Ar (some (b,g)) i j:=by
 show (if i<b then i else b+(i - b) % g)=(if j<b then j else b+(j - b) % g)
 rw [if_neg (by omega),if_neg (by omega)]
 congr 1
 (refine E1 hg fun q e=>?_;try clear hg)
 rw [show j - b=(i - b)+g * q by omega,Nat.add_mul_mod_self_left]
theorem told_pair {w:Wd}(i j:Nat):Ar (toldN w i j) i j:=by
 unfold toldN
 by_cases e:i=j
 ·rw [e];exact (ar_cg _).refl _
 ·rw [if_neg e]
  have go:∀ b g,b<=min i j->g∣(max i j - min i j)->Ar (some (b,g)) i j:=fun b g hb hg=>by
   rcases Nat.lt_or_gt_of_ne e with h | h
   ·rw [Nat.min_eq_left (by omega),Nat.max_eq_right (by omega)] at *
    exact ar_pair h hb hg
   ·rw [Nat.min_eq_right (by omega),Nat.max_eq_left (by omega)] at *
    exact (ar_cg _).symm (ar_pair h hb hg)
  cases w with
  | none=>exact go _ _ (Nat.le_refl _) (Nat.dvd_refl _)
  | some p =>
   obtain ⟨b,t⟩:=p
   exact go _ _ (by omega) (Nat.gcd_dvd_left _ _)
noncomputable def Cl (ls:List Int):Prop:=∀ a b:Nat,a+1<ls.length->b+1<ls.length->ls.getD a 0=ls.getD b 0->ls.getD (a+1) 0=ls.getD (b+1) 0
theorem Cl.up {ls:List Int}(C:Cl ls) {a b:Nat}(h:ls.getD a 0=ls.getD b 0):∀ s,a+s<ls.length->b+s<ls.length->ls.getD (a+s) 0=ls.getD (b+s) 0
 | 0,_,_=>h
 | s+1,h1,h2=>C (a+s) (b+s) h1 h2 (C.up h s (by omega) (by omega))
noncomputable def Per (ls:List Int) (b t:Nat):Prop:=b+t<ls.length/\0<t/\ls.getD b 0=ls.getD (b+t) 0
theorem Per.step {ls:List Int}(C:Cl ls) {b t:Nat}(P:Per ls b t) {n:Nat}(hn:b<=n) (h:n+t<ls.length):ls.getD n 0=ls.getD (n+t) 0:=by
 have:=C.up P.2.2 (n - b) (by omega) (by omega)
 rwa [show b+(n - b)=n by omega,show b+t+(n - b)=n+t by omega] at this
theorem Per.steps {ls:List Int}(C:Cl ls) {b t:Nat}(P:Per ls b t):∀ q n,b<=n->n+t * q<ls.length->ls.getD n 0=ls.getD (n+t * q) 0
 | 0,n,_,_=>by rw [Nat.mul_zero,Nat.add_zero]
 | q+1,n,hn,h=>by
  rw [Nat.mul_succ] at h ⊢
  rw [P.steps C q n hn (by omega),P.step C (n:=n+t * q) (by omega) (by omega),Nat.add_assoc]
theorem Per.base {ls:List Int}(C:Cl ls) {b t:Nat}(P:Per ls b t) {n:Nat}(hn:b<=n) (h:n<ls.length):ls.getD n 0=ls.getD (b+(n - b) % t) 0:=by
 have e:=Nat.mod_add_div (n - b) t
 have:=P.steps C ((n - b) / t) (b+(n - b) % t) (by omega) (by omega)
 rw [this]
 congr 1
 omega
theorem gcd_of {t r d:Nat}(h:∀ k,k∣t->(k∣r↔k∣d)):Nat.gcd t r=Nat.gcd t d :=
 Nat.dvd_antisymm (Nat.dvd_gcd (Nat.gcd_dvd_left _ _) ((h _ (Nat.gcd_dvd_left _ _)).mp (Nat.gcd_dvd_right _ _))) (Nat.dvd_gcd (Nat.gcd_dvd_left _ _) ((h _ (Nat.gcd_dvd_left _ _)).mpr (Nat.gcd_dvd_right _ _)))
theorem Per.both {ls:List Int}(C:Cl ls):∀ (t b c d:Nat),Per ls b t->Per ls c d->b<=c->Per ls b (Nat.gcd t d):=by
 intro t
 induction t using Nat.strongRecOn with
 | ind t ih =>
  intro b c d P Q hbc
  (refine G3 ?_ P;try clear P;intro p1 p2 p3)
  (refine G3 ?_ Q;try clear Q;intro q1 q2 q3)
  have P:Per ls b t:=⟨p1,p2,p3⟩
  have e1:=P.base C (n:=c) hbc (by omega)
  have e2:=P.base C (n:=c+d) (by omega) q1
  have hx:=Nat.mod_lt (c - b) p2
  have hy:=Nat.mod_lt (c+d - b) p2
  have m1:=Nat.mod_add_div (c - b) t
  have m2:=Nat.mod_add_div (c+d - b) t
  have key:∀ x y,x<y->y<t->ls.getD (b+x) 0=ls.getD (b+y) 0->(∀ k,k∣t->(k∣(t - (y - x))↔k∣d))->Per ls b (Nat.gcd t d):=by
   intro x y hxy hyt he hd
   have s1:=C.up he (t - y) (by omega) (by omega)
   rw [show b+y+(t - y)=b+t by omega,← p3] at s1
   have R:Per ls b (t - (y - x)):=⟨by omega,by omega,by rw [← s1];congr 1;omega⟩
   have:=ih (t - (y - x)) (by omega) b b t R P (Nat.le_refl _)
   rw [Nat.gcd_comm,gcd_of hd] at this
   exact this
  have he:ls.getD (b+(c - b) % t) 0=ls.getD (b+(c+d - b) % t) 0:=by rw [← e1,← e2];exact q3
  generalize hX:(c - b) % t=x at *
  generalize hY:(c+d - b) % t=y at *
  generalize hU:(c - b) / t=u at *
  generalize hV:(c+d - b) / t=v at *
  rcases Nat.lt_trichotomy x y with h | h | h
  ·refine key x y h hy he fun k hk=>?_
   have a1:k∣t * v:=Nat.dvd_trans hk (Nat.dvd_mul_right _ _)
   have a2:k∣t * u:=Nat.dvd_trans hk (Nat.dvd_mul_right _ _)
   have e3:(t - (y - x))+d+t * u=t+t * v:=by omega
   constructor
   ·intro hr
    have:k∣(t - (y - x))+d+t * u:=e3 ▸ Nat.dvd_add hk a1
    have:=(Nat.dvd_add_iff_left a2).mpr this
    exact (Nat.dvd_add_iff_right hr).mpr this
   ·intro hd
    have:k∣(t - (y - x))+d+t * u:=e3 ▸ Nat.dvd_add hk a1
    have:=(Nat.dvd_add_iff_left a2).mpr this
    exact (Nat.dvd_add_iff_left hd).mpr this
  ·have hd:t∣d:=by
    have e3:t * u+d=t * v:=by omega
    have:t∣t * u+d:=e3 ▸ Nat.dvd_mul_right _ _
    exact (Nat.dvd_add_iff_right (Nat.dvd_mul_right _ _)).mpr this
   rw [Nat.gcd_eq_left hd];exact P
  ·refine key y x h hx he.symm fun k hk=>?_
   have a1:k∣t * v:=Nat.dvd_trans hk (Nat.dvd_mul_right _ _)
   have a2:k∣t * u:=Nat.dvd_trans hk (Nat.dvd_mul_right _ _)
   have e3:(t - (x - y))+t * v=t+t * u+d:=by omega
   constructor
   ·intro hr
    have:k∣(t+t * u)+d:=e3 ▸ Nat.dvd_add hr a1
    exact (Nat.dvd_add_iff_right (Nat.dvd_add hk a2)).mpr this
   ·intro hd
    have:k∣(t - (x - y))+t * v:=e3 ▸ Nat.dvd_add (Nat.dvd_add hk a2) hd
    exact (Nat.dvd_add_iff_left a1).mpr this
noncomputable def Holds01 (ls:List Int):Wd->Prop
 | none=>True
 | some (b,t)=>Per ls b t
theorem told_holds {ls:List Int}(C:Cl ls) {w:Wd}(h:Holds01 ls w) {i j:Nat}(hi:i<ls.length) (hj:j<ls.length) (e:ls.getD i 0=ls.getD j 0):Holds01 ls (toldN w i j):=by
 unfold toldN
 by_cases q:i=j
 ·rw [if_pos q];exact h
 ·rw [if_neg q]
  have P:Per ls (min i j) (max i j - min i j):=by
   refine M3 (by omega) (by omega) ?_
   rcases Nat.lt_or_gt_of_ne q with h | h
   ·rw [Nat.min_eq_left (by omega),Nat.max_eq_right (by omega),show i+(j - i)=j by omega];exact e
   ·rw [Nat.min_eq_right (by omega),Nat.max_eq_left (by omega),show j+(i - j)=i by omega];exact e.symm
  cases w with
  | none=>exact P
  | some p =>
   obtain ⟨b,t⟩:=p
   show Per ls (min b (min i j)) (Nat.gcd (max i j - min i j) t)
   by_cases hb:b<=min i j
   ·rw [Nat.min_eq_left hb,Nat.gcd_comm]
    exact Per.both C t b _ _ h P hb
   ·rw [Nat.min_eq_right (by omega)]
    exact Per.both C _ _ _ _ P h (by omega)
theorem holds_home {ls:List Int}(C:Cl ls) {w:Wd}(h:Holds01 ls w) {n:Nat}(hn:n<ls.length):ls.getD n 0=ls.getD (homeN w n) 0:=by
 cases w with
 | none=>rfl
 | some p =>
  obtain ⟨b,t⟩:=p
  show _=ls.getD (if n<b then n else b+(n - b) % t) 0
  by_cases hb:n<b
  ·rw [if_pos hb]
  ·rw [if_neg hb];exact Per.base C h (by omega) hn
theorem labels_home {ns ls:List Int}(F:Forest ns ls) (C:Cl ls) {w:Wd}(h:Holds01 ls w) (S:Sub ls (Ar w)) {n:Nat}(hn:n<ls.length):ls.getD n 0=(homeN w n:Nat):=by
 have hl:=F.len
 have e1:=holds_home C h hn
 have h1:=home_le w n
 have r1:=F.rng n (by omega)
 have r2:=F.rng (homeN w n) (by omega)
 have r3:=(F.root n (by omega)).2
 have e2:homeN w (ls.getD n 0).toNat=homeN w n:=S _ _ (by omega) hn r3
 have h2:=home_le w (ls.getD n 0).toNat
 omega
end
section
set_option tactic.hygienic false
example:True:=by
 k_with "x10"=>skip
 k_with "bank"=>((fail_if_success k_extra "x11");(exists b79,b236,b239,b171,b225,b158,b226,b227,b127,b159,b141,b167,b228,b229,b230,b231,b170,b232,b233,b234,b235,b163,b237,b238,b240,b172,b241,b242,b150,b243,b244,b245,b139,b246,b247,b248,b249,b250,b251,b252))
 trivial
noncomputable def opS (n:Nat):Str:=if n=0 then Str.ofString "x" else Str.ofString "f"
noncomputable def kidS (n:Nat):List Int:=if n=0 then [] else [((n - 1:Nat):Int)]
theorem bankK_len (N:Nat):(bankK N).length=N:=by unfold bankK;rw [List.length_map,List.length_range]
theorem bankK_at {N n:Nat}(h:n<N):(bankK N)[n]?=some (nKey (opS n) (kidS n)):=by
 unfold bankK
 rw [List.getElem?_map,List.getElem?_range h]
 show some (if n=0 then xK else fK ((n - 1:Nat):Int))=some _
 congr 1
 unfold opS kidS nKey
 by_cases e:n=0
 ·rw [if_pos e,if_pos e,if_pos e];rfl
 ·rw [if_neg e,if_neg e,if_neg e];rfl
theorem bankK_succ (N:Nat):bankK (N+1)=bankK N++[nKey (opS N) (kidS N)]:=by
 have h:=bankK_at (N:=N+1) (n:=N) (by omega)
 unfold bankK at h ⊢
 rw [List.range_succ,List.map_append] at h ⊢
 congr 1
 rw [List.getElem?_append_right (by simp)] at h
 simpa using h
theorem nKey_kid_inj {n m:Nat}(h:nKey (opS n) (kidS n)=nKey (opS m) (kidS m)):n=m:=by
 unfold nKey at h
 have h2:=(List.cons.inj h).2
 have h3:kidS n=kidS m:=(List.map_inj_right (fun _ _ e=>Sum.inr.inj e)).mp h2
 unfold kidS at h3
 by_cases a:n=0
 ·by_cases b:m=0
  ·omega
  ·rw [if_pos a,if_neg b] at h3;cases h3
 ·by_cases b:m=0
  ·rw [if_neg a,if_pos b] at h3;cases h3
  ·rw [if_neg a,if_neg b] at h3
   have h4:=(List.cons.inj h3).1
   omega
theorem keyOf_n (ls:List Int) (n:Nat):keyOf ls n=nKey (opS n) ((kidS n).map fun k=>ls.getD k.toNat 0):=by
 unfold keyOf opS kidS nKey
 by_cases e:n=0
 ·rw [if_pos e,if_pos e,if_pos e];rfl
 ·rw [if_neg e,if_neg e,if_neg e];rfl
theorem kidS_lt {n N:Nat}(h:n<=N):∀ k∈kidS n,0<=k/\k<N:=fun k hk=>by
 unfold kidS at hk
 by_cases e:n=0
 ·rw [if_pos e] at hk;cases hk
 ·rw [if_neg e,List.mem_singleton] at hk;omega
theorem kidS_len (n:Nat):(kidS n).length<=1:=by
 unfold kidS
 by_cases e:n=0
 ·rw [if_pos e];exact Nat.zero_le _
 ·rw [if_neg e];exact Nat.le_refl _
theorem isRoot_lab {ns ls:List Int}(F:Forest ns ls) {i:Nat}(h:i<ls.length):isRoot ls (ls.getD i 0):=by
 have hl:=F.len
 have h1:=F.rng i (by omega)
 refine M3 h1.1 (by omega) ((F.root i (by omega)).2)
theorem isRoot_min {ls:List Int}{a b:Int}(ha:isRoot ls a) (hb:isRoot ls b):isRoot ls (min a b)/\isRoot ls (max a b):=by
 rcases Int.le_total a b with h | h
 ·rw [Int.min_eq_left h,Int.max_eq_right h];exact ⟨ha,hb⟩
 ·rw [Int.min_eq_right h,Int.max_eq_left h];exact ⟨hb,ha⟩
theorem St.pick {N:Nat}{kn:List (List Mix × Int)}{ab:Int->Option (List Int)}{pd:List Int}{EE q:Nat}{ns ls:List Int}{cs:List (List Int)}{ms:List (Int × Int)}(S:St N kn ab pd EE q ns ls cs ms) {i j:Nat}(hi:i<N) (hj:j<N) (hN:N<=24) (hq:q<10) :
  ∃ k g uk ug,k=min (ls.getD i 0) (ls.getD j 0)/\g=max (ls.getD i 0) (ls.getD j 0)/\ab k=some uk/\ab g=some ug/\(cs.getD k.toNat []).length+(cs.getD g.toNat []).length<60/\ms.length<50/\EE<900/\uk.length+ug.length<60/\pd.length+ug.length<1000/\(k≠g↔ls.getD i 0≠ls.getD j 0):=by
 have hl:=S.llen
 have r:=isRoot_min (isRoot_lab S.fo (i:=i) (by omega)) (isRoot_lab S.fo (i:=j) (by omega))
 (refine E1 (S.abr _ r.1) fun uk=>G2 fun e1 p1=>?_)
 (refine E1 (S.abr _ r.2) fun ug=>G2 fun e2 p2=>?_)
 have l1:=p1.length_eq
 have l2:=p2.length_eq
 have b1:=usersOf_len ls (min (ls.getD i 0) (ls.getD j 0))
 have b2:=usersOf_len ls (max (ls.getD i 0) (ls.getD j 0))
 have c1:=S.lo.size r.1.1 r.1.2.1 r.1.2.2
 have c2:=S.lo.size r.2.1 r.2.2.1 r.2.2.2
 have hp:=S.pot
 have hm:=S.mcnt
 have he:=S.ecnt
 refine K4 _ _ uk ug (M10 rfl rfl e1 e2 (by omega) (by omega) (by omega) (by omega) (by omega) (by omega))
theorem St.perm {N:Nat}{kn:List (List Mix × Int)}{ab:Int->Option (List Int)}{pd pd':List Int}{EE q:Nat}{ns ls:List Int}{cs:List (List Int)}{ms:List (Int × Int)}(S:St N kn ab pd EE q ns ls cs ms) (p:pd.Perm pd'):St N kn ab pd' EE q ns ls cs ms :=
 ⟨S.fo,S.lo,S.nlen,S.nd,S.knx,S.abr,S.abn,fun m hm=>S.pds m (p.mem_iff.mpr hm),fun m hm=>(S.pend m hm).imp (fun h=>p.mem_iff.mp h) id,S.mcnt,by have:=S.pot;have:=p.length_eq;omega,S.ecnt⟩
theorem last_first:∀ {l:List Int},0<l.length->l.Perm (l.getLastD 0::l.dropLast)
 | [],h=>absurd h (Nat.lt_irrefl _)
 | [a],_=>.refl _
 | a::b::r,_=>by
  have ih:=last_first (l:=b::r) (Nat.succ_pos _)
  have e1:(a::b::r).getLastD 0=(b::r).getLastD 0:=rfl
  rw [e1,List.dropLast_cons_cons]
  exact (ih.cons a).trans (.swap _ _ _)
theorem St.drop {N:Nat}{kn:List (List Mix × Int)}{ab:Int->Option (List Int)}{pd:List Int}{EE q:Nat}{ns ls:List Int}{cs:List (List Int)}{ms:List (Int × Int)}{n:Nat}(S:St N kn ab ((n:Int)::pd) EE q ns ls cs ms) (hk:(n:Int)∈pd∨∃ n':Nat,n'<N/\(keyOf ls n,(n':Int))∈kn/\ls.getD n' 0=ls.getD n 0) :
  St N kn ab pd EE q ns ls cs ms:=by
 refine ⟨S.fo,S.lo,S.nlen,S.nd,S.knx,S.abr,S.abn,fun m hm=>S.pds m (.tail _ hm),fun m hm=>?_,S.mcnt,?_,S.ecnt⟩
 ·rcases S.pend m hm with h | h
  ·rcases List.mem_cons.mp h with h | h
   ·have e:m=n:=by omega
    subst e
    exact hk
   ·exact .inl h
  ·exact .inr h
 ·have:=S.pot
  rw [List.length_cons] at this
  omega
theorem St.look_join {N:Nat}{kn:List (List Mix × Int)}{ab:Int->Option (List Int)}{pd:List Int}{EE q:Nat}{ns ls:List Int}{cs:List (List Int)}{ms:List (Int × Int)}{n n':Nat}(S:St N kn ab ((n:Int)::pd) EE q ns ls cs ms) (hk:(keyOf ls n,(n':Int))∈kn)
  {k g:Int}(ek':k=min (ls.getD n' 0) (ls.getD n 0)) (eg':g=max (ls.getD n' 0) (ls.getD n 0)) (hne:k≠g) {uk ug:List Int}(ek:ab k=some uk) (eg:ab g=some ug) (hN:N<=24) :
  St N kn (fun j=>if j=k then some (uk++ug) else if j=g then none else ab j) (pd++ug) (EE+1) q (ns.set g.toNat k) (relab k g ls) (cs.set k.toNat (cs.getD k.toNat []++cs.getD g.toNat [])) (ms++[(k,g)]) /\
   Up ls (relab k g ls)/\(pd++ug).length+25 * cnt (relab k g ls)<1+pd.length+25 * cnt ls/\∀ j∈pd++ug,j∈pd∨(1<=j/\j<N/\ls.getD n 0<=ls.getD (j - 1).toNat 0):=by
 have hl:=S.llen
 have hll:=S.fo.len
 have hn:n<N:=by have:=S.pds _ (.head _);omega
 (refine G2 ?_ (S.same_rule hn hk);intro hn' rule)
 have r1:=S.fo.rng n' (by omega)
 have r2:=S.fo.rng n (by omega)
 have t1:=(S.fo.root n' (by omega)).2
 have t2:=(S.fo.root n (by omega)).2
 have rk:ls.getD k.toNat 0=k:=by
  rcases Int.le_total (ls.getD n' 0) (ls.getD n 0) with h | h
  ·rw [show k=ls.getD n' 0 by omega];exact t1
  ·rw [show k=ls.getD n 0 by omega];exact t2
 have rg:ls.getD g.toNat 0=g:=by
  rcases Int.le_total (ls.getD n' 0) (ls.getD n 0) with h | h
  ·rw [show g=ls.getD n 0 by omega];exact t2
  ·rw [show g=ls.getD n' 0 by omega];exact t1
 have hkg:k<g:=by omega
 have hk0:0<=k:=by omega
 have hg:g<N:=by omega
 have irg:isRoot ls g:=⟨by omega,by omega,rg⟩
 have pg:ug.Perm (usersOf ls g):=by
  (refine E1 (S.abr g irg) fun us=>G2 fun h1 h2=>?_)
  rw [eg] at h1;cases h1;exact h2
 have hc:=cnt_relab (ls:=ls) hk0 hkg (by omega) rk rg
 have S':=S.merge hk0 hkg hg rk rg ek eg hN
 have e3:(relab k g ls).getD n' 0=(relab k g ls).getD n 0:=by
  rw [relab_at (by omega),relab_at (by omega)]
  rcases Int.le_total (ls.getD n' 0) (ls.getD n 0) with h | h
  ·rw [if_neg (by omega),if_pos (by omega)];omega
  ·rw [if_pos (by omega),if_neg (by omega)];omega
 refine M4 (St.drop (n:=n) S' ?_) (up_relab (i:=n') (j:=n) (by omega) (by omega) ek' eg' rule) ?_ (fun j hj=>?_)
 ·by_cases e:n≠0/\ls.getD (n - 1) 0=g
  ·refine .inl (List.mem_append_right _ (pg.mem_iff.mpr (mem_usersOf.mpr ⟨by omega,?_⟩)))
   rw [show ((n:Int) - 1).toNat=n - 1 by omega];exact e.2
  ·refine .inr ⟨n',hn',?_,e3⟩
   have e2:keyOf (relab k g ls) n=keyOf ls n:=by
    unfold keyOf
    by_cases h0:n=0
    ·rw [if_pos h0,if_pos h0]
    ·rw [if_neg h0,if_neg h0,relab_at (by omega),if_neg fun q=>e ⟨h0,q⟩]
   rw [e2];exact hk
 ·have h2:=usersOf_len ls g
  have h3:=pg.length_eq
  rw [List.length_append]
  omega
 ·rcases List.mem_append.mp hj with h | h
  ·exact .inl h
  ·have h4:=mem_usersOf.mp (pg.mem_iff.mp h)
   exact .inr ⟨by omega,by omega,by rw [h4.2];omega⟩
end
section
set_option tactic.hygienic false
example:True:=by
 k_with "x11"=>skip
 k_with "bank"=>((fail_if_success k_extra "x12");(exists b268,b79,b33,b266,b267,b269,b149,b270,b148,b271,b272,b273,b274,b275,b276,b277,b278,b279,b280,b94,b281,b88,b282,b283,b284,b285,b170,b286,b287,b257,b288,b289,b290,b291,b292,b293))
 trivial
noncomputable def kidL (ls:List Int) (n:Nat):List Int:=(kidS n).map fun k=>ls.getD k.toNat 0
theorem mem_kidL {ls:List Int}{n:Nat}{r:Int} : r∈kidL ls n↔n≠0/\ls.getD (n - 1) 0=r:=by
 unfold kidL kidS
 by_cases e:n=0
 ·rw [if_pos e]
  simp [e]
 ·rw [if_neg e,List.map_cons,List.map_nil,List.mem_singleton,show (((n - 1:Nat):Int)).toNat=n - 1 by omega]
  exact ⟨fun h=>⟨e,h.symm⟩,fun h=>h.2.symm⟩
theorem kidL_len (ls:List Int) (n:Nat):(kidL ls n).length<=1:=by
 unfold kidL;rw [List.length_map];exact kidS_len n
noncomputable def abAdd (ab:Int->Option (List Int)) (rs:List Int) (n:Int):Int->Option (List Int):=fun j=>if j∈rs then (ab j).map (·++[n]) else ab j
theorem abAdd_nil (ab:Int->Option (List Int)) (n:Int):abAdd ab [] n=ab:=by
 funext j
 unfold abAdd
 rw [if_neg (List.not_mem_nil)]
theorem abAdd_one {ab:Int->Option (List Int)}{rs:List Int}{n:Int}{us:List Int}(hl:rs.length<=1) (hz:0<rs.length) (h:ab (rs.getD 0 0)=some us):(fun j=>if j=rs.getD 0 0 then some (us++[n]) else ab j)=abAdd ab (rs.take (0+1)) n:=by
 match rs,hl,hz with
 | [c],_,_ =>
  have h:ab c=some us:=h
  funext j
  unfold abAdd
  show (if j=c then some (us++[n]) else ab j)=if j∈[c] then (ab j).map (·++[n]) else ab j
  by_cases e:j=c
  ·rw [if_pos e,if_pos (by rw [List.mem_singleton];exact e),e,h];rfl
  ·rw [if_neg e,if_neg (by rw [List.mem_singleton];exact e)]
theorem usersOf_snoc {ls:List Int}{x r:Int}(hlen:0<ls.length->True):usersOf (ls++[x]) r=usersOf ls r++(if ls.length≠0/\ls.getD (ls.length - 1) 0=r then [(ls.length:Int)] else []):=by
 unfold usersOf
 rw [List.length_append,List.length_singleton,nums_succ,List.filter_append]
 congr 1
 ·refine List.filter_congr fun y hy=>?_
  have:=mem_nums.mp hy
  by_cases e:1<=y
  ·rw [getD_app_lt (by omega)]
  ·rw [decide_eq_false e,Bool.false_and,Bool.false_and]
 ·rw [List.filter_cons,List.filter_nil]
  by_cases e:ls.length=0
  ·have h1:decide (1<=(ls.length:Int))=false:=decide_eq_false (by omega)
   rw [h1,Bool.false_and,if_neg Bool.false_ne_true,if_neg fun q=>q.1 e]
  ·have h1:decide (1<=(ls.length:Int))=true:=decide_eq_true (by omega)
   rw [h1,Bool.true_and,show ((ls.length:Int) - 1).toNat=ls.length - 1 by omega,getD_app_lt (by omega)]
   by_cases e2:ls.getD (ls.length - 1) 0=r
   ·rw [if_pos (by rw [beq_iff_eq];exact e2),if_pos ⟨e,e2⟩]
   ·rw [if_neg (by rw [beq_iff_eq];exact e2),if_neg fun q=>e2 q.2]
theorem cnt_snoc {ls:List Int} : cnt (ls++[(ls.length:Int)])=cnt ls+1:=by
 unfold cnt
 rw [List.length_append,List.length_singleton,nums_succ,List.filter_append,List.length_append]
 congr 1
 ·congr 1
  refine List.filter_congr fun y hy=>?_
  have:=mem_nums.mp hy
  rw [getD_app_lt (by omega)]
 ·rw [List.filter_cons,List.filter_nil,getD_app_last (by omega),if_pos (by rw [beq_iff_eq])];rfl
theorem KeyFor.snoc {ls:List Int}{x:Int}{key:List Mix}{n:Nat}(hn:n<ls.length) (h:KeyFor ls key n):KeyFor (ls++[x]) key n:=by
 unfold KeyFor at h ⊢
 by_cases h0:n=0
 ·rw [if_pos h0] at h ⊢;exact h
 ·rw [if_neg h0] at h ⊢
  (refine E1 h fun c=>G3 fun h1 h2 h3=>?_;try clear h)
  refine K1 c (M3 (by rw [List.length_append,List.length_singleton];omega) h2 (by rw [getD_app_lt h1,getD_app_lt (by omega)];exact h3))
theorem keyOf_snoc {ls:List Int}{x:Int}{n:Nat}(hn:n<=ls.length):keyOf (ls++[x]) n=keyOf ls n:=by
 unfold keyOf
 by_cases h0:n=0
 ·rw [if_pos h0,if_pos h0]
 ·rw [if_neg h0,if_neg h0,getD_app_lt (by omega)]
theorem isRoot_snoc {ls:List Int}{r:Int} : isRoot (ls++[(ls.length:Int)]) r↔isRoot ls r∨r=ls.length:=by
 unfold isRoot
 rw [List.length_append,List.length_singleton]
 constructor
 ·(intro zr0;(refine G3 ?_ zr0;try clear zr0;intro h1 h2 h3))
  by_cases e:r=ls.length
  ·exact .inr e
  ·rw [getD_app_lt (by omega)] at h3
   exact .inl ⟨h1,by omega,h3⟩
 ·(intro zr0;rcases zr0 with zr0 | e;(refine G3 ?_ zr0;try clear zr0;intro h1 h2 h3))
  ·refine M3 h1 (by omega) (by rw [getD_app_lt (by omega)];exact h3)
  ·subst e
   refine M3 (by omega) (by omega) (getD_app_last (by omega))
theorem St.make {N:Nat}{kn:List (List Mix × Int)}{ab:Int->Option (List Int)}{EE q:Nat}{ns ls:List Int}{cs:List (List Int)}{ms:List (Int × Int)}(S:St N kn ab [] EE q ns ls cs ms) :
  St (N+1) kn (abAdd (fun j=>if j=(N:Int) then some [] else ab j) (kidL ls N) N) [(N:Int)] EE q (ns++[(ns.length:Int)]) (ls++[(ns.length:Int)]) (cs++[[(ns.length:Int)]]) ms:=by
 have hl:=S.llen
 have hs:=S.nlen
 have e0:(ns.length:Int)=ls.length:=by omega
 have hlt:∀ x∈ls,x<ns.length:=S.fo.lt
 have hkid:∀ r,r∈kidL ls N->isRoot ls r:=fun r hr=>by
  (refine G2 ?_ (mem_kidL.mp hr);intro h1 h2)
  have:=isRoot_lab S.fo (i:=N - 1) (by omega)
  rwa [h2] at this
 refine ⟨S.fo.make,by rw [e0];exact S.lo.make rfl (by rw [← hl] at hs;rw [← hs];exact hlt),by simp [hs],S.nd,fun p hp=>?_,fun r hr=>?_,fun r hr=>?_,fun n hn=>?_,fun n hn=>?_,?_,?_,S.ecnt⟩
 ·(refine E1 (S.knx p hp) fun n=>G3 fun h1 h2 h3=>?_)
  refine K1 n (M3 (by omega) h2 (h3.snoc (by omega)))
 ·rw [e0] at hr ⊢
  have e1:usersOf (ls++[(ls.length:Int)]) r=usersOf ls r++(if ls.length≠0/\ls.getD (ls.length - 1) 0=r then [(ls.length:Int)] else []):=usersOf_snoc fun _=>trivial
  rw [e1]
  have e2:(ls.length≠0/\ls.getD (ls.length - 1) 0=r)↔r∈kidL ls N:=by rw [mem_kidL,hl]
  rcases isRoot_snoc.mp hr with h | h
  ·have hrN:r≠(N:Int):=by have:=h.2.1;omega
   (refine E1 (S.abr r h) fun us=>G2 fun h1 h2=>?_)
   unfold abAdd
   dsimp only
   by_cases e:r∈kidL ls N
   ·rw [if_pos e,if_neg hrN,h1,if_pos (e2.mpr e)]
    refine K1 _ (M2 rfl (by rw [hl];exact h2.append_right _))
   ·rw [if_neg e,if_neg hrN,h1,if_neg fun q=>e (e2.mp q)]
    refine K1 _ (M2 rfl (by rw [List.append_nil];exact h2))
  ·have hrN:r=(N:Int):=by omega
   have e:r∉kidL ls N:=fun q=>by have:=(hkid r q).2.1;omega
   unfold abAdd
   dsimp only
   rw [if_neg e,if_pos hrN,if_neg fun q=>e (e2.mp q)]
   refine K1 [] (M2 rfl ?_)
   have:usersOf ls r=[]:=by
    cases hx:usersOf ls r with
    | nil=>rfl
    | cons x t =>
     have h1:x∈usersOf ls r:=by rw [hx];exact .head _
     have h2:=(mem_usersOf.mp h1)
     have h3:=hlt _ (getD_mem (l:=ls) (i:=(x - 1).toNat) (d:=0) (by omega))
     omega
   rw [this];exact .refl _
 ·rw [e0] at hr
  have h1:¬ isRoot ls r:=fun h=>hr (isRoot_snoc.mpr (.inl h))
  have h2:r≠(N:Int):=fun h=>hr (isRoot_snoc.mpr (.inr (by omega)))
  unfold abAdd
  dsimp only
  rw [if_neg fun q=>h1 (hkid r q),if_neg h2]
  exact S.abn r h1
 ·have:=List.mem_singleton.mp hn;omega
 ·by_cases e:n=N
  ·exact .inl (List.mem_singleton.mpr (by omega))
  ·rcases S.pend n (by omega) with h | ⟨n',h1,h2,h3⟩
   ·cases h
   ·refine .inr ⟨n',by omega,by rw [keyOf_snoc (by omega)];exact h2,?_⟩
    rw [getD_app_lt (by omega),getD_app_lt (by omega)];exact h3
 ·have:=S.mcnt
  rw [e0,cnt_snoc];omega
 ·have:=S.pot
  rw [e0,cnt_snoc]
  simp only [List.length_nil,List.length_cons] at this ⊢
  omega
theorem up_snoc {ls:List Int}(hlt:∀ x∈ls,x<ls.length):Up ls (ls++[(ls.length:Int)]):=by
 refine ⟨by simp,fun a b ha hb h=>by rw [getD_app_lt ha,getD_app_lt hb];exact h,fun R C s a b ha hb e=>?_⟩
 rw [List.length_append,List.length_singleton] at ha hb
 have hm:∀ i,i<ls.length->ls.getD i 0<ls.length:=fun i hi=>hlt _ (getD_mem hi)
 by_cases e1:a<ls.length
 ·by_cases e2:b<ls.length
  ·rw [getD_app_lt e1,getD_app_lt e2] at e
   exact s a b e1 e2 e
  ·rw [getD_app_lt e1,getD_app_last (by omega)] at e
   have:=hm a e1
   omega
 ·by_cases e2:b<ls.length
  ·rw [getD_app_lt e2,getD_app_last (by omega)] at e
   have:=hm b e2
   omega
  ·have:a=b:=by omega
   rw [this];exact C.refl _
end
section
set_option tactic.hygienic false
example:True:=by
 k_with "x12"=>skip
 k_with "bank"=>((fail_if_success k_extra "x13");(exists b302,b321,b325,b326,b205,b294,b295,b296,b297,b298,b299,b300,b301,b303,b304,b305,b306,b307,b308,b309,b310,b311,b312,b313,b314,b315,b316,b183,b317,b318,b319,b320,b322,b323,b324,b327,b328,b329,b330,b331,b332,b333,b334,b335,b336,b337,b338,b339,b340,b341,b342,b174,b26,b343,b181,b344,b345,b346,b347,b348,b349,b350,b351,b352,b353))
 trivial
open SetTable
noncomputable def Rise (xs:Array Nat):Prop:=∀ i k,i<k->k<xs.size->xs.getD i 0<xs.getD k 0
theorem getD_some {xs:Array Nat}{i j:Nat}(h:xs[i]?=some j):i<xs.size/\∀ d,xs.getD i d=j:=by
 have h1:i<xs.size:=by
  rcases Nat.lt_or_ge i xs.size with h2 | h2
  ·exact h2
  ·rw [Array.getElem?_eq_none h2] at h;cases h
 refine ⟨h1,fun d=>?_⟩
 rw [Array.getD_eq_getD_getElem?,h];rfl
theorem some_getD {xs:Array Nat}{i:Nat}(h:i<xs.size) (d:Nat):xs[i]?=some (xs.getD i d):=by
 rw [Array.getD_eq_getD_getElem?,Array.getElem?_eq_getElem h];rfl
theorem getD_d {xs:Array Nat}{i:Nat}(h:i<xs.size) (d d':Nat):xs.getD i d=xs.getD i d':=by
 rw [Array.getD_eq_getD_getElem?,Array.getD_eq_getD_getElem?,Array.getElem?_eq_getElem h];rfl
theorem below_go {xs:Array Nat}{j:Nat}(R:Rise xs):∀ (fuel lo hi:Nat),hi - lo<=fuel->lo<=hi->hi<=xs.size->(∀ i,i<lo->xs.getD i 0<j)->(∀ i,hi<=i->i<xs.size->j<=xs.getD i 0) ->
  below.go xs j fuel lo hi<=xs.size/\(∀ i,i<below.go xs j fuel lo hi->xs.getD i 0<j)/\∀ i,below.go xs j fuel lo hi<=i->i<xs.size->j<=xs.getD i 0
 | 0,lo,hi,hf,h1,h2,ha,hb=>by
  unfold below.go
  refine M3 (by omega) ha (fun i hi' hs=>hb i (by omega) hs)
 | fuel+1,lo,hi,hf,h1,h2,ha,hb=>by
  unfold below.go
  by_cases hl:lo<hi
  ·rw [if_pos hl]
   dsimp only
   have hm:(lo+hi) / 2<xs.size:=by omega
   rw [getD_d hm j 0]
   by_cases hx:xs.getD ((lo+hi) / 2) 0<j
   ·rw [if_pos hx]
    refine below_go R fuel _ hi (by omega) (by omega) h2 (fun i hi'=>?_) hb
    by_cases e:i=(lo+hi) / 2
    ·rw [e];exact hx
    ·exact Nat.lt_trans (R i ((lo+hi) / 2) (by omega) hm) hx
   ·rw [if_neg hx]
    refine below_go R fuel lo _ (by omega) (by omega) (by omega) ha (fun i hi' hs=>?_)
    by_cases e:i=(lo+hi) / 2
    ·rw [e];omega
    ·have:=R ((lo+hi) / 2) i (by omega) hs
     omega
  ·rw [if_neg hl]
   refine M3 (by omega) ha (fun i hi' hs=>hb i (by omega) hs)
theorem below_spec {xs:Array Nat}(R:Rise xs) (j:Nat):below xs j<=xs.size/\(∀ i,i<below xs j->xs.getD i 0<j)/\∀ i,below xs j<=i->i<xs.size->j<=xs.getD i 0:=by
 unfold below
 exact below_go R xs.size 0 xs.size (by omega) (by omega) (by omega) (fun i hi=>by omega) fun i hi hs=>by omega
theorem below_at {xs:Array Nat}(R:Rise xs) {i j:Nat}(h:xs[i]?=some j):below xs j=i:=by
 (refine G3 ?_ (below_spec R j);intro h1 h2 h3)
 (refine G2 ?_ (getD_some h);intro hs hv)
 have hv:=hv 0
 rcases Nat.lt_trichotomy (below xs j) i with c | c | c
 ·have h4:=R _ _ c hs
  have h5:=h3 (below xs j) (Nat.le_refl _) (by omega)
  omega
 ·exact c
 ·have:=h2 i c
  omega
structure TabOk (t:SetTable) (n:Nat):Prop where
 size:t.place.size=n
 rise:Rise t.place
 top:∀ i,i<t.place.size->t.place.getD i 0<=t.mask
 dum:t.dummies=#[]
 kinds:t.mask=7∨t.mask=31∨t.mask=127
 full:n<=t.mask
noncomputable def Calm (t:SetTable) (n:Nat):Prop:=(t.mask=7/\n<=4)∨(t.mask=31/\n<=18)∨(t.mask=127/\n<=70)
noncomputable def NotIn (t:SetTable) (j:Nat):Prop:=∀ i:Nat,t.place[i]?≠some j
theorem has_nil (j:Nat):has #[] j=false:=rfl
theorem slot_live {t:SetTable}{n i j:Nat}(T:TabOk t n) (h:t.place[i]?=some j):t.slot j = .live i:=by
 unfold SetTable.slot
 dsimp only
 rw [below_at T.rise h,h]
 simp
theorem slot_empty {t:SetTable}{n j:Nat}(T:TabOk t n) (h:NotIn t j):t.slot j = .empty:=by
 unfold SetTable.slot
 dsimp only
 rw [T.dum,has_nil]
 have:(t.place[below t.place j]? == some j)=false:=by
  have:=h (below t.place j)
  simpa using this
 rw [this];rfl
theorem in_or {t:SetTable}(j:Nat):NotIn t j∨∃ i:Nat,t.place[i]?=some j:=by
 by_cases h:∃ i:Nat,t.place[i]?=some j
 ·exact .inr h
 ·exact .inl fun i e=>h ⟨i,e⟩
theorem TabOk.room {t:SetTable}{n:Nat}(T:TabOk t n):∃ e,e<=t.mask/\NotIn t e:=by
 apply Classical.byContradiction
 intro hc
 have hall:∀ e,e<=t.mask->∃ i:Nat,t.place[i]?=some e:=fun e he=>by
  rcases in_or (t:=t) e with h | h
  ·exact absurd ⟨e,he,h⟩ hc
  ·exact h
 have key:∀ e,e<=t.mask->∃ i:Nat,e<=i/\t.place[i]?=some e:=by
  intro e
  induction e with
  | zero=>intro h;(refine E1 (hall 0 h) fun i hi=>?_);refine K1 i (M2 (Nat.zero_le _) hi)
  | succ e ih =>
   intro h
   (refine E1 (ih (by omega)) fun i=>G2 fun h1 h2=>?_)
   (refine E1 (hall (e+1) h) fun k hk=>?_)
   (refine G2 ?_ (getD_some h2);intro s1 v1)
   (refine G2 ?_ (getD_some hk);intro s2 v2)
   have v1:=v1 0
   have v2:=v2 0
   rcases Nat.lt_trichotomy i k with c | c | c
   ·refine K1 k (M2 (by omega) hk)
   ·subst c;omega
   ·have:=T.rise k i c s1;omega
 (refine E1 (key t.mask (Nat.le_refl _)) fun i=>G2 fun h1 h2=>?_)
 have h3:=(getD_some h2).1
 have h4:=T.full
 have h5:=T.size
 omega

noncomputable def leapN (mask:Nat):Nat->Nat × Nat->Nat × Nat
 | 0,p=>p
 | k+1,p=>leapN mask k (leap mask p.1 p.2)
noncomputable def five (mask i:Nat):Nat:=(i * 5+1) % (mask+1)
noncomputable def fiveN (mask:Nat):Nat->Nat->Nat
 | 0,i=>i
 | k+1,i=>fiveN mask k (five mask i)
theorem leap_lt (mask i p:Nat):(leap mask i p).1<=mask:=by
 unfold leap
 exact Nat.le_of_lt_succ (Nat.mod_lt _ (Nat.succ_pos _))
theorem leapN_zero (mask:Nat):∀ k i,(leapN mask k (i,0)).1=fiveN mask k i
 | 0,_=>rfl
 | k+1,i=>by
  show (leapN mask k (leap mask i 0)).1=_
  have e:leap mask i 0=(five mask i,0):=by unfold leap five;simp
  rw [e,leapN_zero mask k];rfl
theorem leapN_add (mask:Nat):∀ a b p,leapN mask (a+b) p=leapN mask b (leapN mask a p)
 | 0,b,p=>by rw [Nat.zero_add];rfl
 | a+1,b,p=>by rw [show a+1+b=(a+b)+1 by omega];exact leapN_add mask a b _
theorem leapN_snd (mask:Nat):∀ k p,(leapN mask k p).2=p.2 / 32 ^ k
 | 0,p=>by simp [leapN]
 | k+1,p=>by
  show (leapN mask k (leap mask p.1 p.2)).2=_
  rw [leapN_snd mask k]
  show p.2 / 32 / 32 ^ k=_
  rw [Nat.div_div_eq_div_mul,Nat.pow_succ,Nat.mul_comm]
theorem leapN_le (mask:Nat):∀ k p,p.1<=mask->(leapN mask k p).1<=mask
 | 0,_,h=>h
 | k+1,p,_=>leapN_le mask k _ (leap_lt mask p.1 p.2)
noncomputable def orbit (mask:Nat):Nat->Nat->List Nat
 | 0,i=>[i]
 | k+1,i=>i::orbit mask k (five mask i)
theorem orbit_mem {mask e:Nat} : ∀ k i,e∈orbit mask k i->∃ m,m<=k/\fiveN mask m i=e
 | 0,i,h=>⟨0,Nat.le_refl _,(List.mem_singleton.mp h).symm⟩
 | k+1,i,h=>by
  rcases List.mem_cons.mp h with h | h
  ·refine K1 0 (M2 (Nat.zero_le _) h.symm)
  ·(refine E1 (orbit_mem k _ h) fun m=>G2 fun h1 h2=>?_)
   refine K1 (m+1) (M2 (by omega) h2)
theorem orbits7:((List.range 8).all fun i=>(List.range 8).all fun e=>(orbit 7 7 i).contains e)=true:=by decide +kernel
theorem orbits31:((List.range 32).all fun i=>(List.range 32).all fun e=>(orbit 31 31 i).contains e)=true:=by decide +kernel
theorem fiveN_add (mask:Nat):∀ a b i,fiveN mask (a+b) i=fiveN mask b (fiveN mask a i)
 | 0,b,p=>by rw [Nat.zero_add];rfl
 | a+1,b,p=>by rw [show a+1+b=(a+b)+1 by omega];exact fiveN_add mask a b _
theorem orbit127:((List.range 128).all fun e=>(orbit 127 127 0).contains e)=true:=by decide +kernel
theorem back127:fiveN 127 128 0=0:=by decide +kernel
theorem reach127 {i e:Nat}(hi:i<=127) (he:e<=127):∃ k,k<=127/\fiveN 127 k i=e:=by
 have H:=List.all_eq_true.mp orbit127
 (refine E1 (orbit_mem 127 0 (by simpa using H i (List.mem_range.mpr (by omega)))) fun a=>G2 fun a1 a2=>?_)
 (refine E1 (orbit_mem 127 0 (by simpa using H e (List.mem_range.mpr (by omega)))) fun b=>G2 fun b1 b2=>?_)
 by_cases h:a<=b
 ·refine K1 (b - a) (M2 (by omega) ?_)
  rw [← a2,← fiveN_add,show a+(b - a)=b by omega];exact b2
 ·refine K1 (128 - a+b) (M2 (by omega) ?_)
  rw [← a2,← fiveN_add,show a+(128 - a+b)=128+b by omega,fiveN_add,back127];exact b2
theorem reach_of {mask i e:Nat}(hm:mask=7∨mask=31∨mask=127) (hi:i<=mask) (he:e<=mask):∃ k,k<=mask/\fiveN mask k i=e:=by
 rcases hm with rfl | rfl | rfl
 ·have H:=List.all_eq_true.mp (List.all_eq_true.mp orbits7 i (List.mem_range.mpr (by omega))) e (List.mem_range.mpr (by omega))
  exact orbit_mem 7 i (by simpa using H)
 ·have H:=List.all_eq_true.mp (List.all_eq_true.mp orbits31 i (List.mem_range.mpr (by omega))) e (List.mem_range.mpr (by omega))
  exact orbit_mem 31 i (by simpa using H)
 ·exact reach127 hi he
theorem leaps_reach {mask i p e:Nat}(hm:mask=7∨mask=31∨mask=127) (hi:i<=mask) (hp:p<2 ^ 64) (he:e<=mask):∃ k,k<=mask+13/\(leapN mask k (i,p)).1=e:=by
 have h1:(leapN mask 13 (i,p)).2=0:=by
  rw [leapN_snd]
  exact Nat.div_eq_of_lt (Nat.lt_trans hp (by decide))
 have h2:=leapN_le mask 13 (i,p) hi
 (refine E1 (reach_of (i:=(leapN mask 13 (i,p)).1) hm h2 he) fun k=>G2 fun k1 k2=>?_)
 refine K1 (13+k) (M2 (by omega) ?_)
 rw [leapN_add]
 have e1:leapN mask 13 (i,p)=((leapN mask 13 (i,p)).1,0):=Prod.ext rfl h1
 rw [e1,leapN_zero];exact k2
theorem bits_lt (h:Int):bits h<2 ^ 64:=by
 unfold bits
 have h1:0<=h % (2 ^ 64:Int):=Int.emod_nonneg _ (by decide)
 have h2:h % (2 ^ 64:Int)<2 ^ 64:=Int.emod_lt_of_pos _ (by decide)
 omega
theorem runEnd_le {mask i:Nat}(h:i<=mask):i<=runEnd mask i/\runEnd mask i<=mask/\runEnd mask i<=i+9:=by
 unfold runEnd
 split <;> omega
theorem probe_go {t:SetTable}{n:Nat}(T:TabOk t n) {hashAt:Nat->Int}{h:Int}(hno:∀ i,(hashAt i == h)=false) {e:Nat}(he:NotIn t e) :
  ∀ (fuel:Nat) (p:Probe) (k:Nat),p.dummy=none->p.i<=t.mask->p.i<=p.j->p.j+p.more=runEnd t.mask p.i->(k=0->p.j=p.i)->(leapN t.mask k (p.i,p.perturb)).1=e->10 * k+p.more<fuel ->
   ∃ j,probe.go t hashAt h fuel p=some (.empty j none)/\NotIn t j/\j<=t.mask
 | 0,p,k,_,_,_,_,_,_,hf=>by omega
 | fuel+1,p,k,hd,hi,hij,hr,h0,hk,hf=>by
  have hre:=runEnd_le hi
  have hjm:p.j<=t.mask:=by omega
  unfold probe.go
  rcases in_or (t:=t) p.j with hin | ⟨i,hin⟩
  ·rw [slot_empty T hin]
   dsimp only
   rw [hd]
   refine K1 p.j (M3 rfl hin hjm)
  ·rw [slot_live T hin]
   dsimp only
   rw [hno i]
   simp only [Bool.false_eq_true,if_false]
   have hk0:k≠0:=fun e0=>by
    subst e0
    have:p.j=e:=(h0 rfl).trans hk
    exact he i (this ▸ hin)
   unfold advance
   by_cases hm:p.more > 0
   ·rw [if_pos hm]
    exact probe_go T hno he fuel _ k hd hi (by show p.i<=p.j+1;omega) (by show p.j+1+(p.more - 1)=runEnd t.mask p.i;omega) (fun e0=>absurd e0 hk0) hk (by show 10 * k+(p.more - 1)<fuel;omega)
   ·rw [if_neg hm]
    obtain ⟨k',rfl⟩:∃ k',k=k'+1:=⟨k - 1,by omega⟩
    have hl:=leap_lt t.mask p.i p.perturb
    have hre2:=runEnd_le hl
    refine probe_go T hno he fuel _ k' hd hl (Nat.le_refl _) ?_ (fun _=>rfl) hk ?_
    ·show (leap t.mask p.i p.perturb).1+(runEnd t.mask (leap t.mask p.i p.perturb).1 - (leap t.mask p.i p.perturb).1)=runEnd t.mask (leap t.mask p.i p.perturb).1
     omega
    ·show 10 * k'+(runEnd t.mask (leap t.mask p.i p.perturb).1 - (leap t.mask p.i p.perturb).1)<fuel
     omega
theorem start_ok (t:SetTable) (h:Int):bits h % (t.mask+1)<=t.mask:=Nat.le_of_lt_succ (Nat.mod_lt _ (Nat.succ_pos _))
theorem probe_free {t:SetTable}{n:Nat}(T:TabOk t n) {hashAt:Nat->Int}{h:Int}(hno:∀ i,(hashAt i == h)=false) :
  ∃ j,t.probe hashAt h (t.probeStart h)=some (.empty j none)/\NotIn t j/\j<=t.mask:=by
 (refine E1 T.room fun e=>G2 fun he1 he2=>?_)
 have hs:=start_ok t h
 (refine E1 (leaps_reach T.kinds hs (bits_lt h) he1) fun k=>G2 fun k1 k2=>?_)
 have hre:=runEnd_le hs
 unfold probe
 refine probe_go T hno he2 _ _ k rfl hs (Nat.le_refl _) ?_ (fun _=>rfl) k2 ?_
 ·show bits h % (t.mask+1)+(runEnd t.mask (bits h % (t.mask+1)) - bits h % (t.mask+1))=runEnd t.mask (bits h % (t.mask+1))
  omega
 ·show 10 * k+(runEnd t.mask (bits h % (t.mask+1)) - bits h % (t.mask+1))<10 * turns t.mask
  unfold turns
  omega
theorem freeSlot_ok {t:SetTable}{n:Nat}(T:TabOk t n) (h:Int):∃ j,t.freeSlot h=some (j,false)/\NotIn t j/\j<=t.mask:=by
 obtain ⟨j,(h1),h2,h3⟩:=probe_free T (hashAt:=fun _=>h+1) (h:=h) fun i=>by
  simp;omega
 refine K1 j (M3 ?_ h2 h3)
 unfold freeSlot
 rw [h1];rfl

theorem getD_insertAt {xs:Array Nat}{p x:Nat}(hp:p<=xs.size) (i:Nat):(insertAt xs p x).getD i 0=if i<p then xs.getD i 0 else if i=p then x else xs.getD (i - 1) 0:=by
 have e:(insertAt xs p x).getD i 0=(insertAt xs p x).toList.getD i 0:=by
  rw [Array.getD_eq_getD_getElem?,List.getD_eq_getElem?_getD,Array.getElem?_toList]
 have e2:∀ k,xs.getD k 0=xs.toList.getD k 0:=fun k=>by
  rw [Array.getD_eq_getD_getElem?,List.getD_eq_getElem?_getD,Array.getElem?_toList]
 have hl:p<=xs.toList.length:=by simpa using hp
 rw [e,SetTable.toList_insertAt,e2,e2]
 simp only [List.getD_eq_getElem?_getD]
 by_cases h1:i<p
 ·rw [if_pos h1,List.getElem?_append_left (by rw [List.length_take];omega),List.getElem?_take_of_lt h1]
 ·rw [if_neg h1,List.getElem?_append_right (by rw [List.length_take];omega),List.length_take,Nat.min_eq_left hl]
  by_cases h2:i=p
  ·subst h2;simp
  ·rw [if_neg h2]
   obtain ⟨k,hk⟩:∃ k,i - p=k+1:=⟨i - p - 1,by omega⟩
   rw [hk,List.getElem?_cons_succ,List.getElem?_drop]
   congr 2
   omega
theorem size_insertAt {α:Type}{xs:Array α}{p:Nat}{x:α}(hp:p<=xs.size):(insertAt xs p x).size=xs.size+1:=by
 rw [← Array.length_toList,SetTable.toList_insertAt,List.length_append,List.length_cons,List.length_take,List.length_drop,Array.length_toList]
 omega
theorem put_ok {t:SetTable}{n j:Nat}(T:TabOk t n) (hj:NotIn t j) (hm:j<=t.mask) (hf:n+1<=t.mask):TabOk (t.put j).1 (n+1)/\(t.put j).1.led=t.led/\(t.put j).1.plain=t.plain/\(t.put j).1.mask=t.mask/\(t.put j).2=below t.place j:=by
 (refine G3 ?_ (below_spec T.rise j);intro h1 h2 h3)
 have hd:∀ k,(t.put j).1.place.getD k 0=if k<below t.place j then t.place.getD k 0 else if k=below t.place j then j else t.place.getD (k - 1) 0:=fun k=>getD_insertAt h1 k
 have hs:(t.put j).1.place.size=n+1:=by
  show (insertAt t.place (below t.place j) j).size=_
  rw [size_insertAt h1,T.size]
 have hlt:∀ i,below t.place j<=i->i<t.place.size->j<t.place.getD i 0:=fun i a b=>by
  have c:=h3 i a b
  rcases Nat.lt_or_ge j (t.place.getD i 0) with d | d
  ·exact d
  ·have e:t.place.getD i 0=j:=by omega
   exact absurd (e ▸ some_getD b 0) (hj i)
 have hsz:=T.size
 refine M5 ⟨hs,?_,?_,?_,T.kinds,hf⟩ rfl rfl rfl rfl
 ·intro i k hik hk
  rw [hs] at hk
  rw [hd,hd]
  split
  ·rename_i a1
   split
   ·exact T.rise i k hik (by omega)
   ·split
    ·exact h2 i a1
    ·have:=h2 i a1
     have:=hlt (k - 1) (by omega) (by omega)
     omega
  ·split
   ·rename_i a1 a2
    rw [if_neg (by omega),if_neg (by omega)]
    exact hlt (k - 1) (by omega) (by omega)
   ·rw [if_neg (by omega),if_neg (by omega)]
    exact T.rise (i - 1) (k - 1) (by omega) (by omega)
 ·intro i hi
  rw [hs] at hi
  rw [hd]
  show _<=t.mask
  split
  ·exact T.top i (by omega)
  ·split
   ·exact hm
   ·exact T.top (i - 1) (by omega)
 ·show (if has t.dummies j=true then _ else t.dummies)=#[]
  rw [T.dum];rfl
end
section
set_option tactic.hygienic false
example:True:=by
 k_with "x13"=>skip
 k_with "bank"=>((fail_if_success k_extra "x14");(exists b79,b364,b354,b303,b310,b355,b234,b356,b287,b357,b358,b359,b360,b361,b362,b363,b365,b366,b268,b367,b368,b369,b370,b371,b372))
 trivial
open SetTable
noncomputable abbrev Own:=Array (Option Nat)
structure OwnOk (mask:Nat) (ow:Own) (k:Nat):Prop where
 size:ow.size=mask+1
 lt:∀ (j c:Nat),ow.getD j none=some c->c<k
 inj:∀ (j j' c:Nat),ow.getD j none=some c->ow.getD j' none=some c->j=j'
 sur:∀ c:Nat,c<k->∃ j:Nat,ow.getD j none=some c
theorem own_none {mask:Nat}{ow:Own}{k:Nat}(O:OwnOk mask ow k) {j c:Nat}(h:ow.getD j none=some c):j<=mask:=by
 apply Classical.byContradiction
 intro hn
 rw [Array.getD_eq_getD_getElem?,Array.getElem?_eq_none (by rw [O.size];omega)] at h
 cases h
theorem own_in {mask:Nat}{ow:Own}{k:Nat}(O:OwnOk mask ow k) {j:Nat}(h:j<=mask) (d:Option Nat):ow.getD j d=ow.getD j none:=by
 rw [Array.getD_eq_getD_getElem?,Array.getD_eq_getD_getElem?,Array.getElem?_eq_getElem (by rw [O.size];omega)];rfl
theorem OwnOk.room {mask:Nat}{ow:Own}{k:Nat}(O:OwnOk mask ow k) (hk:k<=mask):∃ e,e<=mask/\ow.getD e none=none:=by
 apply Classical.byContradiction
 intro hc
 have hall:∀ e,e<=mask->∃ c,ow.getD e none=some c:=fun e he=>by
  cases h:ow.getD e none with
  | none=>exact absurd ⟨e,he,h⟩ hc
  | some c=>exact ⟨c,rfl⟩
 have hn:((List.range (mask+1)).map fun e=>(ow.getD e none).getD 0).Nodup:=by
  rw [List.nodup_iff_pairwise_ne,List.pairwise_map]
  refine List.Pairwise.imp_of_mem (fun {a b} ha hb hne e=>?_) (List.nodup_iff_pairwise_ne.mp List.nodup_range)
  (refine E1 (hall a (by have:=List.mem_range.mp ha;omega)) fun c1 h1=>?_)
  (refine E1 (hall b (by have:=List.mem_range.mp hb;omega)) fun c2 h2=>?_)
  rw [h1,h2] at e
  exact hne (O.inj a b c1 h1 (by rw [h2];exact congrArg some (by simpa using e.symm)))
 have hs:=List.Nodup.length_le_of_subset (l₂:=List.range k) hn fun c hc=>by
  (refine E1 (List.mem_map.mp hc) fun e=>G2 fun he zo43=>?_;rcases zo43 with rfl)
  (refine E1 (hall e (by have:=List.mem_range.mp he;omega)) fun c1 h1=>?_)
  rw [h1]
  exact List.mem_range.mpr (O.lt _ _ h1)
 rw [List.length_map,List.length_range,List.length_range] at hs
 omega
theorem free_ok {mask:Nat}{ow:Own}{k:Nat}(O:OwnOk mask ow k) {e:Nat}(he:ow.getD e none=none) (hem:e<=mask):∀ (fuel i p m:Nat),i<=mask->(leapN mask m (i,p)).1=e->m<fuel ->
  ∃ j,layClean.free mask ow fuel i p=some j/\j<=mask/\ow.getD j none=none
 | 0,i,p,m,_,_,hf=>by omega
 | fuel+1,i,p,m,hi,hm,hf=>by
  have hre:=runEnd_le hi
  unfold layClean.free
  cases hx:(List.range (runEnd mask i+1 - i)).find? fun k=>(ow.getD (i+k) (some 0)).isNone with
  | some q =>
   dsimp only
   have h1:=List.find?_some hx
   have h2:=List.mem_range.mp (List.mem_of_find?_eq_some hx)
   have h3:i+q<=mask:=by omega
   rw [own_in O h3] at h1
   refine K1 (i+q) (M3 rfl h3 (by simpa using h1))
  | none =>
   dsimp only
   have h0:=List.find?_eq_none.mp hx 0 (List.mem_range.mpr (by omega))
   rw [Nat.add_zero,own_in O hi] at h0
   cases m with
   | zero =>
    have:i=e:=hm
    rw [this,he] at h0
    simp at h0
   | succ m=>exact free_ok O he hem fuel _ _ m (leap_lt mask i p) hm (by omega)
theorem getD_setOwn {ow:Own}{j:Nat}(hj:j<ow.size) (v:Option Nat) (i:Nat):(ow.setIfInBounds j v).getD i none=if i=j then v else ow.getD i none:=by
 rw [Array.getD_eq_getD_getElem?,Array.getD_eq_getD_getElem?,Array.getElem?_setIfInBounds]
 by_cases h:j=i
 ·subst h;simp [hj]
 ·rw [if_neg h,if_neg (fun e=>h e.symm)]
theorem own_set {mask:Nat}{ow:Own}{k j:Nat}(O:OwnOk mask ow k) (hj:j<=mask) (hn:ow.getD j none=none):OwnOk mask (ow.setIfInBounds j (some k)) (k+1):=by
 have hs:j<ow.size:=by rw [O.size];omega
 refine ⟨by rw [Array.size_setIfInBounds];exact O.size,fun i c h=>?_,fun i i' c h h'=>?_,fun c hc=>?_⟩
 ·rw [getD_setOwn hs] at h
  split at h
  ·cases h;omega
  ·have:=O.lt i c h;omega
 ·rw [getD_setOwn hs] at h h'
  split at h <;> split at h'
  ·omega
  ·cases h;have:=O.lt i' k h';omega
  ·cases h';have:=O.lt i k h;omega
  ·exact O.inj i i' c h h'
 ·by_cases e:c=k
  ·exact ⟨j,by rw [getD_setOwn hs,if_pos rfl,e]⟩
  ·(refine E1 (O.sur c (by omega)) fun i hi=>?_)
   refine ⟨i,?_⟩
   rw [getD_setOwn hs,if_neg fun e2=>?_]
   ·exact hi
   ·subst e2;rw [hn] at hi;cases hi
theorem lay_fold {mask:Nat}(hm:mask=7∨mask=31∨mask=127):∀ (hs:List Int) (ow:Own) (k:Nat),OwnOk mask ow k->k+hs.length<=mask ->
  ∃ ow',hs.foldl (fun acc h=>(do
   let (owner,k) ← acc
   let j ← layClean.free mask owner (turns mask) (bits h % (mask+1)) (bits h)
   pure (owner.setIfInBounds j (some k),k+1):Option (Own × Nat))) (some (ow,k))=some (ow',k+hs.length)/\OwnOk mask ow' (k+hs.length)
 | [],ow,k,O,_=>⟨ow,rfl,O⟩
 | h::hs,ow,k,O,hz=>by
  rw [List.length_cons] at hz
  (refine E1 (O.room (by omega)) fun e=>G2 fun he1 he2=>?_)
  have hi:bits h % (mask+1)<=mask:=Nat.le_of_lt_succ (Nat.mod_lt _ (Nat.succ_pos _))
  (refine E1 (leaps_reach hm hi (bits_lt h) he1) fun m=>G2 fun m1 m2=>?_)
  (refine E1 (free_ok O he2 he1 (turns mask) _ _ m hi m2 (by unfold turns;omega)) fun j=>G3 fun j1 j2 j3=>?_)
  (refine E1 (lay_fold hm hs _ _ (own_set O j2 j3) (by omega)) fun ow'=>G2 fun h1 h2=>?_)
  refine K1 ow' (M2 ?_ (by rw [List.length_cons,show k+(hs.length+1)=k+1+hs.length by omega];exact h2))
  rw [List.foldl_cons,List.length_cons,show k+(hs.length+1)=k+1+hs.length by omega]
  rw [← h1]
  congr 1
  show (some (ow,k) >>= fun x=>_)=_
  simp only [Option.bind_eq_bind,Option.bind_some]
  rw [j1]
  rfl
theorem own_new (mask:Nat):OwnOk mask (Array.replicate (mask+1) none) 0:=by
 have h:∀ j:Nat,(Array.replicate (mask+1) (none:Option Nat)).getD j none=none:=fun j=>by
  rw [Array.getD_eq_getD_getElem?,Array.getElem?_replicate]
  split <;> rfl
 refine ⟨Array.size_replicate,fun j c e=>?_,fun j j' c e=>?_,fun c e=>by omega⟩
 ·rw [h] at e;cases e
 ·rw [h] at e;cases e
theorem layClean_ok {mask:Nat}(hm:mask=7∨mask=31∨mask=127) (hs:Array Int) (hz:hs.size<=mask):∃ ow,layClean mask hs=some ow/\OwnOk mask ow hs.size:=by
 (refine E1 (lay_fold hm hs.toList _ 0 (own_new mask) (by rw [Array.length_toList];omega)) fun ow=>G2 fun h1 h2=>?_)
 rw [Nat.zero_add,Array.length_toList] at h1 h2
 refine K1 ow (M2 ?_ h2)
 unfold layClean
 rw [← Array.foldl_toList,h1];rfl
noncomputable def liveOf (mask:Nat) (ow:Own):List (Nat × Nat):=(List.range (mask+1)).filterMap fun j=>(ow.getD j none).map (j,·)
theorem mem_live {mask:Nat}{ow:Own}{k:Nat}(O:OwnOk mask ow k) (j c:Nat):(j,c)∈liveOf mask ow↔ow.getD j none=some c:=by
 unfold liveOf
 rw [List.mem_filterMap]
 constructor
 ·(intro zr0;(refine E1 zr0 fun i=>G2 fun _ h=>?_;try clear zr0))
  (refine E1 (Option.map_eq_some_iff.mp h) fun c'=>G2 fun h1 h2=>?_)
  cases h2
  exact h1
 ·intro h
  refine K1 j (M2 (List.mem_range.mpr (by have:=own_none O h;omega)) (by rw [h];rfl))
theorem live_rise (mask:Nat) (ow:Own):(liveOf mask ow).Pairwise fun a b=>a.1<b.1:=by
 unfold liveOf
 rw [List.pairwise_filterMap]
 refine List.Pairwise.imp (fun {a b} hab x hx y hy=>?_) List.pairwise_lt_range
 (refine E1 (Option.map_eq_some_iff.mp hx) fun c=>G2 fun _ zo44=>?_;rcases zo44 with rfl)
 (refine E1 (Option.map_eq_some_iff.mp hy) fun c'=>G2 fun _ zo45=>?_;rcases zo45 with rfl)
 exact hab
theorem live_nodup {mask:Nat}{ow:Own}{k:Nat}(O:OwnOk mask ow k):((liveOf mask ow).map (·.2)).Nodup:=by
 rw [List.nodup_iff_pairwise_ne,List.pairwise_map]
 refine List.Pairwise.imp_of_mem (fun {a b} ha hb hab e=>?_) (live_rise mask ow)
 have h1:=(mem_live O a.1 a.2).mp ha
 have h2:=(mem_live O b.1 b.2).mp hb
 have:=O.inj a.1 b.1 a.2 h1 (e ▸ h2)
 omega
theorem live_perm {mask:Nat}{ow:Own}{k:Nat}(O:OwnOk mask ow k):((liveOf mask ow).map (·.2)).Perm (List.range k):=by
 rw [List.perm_ext_iff_of_nodup (live_nodup O) List.nodup_range]
 intro c
 rw [List.mem_map,List.mem_range]
 constructor
 ·(intro zr0;(refine E1 zr0 fun zo46=>G2 fun h zo47=>?_;try clear zr0;obtain ⟨j,c'⟩:=zo46;rcases zo47 with rfl))
  exact O.lt _ _ ((mem_live O j c').mp h)
 ·intro h
  (refine E1 (O.sur c h) fun j hj=>?_)
  refine K1 (j,c) (M2 ((mem_live O j c).mpr hj) rfl)
theorem laid_ok {mask:Nat}(hm:mask=7∨mask=31∨mask=127) (hs:Array Int) (hz:hs.size<=mask) (fi mv:Nat) (led plain:Bool) :
  ∃ t order,laid mask fi mv led plain hs=some (t,order)/\TabOk t hs.size/\t.mask=mask/\t.led=led/\t.plain=plain/\order.toList.Perm (List.range hs.size):=by
 (refine E1 (layClean_ok hm hs hz) fun ow=>G2 fun h1 O=>?_)
 refine K2 ({ mask,place:=((liveOf mask ow).map (·.1)).toArray,dummies:=#[],finger:=fi,led,moves:=mv,plain }) (((liveOf mask ow).map (·.2)).toArray) (M6 ?_ ?_ rfl rfl rfl ?_)
 ·unfold laid
  rw [h1]
  rfl
 ·have hl:((liveOf mask ow).map (·.1)).length=hs.size:=by
   have:=(live_perm O).length_eq
   rw [List.length_map,List.length_range] at this
   rw [List.length_map];exact this
  have hg:∀ i,i<hs.size->∀ d,(((liveOf mask ow).map (·.1)).toArray).getD i d=((liveOf mask ow).getD i (0,0)).1:=fun i hi d=>by
   have hi':i<(liveOf mask ow).length:=by rw [List.length_map] at hl;omega
   rw [Array.getD_eq_getD_getElem?,List.getElem?_toArray,List.getElem?_map,List.getElem?_eq_getElem hi',List.getD_eq_getElem?_getD,List.getElem?_eq_getElem hi'];rfl
  have hL:(liveOf mask ow).length=hs.size:=by rw [List.length_map] at hl;exact hl
  refine ⟨by simpa using hl,?_,?_,rfl,hm,hz⟩
  ·intro i k hik hk
   have hk':k<hs.size:=by simpa [hL] using hk
   show (((liveOf mask ow).map (·.1)).toArray).getD i 0<(((liveOf mask ow).map (·.1)).toArray).getD k 0
   rw [hg i (by omega),hg k hk']
   have:=List.pairwise_iff_getElem.mp (live_rise mask ow) i k (by omega) (by omega) hik
   rw [List.getD_eq_getElem?_getD,List.getD_eq_getElem?_getD,List.getElem?_eq_getElem (by omega),List.getElem?_eq_getElem (by omega)]
   exact this
  ·intro i hi
   have hi':i<hs.size:=by simpa [hL] using hi
   show (((liveOf mask ow).map (·.1)).toArray).getD i 0<=mask
   rw [hg i hi']
   have hm2:(liveOf mask ow).getD i (0,0)∈liveOf mask ow:=getD_mem (by omega)
   exact own_none O ((mem_live O _ _).mp hm2)
 ·simpa using live_perm O
theorem relay_ok {t:SetTable}{n:Nat}{es:Array (Int × Value)}(T:TabOk t n) (hn:es.size=n) (hc:(t.mask=7/\n=5)∨(t.mask=31/\n=19)) :
  ∃ es' t',relayAll t es (grown es.size)=(es',t',false)/\es'.toList.Perm es.toList/\TabOk t' n/\Calm t' n/\t'.led=t.led/\t'.plain=t.plain:=by
 obtain ⟨m',hm',hs',hz⟩:∃ m',(m'=7∨m'=31∨m'=127)/\sizeAbove (grown es.size) - 1=m'/\n<=m'/\((m'=31/\n=5)∨(m'=127/\n=19)):=by
  rcases hc with ⟨_,e⟩ | ⟨_,e⟩
  ·refine K1 31 (M4 (.inr (.inl rfl)) (by rw [hn,e];decide) (by omega) (.inl ⟨rfl,e⟩))
  ·refine K1 127 (M4 (.inr (.inr rfl)) (by rw [hn,e];decide) (by omega) (.inr ⟨rfl,e⟩))
 have hsz:(es.map (·.1)).size=n:=by rw [Array.size_map];exact hn
 (refine E2 (laid_ok hm' (es.map (·.1)) (by omega) t.finger (t.movedTo m') t.led t.plain) fun t' order=>G6 fun h1 h2 h3 h4 h5 h6=>?_)
 rw [hsz] at h2 h6
 have hp:=relayAll_perm t es (grown es.size)
 have hcov:coversAll order es.size=true:=by
  unfold coversAll
  rw [hn]
  exact List.isPerm_iff.mpr h6
 have hes:(order.filterMap (es[·]?)).toList.Perm es.toList:=by
  rw [Array.toList_filterMap]
  exact (h6.filterMap _).trans (by rw [← hn,filterMap_getElem?_range])
 have hsz2:(order.filterMap (es[·]?)).size=n:=by rw [← Array.length_toList,hes.length_eq,Array.length_toList,hn]
 have hfit:t'.fits (order.filterMap (es[·]?)).size=true:=by
  unfold SetTable.fits SetTable.fill
  rw [h2.size,hsz2,h2.dum]
  have:=h2.full
  simp [this]
 refine K2 (order.filterMap (es[·]?)) t' (M6 ?_ hes h2 ?_ h4 h5)
 ·unfold relayAll relaid
  rw [hs',h1]
  dsimp only
  rw [hcov,hfit];rfl
 ·unfold Calm
  rw [h3]
  rcases hz.2 with h | h <;> omega
end
section
set_option tactic.hygienic false
example:True:=by
 k_with "x14"=>skip
 k_with "bank"=>((fail_if_success k_extra "x15");(exists b373,b374,b375,b376,b377,b378,b379,b380,b381,b382))
 trivial
open SetTable
noncomputable def byText (w:World):Bool:=w.params.followText "set-order"
noncomputable def intOf:Value->Int
 | .int k _=>k
 | _=>0
theorem ints_map:∀ {vs:List Value}{ns:List Int},IntsAre vs ns->ns=vs.map intOf/\∀ v∈vs,∃ k t,v = .int k t
 | _,_,.nil=>⟨rfl,fun v h=>nomatch h⟩
 | _,_,.cons n t r=>by
  (refine G2 ?_ (ints_map r);intro h1 h2)
  refine ⟨by rw [List.map_cons,← h1];rfl,fun v h=>?_⟩
  rcases List.mem_cons.mp h with h | h
  ·refine K2 n t h
  ·exact h2 v h
theorem ints_of:∀ {vs:List Value},(∀ v∈vs,∃ k t,v = .int k t)->IntsAre vs (vs.map intOf)
 | [],_=>.nil
 | v::vs,h=>by
  (refine E2 (h v (.head _)) fun k t zo48=>?_;rcases zo48 with rfl)
  exact .cons k t (ints_of fun v hv=>h v (.tail _ hv))
theorem ints_perm {vs vs':List Value}{ns:List Int}(h:IntsAre vs ns) (p:vs'.Perm vs):∃ ns',IntsAre vs' ns'/\ns'.Perm ns:=by
 (refine G2 ?_ (ints_map h);intro h1 h2)
 refine K1 _ (M2 (ints_of fun v hv=>h2 v (p.mem_iff.mp hv)) (h1 ▸ p.map _))
structure TabFine (w:World) (es:Array (Int × Value)) (t:SetTable):Prop where
 ok:TabOk t es.size
 calm:Calm t es.size
 led:t.led = !byText w
 fits:t.fits es.size=true
 plain:t.plain=true
theorem TabOk.fits {t:SetTable}{n:Nat}(T:TabOk t n):t.fits n=true:=by
 unfold SetTable.fits SetTable.fill
 rw [T.size,T.dum]
 have:=T.full
 simp [this]
noncomputable def SetI (prog:Program) (w:World) (o:Obj) (ns:List Int):Prop :=
 o.ExactSet/\∃ es ep t,o.data = .set es ep t/\TabFine w es t/\ElemsOf (PySem.intKind prog w) es.toList/\IntsAre (es.toList.map (·.2)) ns/\ns.Nodup
theorem fresh_fine (w:World):TabFine w #[] (.fresh 0 0 (!byText w)) :=
 ⟨⟨rfl,fun _ _ _ h=>absurd h (Nat.not_lt_zero _),fun _ h=>absurd h (Nat.not_lt_zero _),rfl,.inl rfl,Nat.zero_le _⟩,.inl ⟨rfl,Nat.zero_le _⟩,rfl,rfl,rfl⟩
section
variable {prog:Program}{w:World}{A:Around}{E:Value->Shared->Prop}{s:Shared}{a:Addr}{o:Obj}{ns:List Int}{k:Int}{tk:Tok}
theorem isInt_mem {es:List (Int × Value)}{ns:List Int}(h:IntsAre (es.map (·.2)) ns) (k:Int):k∈ns↔∃ e∈es,(PySem.intKind prog w).is k e.2=true:=by
 (refine G2 ?_ (ints_map h);intro h1 h2)
 rw [h1,List.mem_map]
 constructor
 ·(intro zr0;(refine E1 zr0 fun v=>G2 fun hv zo49=>?_;try clear zr0;rcases zo49 with rfl))
  (refine E1 (List.mem_map.mp hv) fun e=>G2 fun he zo50=>?_;rcases zo50 with rfl)
  (refine E2 (h2 _ hv) fun k t hk=>?_)
  refine K1 e (M2 he (by rw [hk];exact PySem.intKind_is prog w k t))
 ·(intro zr0;(refine E1 zr0 fun e=>G2 fun he hk=>?_;try clear zr0))
  refine K1 e.2 (M2 (List.mem_map_of_mem he) ?_)
  (refine E1 (Value.isInt_shape hk) fun t ht=>?_)
  rw [ht];rfl
theorem add_end {es1:Array (Int × Value)}{t2:SetTable}{n:Nat}{es:Array (Int × Value)}{ep:Nat}{t:SetTable}{ns':List Int}{g:Bool->Sem Unit}(hg:∀ (b:Bool) (s₁:Shared) (Q':Unit->Shared->Prop),Q' () s₁->wpAny (model prog w) A (g b) Q' E s₁)
  (ho:s.heap.get? a=some o) (hex:o.ExactSet) (hd:o.data = .set es ep t) (hz:es1.size=n) (T:TabOk t2 n) (hc:Calm t2 n∨(t2.mask=7/\n=5)∨(t2.mask=31/\n=19)) (hled:t2.led = !byText w) (hpl:t2.plain=true)
  (hel:ElemsOf (PySem.intKind prog w) es1.toList) (hI:IntsAre (es1.toList.map (·.2)) ns') (hN:ns'.Nodup) {R:Option Bool->Shared->Prop}
  (h:∀ h' o' ns'',Heap.SameBut a s.heap h'->h'.get? a=some o'->SetI prog w o' ns''->ns''.Perm ns'->R (some true) { s with heap:=h' }) :
  wpAny (model prog w) A (do
    storeSet a es1 t2
    if (!false && t2.tooFull)=true then do
      g (relayAll t2 es1 (SetTable.grown es1.size)).2.2
      storeSet a (relayAll t2 es1 (SetTable.grown es1.size)).1 (relayAll t2 es1 (SetTable.grown es1.size)).2.1
      pure (some true)
     else pure (some true)) R E s:=by
 have hsz:n<=127:=by
  have:=T.full
  rcases T.kinds with h | h | h <;> omega
 have hsl:es1.size<=sizeLine:=by rw [hz,sizeLine_eq];omega
 have upd:∀ {h:Heap}{o:Obj}{es:Array (Int × Value)}{ep:Nat}{t:SetTable}(es':Array (Int × Value)) (t':SetTable),h.get? a=some o->o.data = .set es ep t->(h.update a (Obj.putSet es' t')).get? a=some { o with data:=.set es' (ep+1) t' }:=fun {h o es ep t} es' t' ho hd=>by
  have:=Heap.get?_update_self (Obj.putSet es' t') ho (by rw [putSet_of es' t' hd];rfl)
  rw [putSet_of es' t' hd] at this;exact this
 refine wpAny_bind (wpAny_storeSet_of ho hd ?_ hsl)
 have ho1:=upd es1 t2 ho hd
 have hsb1:=Heap.SameBut.update s.heap a (Obj.putSet es1 t2)
 by_cases hf:(!false && t2.tooFull)=true
 ·rw [if_pos hf]
  have hc':(t2.mask=7/\n=5)∨(t2.mask=31/\n=19):=by
   rcases hc with hc | hc
   ·exfalso
    have hf':t2.tooFull=true:=by simpa using hf
    unfold SetTable.tooFull SetTable.fill at hf'
    rw [T.size,T.dum] at hf'
    have hf2:n * 5≥t2.mask * 3:=by simpa using hf'
    rcases hc with ⟨e,h1⟩ | ⟨e,h1⟩ | ⟨e,h1⟩ <;> rw [e] at hf2 <;> omega
   ·exact hc
  (refine E2 (relay_ok T hz hc') fun es2 t3=>G6 fun r1 r2 r3 r4 r5 r6=>?_)
  rw [r1]
  dsimp only
  refine wpAny_bind (hg _ _ _ ?_)
  have hz2:es2.size=n:=by rw [← Array.length_toList,r2.length_eq,Array.length_toList,hz]
  refine wpAny_bind (wpAny_storeSet_of ho1 rfl ?_ (by rw [hz2,← hz];exact hsl))
  (refine E1 (ints_perm hI (r2.map (·.2))) fun ns2=>G2 fun i1 i2=>?_)
  exact wpAny_pure (h _ _ ns2 (hsb1.trans (Heap.SameBut.update _ a _)) (upd es2 t3 ho1 rfl) ⟨hex,es2,_,t3,rfl,⟨by rw [hz2];exact r3,by rw [hz2];exact r4,r5.trans hled,by rw [hz2];exact r3.fits,r6.trans hpl⟩,hel.perm r2,i1,i2.nodup_iff.mpr hN⟩ i2)
 ·rw [if_neg hf]
  have hc':Calm t2 n:=by
   rcases hc with hc | hc
   ·exact hc
   ·exfalso
    apply hf
    unfold SetTable.tooFull SetTable.fill
    rw [T.size,T.dum]
    rcases hc with ⟨e,e2⟩ | ⟨e,e2⟩ <;> rw [e,e2] <;> decide
  exact wpAny_pure (h _ _ ns' hsb1 ho1 ⟨hex,es1,_,t2,rfl,⟨by rw [hz];exact T,by rw [hz];exact hc',hled,by rw [hz];exact T.fits,hpl⟩,hel,hI,hN⟩ (.refl _))
theorem setAdd_int {Q:Bool->Shared->Prop}(ho:s.heap.get? a=some o) (hS:SetI prog w o ns) (hz:ns.length<60)
  (h:∀ b h' o' ns',Heap.SameBut a s.heap h'->h'.get? a=some o'->SetI prog w o' ns'->(∀ j,j∈ns'↔j∈ns∨j=k)->Q b { s with heap:=h',toks:=s.toks+1 }) :
  wpAny (model prog w) A (setAdd a (.int k tk)) Q E s:=by
 obtain ⟨hex,es,ep,t,hd,T,hel,hI,hN⟩:=hS
 have hkey:(PySem.intKind prog w).is k (.int k tk)=true:=PySem.intKind_is prog w k tk
 have hsz:es.size=ns.length:=by rw [← hI.length];simp
 have hsc:(Value.int k tk).scannable=true:=rfl
 unfold setAdd
 refine wpAny_holding (wpAny_bind ((PySem.intKind prog w).pyHash hkey ?_))
 have gen:∀ s:Shared,s.heap.get? a=some o->(∀ b h' o' ns',Heap.SameBut a s.heap h'->h'.get? a=some o'->SetI prog w o' ns'->(∀ j,j∈ns'↔j∈ns∨j=k)->Q b { s with heap:=h' }) ->
   wpAny (model prog w) A (setAddHashed a (.int k tk) ((PySem.intKind prog w).hash k)) Q E s:=by
  intro s ho h
  unfold setAddHashed setAddHashedIn
  refine wpAny_holding (wpAny_bind (wpAny_setState_of ho hd T.fits ?_))
  dsimp only
  rw [byScan_of hsc (by unfold scanBound;omega) hel]
  simp only [↓reduceIte]
  unfold setAddByScan
  refine wpAny_bind ?_
  refine wpAny_bind (wpAny_rule ?_)
  refine wpAny_bind (wpAny_setScan_of hkey ho hd T.fits hel ?_)
  cases hr:List.findIdx? (fun e=>(PySem.intKind prog w).is k e.2) es.toList with
  | some j =>
   dsimp only
   obtain ⟨hj,hpj,_⟩:=List.findIdx?_eq_some_iff_getElem.mp hr
   have hk:k∈ns:=(isInt_mem (prog:=prog) (w:=w) hI k).mpr ⟨_,List.getElem_mem hj,hpj⟩
   refine wpAny_pure (wpAny_pure ?_)
   have:=h false s.heap o ns (Heap.SameBut.refl a s.heap) ho ⟨hex,es,ep,t,hd,T,hel,hI,hN⟩ fun j=>⟨.inl,fun q=>q.elim id fun e=>e ▸ hk⟩
   exact this
  | none =>
   dsimp only
   have hk:k∉ns:=fun hm=>by
    (refine E1 ((isInt_mem (prog:=prog) (w:=w) hI k).mp hm) fun e=>G2 fun he hp=>?_)
    have:=List.findIdx?_eq_none_iff.mp hr e he
    rw [hp] at this;cases this
   have hfull:es.size+1<=t.mask:=by
    rcases T.calm with h | h | h <;> omega
   (refine E1 (freeSlot_ok T.ok ((PySem.intKind prog w).hash k)) fun j=>G3 fun j1 j2 j3=>?_)
   (refine G5 ?_ (put_ok T.ok j2 j3 hfull);intro p1 p2 p3 p4 p5)
   have hperm:=layNew_perm t es ((PySem.intKind prog w).hash k) (.int k tk)
   have hL:layNew t es ((PySem.intKind prog w).hash k) (.int k tk)=(insertAt es (below t.place j) ((PySem.intKind prog w).hash k,.int k tk),(t.put j).1,false,false):=by
    unfold layNew
    rw [j1]
    dsimp only
    have hs1:(insertAt es (t.put j).2 ((PySem.intKind prog w).hash k,Value.int k tk)).size=es.size+1:=by
     rw [p5]
     exact size_insertAt (by rw [← T.ok.size];exact (below_spec T.ok.rise j).1)
    unfold SetTable.orStandIn
    rw [hs1,p1.fits,if_pos rfl,p5];rfl
   rw [hL] at hperm ⊢
   dsimp only at hperm ⊢
   rw [Array.toList_push] at hperm
   have hsz1:(insertAt es (below t.place j) ((PySem.intKind prog w).hash k,Value.int k tk)).size=es.size+1:=size_insertAt (by rw [← T.ok.size];exact (below_spec T.ok.rise j).1)
   have hI2:IntsAre ((es.toList++[((PySem.intKind prog w).hash k,Value.int k tk)]).map (·.2)) (ns++[k]):=by
    rw [List.map_append];exact hI.append (.cons _ _ .nil)
   (refine E1 (ints_perm hI2 (hperm.map (·.2))) fun ns1=>G2 fun i1 i2=>?_)
   have hN1:ns1.Nodup:=i2.nodup_iff.mpr (by
    rw [List.nodup_append]
    refine M3 hN (by simp) (fun x hx y hy=>by rw [List.mem_singleton.mp hy];exact fun e=>hk (e ▸ hx)))
   refine wpAny_bind (wpAny_pure ?_)
   rw [if_pos (p3.trans T.plain),hashByValue_scannable 8 hsc]
   refine wpAny_bind (wpAny_pure ?_)
   simp only [plainKind,↓reduceIte]
   refine add_end (n:=es.size+1) (ns':=ns1) ?_ ho hex hd hsz1 p1 ?_ (p2.trans T.led) (p3.trans T.plain) ((hel.push hkey hsc).perm hperm) i1 hN1 ?_
   ·intro b s₁ Q' hq;cases b <;> first | exact wpAny_pure hq | exact wpAny_rule hq
   ·unfold Calm
    rw [p4]
    rcases T.calm with h | h | h <;> omega
   ·intro h' o' ns'' hsb ho' hS' hp
    dsimp only
    refine wpAny_pure (h true h' o' ns'' hsb ho' hS' fun j=>?_)
    rw [(hp.trans i2).mem_iff,List.mem_append,List.mem_singleton]
 exact gen _ ho fun b h' o' ns' a1 a2 a3 a4=>h b h' o' ns' a1 a2 a3 a4
end
end
section
set_option tactic.hygienic false
example:True:=by
 k_with "x15"=>skip
 k_with "bank"=>((fail_if_success k_extra "x16");(first | decide | exists b384,b385,b171,b386,b387,b388,b234,b364,b389,b390))
 trivial
open SetTable
theorem entry_set_iter:entryFor table "set.__iter__" = some Builtin.«frozenset.__iter__»:=entryFor_alias (id':="frozenset.__iter__") (by kernel_rfl) rfl (by decide +kernel) (by kernel_rfl)
theorem slot_setiter_next:Slot "set_iterator" "__next__" "set_iterator.__next__" :=
 .of (owner:="set_iterator") (n:="__next__") (by rw [typeLookup_type,builtinLookup_eq_fast];kernel_rfl) (by decide +kernel) (by decide +kernel) (by decide +kernel)
  (by first | exact .inl (by decide +kernel) | exact .inr (by decide +kernel)) (by rw [isSubtype_type];kernel_rfl)
theorem entry_setiter_next:entryFor table "set_iterator.__next__" = some Builtin.«set_iterator.__next__»:=entryFor_of_fast (by kernel_rfl)
theorem args_setiter_next (a:Value):argsOk "set_iterator.__next__" ⟨[a],[]⟩:=by unfold argsOk;kernel_rfl
theorem slot_setiter_iter:Slot "set_iterator" "__iter__" "set_iterator.__iter__" :=
 .of (owner:="set_iterator") (n:="__iter__") (by rw [typeLookup_type,builtinLookup_eq_fast];kernel_rfl) (by decide +kernel) (by decide +kernel) (by decide +kernel)
  (by first | exact .inl (by decide +kernel) | exact .inr (by decide +kernel)) (by rw [isSubtype_type];kernel_rfl)
theorem entry_setiter_iter:entryFor table "set_iterator.__iter__" = some Builtin.«dict_keyiterator.__iter__»:=entryFor_alias (id':="dict_keyiterator.__iter__") (by kernel_rfl) rfl (by decide +kernel) (by kernel_rfl)
theorem args_setiter_iter (a:Value):argsOk "set_iterator.__iter__" ⟨[a],[]⟩:=by unfold argsOk;kernel_rfl
theorem erase_perm {α:Type}{l:List α}{i:Nat}(h:i<l.length):(l[i]::l.eraseIdx i).Perm l:=by
 have e:l=l.take i++l[i]::l.drop (i+1):=by
  rw [List.getElem_cons_drop,List.take_append_drop]
 rw [List.eraseIdx_eq_take_drop_succ]
 conv=>rhs;rw [e]
 exact List.perm_middle.symm
theorem pick_go {α:Type}(next:Nat->Nat):∀ (fuel k:Nat) (left:List α) (out:Array α),left.length<=fuel->(pickOrder.go next fuel k left out).toList.Perm (out.toList++left)
 | 0,k,left,out,h=>by
  have:left=[]:=List.eq_nil_of_length_eq_zero (by omega)
  subst this
  unfold pickOrder.go
  simp
 | fuel+1,k,left,out,h=>by
  unfold pickOrder.go
  by_cases hl:left.length=0
  ·have:left=[]:=List.eq_nil_of_length_eq_zero hl
   subst this
   simp
  ·have hi:next k % left.length<left.length:=Nat.mod_lt _ (by omega)
   rw [List.getElem?_eq_getElem hi]
   dsimp only
   refine (pick_go next fuel (k+1) _ _ (by rw [List.length_eraseIdx,if_pos hi];omega)).trans ?_
   rw [Array.toList_push,List.append_assoc]
   exact List.Perm.append_left _ (erase_perm hi)
theorem pick_perm {α:Type}(next:Nat->Nat) (xs:Array α):(pickOrder next xs).toList.Perm xs.toList:=by
 unfold pickOrder
 have:=pick_go next xs.size 0 xs.toList #[] (by rw [Array.length_toList];exact Nat.le_refl _)
 simpa using this
noncomputable def setOrd (w:World) (a:Addr) (ep:Nat) (es:Array (Int × Value)):Array Value:=(if byText w then pickOrder (w.params.setOrder a ep) es else es).map (·.2)
theorem setOrd_perm (w:World) (a:Addr) (ep:Nat) (es:Array (Int × Value)):(setOrd w a ep es).toList.Perm (es.toList.map (·.2)):=by
 unfold setOrd
 rw [Array.toList_map]
 refine List.Perm.map _ ?_
 split
 ·exact pick_perm _ _
 ·exact .refl _
theorem setOrd_size (w:World) (a:Addr) (ep:Nat) (es:Array (Int × Value)):(setOrd w a ep es).size=es.size:=by
 rw [← Array.length_toList,(setOrd_perm w a ep es).length_eq,List.length_map,Array.length_toList]
noncomputable def IsSetIter (w:World) (I a:Addr) (es:Array (Int × Value)) (ep:Nat) (t:SetTable) (i:Nat) (h:Heap):Prop :=
 ∃ oi f,h.get? I=some oi/\oi.cls = .type "set_iterator"/\oi.data = .fields #[.int (f:Nat) 0,.int (i:Nat) 0,.ref a,.int (es.size:Nat) 0,.int (ep:Nat) 0]/\(byText w=false->below t.place f=i)
structure TabW (w:World) (es:Array (Int × Value)) (t:SetTable):Prop where
 ok:TabOk t es.size
 led:t.led = !byText w
 fits:t.fits es.size=true
 nodr:byText w=false->(!t.plain && decide (es.size > 1))=false
section
variable {prog:Program}{w:World}{A:Around}{E:Value->Shared->Prop}{s:Shared}{a I:Addr}{o:Obj}{es:Array (Int × Value)}{ep:Nat}{t:SetTable}{i:Nat}
theorem setNext_someW {x:Value}{slot:Nat}{Q:Option (Value × Nat)->Shared->Prop}(ho:s.heap.get? a=some o) (hd:o.data = .set es ep t) (T:TabW w es t) (hb:byText w=false->below t.place slot=i) (hx:(setOrd w a ep es)[i]?=some x)
  (h:∀ f:Nat,(byText w=false->below t.place f=i+1)->Q (some (x,f)) s):wpAny (model prog w) A (setNext a slot i ep) Q E s:=by
 unfold setNext
 refine wpAny_bind (wpAny_setState_of ho hd T.fits ?_)
 unfold setsByText
 refine wpAny_bind (wpAny_bind (wpAny_askSetting (wpAny_pure ?_)))
 show wpAny _ _ (if w.params.followText "set-order" = true then _ else _) Q E s
 unfold setOrd at hx
 cases hbt:byText w with
 | true =>
  have hbt':w.params.followText "set-order" = true:=hbt
  rw [hbt,if_pos rfl,Array.getElem?_map] at hx
  (refine E1 (Option.map_eq_some_iff.mp hx) fun e=>G2 fun he zo51=>?_;rcases zo51 with rfl)
  rw [if_pos hbt']
  rw [if_neg (by simp)]
  refine wpAny_bind ?_
  unfold setWalk
  refine wpAny_bind (wpAny_setState_of ho hd T.fits ?_)
  unfold setsByText
  refine wpAny_bind (wpAny_bind (wpAny_askSetting (wpAny_pure ?_)))
  show wpAny _ _ (if w.params.followText "set-order" = true then _ else _) _ E s
  rw [if_pos hbt']
  refine wpAny_bind (wpAny_askSetting (wpAny_pure ?_))
  refine wpAny_pure ?_
  show Q (Option.map _ ((pickOrder (w.params.setOrder a ep) es)[i]?)) s
  rw [he]
  exact h slot fun e=>absurd (hbt.symm.trans e) (by decide)
 | false =>
  have hbt':w.params.followText "set-order" = false:=hbt
  rw [hbt,if_neg (by decide),Array.getElem?_map] at hx
  (refine E1 (Option.map_eq_some_iff.mp hx) fun e=>G2 fun he zo52=>?_;rcases zo52 with rfl)
  rw [if_neg (by rw [hbt'];decide)]
  split
  ·rename_i hdr
   exact absurd (show (!t.plain && decide (es.size > 1))=true from hdr) (by rw [T.nodr hbt];simp)
  ·refine wpAny_bind ?_
   have hled:t.led=true:=by rw [T.led,hbt];rfl
   show wpAny _ _ (if (!t.led && !es.isEmpty)=true then _ else _) _ E s
   rw [if_neg (by rw [hled];simp)]
   refine wpAny_pure (wpAny_pure ?_)
   have hb':=hb hbt
   rw [hb']
   have hi:i<es.size:=(Array.getElem?_eq_some_iff.mp he).1
   have hp:t.place[i]?=some (t.place.getD i 0):=some_getD (by rw [T.ok.size];exact hi) 0
   rw [he,hp]
   refine h (t.place.getD i 0+1) fun _=>?_
   (refine G3 ?_ (below_spec T.ok.rise (t.place.getD i 0+1));intro c1 c2 c3)
   have hsz:=T.ok.size
   rcases Nat.lt_trichotomy (below t.place (t.place.getD i 0+1)) (i+1) with c | c | c
   ·have:=c3 i (by omega) (by omega)
    omega
   ·exact c
   ·have h1:=c2 (i+1) c
    have h2:=T.ok.rise i (i+1) (by omega) (by omega)
    omega
theorem setNext_noneW {slot:Nat}{Q:Option (Value × Nat)->Shared->Prop}(ho:s.heap.get? a=some o) (hd:o.data = .set es ep t) (T:TabW w es t) (hb:byText w=false->below t.place slot=es.size)
  (h:Q none s):wpAny (model prog w) A (setNext a slot es.size ep) Q E s:=by
 unfold setNext
 refine wpAny_bind (wpAny_setState_of ho hd T.fits ?_)
 unfold setsByText
 refine wpAny_bind (wpAny_bind (wpAny_askSetting (wpAny_pure ?_)))
 show wpAny _ _ (if w.params.followText "set-order" = true then _ else _) Q E s
 have hso:=setOrd_size w a ep es
 cases hbt:byText w with
 | true =>
  have hbt':w.params.followText "set-order" = true:=hbt
  unfold setOrd at hso
  rw [hbt,if_pos rfl,Array.size_map] at hso
  rw [if_pos hbt']
  rw [if_neg (by simp)]
  refine wpAny_bind ?_
  unfold setWalk
  refine wpAny_bind (wpAny_setState_of ho hd T.fits ?_)
  unfold setsByText
  refine wpAny_bind (wpAny_bind (wpAny_askSetting (wpAny_pure ?_)))
  show wpAny _ _ (if w.params.followText "set-order" = true then _ else _) _ E s
  rw [if_pos hbt']
  refine wpAny_bind (wpAny_askSetting (wpAny_pure ?_))
  refine wpAny_pure ?_
  show Q (Option.map _ ((pickOrder (w.params.setOrder a ep) es)[es.size]?)) s
  rw [Array.getElem?_eq_none (by omega)]
  exact h
 | false =>
  have hbt':w.params.followText "set-order" = false:=hbt
  rw [if_neg (by rw [hbt'];decide)]
  split
  ·rename_i hdr
   exact absurd (show (!t.plain && decide (es.size > 1))=true from hdr) (by rw [T.nodr hbt];simp)
  ·refine wpAny_bind ?_
   have hled:t.led=true:=by rw [T.led,hbt];rfl
   show wpAny _ _ (if (!t.led && !es.isEmpty)=true then _ else _) _ E s
   rw [if_neg (by rw [hled];simp)]
   refine wpAny_pure (wpAny_pure ?_)
   rw [hb hbt,Array.getElem?_eq_none (Nat.le_refl _)]
   exact h
theorem setiter_itemW {x:Value}{Q:Option Value->Shared->Prop}(hI:IsSetIter w I a es ep t i s.heap) (ho:s.heap.get? a=some o) (hd:o.data = .set es ep t) (T:TabW w es t) (hx:(setOrd w a ep es)[i]?=some x)
  (hQ:∀ h',IsSetIter w I a es ep t (i+1) h'->Heap.SameBut I s.heap h'->Q (some x) { s with heap:=h' }):wpAny (model prog w) A (pyNext (.ref I)) Q E s:=by
 (refine E2 hI fun oi f=>G4 fun hi hc hdi hb=>?_;try clear hI)
 have hT:s.TypeIs (.ref I) "set_iterator":=⟨oi,hi,hc⟩
 unfold pyNext
 refine wpAny_bind (wpAny_attempt (wpAny_callSpecial?_slot (name:=Str.ofString "__next__") hT slot_setiter_next
  (wpAny_call_entry slot_setiter_next hT entry_setiter_next ?_ (args_setiter_next _))))
 show wpAny _ _ (fieldsOf (.ref I) >>= _) _ _ s
 refine wpAny_bind (wpAny_fieldsOf hi hdi ?_)
 dsimp only
 refine wpAny_bind (wpAny_setEntries_of ho hd T.fits ?_)
 rw [if_neg (by simp)]
 simp only [Int.toNat_natCast]
 refine wpAny_bind (setNext_someW ho hd T hb hx fun f' hb'=>?_)
 dsimp only
 have hi1:=Heap.get?_update_self (h:=s.heap) (a:=I) (Obj.mapFields (·.setIfInBounds 0 (rawInt (f':Int)))) hi (Obj.isFreed_of_fields (Obj.data_mapFields hdi _))
 refine wpAny_bind (wpAny_setField hi hdi (by simp) ?_)
 have hd1:=Obj.data_mapFields hdi (·.setIfInBounds 0 (rawInt (f':Int)))
 refine wpAny_bind (wpAny_setField hi1 hd1 (by simp) (wpAny_pure ⟨x,rfl,wpAny_pure (hQ _ ?_ ((Heap.SameBut.update ..).trans (Heap.SameBut.update ..)))⟩))
 refine K2 _ f' (M4 (Heap.get?_update_self _ hi1 (Obj.isFreed_of_fields (Obj.data_mapFields hd1 _))) ?_ ?_ hb')
 ·rw [Obj.cls_mapFields,Obj.cls_mapFields];exact hc
 ·rw [Obj.data_mapFields hd1];simp [rawInt]
theorem setiter_endW {Q:Option Value->Shared->Prop}(hh:A.handled=none) (hI:IsSetIter w I a es ep t es.size s.heap) (ho:s.heap.get? a=some o) (hd:o.data = .set es ep t) (T:TabW w es t)
  (hQ:∀ h',Heap.ExtBut I s.heap h'->Q none { s with heap:=h' }):wpAny (model prog w) A (pyNext (.ref I)) Q E s:=by
 (refine E2 hI fun oi f=>G4 fun hi hc hdi hb=>?_;try clear hI)
 have hT:s.TypeIs (.ref I) "set_iterator":=⟨oi,hi,hc⟩
 unfold pyNext
 refine wpAny_bind (wpAny_attempt (wpAny_callSpecial?_slot (name:=Str.ofString "__next__") hT slot_setiter_next
  (wpAny_call_entry slot_setiter_next hT entry_setiter_next ?_ (args_setiter_next _))))
 show wpAny _ _ (fieldsOf (.ref I) >>= _) _ _ s
 refine wpAny_bind (wpAny_fieldsOf hi hdi ?_)
 dsimp only
 refine wpAny_bind (wpAny_setEntries_of ho hd T.fits ?_)
 rw [if_neg (by simp)]
 simp only [Int.toNat_natCast]
 refine wpAny_bind (setNext_noneW ho hd T hb ?_)
 dsimp only
 refine wpAny_bind (wpAny_setField hi hdi (by simp) ?_)
 show wpAny _ _ (newExc (.type "StopIteration") [] >>= _) _ _ _
 refine wpAny_bind ?_
 simp only [newExc,newTuple]
 refine wpAny_bind (wpAny_newObj_type ?_ (by size_fits))
 refine wpAny_bind (m:=firstArgMember _ _) (wpAny_of_eq (a:=Value.none) (by first | rfl | (simp only [firstArgMember];rfl)) ?_)
 refine wpAny_newObj_type ?_ (by size_fits)
 simp only [raiseNew]
 refine wpAny_bind (wpAny_handled ?_)
 rw [show A.in1.handled=none from hh]
 refine wpAny_bind (wpAny_pure (wpAny_throw ?_))
 refine wpAny_bind (wpAny_isInstance (T:="StopIteration") (b:=true) ⟨_,Heap.get?_push_size _ rfl,rfl⟩ isSubtype_stop ?_)
 exact wpAny_pure (hQ _ (((Heap.SameBut.update ..).extBut.push _).push _))
theorem setiter_selfW {i:Nat}{Q:Value->Shared->Prop}(hI:IsSetIter w I a es ep t i s.heap) (h:Q (.ref I) s):wpAny (model prog w) A (pyIter (.ref I)) Q E s:=by
 (refine E2 hI fun oi f=>G4 fun hi hc hdi hb=>?_;try clear hI)
 have hT:s.TypeIs (.ref I) "set_iterator":=⟨oi,hi,hc⟩
 refine wpAny_pyIter_slot hT slot_setiter_iter (wpAny_call_entry slot_setiter_iter hT entry_setiter_iter ?_ (args_setiter_iter _))
 show wpAny _ _ (ret (.ref I)) _ _ s
 exact wpAny_pure ⟨_,rfl,"set_iterator",_,hT,slot_setiter_next.lookup,h⟩
theorem setWalksW (hh:A.handled=none) (hne:a≠I) (hd:o.data = .set es ep t) (T:TabW w es t) :
  Walks prog w A I [I,a] [I] es.size (fun i v=>(setOrd w a ep es)[i]?=some v) (fun i h=>IsSetIter w I a es ep t i h/\h.get? a=some o) where
 sub:=fun b hb=>by simp at hb;simp [hb]
 frame:=fun i h h' st hk=>by
  (refine G2 ?_ st;try clear st;intro zo53 ho;obtain ⟨oi,f,hi,r⟩:=zo53)
  exact ⟨⟨oi,f,hk I (by simp) _ hi,r⟩,hk a (by simp) _ ho⟩
 item:=fun i s Q E hi st hQ=>by
  have hlt:i<(setOrd w a ep es).size:=by rw [setOrd_size];exact hi
  refine setiter_itemW (x:=(setOrd w a ep es)[i]) st.1 st.2 hd T (by simp [hlt]) fun h' hI' hs'=>?_
  exact hQ _ h' s.toks (by simp [hlt]) ⟨hI',hs'.extBut a o hne st.2⟩ fun b o hb e=>hs'.extBut b o (fun h=>hb (by simp [h])) e
 done:=fun s Q E st hQ=>setiter_endW hh st.1 st.2 hd T fun h' he'=>hQ h' s.toks fun b o hb e=>he' b o (fun h=>hb (by simp [h])) e
 self:=fun _ _ _ _ st hQ=>setiter_selfW st.1 hQ
theorem set_iterW {Q:Value->Shared->Prop}(ho:s.heap.get? a=some o) (hc:o.ExactSet) (hd:o.data = .set es ep t) (T:TabW w es t)
  (h:∀ h':Heap,h'.objs.size=s.heap.objs.size+1->(∀ b o,s.heap.get? b=some o->h'.get? b=some o)->IsSetIter w s.heap.objs.size a es ep t 0 h'->Q (.ref s.heap.objs.size) { s with heap:=h' }):wpAny (model prog w) A (pyIter (.ref a)) Q E s:=by
 have hT:s.TypeIs (.ref a) "set":=⟨o,ho,hc.1⟩
 refine wpAny_pyIter_slot hT PySem.F.slot_set_iter (wpAny_call_entry PySem.F.slot_set_iter hT entry_set_iter ?_ (PySem.F.args_set_iter_1 _))
 show wpAny _ _ (Builtin.Frozenset.sizeOf a >>= _) _ _ s
 refine wpAny_bind ?_
 unfold Builtin.Frozenset.sizeOf
 refine wpAny_bind (wpAny_setEntries_of ho hd T.fits (wpAny_pure ?_))
 refine wpAny_bind ?_
 unfold setDrawn
 refine wpAny_bind (wpAny_setState_of ho hd T.fits ?_)
 unfold setsByText
 refine wpAny_bind (wpAny_bind (wpAny_askSetting (wpAny_pure ?_)))
 refine wpAny_pure ?_
 dsimp only
 split
 ·rename_i hdr
  simp only [Bool.and_eq_true] at hdr
  refine absurd (show (!t.plain && decide (es.size > 1))=true from hdr.2) ?_
  rw [T.nodr (by
   have h1:=hdr.1
   cases hb:byText w with
   | false=>rfl
   | true=>exact absurd h1 (by show (!byText w)≠true;rw [hb];decide))]
  decide
 ·refine wpAny_bind (wpAny_pure ?_)
  refine wpAny_bind (wpAny_setEpoch_of ho hd T.fits ?_)
  refine wpAny_bind ?_
  simp only [newFields]
  refine wpAny_newObj_type ?_ (by size_fits)
  refine wpAny_pure ⟨_,rfl,"set_iterator",_,⟨_,Heap.get?_push_size _ rfl,rfl⟩,slot_setiter_next.lookup,?_⟩
  refine h _ (Heap.size_push _ _) (fun b o e=>Heap.get?_push_of_some _ e) ⟨_,0,Heap.get?_push_size _ rfl,rfl,rfl,fun _=>?_⟩
  have:=(below_spec T.ok.rise 0).2.1
  rcases Nat.eq_zero_or_pos (below t.place 0) with c | c
  ·exact c
  ·exact absurd (this 0 c) (Nat.not_lt_zero _)
end
end
section
set_option tactic.hygienic false
example:True:=by
 k_with "x16"=>skip
 k_with "bank"=>((fail_if_success k_extra "x17");(exists b79,b352,b370,b354,b360,b362,b392,b393,b363,b361,b394,b395,b396,b397,b398,b358,b369,b399,b400,b401,b338,b402,b307,b357,b403,b359,b404,b300,b405,b406,b407,b408,b409,b410,b411,b317,b412,b413,b368,b301,b414,b295,b415,b313,b371,b178))
 trivial
open SetTable
structure Stand (t:SetTable) (e:Nat) (p:Probe) (k:Nat):Prop where
 dum:p.dummy=none
 lo:p.i<=t.mask
 ij:p.i<=p.j
 run:p.j+p.more=runEnd t.mask p.i
 zero:k=0->p.j=p.i
 to:(leapN t.mask k (p.i,p.perturb)).1=e
noncomputable def adv (mask:Nat) (p:Probe):Probe :=
 if p.more > 0 then { p with j:=p.j+1,more:=p.more - 1 } else
 { p with j:=(leap mask p.i p.perturb).1,more:=runEnd mask (leap mask p.i p.perturb).1 - (leap mask p.i p.perturb).1,i:=(leap mask p.i p.perturb).1,perturb:=(leap mask p.i p.perturb).2 }
theorem advance_eq (t:SetTable) (p:Probe):t.advance p=adv t.mask p:=rfl
noncomputable def advN (mask:Nat):Nat->Probe->Probe
 | 0,p=>p
 | n+1,p=>advN mask n (adv mask p)
theorem advN_add (mask:Nat):∀ (a b:Nat) (p:Probe),advN mask (a+b) p=advN mask b (advN mask a p)
 | 0,b,p=>by rw [Nat.zero_add];rfl
 | a+1,b,p=>by rw [Nat.succ_add];exact advN_add mask a b (adv mask p)
noncomputable def start0 (mask:Nat) (h:Int):Probe:={ j:=bits h % (mask+1),more:=runEnd mask (bits h % (mask+1)) - bits h % (mask+1),i:=bits h % (mask+1),perturb:=bits h,dummy:=none }
noncomputable def Hit (occ:Nat->Prop) (mask:Nat) (h:Int) (j:Nat):Prop:=∃ n,(advN mask n (start0 mask h)).j=j/\∀ m,m<n->occ (advN mask m (start0 mask h)).j
theorem Hit.mono {occ occ':Nat->Prop}{mask:Nat}{h:Int}{j:Nat}(H:Hit occ mask h j) (k:∀ i,occ i->occ' i):Hit occ' mask h j:=by
 (refine E1 H fun n=>G2 fun h1 h2=>?_;try clear H)
 refine K1 n (M2 h1 (fun m hm=>k _ (h2 m hm)))
theorem Stand.next {t:SetTable}{e:Nat}{p:Probe}{k:Nat}(S:Stand t e p k) (hk:k≠0):∃ k',Stand t e (adv t.mask p) k'/\10 * k'+(adv t.mask p).more<10 * k+p.more:=by
 unfold adv
 by_cases hm:p.more > 0
 ·rw [if_pos hm]
  refine K1 k (M2 ⟨S.dum,S.lo,by show p.i<=p.j+1;have:=S.ij;omega,by show p.j+1+(p.more - 1)=runEnd t.mask p.i;have:=S.run;omega,fun e0=>absurd e0 hk,S.to⟩ (by show 10 * k+(p.more - 1)<10 * k+p.more;omega))
 ·rw [if_neg hm]
  obtain ⟨k',rfl⟩:∃ k',k=k'+1:=⟨k - 1,by omega⟩
  have hl:=leap_lt t.mask p.i p.perturb
  have hre2:=runEnd_le hl
  refine K1 k' (M2 ⟨S.dum,hl,Nat.le_refl _,?_,fun _=>rfl,S.to⟩ ?_)
  ·show (leap t.mask p.i p.perturb).1+(runEnd t.mask (leap t.mask p.i p.perturb).1 - (leap t.mask p.i p.perturb).1)=runEnd t.mask (leap t.mask p.i p.perturb).1
   omega
  ·show 10 * k'+(runEnd t.mask (leap t.mask p.i p.perturb).1 - (leap t.mask p.i p.perturb).1)<10 * (k'+1)+p.more
   omega
theorem probe_met {t:SetTable}{n:Nat}(T:TabOk t n) {hashAt:Nat->Int}{h:Int}{e:Nat}(he:NotIn t e) :
  ∀ (fuel:Nat) (p:Probe) (k:Nat),Stand t e p k->10 * k+p.more<fuel ->
   ∃ q,(∀ m,m<q->∃ i,t.place[i]?=some (advN t.mask m p).j/\(hashAt i == h)=false) /\
    ((probe.go t hashAt h fuel p=some (.empty (advN t.mask q p).j none)/\NotIn t (advN t.mask q p).j/\(advN t.mask q p).j<=t.mask) ∨
    ∃ (i k':Nat),probe.go t hashAt h fuel p=some (.candidate (advN t.mask q p).j i (advN t.mask (q+1) p))/\t.place[i]?=some (advN t.mask q p).j/\(hashAt i == h)=true/\Stand t e (advN t.mask (q+1) p) k'/\10 * k'+(advN t.mask (q+1) p).more<10 * k+p.more)
 | 0,p,k,_,hf=>by omega
 | fuel+1,p,k,S,hf=>by
  have hre:=runEnd_le S.lo
  have hjm:p.j<=t.mask:=by have:=S.run;omega
  unfold probe.go
  rcases in_or (t:=t) p.j with hin | ⟨i,hin⟩
  ·rw [slot_empty T hin]
   dsimp only
   rw [S.dum]
   refine K1 0 (M2 (fun m hm=>absurd hm (Nat.not_lt_zero _)) (.inl ⟨rfl,hin,hjm⟩))
  ·rw [slot_live T hin]
   dsimp only
   have hk0:k≠0:=fun e0=>by
    subst e0
    have:p.j=e:=(S.zero rfl).trans S.to
    exact he i (this ▸ hin)
   (refine E1 (S.next hk0) fun k'=>G2 fun S' hm=>?_)
   rw [advance_eq]
   cases hh:hashAt i == h with
   | true =>
    simp only [if_true]
    refine K1 0 (M2 (fun m hm=>absurd hm (Nat.not_lt_zero _)) (.inr ⟨i,k',rfl,hin,hh,S',hm⟩))
   | false =>
    simp only [Bool.false_eq_true,if_false]
    obtain ⟨q,hq,h1⟩:=probe_met T he fuel _ k' S' (by omega)
    refine K1 (q+1) (M2 (fun m hm'=>?_) ?_)
    ·cases m with
     | zero=>refine K1 i (M2 hin hh)
     | succ m=>exact hq m (by omega)
    ·rcases h1 with h1 | ⟨i',k'',h1,h2,h3,h4,h5⟩
     ·exact .inl h1
     ·exact .inr ⟨i',k'',h1,h2,h3,h4,Nat.lt_trans h5 hm⟩
theorem stand_start {t:SetTable}{n:Nat}(T:TabOk t n) (h:Int):∃ e k,NotIn t e/\Stand t e (start0 t.mask h) k/\10 * k+(start0 t.mask h).more<10 * turns t.mask:=by
 (refine E1 T.room fun e=>G2 fun he1 he2=>?_)
 have hs:=start_ok t h
 (refine E1 (leaps_reach T.kinds hs (bits_lt h) he1) fun k=>G2 fun k1 k2=>?_)
 have hre:=runEnd_le hs
 refine K2 e k (M3 he2 ⟨rfl,hs,Nat.le_refl _,?_,fun _=>rfl,k2⟩ ?_)
 ·show bits h % (t.mask+1)+(runEnd t.mask (bits h % (t.mask+1)) - bits h % (t.mask+1))=runEnd t.mask (bits h % (t.mask+1))
  omega
 ·show 10 * k+(runEnd t.mask (bits h % (t.mask+1)) - bits h % (t.mask+1))<10 * turns t.mask
  unfold turns
  omega
theorem advN_block (mask:Nat):∀ (q:Nat) (p:Probe),q<=p.more->advN mask q p = { p with j:=p.j+q,more:=p.more - q }
 | 0,p,_=>rfl
 | q+1,p,h=>by
  have e:adv mask p = { p with j:=p.j+1,more:=p.more - 1 }:=by unfold adv;rw [if_pos (by omega)]
  show advN mask q (adv mask p)=_
  rw [e,advN_block mask q _ (by show q<=p.more - 1;omega)]
  show ({ p with j:=p.j+1+q,more:=p.more - 1 - q } : Probe)=_
  congr 1 <;> omega
theorem free_hit {mask:Nat}{ow:Own}{kk:Nat}(O:OwnOk mask ow kk):∀ (fuel i p j:Nat),i<=mask->layClean.free mask ow fuel i p=some j ->
  ∃ n,(advN mask n { j:=i,more:=runEnd mask i - i,i:=i,perturb:=p,dummy:=none }).j=j/\∀ m,m<n->ow.getD (advN mask m { j:=i,more:=runEnd mask i - i,i:=i,perturb:=p,dummy:=none }).j none≠none
 | 0,i,p,j,_,h=>by unfold layClean.free at h;cases h
 | fuel+1,i,p,j,hi,h=>by
  have hre:=runEnd_le hi
  have blk:∀ q,q<=runEnd mask i - i->(advN mask q { j:=i,more:=runEnd mask i - i,i:=i,perturb:=p,dummy:=none }).j=i+q:=fun q hq=>by
   rw [advN_block mask q _ hq]
  unfold layClean.free at h
  cases hx:(List.range (runEnd mask i+1 - i)).find? fun k=>(ow.getD (i+k) (some 0)).isNone with
  | some q =>
   rw [hx] at h
   dsimp only at h
   cases h
   have h2:=List.mem_range.mp (List.mem_of_find?_eq_some hx)
   refine K1 q (M2 (blk q (by omega)) (fun m hm=>?_))
   rw [blk m (by omega)]
   rw [List.find?_eq_some_iff_getElem] at hx
   obtain ⟨_,i',hi',e1,e2⟩:=hx
   have e3:i'=q:=by simpa using e1
   subst e3
   have h5:=e2 m hm
   simp only [List.getElem_range] at h5
   rw [own_in O (by omega)] at h5
   intro h6
   rw [h6] at h5
   simp at h5
  | none =>
   rw [hx] at h
   dsimp only at h
   (refine E1 (free_hit O fuel _ _ j (leap_lt mask i p) h) fun n=>G2 fun h1 h2=>?_)
   have hall:∀ q,q<=runEnd mask i - i->ow.getD (i+q) none≠none:=fun q hq h6=>by
    have h5:=List.find?_eq_none.mp hx q (List.mem_range.mpr (by omega))
    rw [own_in O (by omega),h6] at h5
    simp at h5
   have step:advN mask (runEnd mask i - i+1) { j:=i,more:=runEnd mask i - i,i:=i,perturb:=p,dummy:=none } = { j:=(leap mask i p).1,more:=runEnd mask (leap mask i p).1 - (leap mask i p).1,i:=(leap mask i p).1,perturb:=(leap mask i p).2,dummy:=none }:=by
    rw [advN_add,advN_block mask (runEnd mask i - i) _ (Nat.le_refl _)]
    show adv mask _=_
    unfold adv
    rw [if_neg (by show ¬ (runEnd mask i - i - (runEnd mask i - i) > 0);omega)]
   refine K1 (runEnd mask i - i+1+n) (M2 (by rw [advN_add,step];exact h1) (fun m hm=>?_))
   by_cases e:m<=runEnd mask i - i
   ·rw [blk m e];exact hall m e
   ·obtain ⟨m',rfl⟩:∃ m',m=runEnd mask i - i+1+m':=⟨m - (runEnd mask i - i+1),by omega⟩
    rw [advN_add,step]
    exact h2 m' (by omega)
noncomputable abbrev occO (ow:Own):Nat->Prop:=fun j=>ow.getD j none≠none
theorem lay_fold2 {mask:Nat}(hm:mask=7∨mask=31∨mask=127) (all:List Int):∀ (hs:List Int) (ow:Own) (k:Nat),OwnOk mask ow k->k+hs.length<=mask->all.drop k=hs ->
  (∀ j c,ow.getD j none=some c->∃ h,all[c]?=some h/\Hit (occO ow) mask h j) ->
  ∃ ow',hs.foldl (fun acc h=>(do
   let (owner,k) ← acc
   let j ← layClean.free mask owner (turns mask) (bits h % (mask+1)) (bits h)
   pure (owner.setIfInBounds j (some k),k+1):Option (Own × Nat))) (some (ow,k))=some (ow',k+hs.length)/\OwnOk mask ow' (k+hs.length)/\∀ j c,ow'.getD j none=some c->∃ h,all[c]?=some h/\Hit (occO ow') mask h j
 | [],ow,k,O,_,_,P=>⟨ow,rfl,O,P⟩
 | h::hs,ow,k,O,hz,hd,P=>by
  rw [List.length_cons] at hz
  (refine E1 (O.room (by omega)) fun e=>G2 fun he1 he2=>?_)
  have hi:bits h % (mask+1)<=mask:=Nat.le_of_lt_succ (Nat.mod_lt _ (Nat.succ_pos _))
  (refine E1 (leaps_reach hm hi (bits_lt h) he1) fun m=>G2 fun m1 m2=>?_)
  (refine E1 (free_ok O he2 he1 (turns mask) _ _ m hi m2 (by unfold turns;omega)) fun j=>G3 fun j1 j2 j3=>?_)
  have hsz:j<ow.size:=by rw [O.size];omega
  have hk:all[k]?=some h:=by
   have:=congrArg List.head? hd
   rw [List.head?_drop] at this
   exact this
  have occ:∀ i,occO ow i->occO (ow.setIfInBounds j (some k)) i:=fun i h1=>by
   show (ow.setIfInBounds j (some k)).getD i none≠none
   rw [getD_setOwn hsz]
   split
   ·exact fun q=>by cases q
   ·exact h1
  (refine E1 (free_hit O _ _ _ _ hi j1) fun n=>G2 fun n1 n2=>?_)
  obtain ⟨ow',(h1),h2,h3⟩:=lay_fold2 hm all hs _ _ (own_set O j2 j3) (by omega) (by rw [← List.drop_drop,hd];rfl) fun i c hc=>by
   rw [getD_setOwn hsz] at hc
   split at hc
   ·rename_i e1
    cases hc
    rw [e1]
    refine K1 h (M2 hk ((show Hit (occO ow) mask h j from ⟨n,n1,n2⟩).mono occ))
   ·(refine E1 (P i c hc) fun h'=>G2 fun a1 a2=>?_)
    refine K1 h' (M2 a1 (a2.mono occ))
  refine K1 ow' (M3 ?_ (by rw [List.length_cons,show k+(hs.length+1)=k+1+hs.length by omega];exact h2) h3)
  rw [List.foldl_cons,List.length_cons,show k+(hs.length+1)=k+1+hs.length by omega]
  rw [← h1]
  congr 1
  show (some (ow,k) >>= fun x=>_)=_
  simp only [Option.bind_eq_bind,Option.bind_some]
  rw [j1]
  rfl
noncomputable def TabR (t:SetTable) (es:Array (Int × Value)):Prop:=∀ (i j:Nat) e,t.place[i]?=some j->es[i]?=some e->Hit (fun j'=>¬ NotIn t j') t.mask e.1 j
theorem getElem_insertAt {α:Type}{xs:Array α}{p:Nat}{x:α}(hp:p<=xs.size) (i:Nat):(insertAt xs p x)[i]?=if i<p then xs[i]? else if i=p then some x else xs[i - 1]?:=by
 have e:(insertAt xs p x).toList=xs.toList.take p++x::xs.toList.drop p:=by
  unfold insertAt
  simp [List.take_of_length_le]
 rw [← Array.getElem?_toList,e]
 have hl:(xs.toList.take p).length=p:=by simp;omega
 rw [List.getElem?_append]
 by_cases h1:i<p
 ·rw [if_pos (by omega),if_pos h1,List.getElem?_take,if_pos h1,Array.getElem?_toList]
 ·rw [if_neg (by omega),if_neg h1,hl]
  by_cases h2:i=p
  ·rw [if_pos h2,h2,Nat.sub_self];rfl
  ·rw [if_neg h2]
   obtain ⟨d,hd⟩:∃ d,i - p=d+1:=⟨i - p - 1,by omega⟩
   rw [hd,List.getElem?_cons_succ,List.getElem?_drop,Array.getElem?_toList]
   congr 1
   omega
theorem put_R {t:SetTable}{n j:Nat}{es:Array (Int × Value)}{h:Int}{x:Value}(T:TabOk t n) (hn:es.size=n) (R:TabR t es) (hj:Hit (fun j'=>¬ NotIn t j') t.mask h j) :
  TabR (t.put j).1 (insertAt es (below t.place j) (h,x)):=by
 have hb:below t.place j<=t.place.size:=(below_spec T.rise j).1
 have hb2:below t.place j<=es.size:=by have:=T.size;omega
 have hpl:(t.put j).1.place=insertAt t.place (below t.place j) j:=rfl
 have occ:∀ i,¬ NotIn t i->¬ NotIn (t.put j).1 i:=fun i h1 h2=>h1 fun q hq=>by
  by_cases e:q<below t.place j
  ·refine h2 q ?_
   rw [hpl,getElem_insertAt hb,if_pos e];exact hq
  ·refine h2 (q+1) ?_
   rw [hpl,getElem_insertAt hb,if_neg (by omega),if_neg (by omega)];exact hq
 intro i j' e hp he
 rw [hpl,getElem_insertAt hb] at hp
 rw [getElem_insertAt hb2] at he
 show Hit _ t.mask _ _
 by_cases e1:i<below t.place j
 ·rw [if_pos e1] at hp he
  exact (R i j' e hp he).mono occ
 ·rw [if_neg e1] at hp he
  by_cases e2:i=below t.place j
  ·rw [if_pos e2] at hp he
   cases hp;cases he
   exact hj.mono occ
  ·rw [if_neg e2] at hp he
   exact (R _ j' e hp he).mono occ

theorem layClean_R {mask:Nat}(hm:mask=7∨mask=31∨mask=127) (hs:Array Int) (hz:hs.size<=mask):∃ ow,layClean mask hs=some ow/\OwnOk mask ow hs.size/\∀ j c,ow.getD j none=some c->∃ h,hs.toList[c]?=some h/\Hit (occO ow) mask h j:=by
 (refine E1 (lay_fold2 hm hs.toList hs.toList _ 0 (own_new mask) (by rw [Array.length_toList];omega) rfl (fun j c hc=>by
  have:(Array.replicate (mask+1) (none:Option Nat)).getD j none=none:=by
   rw [Array.getD_eq_getD_getElem?,Array.getElem?_replicate]
   split <;> rfl
  rw [this] at hc;cases hc)) fun ow=>G3 fun h1 h2 h3=>?_)
 rw [Nat.zero_add,Array.length_toList] at h1 h2
 refine K1 ow (M3 ?_ h2 h3)
 unfold layClean
 rw [← Array.foldl_toList,h1];rfl
theorem laid_R {mask:Nat}(hm:mask=7∨mask=31∨mask=127) (hs:Array Int) (hz:hs.size<=mask) (fi mv:Nat) (led plain:Bool) :
  ∃ t order,laid mask fi mv led plain hs=some (t,order)/\TabOk t hs.size/\t.mask=mask/\t.led=led/\t.plain=plain/\order.toList.Perm (List.range hs.size) /\
   ∀ (i j c:Nat),t.place[i]?=some j->order[i]?=some c->∃ h,hs.toList[c]?=some h/\Hit (fun j'=>¬ NotIn t j') mask h j:=by
 (refine E2 (laid_ok hm hs hz fi mv led plain) fun t order=>G6 fun l1 l2 l3 l4 l5 l6=>?_)
 (refine E1 (layClean_R hm hs hz) fun ow=>G3 fun h1 O P=>?_)
 have e:laid mask fi mv led plain hs=some ({ mask,place:=((liveOf mask ow).map (·.1)).toArray,dummies:=#[],finger:=fi,led,moves:=mv,plain },((liveOf mask ow).map (·.2)).toArray):=by
  unfold laid
  rw [h1]
  rfl
 rw [e] at l1
 have l1:=Option.some.inj l1
 have e1:t.place=((liveOf mask ow).map (·.1)).toArray:=(congrArg (fun x=>x.1.place) l1).symm
 have e2:order=((liveOf mask ow).map (·.2)).toArray:=(congrArg (fun x=>x.2) l1).symm
 refine K2 t order (M7 (by rw [e,l1]) l2 l3 l4 l5 l6 (fun i j c hp ho=>?_))
 rw [e1,List.getElem?_toArray,List.getElem?_map] at hp
 rw [e2,List.getElem?_toArray,List.getElem?_map] at ho
 (refine E1 (Option.map_eq_some_iff.mp hp) fun x=>G2 fun hx hx1=>?_)
 (refine E1 (Option.map_eq_some_iff.mp ho) fun y=>G2 fun hy hy1=>?_)
 rw [hx] at hy
 cases hy
 have hm1:=(mem_live O x.1 x.2).mp (List.mem_of_getElem? hx)
 rw [hx1,hy1] at hm1
 (refine E1 (P j c hm1) fun h=>G2 fun a1 a2=>?_)
 refine K1 h (M2 a1 (a2.mono fun i' hi' hn=>?_))
 cases hc:ow.getD i' none with
 | none=>exact hi' hc
 | some c' =>
  obtain ⟨k,hk,ek⟩:=List.getElem_of_mem ((mem_live O i' c').mpr hc)
  refine hn k ?_
  rw [e1,List.getElem?_toArray,List.getElem?_map,List.getElem?_eq_getElem hk,ek];rfl
theorem filterMap_at {α:Type}{f:Nat->Option α} : ∀ {l:List Nat},(∀ c∈l,∃ e,f c=some e)->∀ (i c:Nat),l[i]?=some c->(l.filterMap f)[i]?=f c
 | [],_,i,c,h=>by simp at h
 | d::l,hall,i,c,h=>by
  (refine E1 (hall d (.head _)) fun e he=>?_)
  rw [List.filterMap_cons_some he]
  cases i with
  | zero=>simp at h;rw [List.getElem?_cons_zero,← h,he]
  | succ i =>
   rw [List.getElem?_cons_succ] at h ⊢
   exact filterMap_at (fun c hc=>hall c (.tail _ hc)) i c h
theorem relay_R {t:SetTable}{n:Nat}{es:Array (Int × Value)}(T:TabOk t n) (hn:es.size=n) (hc:(t.mask=7/\n=5)∨(t.mask=31/\n=19)) :
  ∃ es' t',relaid t (es.map (·.1)) (grown es.size)=some (t',es')/\sizeAbove (grown es.size)<=sizeLine/\(es'.filterMap (es[·]?)).size=es.size/\(es'.filterMap (es[·]?)).toList.Perm es.toList/\TabOk t' n/\Calm t' n/\t'.led=t.led/\t'.plain=t.plain/\TabR t' (es'.filterMap (es[·]?)):=by
 obtain ⟨m',hm',hs',hz⟩:∃ m',(m'=7∨m'=31∨m'=127)/\sizeAbove (grown es.size) - 1=m'/\n<=m'/\((m'=31/\n=5)∨(m'=127/\n=19)):=by
  rcases hc with ⟨_,e⟩ | ⟨_,e⟩
  ·refine K1 31 (M4 (.inr (.inl rfl)) (by rw [hn,e];decide) (by omega) (.inl ⟨rfl,e⟩))
  ·refine K1 127 (M4 (.inr (.inr rfl)) (by rw [hn,e];decide) (by omega) (.inr ⟨rfl,e⟩))
 have hsz:(es.map (·.1)).size=n:=by rw [Array.size_map];exact hn
 (refine E2 (laid_R hm' (es.map (·.1)) (by omega) t.finger (t.movedTo m') t.led t.plain) fun t' order=>G7 fun h1 h2 h3 h4 h5 h6 h7=>?_)
 rw [hsz] at h2 h6
 have hes:(order.filterMap (es[·]?)).toList.Perm es.toList:=by
  rw [Array.toList_filterMap]
  exact (h6.filterMap _).trans (by rw [← hn,filterMap_getElem?_range])
 have hsz2:(order.filterMap (es[·]?)).size=es.size:=by rw [← Array.length_toList,hes.length_eq,Array.length_toList]
 refine K2 order t' (M9 ?_ ?_ hsz2 hes h2 ?_ h4 h5 (fun i j e hp he=>?_))
 ·unfold relaid
  rw [hs',h1]
 ·have:sizeAbove (grown es.size)<=128:=by omega
  rw [sizeLine_eq];omega
 ·unfold Calm
  rw [h3]
  rcases hz.2 with h | h <;> omega
 ·have hall:∀ c∈order.toList,∃ e,es[c]?=some e:=fun c hc=>by
   have:=List.mem_range.mp (h6.mem_iff.mp hc)
   exact ⟨es[c],by rw [Array.getElem?_eq_getElem]⟩
  have hi:i<order.size:=by
   have h8:=(Array.getElem?_eq_some_iff.mp he).1
   have h9:=h6.length_eq
   rw [Array.length_toList,List.length_range] at h9
   omega
  have ho:order[i]?=some order[i]:=Array.getElem?_eq_getElem hi
  (refine E1 (h7 i j order[i] hp ho) fun h=>G2 fun a1 a2=>?_)
  rw [← Array.getElem?_toList,Array.toList_filterMap,filterMap_at hall i order[i] (by rw [Array.getElem?_toList];exact ho)] at he
  rw [Array.toList_map,List.getElem?_map,Array.getElem?_toList,he] at a1
  cases a1
  rw [h3]
  exact a2
end
section
set_option tactic.hygienic false
example:True:=by
 k_with "x17"=>skip
 k_with "bank"=>((fail_if_success k_extra "x18");(exists b416,b417,b418,b183,b368,b373,b419,b393,b420,b374,b421,b422,b423,b375,b379,b424,b380))
 trivial
open SetTable
inductive EsAre (prog:Program) (w:World) (h:Heap):List (Int × Value)->List (List Mix)->Prop
 | nil:EsAre prog w h [] []
 | cons {k:List Mix}{a:Addr}{es:List (Int × Value)}{ks:List (List Mix)} : (tupK prog w).is h k a->EsAre prog w h es ks->EsAre prog w h (((tupK prog w).hash k,.ref a)::es) (k::ks)
structure TabFineH (w:World) (es:Array (Int × Value)) (t:SetTable):Prop where
 ok:TabOk t es.size
 calm:Calm t es.size
 led:t.led = !byText w
 fits:t.fits es.size=true
 reach:TabR t es
theorem EsAre.length {prog:Program}{w:World}{h:Heap}{es:List (Int × Value)}{ks:List (List Mix)}(H:EsAre prog w h es ks):es.length=ks.length:=by
 induction H with
 | nil=>rfl
 | cons _ _ ih=>simp [ih]
theorem EsAre.at_ {prog:Program}{w:World}{h:Heap}{es:List (Int × Value)}{ks:List (List Mix)}(H:EsAre prog w h es ks):∀ {i:Nat},i<es.length->∃ k a,es[i]?=some ((tupK prog w).hash k,.ref a)/\ks[i]?=some k/\(tupK prog w).is h k a:=by
 induction H with
 | nil=>intro i hi;exact absurd hi (Nat.not_lt_zero _)
 | @cons k a es ks hk r ih =>
  intro i hi
  cases i with
  | zero=>refine K2 k a (M3 rfl rfl hk)
  | succ i =>
   rw [List.length_cons] at hi
   (refine E2 (ih (i:=i) (by omega)) fun k' a'=>G3 fun h1 h2 h3=>?_)
   refine K2 k' a' (M3 (by rw [List.getElem?_cons_succ];exact h1) (by rw [List.getElem?_cons_succ];exact h2) h3)
theorem EsAre.mem {prog:Program}{w:World}{h:Heap}{es:List (Int × Value)}{ks:List (List Mix)}(H:EsAre prog w h es ks) {k:List Mix}(hk:k∈ks):∃ (i:Nat) (a:Addr),es[i]?=some ((tupK prog w).hash k,.ref a)/\(tupK prog w).is h k a:=by
 obtain ⟨i,hi,e⟩:=List.getElem_of_mem hk
 (refine E2 (H.at_ (i:=i) (by rw [H.length];exact hi)) fun k' a'=>G3 fun h1 h2 h3=>?_)
 rw [List.getElem?_eq_getElem hi,e] at h2
 cases h2
 refine K2 i a' (M2 h1 h3)
section
variable {prog:Program}{w:World}{A:Around}{E:Value->Shared->Prop}{s:Shared}
theorem class_no_item (n:Nat) {v:Value}(h:carriedByValue v=true):ofAClassStatement n v=pure false:=by
 cases v with
 | ref _=>cases h
 | _=>cases n <;> first | rfl | simp [ofAClassStatement] | (unfold ofAClassStatement;rfl)
theorem class_no {k:List Mix}{a:Addr}{Q:Bool->Shared->Prop}(hk:(tupK prog w).is s.heap k a) (h:Q false s):wpAny (model prog w) A (ofAClassStatement 8 (.ref a)) Q E s:=by
 have hk':IsTupleKey (mixKind prog w) s.heap k a:=hk
 have hT:=hk'.typeIs
 (refine E3 hk' fun o items n=>G4 fun ho _ hd hi=>?_;try clear hk')
 unfold ofAClassStatement
 refine wpAny_bind (wpAny_typeOf hT ?_)
 dsimp only
 rw [if_pos (by decide)]
 refine wpAny_bind (wpAny_pure ?_)
 simp only [Bool.not_true,Bool.false_eq_true,if_false]
 refine wpAny_bind (wpAny_seqItems ho hd ?_)
 dsimp only
 refine wpAny_bind ?_
 show wpAny _ _ (forIn items _ _) _ _ s
 rw [← Array.forIn_toList]
 refine wpAny_forIn_list _ (fun rest r s'=>r.1=none/\s'=s/\∀ v∈rest,carriedByValue v=true) _ ?_ ?_ _ _ ⟨rfl,rfl,hi.byValue⟩
 ·(intro v rest r s' zr4;(refine G3 ?_ zr4;try clear zr4;intro hr zo54 hall;rcases zo54 with rfl))
  rw [class_no_item _ (hall v List.mem_cons_self)]
  refine wpAny_bind (wpAny_pure ?_)
  simp only [Bool.false_eq_true,if_false]
  exact wpAny_pure ⟨rfl,rfl,fun u hu'=>hall u (List.mem_cons_of_mem _ hu')⟩
 ·(intro zr0 s' zr2;obtain ⟨r1,r2⟩:=zr0;(refine G3 ?_ zr2;try clear zr2;intro hr zo55 _;rcases zo55 with rfl))
  simp only at hr
  subst hr
  exact wpAny_pure h
theorem seen_no {k:List Mix}{x:Addr}{l:List Value}{Q:Bool->Shared->Prop}(hx:(tupK prog w).is s.heap k x) (hl:∀ y∈l,∃ k' a,y = .ref a/\(tupK prog w).is s.heap k' a) (h:Q false s):wpAny (model prog w) A (searchCouldBeSeen (.ref x) l) Q E s:=by
 unfold searchCouldBeSeen
 refine wpAny_bind ?_
 refine wpAny_forIn_list _ (fun rest r s'=>r.1=none/\s'=s/\∀ y∈rest,∃ k' a,y = .ref a/\(tupK prog w).is s.heap k' a) _ ?_ ?_ _ _ ⟨rfl,rfl,hl⟩
 ·(intro v rest r s' zr4;(refine G3 ?_ zr4;try clear zr4;intro hr zo56 hall;rcases zo56 with rfl))
  (refine E2 (hall v List.mem_cons_self) fun k' a=>G2 fun zo57 ha=>?_;rcases zo57 with rfl)
  have rest':∀ y∈rest,∃ k' a,y = .ref a/\(tupK prog w).is s'.heap k' a:=fun u hu'=>hall u (List.mem_cons_of_mem _ hu')
  dsimp only
  split
  ·exact wpAny_pure ⟨rfl,rfl,rest'⟩
  ·refine wpAny_bind ((tupK prog w).quiet hx ?_)
   simp only [Bool.not_true,Bool.false_eq_true,if_false]
   refine wpAny_bind ((tupK prog w).quiet ha ?_)
   simp only [Bool.not_true,Bool.false_eq_true,if_false]
   refine wpAny_bind (class_no hx ?_)
   simp only [Bool.false_eq_true,if_false]
   refine wpAny_bind (class_no ha ?_)
   simp only [Bool.false_eq_true,if_false]
   exact wpAny_pure ⟨rfl,rfl,rest'⟩
 ·(intro zr0 s' zr2;obtain ⟨r1,r2⟩:=zr0;(refine G3 ?_ zr2;try clear zr2;intro hr zo58 _;rcases zo58 with rfl))
  simp only at hr
  subst hr
  exact wpAny_pure h
theorem place_inj {t:SetTable}{n:Nat}(T:TabOk t n) {i i' j:Nat}(h:t.place[i]?=some j) (h':t.place[i']?=some j):i=i':=(below_at T.rise h).symm.trans (below_at T.rise h')
theorem led_if {c:Bool}{S:Sem Bool}{U R:Sem SetFound}{M:Model}{Q:SetFound->Shared->Prop}(hs:∀ P:Bool->Shared->Prop,P false s->wpAny M A S P E s) (hr:wpAny M A R Q E s) :
  wpAny M A (if (!c)=true then S >>= fun r=>if r=true then U else R else R) Q E s:=by
 cases c
 ·exact wpAny_bind (hs _ hr)
 ·exact hr
theorem if_no {α:Type}{c:Bool}{L R:Sem α}{M:Model}{Q:α->Shared->Prop}(hc:c=false) (hr:wpAny M A R Q E s):wpAny M A (if c=true then L else R) Q E s:=by
 subst hc;exact hr
section
variable {a x:Addr}{o:Obj}{es:Array (Int × Value)}{ep:Nat}{t:SetTable}{Q:SetFound->Shared->Prop}{hh:Int}{fuel:Nat}{st:Option Probe}
theorem search_free {j:Nat}(ho:s.heap.get? a=some o) (hd:o.data = .set es ep t) (hfit:t.fits es.size=true) (hgw:t.gaveWay=false) (hg:t.probe (fun i=>(es[i]?.map (·.1)).getD 0) hh (st.getD (t.probeStart hh))=some (.empty j none))
  (h:Q (.free j false) s):wpAny (model prog w) A (setSearchFrom a (.ref x) hh true (fuel+1) st) Q E s:=by
 rw [setSearchFrom.eq_2]
 refine wpAny_bind (wpAny_setState_of ho hd hfit ?_)
 dsimp only
 refine if_no hgw ?_
 erw [hg]
 exact wpAny_pure h
theorem search_cand {j i:Nat}{next:Probe}{a':Addr}{h':Int}{b:Bool}(ho:s.heap.get? a=some o) (hd:o.data = .set es ep t) (hfit:t.fits es.size=true) (hgw:t.gaveWay=false) (hg:t.probe (fun i=>(es[i]?.map (·.1)).getD 0) hh (st.getD (t.probeStart hh))=some (.candidate j i next))
  (hs:∀ P:Bool->Shared->Prop,P false s->wpAny (model prog w) A (searchCouldBeSeen (.ref x) ((es.filter (·.1 == hh)).toList.map (·.2))) P E s)
  (d1:es[i]?=some (h',.ref a')) (heq:∀ P:Bool->Shared->Prop,P b s->wpAny (model prog w) A (eqBool (.ref a') (.ref x)) P E s) (hsl:t.slot j = .live i)
  (h1:b=true->Q (.there Option.none) s) (h2:b=false->wpAny (model prog w) A (setSearchFrom a (.ref x) hh true fuel (some next)) Q E s):wpAny (model prog w) A (setSearchFrom a (.ref x) hh true (fuel+1) st) Q E s:=by
 rw [setSearchFrom.eq_2]
 refine wpAny_bind (wpAny_setState_of ho hd hfit ?_)
 dsimp only
 refine if_no hgw ?_
 erw [hg]
 dsimp only
 refine led_if hs ?_
 rw [d1]
 dsimp only
 refine wpAny_bind (wpAny_holding (heq _ ?_))
 refine wpAny_bind (wpAny_setState_of ho hd hfit ?_)
 dsimp only
 cases b
 ·refine if_no (Bool.and_false _) ?_
  rw [show t.sameMemory t.moves t.mask=some true by unfold SetTable.sameMemory;rw [if_pos (by simp)]]
  dsimp only
  rw [if_pos rfl,hsl]
  dsimp only
  rw [d1]
  dsimp only
  rw [show isSame (.ref a') (.ref a')=(pure true:Sem Bool) by unfold isSame;dsimp only;rw [if_pos (by simp)]]
  refine wpAny_bind (wpAny_bind (wpAny_pure (wpAny_pure ?_)))
  refine wpAny_bind (wpAny_pure ?_)
  exact h2 rfl
 ·exact wpAny_pure (h1 rfl)
end
theorem search_go {a x:Addr}{k:List Mix}{o:Obj}{es:Array (Int × Value)}{ep:Nat}{t:SetTable}{Q:SetFound->Shared->Prop}{e:Nat}{hh:Int}{ad:Nat->Probe}{B:Nat->Prop}{key:Prop}(he:NotIn t e)
  (ho:s.heap.get? a=some o) (hd:o.data = .set es ep t) (T:TabOk t es.size) (hfit:t.fits es.size=true) (hu:A.units<cLine) (hx:(tupK prog w).is s.heap k x)
  (hE:∀ i,i<es.size->∃ (h':Int) (k':List Mix) (a':Addr),es[i]?=some (h',Value.ref a')/\(tupK prog w).is s.heap k' a'/\(k'=k->key))
  (pos:∀ m q,advN t.mask q (ad m)=ad (m+q)) (hB:∀ n,B n->∃ (i0:Nat) (a0:Addr),es[i0]?=some (hh,Value.ref a0)/\(tupK prog w).is s.heap k a0/\t.place[i0]?=some (ad n).j)
  (h1:key->Q (.there Option.none) s) (h2:∀ n,NotIn t (ad n).j->(ad n).j<=t.mask->(∀ m',m'<n->¬ NotIn t (ad m').j)->(∀ n0,B n0->n<=n0)->Q (.free (ad n).j false) s) (fuel:Nat) :
  ∀ (m kk:Nat) (st:Option Probe),st.getD (t.probeStart hh)=ad m->Stand t e (ad m) kk->10 * kk+(ad m).more<10 * turns t.mask->10 * kk+(ad m).more<fuel ->
   (∀ m',m'<m->¬ NotIn t (ad m').j)->(∀ n0,B n0->m<=n0)->wpAny (model prog w) A (setSearchFrom a (.ref x) hh true fuel st) Q E s:=by
 have hgw:t.gaveWay=false:=by
  unfold SetTable.gaveWay
  rcases T.kinds with e | e | e <;> rw [e] <;> rfl
 have quiet:∀ P:Bool->Shared->Prop,P false s->wpAny (model prog w) A (searchCouldBeSeen (.ref x) ((es.filter (·.1 == hh)).toList.map (·.2))) P E s:=fun P hP=>seen_no hx (fun y hy=>by
  (refine E1 (List.mem_map.mp hy) fun z=>G2 fun hz zo59=>?_;rcases zo59 with rfl)
  rw [Array.toList_filter] at hz
  obtain ⟨iz,hiz,ez⟩:=List.getElem_of_mem (List.mem_filter.mp hz).1
  (refine E3 (hE iz (by rw [← Array.length_toList];exact hiz)) fun h2 k2 a2=>G3 fun f1 f3 _=>?_)
  rw [← Array.getElem?_toList,List.getElem?_eq_getElem hiz,ez] at f1
  cases f1
  refine K2 k2 a2 (M2 rfl f3)) hP
 induction fuel with
 | zero=>intro m kk st _ _ _ hf;exact absurd hf (Nat.not_lt_zero _)
 | succ fuel ih =>
  intro m kk st est S hm hf occ before
  have hat:∀ (i:Nat) (y:Int × Value),es[i]?=some y->((fun i:Nat=>(es[i]?.map (·.1)).getD 0) i == hh)=(y.1 == hh):=fun i y hy=>by
   show ((es[i]?.map (·.1)).getD 0 == _)=_
   rw [hy];rfl
  (refine E1 (probe_met (hashAt:=fun i=>(es[i]?.map (·.1)).getD 0) (h:=hh) T he (10 * turns t.mask) _ kk S hm) fun q=>G2 fun hq hr=>?_)
  simp only [pos] at hq hr
  have occ2:∀ m',m'<m+q->¬ NotIn t (ad m').j:=fun m' hm'=>by
   by_cases e1:m'<m
   ·exact occ m' e1
   ·(refine E1 (hq (m' - m) (by omega)) fun i=>G2 fun hi _=>?_)
    rw [show m+(m' - m)=m' by omega] at hi
    exact fun hn=>hn i hi
  have late:∀ n0,B n0->m+q<=n0:=fun n0 b=>by
   have hmn:=before n0 b
   by_cases e1:m+q<=n0
   ·exact e1
   ·exfalso
    (refine E2 (hB n0 b) fun i0 a0=>G3 fun b1 _ b3=>?_)
    (refine E1 (hq (n0 - m) (by omega)) fun i=>G2 fun hi hne=>?_)
    rw [show m+(n0 - m)=n0 by omega] at hi
    have ei:=place_inj T hi b3
    subst ei
    have:=hat i _ b1
    rw [hne] at this
    simp at this
  clear hat S before hq occ
  rcases hr with ⟨hr,hn,hjm⟩ | ⟨i,kk',hr,hpl,hh',S',hm'⟩
  ·exact search_free ho hd hfit hgw (by rw [est];exact hr) (h2 _ hn hjm occ2 late)
  ·have hi:i<es.size:=by rw [← T.size];exact (Array.getElem?_eq_some_iff.mp hpl).1
   (refine E3 (hE i hi) fun h0 k' a'=>G3 fun d1 d3 d4=>?_)
   refine search_cand ho hd hfit hgw (by rw [est];exact hr) quiet d1 (fun P hP=>(tupK prog w).eqBool hu d3 hx hP) (slot_live T hpl) (fun e=>h1 (d4 (of_decide_eq_true e))) fun ek=>?_
   have ek:=of_decide_eq_false ek
   refine ih (m+(q+1)) kk' _ rfl S' (by omega) (by omega) (fun m' hm'=>?_) fun n0 b=>?_
   ·by_cases e1:m'<m+q
    ·exact occ2 m' e1
    ·rw [show m'=m+q by omega]
     exact fun hn=>hn i hpl
   ·have hle:=late n0 b
    by_cases e1:m+q=n0
    ·exfalso
     (refine E2 (hB n0 b) fun i0 a0=>G3 fun b1 b2 b4=>?_)
     rw [← e1] at b4
     have ei:=place_inj T hpl b4
     subst ei
     rw [d1] at b1
     have ea:a'=a0:=by
      have:=Prod.mk.inj (Option.some.inj b1)
      exact Value.ref.inj this.2
     subst ea
     exact ek ((tupK prog w).inj d3 b2)
    ·omega
theorem search_tup {a x:Addr}{k:List Mix}{o:Obj}{es:Array (Int × Value)}{ep:Nat}{t:SetTable}{ks:List (List Mix)}{Q:SetFound->Shared->Prop}
  (ho:s.heap.get? a=some o) (hd:o.data = .set es ep t) (T:TabFineH w es t) (hE:EsAre prog w s.heap es.toList ks) (hu:A.units<cLine) (hx:(tupK prog w).is s.heap k x)
  (h1:k∈ks->Q (.there Option.none) s) (h2:k∉ks->∀ j,NotIn t j->j<=t.mask->Hit (fun j'=>¬ NotIn t j') t.mask ((tupK prog w).hash k) j->Q (.free j false) s) :
  wpAny (model prog w) A (setSearch a (.ref x) ((tupK prog w).hash k) (adding:=true)) Q E s:=by
 (refine E2 (stand_start T.ok ((tupK prog w).hash k)) fun e kk=>G3 fun he S hm=>?_)
 have hmem:k∈ks->∃ (i:Nat) (a:Addr),es[i]?=some ((tupK prog w).hash k,.ref a)/\(tupK prog w).is s.heap k a:=fun h=>by
  (refine E2 (hE.mem h) fun i a=>G2 fun h1 h2=>?_)
  refine K2 i a (M2 (by rw [← Array.getElem?_toList];exact h1) h2)
 have hreach:=T.reach
 unfold setSearch
 generalize (tupK prog w).hash k=hh at *
 refine search_go (ad:=fun m=>advN t.mask m (start0 t.mask hh)) (B:=fun n=>∃ (i0:Nat) (a0:Addr),es[i0]?=some (hh,Value.ref a0)/\(tupK prog w).is s.heap k a0/\t.place[i0]?=some (advN t.mask n (start0 t.mask hh)).j) (key:=k∈ks) he ho hd T.ok T.fits hu hx (fun i hi=>?_) (fun m q=>(advN_add t.mask m q _).symm) (fun n h=>h) h1 (fun n hn hj ho hb=>h2 (fun hk=>?_) _ hn hj ⟨n,rfl,ho⟩) 100000 0 kk Option.none rfl S hm ?_ (fun m' hm'=>absurd hm' (Nat.not_lt_zero _)) fun _ _=>Nat.zero_le _
 ·(refine E2 (hE.at_ (i:=i) (by rw [Array.length_toList];exact hi)) fun k' a'=>G3 fun d1 d2 d3=>?_)
  rw [Array.getElem?_toList] at d1
  refine K3 _ k' a' (M3 d1 d3 (fun ek=>ek ▸ List.mem_of_getElem? d2))
 ·(refine E2 (hmem hk) fun i0 a0=>G2 fun b1 b2=>?_)
  have hi0:i0<t.place.size:=by rw [T.ok.size];exact (Array.getElem?_eq_some_iff.mp b1).1
  have b3:=some_getD hi0 0
  (refine E1 (hreach i0 _ _ b3 b1) fun n0=>G2 fun c1 c2=>?_)
  have hle:=hb n0 ⟨i0,a0,b1,b2,by rw [c1];exact b3⟩
  by_cases e1:n=n0
  ·subst e1;rw [c1] at hn;exact hn i0 b3
  ·exact c2 n (by omega) hn
 ·have:turns t.mask<=142:=by
   unfold turns
   rcases T.ok.kinds with e | e | e <;> rw [e] <;> decide
  show 10 * kk+(start0 t.mask hh).more<100000
  omega
theorem EsAre.perm {h:Heap}{el el':List (Int × Value)}(p:el'.Perm el):∀ {ks:List (List Mix)},EsAre prog w h el ks->∃ ks',EsAre prog w h el' ks'/\ks'.Perm ks:=by
 have gen:∀ {l1 l2:List (Int × Value)},l1.Perm l2->∀ {ks:List (List Mix)},EsAre prog w h l1 ks->∃ ks',EsAre prog w h l2 ks'/\ks'.Perm ks:=by
  intro l1 l2 p
  induction p with
  | nil=>intro ks H;refine K1 ks (M2 H (.refl _))
  | cons x _ ih =>
   intro ks H
   cases H with
   | cons hk r =>
    (refine E1 (ih r) fun ks'=>G2 fun h1 h2=>?_)
    refine K1 _ (M2 (.cons hk h1) (h2.cons _))
  | swap x y l =>
   intro ks H
   cases H with
   | cons hk r =>
    cases r with
    | cons hk2 r2=>refine K1 _ (M2 (.cons hk2 (.cons hk r2)) (.swap _ _ _))
  | trans _ _ ih1 ih2 =>
   intro ks H
   (refine E1 (ih1 H) fun k1=>G2 fun a1 a2=>?_)
   (refine E1 (ih2 a1) fun k2=>G2 fun b1 b2=>?_)
   refine K1 k2 (M2 b1 (b2.trans a2))
 exact fun {ks} H=>gen p.symm H
theorem EsAre.append {h:Heap}{el el':List (Int × Value)}{ks ks':List (List Mix)}(H:EsAre prog w h el ks) (H':EsAre prog w h el' ks'):EsAre prog w h (el++el') (ks++ks'):=by
 induction H with
 | nil=>exact H'
 | cons hk r ih=>exact .cons hk ih
noncomputable def SetHp (prog:Program) (w:World) (h:Heap) (o:Obj) (ks:List (List Mix)):Prop :=
 o.ExactSet/\∃ es ep t,o.data = .set es ep t/\TabFineH w es t/\EsAre prog w h es.toList ks/\ks.Nodup
theorem fresh_fineH (w:World):TabFineH w #[] (.fresh 0 0 (!byText w)) :=
 ⟨(fresh_fine w).ok,(fresh_fine w).calm,rfl,(fresh_fine w).fits,fun i j e h=>by
  have:(#[]:Array Nat)[i]?=some j:=h
  simp at this⟩
theorem by_value {k:List Mix}{a:Addr}{Q:Bool->Shared->Prop}(hk:(tupK prog w).is s.heap k a) (h:∀ b,Q b s):wpAny (model prog w) A (hashByValue 8 (.ref a)) Q E s:=by
 have hk':IsTupleKey (mixKind prog w) s.heap k a:=hk
 have hT:=hk'.typeIs
 (refine E3 hk' fun o items n=>G4 fun ho _ hd hi=>?_;try clear hk')
 unfold hashByValue
 refine wpAny_bind (wpAny_specialOf hT PySem.F.slot_tuple_hash.lookup ?_)
 refine wpAny_bind (wpAny_seqItems ho hd ?_)
 refine wpAny_bind ?_
 show wpAny _ _ (forIn items _ _) _ _ s
 rw [← Array.forIn_toList]
 refine wpAny_forIn_list _ (fun rest r s'=>s'=s/\∀ v∈rest,v.scannable=true) _ ?_ ?_ _ _ ⟨rfl,?_⟩
 ·(intro v rest r s' zr4;(refine G2 ?_ zr4;try clear zr4;intro zo60 hall;rcases zo60 with rfl))
  rw [hashByValue_scannable _ (hall v List.mem_cons_self)]
  refine wpAny_bind (wpAny_pure ?_)
  cases plainKind v
  ·simp only [Bool.not_false,if_true]
   exact wpAny_pure (wpAny_pure (h _))
  ·simp only [Bool.not_true,Bool.false_eq_true,if_false]
   exact wpAny_pure ⟨rfl,fun u hu'=>hall u (List.mem_cons_of_mem _ hu')⟩
 ·(intro zr0 s' zr2;obtain ⟨r1,r2⟩:=zr0;(refine G2 ?_ zr2;try clear zr2;intro zo61 _;rcases zo61 with rfl))
  cases r1 <;> exact wpAny_pure (h _)
 ·have gen:∀ {k:List Mix}{vs:List Value},ItemsAre (mixKind prog w) k vs->∀ v∈vs,v.scannable=true:=by
   intro k vs H
   induction H with
   | nil=>intro v hv;cases hv
   | @cons k' v' ks vs h1 _ ih =>
    intro v hv
    rcases List.mem_cons.mp hv with rfl | hv
    ·have h1:mixIs k' v=true:=h1
     cases k' with
     | inl x=>(refine E1 (Value.isStrOf_shape h1) fun t zo62=>?_;rcases zo62 with rfl);rfl
     | inr i=>(refine E1 (Value.isInt_shape h1) fun t zo63=>?_;rcases zo63 with rfl);rfl
    ·exact ih v hv
  exact gen hi
theorem is_grow {h h':Heap}{k:List Mix}{a:Addr}(x:(tupK prog w).is h k a) (kp:∀ b o,h.get? b=some o->h'.get? b=some o):(tupK prog w).is h' k a:=by
 have x':IsTupleKey (mixKind prog w) h k a:=x
 (refine E3 x' fun o' items n=>G4 fun ho' hc hd' hi=>?_;try clear x')
 refine K3 o' items n (M4 (kp _ _ ho') hc hd' hi)
theorem EsAre.grow {h h':Heap}{el:List (Int × Value)}{ks:List (List Mix)}(H:EsAre prog w h el ks) (kp:∀ b o,h.get? b=some o->h'.get? b=some o):EsAre prog w h' el ks:=by
 induction H with
 | nil=>exact .nil
 | cons hk r ih=>exact .cons (is_grow hk kp) ih
theorem upd_set {h:Heap}{a:Addr}{o:Obj}{es:Array (Int × Value)}{ep:Nat}{t:SetTable}(es':Array (Int × Value)) (t':SetTable) (ho:h.get? a=some o) (hd:o.data = .set es ep t):(h.update a (Obj.putSet es' t')).get? a=some { o with data:=.set es' (ep+1) t' }:=by
 have:=Heap.get?_update_self (Obj.putSet es' t') ho (by rw [putSet_of es' t' hd];rfl)
 rw [putSet_of es' t' hd] at this;exact this
theorem add_fin {hb:Heap}{a:Addr}{o:Obj}{es es1:Array (Int × Value)}{ep n:Nat}{t t2:SetTable}{ks1:List (List Mix)}{Q:Bool->Shared->Prop}(ho:s.heap.get? a=some o) (hd:o.data = .set es ep t) (hex:o.ExactSet) (T2:TabOk t2 (n+1)) (hsz1:es1.size=n+1) (hl:n+1<=sizeLine)
  (calm2:Calm t2 (n+1)∨(t2.mask=7/\n+1=5)∨(t2.mask=31/\n+1=19)) (R2:TabR t2 es1) (hled:t2.led = !byText w) (k1:EsAre prog w hb es1.toList ks1) (hN1:ks1.Nodup)
  (h:∀ h' o' ks',Heap.SameBut a s.heap h'->h'.get? a=some o'->SetHp prog w hb o' ks'->ks'.Perm ks1->Q true { s with heap:=h' }) :
  wpAny (model prog w) A (do
   storeSet a es1 t2
   if (!false && t2.tooFull)=true then do
    setRelay a (grown (n+1))
    pure true
   else pure true) Q E s:=by
 have ho1:=upd_set es1 t2 ho hd
 have hsb1:=Heap.SameBut.update s.heap a (Obj.putSet es1 t2)
 refine wpAny_bind (wpAny_storeSet_of ho hd ?_ (hsz1 ▸ hl))
 have hfl:t2.tooFull=true->¬ Calm t2 (n+1):=fun hf hc=>by
  unfold SetTable.tooFull SetTable.fill at hf
  rw [T2.size,T2.dum] at hf
  have hf2:(n+1) * 5≥t2.mask * 3:=by simpa using hf
  rcases hc with ⟨e,h1⟩ | ⟨e,h1⟩ | ⟨e,h1⟩ <;> rw [e] at hf2 <;> omega
 have hfl2:¬ t2.tooFull=true->Calm t2 (n+1):=fun hf=>by
  rcases calm2 with hc | hc
  ·exact hc
  ·exfalso
   apply hf
   unfold SetTable.tooFull SetTable.fill
   rw [T2.size,T2.dum]
   rcases hc with ⟨e,e2⟩ | ⟨e,e2⟩ <;> rw [e,e2] <;> decide
 cases hf:t2.tooFull
 ·refine if_no rfl ?_
  exact wpAny_pure (h _ _ ks1 hsb1 ho1 ⟨hex,_,_,t2,rfl,⟨by rw [hsz1];exact T2,by rw [hsz1];exact hfl2 (by rw [hf];exact Bool.false_ne_true),hled,by rw [hsz1];exact T2.fits,R2⟩,k1,hN1⟩ (.refl _))
 ·(refine E2 (relay_R T2 hsz1 (calm2.resolve_left (hfl hf))) fun order t3=>G9 fun r1 r2 r3 r4 r5 r6 r7 r8 r9=>?_)
  (refine E1 (EsAre.perm r4 k1) fun ks2=>G2 fun q1 q2=>?_)
  obtain ⟨es3,e3⟩:∃ es3,order.filterMap (es1[·]?)=es3:=⟨_,rfl⟩
  rw [e3] at r3 q1 r9
  have hz3:es3.size=n+1:=r3.trans hsz1
  have ho2:=upd_set es3 t3 ho1 rfl
  have hsb2:=hsb1.trans (Heap.SameBut.update _ a (Obj.putSet es3 t3))
  refine wpAny_bind ?_
  unfold setRelay
  refine wpAny_bind (wpAny_setState_of ho1 rfl (by rw [hsz1];exact T2.fits) ?_)
  dsimp only
  rw [← hsz1,if_neg (Nat.not_lt.mpr r2)]
  rw [r1]
  refine wpAny_bind ?_
  show wpAny _ _ (if ((order.filterMap (es1[·]?)).size != es1.size)=true then _ else _) _ _ _
  rw [e3]
  refine if_no (by rw [r3];simp) ?_
  refine wpAny_pure ?_
  refine wpAny_storeSet_of ho1 rfl ?_ (by rw [hz3];exact hl)
  exact wpAny_pure (h _ _ ks2 hsb2 ho2 ⟨hex,_,_,t3,rfl,⟨by rw [hz3];exact r5,by rw [hz3];exact r6,r7.trans hled,by rw [hz3];exact r5.fits,r9⟩,q1,q2.nodup_iff.mpr hN1⟩ q2)
theorem add_gen {hb:Heap}{a x:Addr}{k:List Mix}{o:Obj}{ks:List (List Mix)}{Q:Bool->Shared->Prop}(kp:∀ b o,hb.get? b=some o->s.heap.get? b=some o) (ho:s.heap.get? a=some o) (hS:SetHp prog w hb o ks) (hz:ks.length<60) (hu:A.units<cLine) (hxb:(tupK prog w).is hb k x)
  (h:∀ b h' o' ks',Heap.SameBut a s.heap h'->h'.get? a=some o'->SetHp prog w hb o' ks'->(∀ j,j∈ks'↔j∈ks∨j=k)->Q b { s with heap:=h' }) :
  wpAny (model prog w) A (setAddHashed a (.ref x) ((tupK prog w).hash k)) Q E s:=by
 obtain ⟨hex,es,ep,t,hd,T,hEb,hN⟩:=id hS
 have hE:EsAre prog w s.heap es.toList ks:=hEb.grow kp
 have hx:(tupK prog w).is s.heap k x:=is_grow hxb kp
 have hsz:es.size=ks.length:=by rw [← hE.length];simp
 have hby:byScan (.ref x) es=false:=by unfold byScan;simp [Value.scannable]
 unfold setAddHashed setAddHashedIn
 refine wpAny_holding (wpAny_bind (wpAny_setState_of ho hd T.fits ?_))
 dsimp only
 refine if_no hby ?_
 refine wpAny_bind (search_tup ho hd T hE hu hx (fun hk=>?_) fun hk j j1 j2 j3=>?_)
 ·dsimp only
  exact wpAny_pure (h false s.heap o ks (Heap.SameBut.refl a s.heap) ho hS fun j=>⟨.inl,fun q=>q.elim id fun e=>e ▸ hk⟩)
 ·have hfull:es.size+1<=t.mask:=by
   rcases T.calm with h | h | h <;> omega
  (refine G5 ?_ (put_ok T.ok j1 j2 hfull);intro p1 p2 p3 p4 p5)
  have R1:=put_R (h:=(tupK prog w).hash k) (x:=.ref x) T.ok rfl T.reach j3
  have hsz1:(insertAt es (below t.place j) ((tupK prog w).hash k,Value.ref x)).size=es.size+1:=size_insertAt (by rw [← T.ok.size];exact (below_spec T.ok.rise j).1)
  have hperm:=SetTable.insertAt_perm es (below t.place j) ((tupK prog w).hash k,Value.ref x)
  rw [Array.toList_push] at hperm
  (refine E1 (EsAre.perm hperm (hEb.append (.cons hxb .nil))) fun ks1=>G2 fun k1 k2=>?_)
  clear hperm
  have hN1:ks1.Nodup:=k2.nodup_iff.mpr (by
   rw [List.nodup_append]
   refine M3 hN (by simp) (fun x hx y hy=>by rw [List.mem_singleton.mp hy];exact fun e=>hk (e ▸ hx)))
  have mem1:∀ j,j∈ks1↔j∈ks∨j=k:=fun j=>by rw [k2.mem_iff,List.mem_append,List.mem_singleton]
  rw [← p5] at R1 hsz1 k1
  have fin:∀ t2:SetTable,t2.place=(t.put j).1.place->t2.dummies=(t.put j).1.dummies->t2.mask=t.mask->t2.led=t.led->_:=fun t2 e1 e2 e3 e4 =>
   add_fin (prog:=prog) (A:=A) (E:=E) (Q:=Q) (t2:=t2) ho hd hex (by
    obtain ⟨a1,a2,a3,a4,a5,a6⟩:=p1
    refine ⟨by rw [e1];exact a1,by rw [e1];exact a2,by rw [e1,e3,← p4];exact a3,by rw [e2];exact a4,by rw [e3,← p4];exact a5,by rw [e3,← p4];exact a6⟩) hsz1 (by rw [sizeLine_eq];omega) (by
    unfold Calm
    rw [e3]
    rcases T.calm with h | h | h <;> omega) (fun i j' e hp he=>by
    rw [e1] at hp
    have:=R1 i j' e hp he
    rw [p4] at this
    rw [e3]
    exact this.mono fun q hq hn=>hq fun i' hi'=>hn i' (by rw [e1];exact hi')) (e4.trans T.led) k1 hN1 fun h' o' ks' b1 b2 b3 b4=>h true h' o' ks' b1 b2 b3 fun j=>by rw [b4.mem_iff];exact mem1 j
  clear R1 hsz1 k1 k2 hN1 mem1 h hE hEb p1 p5
  dsimp only
  refine wpAny_bind (wpAny_setState_of ho hd T.fits ?_)
  dsimp only
  split
  ·refine wpAny_bind (by_value hx fun b=>?_)
   cases b
   ·exact fin _ rfl rfl p4 p2
   ·exact fin _ rfl rfl p4 p2
  ·refine wpAny_bind (wpAny_pure ?_)
   exact fin _ rfl rfl p4 p2
theorem setAdd_tup {hb:Heap}{a x:Addr}{k:List Mix}{o:Obj}{ks:List (List Mix)}{Q:Bool->Shared->Prop}(kp:∀ b o,hb.get? b=some o->s.heap.get? b=some o) (ho:s.heap.get? a=some o) (hS:SetHp prog w hb o ks) (hz:ks.length<60) (hu:A.units<cLine) (hxb:(tupK prog w).is hb k x)
  (h:∀ b h' o' ks' tk,s.toks<=tk->Heap.SameBut a s.heap h'->h'.get? a=some o'->SetHp prog w hb o' ks'->(∀ j,j∈ks'↔j∈ks∨j=k)->Q b { s with heap:=h',toks:=tk }) :
  wpAny (model prog w) A (setAdd a (.ref x)) Q E s:=by
 unfold setAdd
 refine wpAny_holding (wpAny_bind ((tupK prog w).pyHash hu (is_grow hxb kp) ?_))
 exact add_gen kp ho hS hz hu hxb fun b h' o' ks' a1 a2 a3 a4=>h b h' o' ks' _ (Nat.le_add_right _ _) a1 a2 a3 a4
end
end
section
set_option tactic.hygienic false
example:True:=by
 k_with "x18"=>skip
 k_with "bank"=>((fail_if_success k_extra "x19");(exists b425,b426,b427,b34))
 trivial
open SetTable
section
variable {prog:Program}{w:World}{A:Around}{R:Result->Shared->Prop}{I:Addr}{fp wr:List Addr}{G:Array GenState->Array GenState->Prop}{n:Nat}{P:Nat->Value->Prop}{St:Nat->Shared->Prop}
theorem nodup_len {ms ns:List Int}(h:ms.Nodup) (hs:∀ j,j∈ms->j∈ns):ms.length<=ns.length:=List.Nodup.length_le_of_subset h hs
theorem set_loop (W:WalksS prog w A.in1 I fp wr G n P St) (S:Addr) (hSf:S∉fp) (ns:List Int) (hn:n=ns.length) (hval:∀ i v,P i v->∃ t,v = .int (ns.getD i 0) t) (hz:ns.length<60) :
  ∀ (k i:Nat) (s:Shared) (ms:List Int) (o:Obj),n - i=k->i<=n->St i s->s.heap.get? S=some o->SetI prog w o ms->(∀ j,j∈ms↔j∈ns.take i) ->
   (∀ s' o' ms',Moved (S::wr) G s s'->s'.heap.get? S=some o'->SetI prog w o' ms'->(∀ j,j∈ms'↔j∈ns)->R (.ok (.ret .none)) s') ->
   codeAny (model prog w) A (.builtin "set.update.loop" ⟨[.ref S,.ref I],[]⟩) R s:=by
 have hSw:S∉wr:=fun h=>hSf (W.sub _ h)
 have hsub:∀ b∈wr,b∈S::wr:=fun b hb=>List.mem_cons_of_mem _ hb
 intro k
 induction k with
 | zero =>
  intro i s ms o hk hi hst ho hS hm hR
  have hin:i=n:=by omega
  subst hin
  refine codeAny_builtin PyProof.Rows.F.entry_set_update_loop ?_
  rw [Around.under_plainId PyProof.Rows.F.plain_set_update_loop _]
  show wpAny _ A.in1 (pyNext (.ref I) >>= _) _ _ s
  refine wpAny_bind (W.done s _ _ hst fun s' hmv=>?_)
  show wpAny _ A.in1 (ret Value.none) _ _ s'
  refine wpAny_pure (hR s' o ms (hmv.mono hsub) (hmv.heap S _ hSw ho) hS fun j=>?_)
  rw [hm,hn,List.take_length]
 | succ k ih =>
  intro i s ms o hk hi hst ho hS hm hR
  have hlt:i<n:=by omega
  refine codeAny_builtin PyProof.Rows.F.entry_set_update_loop ?_
  rw [Around.under_plainId PyProof.Rows.F.plain_set_update_loop _]
  show wpAny _ A.in1 (pyNext (.ref I) >>= _) _ _ s
  refine wpAny_bind (W.item i s _ _ hlt hst fun v s' hP hst' hmv=>?_)
  (refine E1 (hval i v hP) fun t zo64=>?_;rcases zo64 with rfl)
  have ho':=hmv.heap S _ hSw ho
  have hml:ms.length<60:=Nat.lt_of_le_of_lt (nodup_len (by obtain ⟨_,_,_,_,_,_,_,_,q⟩:=hS;exact q) fun j hj=>List.mem_of_mem_take ((hm j).mp hj)) hz
  show wpAny _ A.in1 (holding [Value.int (ns.getD i 0) t] (setAdd S (.int (ns.getD i 0) t)) >>= _) _ _ s'
  refine wpAny_bind (wpAny_holding ?_)
  refine setAdd_int ho' hS hml fun b h' o' ns' hsb ho2 hS2 hm2=>?_
  refine wpAny_pure ⟨plainId_quiet PyProof.Rows.F.plain_set_update_loop _,ih (i+1) _ ns' o' (by omega) hlt (W.frame _ s' _ _ hst' (Nat.le_succ _) fun b hb o e=>?_) ho2 hS2 (fun j=>?_) fun s'' o'' ms'' hm'' ho'' hS'' he''=>?_⟩
  ·rw [hsb.2 b (fun h:b=S=>hSf (by rw [← h];exact hb))];exact e
  ·have hil:i<ns.length:=by omega
   have e1:ns.take (i+1)=ns.take i++[ns.getD i 0]:=by
    rw [List.take_add_one,List.getElem?_eq_getElem hil,List.getD_eq_getElem?_getD,List.getElem?_eq_getElem hil];rfl
   rw [hm2,hm,e1,List.mem_append,List.mem_singleton]
  ·refine hR s'' o'' ms'' (Moved.trans W.gtrans ((hmv.mono hsub).then_heap (Nat.le_succ _) fun b o hb e=>?_) hm'') ho'' hS'' he''
   rw [hsb.2 b (fun h:b=S=>hb (by rw [h];exact List.mem_cons_self))];exact e
end
section
variable {prog:Program}{w:World}{A:Around}{E:Value->Shared->Prop}{s:Shared}
noncomputable abbrev setNew (w:World):Obj:={ cls:=.type "set",dict:=none,data:=.set #[] 0 (.fresh 0 0 (!byText w)) }
theorem setNew_I (prog:Program) (w:World):SetI prog w (setNew w) []:=⟨⟨rfl,rfl,rfl⟩,#[],0,_,rfl,fresh_fine w,fun e he=>absurd he List.not_mem_nil,.nil,List.nodup_nil⟩
theorem new_set (a:Value) {Q₁:Value->Shared->Prop}(h:Q₁ (.ref s.heap.objs.size) { s with heap:=s.heap.push (setNew w) }) :
  codeAny (model prog w) A (.call (.builtin "set.__new__") ⟨[.type "set",a],[]⟩) (wants Q₁ E) s:=by
 refine codeAny_of_tree ?_
 show wpAny _ A.in1 (do checkBuiltinCall "set.__new__" ⟨[.type "set",a],[]⟩;again (.builtin "set.__new__" ⟨[.type "set",a],[]⟩)) _ _ s
 refine wpAny_bind (wpAny_of_eq (PySem.F.newCall_set_1 a) (wpAny_pure ⟨plainId_quiet PySem.F.plain_set_new _,codeAny_builtin PySem.F.entry_set_new ?_⟩))
 rw [Around.under_plainId PySem.F.plain_set_new _]
 unfold Builtin.«set.__new__» Builtin.Frozenset.newClass
 have hsub:=sub_set_self
 obtain ⟨hp,g,d,tk,os⟩:=s
 dsimp only
 wp_walk
 refine wpAny_askSetting (wpAny_pure ?_)
 dsimp only
 simp only [newObj]
 refine wpAny_bind (wpAny_alloc (wpAny_pure ?_))
 exact wpAny_pure h
theorem set_listG {l:Addr}{items:Array Value}{Fin:Obj->Prop}{Q:Value->Shared->Prop}(hh:A.handled=none) (hl:s.heap.IsList l items)
  (loop:∀ {A':Around}{R:Result->Shared->Prop}{S I:Addr}{G:Array GenState->Array GenState->Prop}{St:Nat->Shared->Prop}{s0:Shared},A'.units<=A.units+5->S=s.heap.objs.size->I=S+1->WalksS prog w A'.in1 I [I,l] [I] G items.size (fun i v=>items[i]?=some v) St->S∉[I,l]->St 0 s0->s0.heap.get? S=some (setNew w) ->
   (∀ b o,s.heap.get? b=some o->s0.heap.get? b=some o)->(∀ s' o',Moved [S,I] G s0 s'->s'.heap.get? S=some o'->Fin o'->R (.ok (.ret .none)) s')->codeAny (model prog w) A' (.builtin "set.update.loop" ⟨[.ref S,.ref I],[]⟩) R s0)
  (h:∀ h' tk o,h'.get? s.heap.objs.size=some o->Fin o->(∀ b o,b<s.heap.objs.size->s.heap.get? b=some o->h'.get? b=some o)->Q (.ref s.heap.objs.size) { s with heap:=h',toks:=tk }) :
  wpAny (model prog w) A (call (.type "set") [.ref l]) Q E s:=by
 (refine E2 PySem.F.called_set.mro fun c tl hmro=>?_)
 have hmade:=PySem.F.called_set.made
 have hsub:=PySem.F.called_set.sub
 refine wpAny_call (codeAny_of_tree ?_)
 show wpAny _ _ (callAny (.type "set") _) _ _ _
 refine wpAny_pure ⟨Code.quiet_builtin _ (by decide +kernel),codeAny_builtin PySem.F.entry_type_call ?_⟩
 rw [Around.under_plain (weight_type_call_type "set" [.ref l] []) rfl]
 have h1:=PySem.F.called_set.notType
 have h2:=PySem.F.called_set.canCreate
 have hct:=PySem.F.typeCall_set_1 (.ref l)
 repeat (any_goals (first | assumption | wp_step))
 refine codeAny_mono (new_set (.ref l) (E:=E) (Q₁:=fun obj s₁=>obj = .ref s.heap.objs.size/\s₁ = { s with heap:=s.heap.push (setNew w) }) ⟨rfl,rfl⟩) fun r s₁ hr=>?_
 cases r with
 | error e=>exact hr
 | ok fl =>
  cases fl with
  | ret obj =>
   (refine G2 ?_ hr;try clear hr;intro zo65 zo66;rcases zo65 with rfl;rcases zo66 with rfl)
   have hS:(s.heap.push (setNew w)).get? s.heap.objs.size=some (setNew w):=Heap.get?_push_size _ rfl
   have hT:Shared.TypeIs { s with heap:=s.heap.push (setNew w) } (.ref s.heap.objs.size) "set":=⟨_,hS,rfl⟩
   have hli:=PySem.F.called_set.init.lookup
   have hbi:=PySem.F.called_set.init.bind (.ref s.heap.objs.size)
   repeat (any_goals (first | assumption | wp_step))
   refine codeAny_mono (codeAny_call_builtin (R:=wants (fun r s₂=>r = .none/\∃ h' tk o,s₂ = { s with heap:=h',toks:=tk }/\h'.get? s.heap.objs.size=some o/\Fin o /\
     (∀ b o,b<s.heap.objs.size->s.heap.get? b=some o->h'.get? b=some o)) E) PySem.F.called_set.init.plain PySem.F.entry_set_init (check_set_init_1 hT ?_)) fun r₂ s₂ hr₂=>?_
   ·obtain ⟨ol,hol,hcl,nl,hdl⟩:=hl
    obtain ⟨ocls,odict,odata,oslots⟩:=ol
    simp only at hcl hdl
    subst hcl;subst hdl
    have hol':(s.heap.push (setNew w)).get? l=some { cls:=.type "list",dict:=odict,data:=.seq items nl,slots:=oslots }:=Heap.get?_push_of_some _ hol
    have hsls:=PySem.F.sub_list_set
    have hslf:=PySem.F.sub_list_frozenset
    have hne:(Value.type "list" == Value.type "dict")=false:=by decide
    have hl1:(s.heap.push (setNew w)).IsList l items:=⟨_,hol',rfl,nl,rfl⟩
    unfold Builtin.«set.__init__» noKeywords Builtin.Frozenset.updateFrom
    generalize hPI:pyIter=PI
    wp_walk
    subst hPI
    refine wpAny_pyIter_list hl1 ?_
    refine wpAny_bind (wpAny_runValue ?_)
    have hlS:l<s.heap.objs.size:=Heap.lt_size hol
    have hh3:A.in1.in1.in1.handled=none:=by simp [hh]
    have hneI:l≠(s.heap.push (setNew w)).objs.size:=by
     rw [Heap.size_push];exact Nat.ne_of_lt (Nat.lt_succ_of_lt hlS)
    have hSf:s.heap.objs.size∉[(s.heap.push (setNew w)).objs.size,l]:=by
     rw [Heap.size_push];simp only [List.mem_cons,List.mem_singleton,List.not_mem_nil,or_false,not_or]
     exact ⟨Nat.ne_of_lt (Nat.lt_succ_self _),Nat.ne_of_gt hlS⟩
    have hI:(s.heap.push (setNew w)).objs.size=s.heap.objs.size+1:=Heap.size_push ..
    refine loop (A':=A.in1.in1) ?hun rfl hI ((Walks.list hh3 _ l hneI items).toS) hSf ?h0 ?ho ?kp ?hR
    case hun=>first | exact Nat.le_of_ble_eq_true rfl | (simp;done) | (simp;omega) | (show A.units+1+1<=_;omega)
    case h0=>exact ⟨⟨_,Heap.get?_push_size _ rfl,rfl,rfl⟩,(hl1.push _)⟩
    case ho=>exact Heap.get?_push_of_some _ hS
    case kp=>exact fun b o e=>Heap.get?_push_of_some _ (Heap.get?_push_of_some _ e)
    case hR =>
     intro s' o' hm ho' hS'
     obtain ⟨h',g',d',tk',os'⟩:=s'
     have eg:g'=s.gens:=hm.gens
     have ed:d'=s.drawn:=hm.drawn
     have eo:os'=s.os:=hm.os
     subst eg;subst ed;subst eo
     show wpAny _ _ _ _ _ _
     refine wpAny_pure ?_
     show wpAny _ _ (ret Value.none) _ _ _
     refine wpAny_pure ⟨rfl,h',tk',o',rfl,ho',hS',fun b o hb e=>?_⟩
     have hb1:b≠s.heap.objs.size:=Nat.ne_of_lt hb
     have hb2:b≠(s.heap.push (setNew w)).objs.size:=by
      rw [Heap.size_push];exact Nat.ne_of_lt (Nat.lt_succ_of_lt hb)
     exact hm.heap b o (by simp only [List.mem_cons,List.mem_singleton,List.not_mem_nil,or_false,not_or];exact ⟨hb1,hb2⟩) (Heap.get?_push_of_some _ (Heap.get?_push_of_some _ e))
   ·cases r₂ with
    | error e=>exact hr₂
    | ok fl₂ =>
     cases fl₂ with
     | ret r =>
      obtain ⟨rfl,h',tk,o,rfl,ho,hS',hk'⟩:=hr₂
      repeat (any_goals (first | assumption | wp_step))
      exact h _ _ _ ho hS' hk'
     | _=>exact hr₂.elim
  | _=>exact hr.elim
theorem set_list {l:Addr}{items:Array Value}{ns:List Int}{Q:Value->Shared->Prop}
  (hh:A.handled=none) (hl:s.heap.IsList l items) (hi:PyProof.Rows.IntsAre items.toList ns) (hz:ns.length<60)
  (h:∀ (h':Heap) (tk:Nat) o ms,h'.get? s.heap.objs.size=some o->SetI prog w o ms->(∀ j,j∈ms↔j∈ns) ->
   (∀ b o,b<s.heap.objs.size->s.heap.get? b=some o->h'.get? b=some o)->Q (.ref s.heap.objs.size) { s with heap:=h',toks:=tk }) :
  wpAny (model prog w) A (call (.type "set") [.ref l]) Q E s:=by
 refine set_listG (Fin:=fun o=>∃ ms,SetI prog w o ms/\∀ j,j∈ms↔j∈ns) hh hl (fun {A' R S I G St s0} _ _ _ W hSf hst ho _ hR=>?_) fun h' tk o ho ⟨ms,hS,he⟩ hk=>h h' tk o ms ho hS he hk
 exact set_loop W S hSf ns (by rw [← hi.length,Array.length_toList]) (fun i v hv=>PyProof.Rows.IntsAre.int_at hi i v (by rw [Array.getElem?_toList];exact hv)) hz _ 0 _ [] (setNew w) rfl (Nat.zero_le _) hst ho (setNew_I prog w) (fun j=>by simp) fun s' o' ms' hm ho' hS' he'=>hR s' o' hm ho' ⟨ms',hS',he'⟩
end
section
variable {prog:Program}{w:World}{A:Around}{E:Value->Shared->Prop}{s:Shared}{hO:Heap}{L:Addr}{m:Str->Option Value}{news:Led}
theorem set_led_new {l:Addr}{vs:List Value}{n:Nat}{ns:List Int}{Q:Value->Shared->Prop}(F:Fr hO L s.heap m) (N:News hO L s.heap news) (hh:A.handled=none) (hm:(l,PySem.W.listOf vs.toArray n)∈news) (hi:IntsAre vs ns) (hz:ns.length<60)
  (h:∀ D h' tk o ms,Fr hO L h' m->News hO L h' ((D,o)::news)->(∀ p∈news,p.1<D)->SetI prog w o ms->(∀ j,j∈ms↔j∈ns)->ms.length<=ns.length->Q (.ref D) { s with heap:=h',toks:=tk }) :
  wpAny (model prog w) A (call (.type "set") [.ref l]) Q E s:=by
 refine set_list hh (is_listN N hm) (by simpa using hi) hz fun h' tk o ms ho hS he hk=>?_
 (refine E3 F.ns fun oL _ _=>G2 fun hL _=>?_)
 have hLlt:L<s.heap.objs.size:=Heap.lt_size hL
 refine h _ h' tk o ms ⟨F.ns.at' fun o' e=>hk L o' hLlt e,fun b o' e=>hk b o' (Heap.lt_size (F.keep b o' e)) (F.keep b o' e),F.above⟩ (fun p hp=>?_) (fun p hp=>Heap.lt_size (N p hp).1) hS he (nodup_len (by obtain ⟨_,_,_,_,_,_,_,_,q⟩:=hS;exact q) fun j hj=>(he j).mp hj)
 rcases List.mem_cons.mp hp with rfl | hp
 ·refine M3 ho (Nat.ne_of_gt hLlt) ?_
  cases hq:hO.get? s.heap.objs.size with
  | none=>rfl
  | some o'=>exact absurd (Heap.lt_size (F.keep _ _ hq)) (Nat.lt_irrefl _)
 ·refine M3 (hk _ _ (Heap.lt_size (N p hp).1) (N p hp).1) ((N p hp).2.1) ((N p hp).2.2)
end
end
section
set_option tactic.hygienic false
example:True:=by
 k_with "x19"=>skip
 k_with "bank"=>((fail_if_success k_extra "x20");(exists b426,b427,b428,b425,b34,b429))
 trivial
open SetTable
theorem nodup_lenT {ms ns:List (List Mix)}(h:ms.Nodup) (hs:∀ j,j∈ms->j∈ns):ms.length<=ns.length:=List.Nodup.length_le_of_subset h hs
section
variable {prog:Program}{w:World}{A:Around}{R:Result->Shared->Prop}{I:Addr}{fp wr:List Addr}{G:Array GenState->Array GenState->Prop}{n:Nat}{P:Nat->Value->Prop}{St:Nat->Shared->Prop}
theorem set_loopT (hb:Heap) (W:WalksS prog w A.in1 I fp wr G n P St) (S:Addr) (hSf:S∉fp) (ns:List (List Mix)) (hn:n=ns.length) (hval:∀ i v,i<ns.length->P i v->∃ x,v = .ref x/\(tupK prog w).is hb (ns.getD i []) x) (hz:ns.length<60)
  (hu:A.units+100<cLine) (hnew:∀ b o,hb.get? b=some o->b∉S::wr) :
  ∀ (k i:Nat) (s:Shared) (ms:List (List Mix)) (o:Obj),n - i=k->i<=n->St i s->s.heap.get? S=some o->SetHp prog w hb o ms->(∀ j,j∈ms↔j∈ns.take i)->(∀ b o,hb.get? b=some o->s.heap.get? b=some o) ->
   (∀ s' o' ms',Moved (S::wr) G s s'->s'.heap.get? S=some o'->SetHp prog w hb o' ms'->(∀ j,j∈ms'↔j∈ns)->R (.ok (.ret .none)) s') ->
   codeAny (model prog w) A (.builtin "set.update.loop" ⟨[.ref S,.ref I],[]⟩) R s:=by
 have hSw:S∉wr:=fun h=>hSf (W.sub _ h)
 have hsub:∀ b∈wr,b∈S::wr:=fun b hb=>List.mem_cons_of_mem _ hb
 intro k
 induction k with
 | zero =>
  intro i s ms o hk hi hst ho hS hm kp hR
  have hin:i=n:=by omega
  subst hin
  refine codeAny_builtin PyProof.Rows.F.entry_set_update_loop ?_
  rw [Around.under_plainId PyProof.Rows.F.plain_set_update_loop _]
  show wpAny _ A.in1 (pyNext (.ref I) >>= _) _ _ s
  refine wpAny_bind (W.done s _ _ hst fun s' hmv=>?_)
  show wpAny _ A.in1 (ret Value.none) _ _ s'
  refine wpAny_pure (hR s' o ms (hmv.mono hsub) (hmv.heap S _ hSw ho) hS fun j=>?_)
  rw [hm,hn,List.take_length]
 | succ k ih =>
  intro i s ms o hk hi hst ho hS hm kp hR
  have hlt:i<n:=by omega
  refine codeAny_builtin PyProof.Rows.F.entry_set_update_loop ?_
  rw [Around.under_plainId PyProof.Rows.F.plain_set_update_loop _]
  show wpAny _ A.in1 (pyNext (.ref I) >>= _) _ _ s
  refine wpAny_bind (W.item i s _ _ hlt hst fun v s' hP hst' hmv=>?_)
  have hil:i<ns.length:=by omega
  (refine E1 (hval i v hil hP) fun x=>G2 fun zo67 hx=>?_;rcases zo67 with rfl)
  have ho':=hmv.heap S _ hSw ho
  have hml:ms.length<60:=Nat.lt_of_le_of_lt (nodup_lenT (by obtain ⟨_,_,_,_,_,_,_,q⟩:=hS;exact q) fun j hj=>List.mem_of_mem_take ((hm j).mp hj)) hz
  have kp':∀ b o,hb.get? b=some o->s'.heap.get? b=some o:=fun b o e=>hmv.heap b o (fun q=>hnew b o e (hsub b q)) (kp b o e)
  show wpAny _ A.in1 (holding [Value.ref x] (setAdd S (.ref x)) >>= _) _ _ s'
  refine wpAny_bind (wpAny_holding ?_)
  refine setAdd_tup kp' ho' hS hml ?hu hx fun b h' o' ns' tk htk hsb ho2 hS2 hm2=>?_
  case hu=>first | exact (by simpa using hu) | (simp;omega) | skip
  refine wpAny_pure ⟨plainId_quiet PyProof.Rows.F.plain_set_update_loop _,ih (i+1) _ ns' o' (by omega) hlt (W.frame _ s' _ _ hst' htk fun b hb o e=>?_) ho2 hS2 (fun j=>?_) (fun b o e=>?_) fun s'' o'' ms'' hm'' ho'' hS'' he''=>?_⟩
  ·rw [hsb.2 b (fun h:b=S=>hSf (by rw [← h];exact hb))];exact e
  ·have e1:ns.take (i+1)=ns.take i++[ns.getD i []]:=by
    rw [List.take_add_one,List.getElem?_eq_getElem hil,List.getD_eq_getElem?_getD,List.getElem?_eq_getElem hil];rfl
   rw [hm2,hm,e1,List.mem_append,List.mem_singleton]
  ·show Heap.get? h' b=some o
   rw [hsb.2 b (fun h:b=S=>hnew b o e (by rw [h];exact List.mem_cons_self))];exact kp' b o e
  ·refine hR s'' o'' ms'' (Moved.trans W.gtrans ((hmv.mono hsub).then_heap htk fun b o hb e=>?_) hm'') ho'' hS'' he''
   rw [hsb.2 b (fun h:b=S=>hb (by rw [h];exact List.mem_cons_self))];exact e
end
section
variable {prog:Program}{w:World}{A:Around}{E:Value->Shared->Prop}{s:Shared}
theorem setNew_H (prog:Program) (w:World) (hb:Heap):SetHp prog w hb (setNew w) []:=⟨⟨rfl,rfl,rfl⟩,#[],0,_,rfl,fresh_fineH w,.nil,List.nodup_nil⟩
theorem set_listT (hb:Heap) (kp:∀ b o,hb.get? b=some o->s.heap.get? b=some o) {l:Addr}{items:Array Value}{ns:List (List Mix)}{Q:Value->Shared->Prop}
  (hh:A.handled=none) (hl:s.heap.IsList l items) (hlen:items.size=ns.length) (hi:∀ i v,i<ns.length->items[i]?=some v->∃ x,v = .ref x/\(tupK prog w).is hb (ns.getD i []) x) (hz:ns.length<60) (hu:A.units+1000<cLine)
  (h:∀ (h':Heap) (tk:Nat) o ms,h'.get? s.heap.objs.size=some o->SetHp prog w hb o ms->(∀ j,j∈ms↔j∈ns) ->
   (∀ b o,b<s.heap.objs.size->s.heap.get? b=some o->h'.get? b=some o)->Q (.ref s.heap.objs.size) { s with heap:=h',toks:=tk }) :
  wpAny (model prog w) A (call (.type "set") [.ref l]) Q E s:=by
 refine set_listG (Fin:=fun o=>∃ ms,SetHp prog w hb o ms/\∀ j,j∈ms↔j∈ns) hh hl (fun {A' R S I G St s0} hA hS hI W hSf hst ho kp0 hR=>?_) fun h' tk o ho ⟨ms,hS,he⟩ hk=>h h' tk o ms ho hS he hk
 refine set_loopT hb W S hSf ns hlen (fun i v h1 h2=>hi i v h1 h2) hz (by omega) ?hnew _ 0 _ [] (setNew w) rfl (Nat.zero_le _) hst ho (setNew_H prog w _) (fun j=>by simp) (fun b o e=>kp0 b o (kp b o e)) fun s' o' ms' hm ho' hS' he'=>hR s' o' hm ho' ⟨ms',hS',he'⟩
 intro b o e hm
 have hb:=Heap.lt_size (kp b o e)
 rcases List.mem_cons.mp hm with h | h
 ·exact absurd (h.trans hS) (Nat.ne_of_lt hb)
 ·rw [List.mem_singleton.mp h,hI,hS] at hb
  exact absurd hb (Nat.lt_asymm (Nat.lt_succ_self _))
end
end
section
set_option tactic.hygienic false
example:True:=by
 k_with "x20"=>skip
 trivial
open SetTable
end
section
set_option tactic.hygienic false
example:True:=by
 k_with "bank"=>((fail_if_success k_extra "x22");(first | decide | exists b79,b388,b430,b431,b174,b432,b433,b434))
 trivial
open SetTable
theorem any_choose {M:Model}{A:Around}{E:Value->Shared->Prop}{s:Shared}{src:Source}{n:Nat}{Q:Nat->Shared->Prop}(hn:n≠0) (h:∀ i,i<n->Q i { s with drawn:=s.drawn.bump src }):wpAny M A (choose src n) Q E s :=
 fun _ _ _=>⟨hn,h _ (Nat.mod_lt _ (Nat.pos_of_ne_zero hn))⟩
theorem draw_order {α:Type}{M:Model}{A:Around}{E:Value->Shared->Prop} : ∀ (n:Nat) (xs:List α) {s:Shared}{Q:List α->Shared->Prop},n=xs.length->(∀ l d,l.Perm xs->Q l { s with drawn:=d })->wpAny M A (drawOrder n xs) Q E s
 | 0,xs,s,Q,e,h=>by
  have:xs=[]:=List.eq_nil_of_length_eq_zero e.symm
  subst this
  unfold drawOrder
  exact wpAny_pure (h [] s.drawn (.refl _))
 | n+1,[],s,Q,e,h=>by simp at e
 | n+1,x::xs,s,Q,e,h=>by
  unfold drawOrder
  refine wpAny_bind (any_choose (by simp) fun i hi=>?_)
  rw [List.getElem?_eq_getElem hi]
  dsimp only
  refine wpAny_bind (draw_order n _ (by rw [List.length_eraseIdx,if_pos hi];omega) fun l d hp=>?_)
  exact wpAny_pure (h _ d ((hp.cons _).trans (erase_perm hi)))
noncomputable def IsSetIterD (I a P:Addr) (pl:List Nat) (es:Array (Int × Value)) (ep:Nat) (i:Nat) (h:Heap):Prop :=
 (∃ oi,h.get? I=some oi/\oi.cls = .type "set_iterator"/\oi.data = .fields #[.ref P,.int (i:Nat) 0,.ref a,.int (es.size:Nat) 0,.int (ep:Nat) 0])/\∃ op k,h.get? P=some op/\op.data = .seq (pl.map fun (p:Nat)=>Value.int (p:Int) 0).toArray k
structure TabC (w:World) (es:Array (Int × Value)) (t:SetTable):Prop where
 ok:TabOk t es.size
 calm:Calm t es.size
 led:t.led = !byText w
 fits:t.fits es.size=true
section
variable {prog:Program}{w:World}{A:Around}{E:Value->Shared->Prop}{s:Shared}{a I P:Addr}{o:Obj}{es:Array (Int × Value)}{ep:Nat}{t:SetTable}{i:Nat}{pl:List Nat}
theorem setiter_itemD {x:Value}{p:Nat}{hs:Int}{Q:Option Value->Shared->Prop}(hPI:P≠I) (hI:IsSetIterD I a P pl es ep i s.heap) (ho:s.heap.get? a=some o) (hd:o.data = .set es ep t) (T:TabOk t es.size) (hp:pl[i]?=some p) (hx:es[p]?=some (hs,x))
  (hQ:∀ h',IsSetIterD I a P pl es ep (i+1) h'->Heap.SameBut I s.heap h'->Q (some x) { s with heap:=h' }):wpAny (model prog w) A (pyNext (.ref I)) Q E s:=by
 obtain ⟨⟨oi,hi,hc,hdi⟩,op,k,hop,hdp⟩:=hI
 have hT:s.TypeIs (.ref I) "set_iterator":=⟨oi,hi,hc⟩
 unfold pyNext
 refine wpAny_bind (wpAny_attempt (wpAny_callSpecial?_slot (name:=Str.ofString "__next__") hT slot_setiter_next
  (wpAny_call_entry slot_setiter_next hT entry_setiter_next ?_ (args_setiter_next _))))
 show wpAny _ _ (fieldsOf (.ref I) >>= _) _ _ s
 refine wpAny_bind (wpAny_fieldsOf hi hdi ?_)
 dsimp only
 refine wpAny_bind (wpAny_setEntries_of ho hd T.fits ?_)
 rw [if_neg (by simp)]
 try dsimp only
 refine wpAny_bind (wpAny_seqItems hop hdp ?_)
 dsimp only
 have e1:(pl.map fun (p:Nat)=>Value.int (p:Int) 0).toArray[(i:Int).toNat]?=some (.int (p:Int) 0):=by
  rw [Int.toNat_natCast,List.getElem?_toArray,List.getElem?_map,hp];rfl
 rw [e1]
 dsimp only
 simp only [Int.toNat_natCast]
 refine wpAny_bind ?_
 unfold setNextDrawn
 refine wpAny_bind (wpAny_setState_of ho hd T.fits ?_)
 dsimp only
 rw [if_neg (by simp),hx]
 dsimp only
 refine wpAny_pure ?_
 refine wpAny_bind (wpAny_setField hi hdi (by simp) (wpAny_pure ⟨x,rfl,wpAny_pure (hQ _ ⟨⟨_,Heap.get?_update_self _ hi (Obj.isFreed_of_fields (Obj.data_mapFields hdi _)),?_,?_⟩,op,k,?_,hdp⟩ (Heap.SameBut.update ..))⟩))
 ·rw [Obj.cls_mapFields];exact hc
 ·rw [Obj.data_mapFields hdi];simp [rawInt]
 ·exact (Heap.SameBut.update s.heap I _).2 P hPI |>.trans hop
theorem setiter_endD {Q:Option Value->Shared->Prop}(hh:A.handled=none) (hI:IsSetIterD I a P pl es ep es.size s.heap) (ho:s.heap.get? a=some o) (hd:o.data = .set es ep t) (T:TabOk t es.size) (hl:pl.length=es.size)
  (hQ:∀ h',Heap.ExtBut I s.heap h'->Q none { s with heap:=h' }):wpAny (model prog w) A (pyNext (.ref I)) Q E s:=by
 obtain ⟨⟨oi,hi,hc,hdi⟩,op,k,hop,hdp⟩:=hI
 have hT:s.TypeIs (.ref I) "set_iterator":=⟨oi,hi,hc⟩
 unfold pyNext
 refine wpAny_bind (wpAny_attempt (wpAny_callSpecial?_slot (name:=Str.ofString "__next__") hT slot_setiter_next
  (wpAny_call_entry slot_setiter_next hT entry_setiter_next ?_ (args_setiter_next _))))
 show wpAny _ _ (fieldsOf (.ref I) >>= _) _ _ s
 refine wpAny_bind (wpAny_fieldsOf hi hdi ?_)
 dsimp only
 refine wpAny_bind (wpAny_setEntries_of ho hd T.fits ?_)
 rw [if_neg (by simp)]
 try dsimp only
 refine wpAny_bind (wpAny_seqItems hop hdp ?_)
 dsimp only
 have e1:(pl.map fun (p:Nat)=>Value.int (p:Int) 0).toArray[(es.size:Int).toNat]?=none:=by
  rw [Int.toNat_natCast,List.getElem?_toArray,List.getElem?_map,List.getElem?_eq_none (by omega)];rfl
 rw [e1]
 dsimp only
 have hi1:=Heap.get?_update_self (h:=s.heap) (a:=I) (Obj.mapFields (·.setIfInBounds 0 (rawInt 0))) hi (Obj.isFreed_of_fields (Obj.data_mapFields hdi _))
 refine wpAny_bind (wpAny_setField hi hdi (by simp) ?_)
 have hd1:=Obj.data_mapFields hdi (·.setIfInBounds 0 (rawInt 0))
 refine wpAny_bind (wpAny_setField hi1 hd1 (by simp) ?_)
 show wpAny _ _ (newExc (.type "StopIteration") [] >>= _) _ _ _
 refine wpAny_bind ?_
 simp only [newExc,newTuple]
 refine wpAny_bind (wpAny_newObj_type ?_ (by size_fits))
 refine wpAny_bind (m:=firstArgMember _ _) (wpAny_of_eq (a:=Value.none) (by first | rfl | (simp only [firstArgMember];rfl)) ?_)
 refine wpAny_newObj_type ?_ (by size_fits)
 simp only [raiseNew]
 refine wpAny_bind (wpAny_handled ?_)
 rw [show A.in1.handled=none from hh]
 refine wpAny_bind (wpAny_pure (wpAny_throw ?_))
 refine wpAny_bind (wpAny_isInstance (T:="StopIteration") (b:=true) ⟨_,Heap.get?_push_size _ rfl,rfl⟩ isSubtype_stop ?_)
 exact wpAny_pure (hQ _ ((((Heap.SameBut.update ..).trans (Heap.SameBut.update ..)).extBut.push _).push _))
theorem setiter_selfD {i:Nat}{Q:Value->Shared->Prop}(hI:IsSetIterD I a P pl es ep i s.heap) (h:Q (.ref I) s):wpAny (model prog w) A (pyIter (.ref I)) Q E s:=by
 (refine G2 ?_ hI;try clear hI;intro zo68 _;obtain ⟨oi,hi,hc,hdi⟩:=zo68)
 have hT:s.TypeIs (.ref I) "set_iterator":=⟨oi,hi,hc⟩
 refine wpAny_pyIter_slot hT slot_setiter_iter (wpAny_call_entry slot_setiter_iter hT entry_setiter_iter ?_ (args_setiter_iter _))
 show wpAny _ _ (ret (.ref I)) _ _ s
 exact wpAny_pure ⟨_,rfl,"set_iterator",_,hT,slot_setiter_next.lookup,h⟩
noncomputable def ordD (es:Array (Int × Value)) (pl:List Nat):List Value:=pl.map fun p=>(es[p]?.map (·.2)).getD .none
theorem setWalksD (hh:A.handled=none) (hne:a≠I) (hPI:P≠I) (hd:o.data = .set es ep t) (T:TabOk t es.size) (hl:pl.length=es.size) (hlt:∀ p∈pl,p<es.size) :
  Walks prog w A I [I,a,P] [I] es.size (fun i v=>(ordD es pl)[i]?=some v) (fun i h=>IsSetIterD I a P pl es ep i h/\h.get? a=some o) where
 sub:=fun b hb=>by simp at hb;simp [hb]
 frame:=fun i h h' st hk=>by
  (refine G2 ?_ st;try clear st;intro zo69 ho;obtain ⟨⟨oi,hi,r⟩,op,k,hp,hdp⟩:=zo69)
  exact ⟨⟨⟨oi,hk I (by simp) _ hi,r⟩,op,k,hk P (by simp) _ hp,hdp⟩,hk a (by simp) _ ho⟩
 item:=fun i s Q E hi st hQ=>by
  have hil:i<pl.length:=by omega
  have h1:pl[i]<es.size:=hlt _ (List.getElem_mem hil)
  refine setiter_itemD (p:=pl[i]) (x:=es[pl[i]].2) (hs:=es[pl[i]].1) hPI st.1 st.2 hd T (List.getElem?_eq_getElem hil) (by rw [Array.getElem?_eq_getElem h1]) fun h' hI' hs'=>?_
  exact hQ _ h' s.toks (by unfold ordD;rw [List.getElem?_map,List.getElem?_eq_getElem hil,Option.map_some,Array.getElem?_eq_getElem h1];rfl) ⟨hI',hs'.extBut a o hne st.2⟩ fun b o hb e=>hs'.extBut b o (fun h=>hb (by simp [h])) e
 done:=fun s Q E st hQ=>setiter_endD hh st.1 st.2 hd T hl fun h' he'=>hQ h' s.toks fun b o hb e=>he' b o (fun h=>hb (by simp [h])) e
 self:=fun _ _ _ _ st hQ=>setiter_selfD st.1 hQ
theorem perm_ordD {es:Array (Int × Value)}{pl:List Nat}(hp:pl.Perm (List.range es.size)):(ordD es pl).Perm (es.toList.map (·.2)):=by
 refine (hp.map _).trans (List.Perm.of_eq ?_)
 apply List.ext_getElem?
 intro i
 have e1:es.toList[i]?=es[i]?:=Array.getElem?_toList ..
 rw [List.getElem?_map,List.getElem?_map,e1]
 by_cases hi:i<es.size
 ·rw [List.getElem?_range hi,Array.getElem?_eq_getElem hi,Option.map_some,Option.map_some,Array.getElem?_eq_getElem hi];rfl
 ·rw [List.getElem?_eq_none (by simp;omega),Array.getElem?_eq_none (by omega)];rfl
theorem set_iterH {Q:Value->Shared->Prop}(ho:s.heap.get? a=some o) (hc:o.ExactSet) (hd:o.data = .set es ep t) (T:TabC w es t)
  (h:∀ (h':Heap) d I fp (ord:List Value) (St:Nat->Heap->Prop),ord.Perm (es.toList.map (·.2))->(∀ A':Around,A'.handled=none->Walks prog w A' I fp [I] es.size (fun i v=>ord[i]?=some v) St)->St 0 h' ->
   (∀ b o,s.heap.get? b=some o->h'.get? b=some o)->s.heap.objs.size<=I->I∈fp->(∀ b∈fp,b=a∨s.heap.objs.size<=b)->(t.plain=true->d=s.drawn)->Q (.ref I) { s with heap:=h',drawn:=d }):wpAny (model prog w) A (pyIter (.ref a)) Q E s:=by
 have hlt:=Heap.lt_size ho
 by_cases hdr:byText w=false/\(!t.plain && decide (es.size > 1))=true
 ·have hT:s.TypeIs (.ref a) "set":=⟨o,ho,hc.1⟩
  have hz:es.size<=100:=by rcases T.calm with q | q | q <;> omega
  refine wpAny_pyIter_slot hT PySem.F.slot_set_iter (wpAny_call_entry PySem.F.slot_set_iter hT entry_set_iter ?_ (PySem.F.args_set_iter_1 _))
  show wpAny _ _ (Builtin.Frozenset.sizeOf a >>= _) _ _ s
  refine wpAny_bind ?_
  unfold Builtin.Frozenset.sizeOf
  refine wpAny_bind (wpAny_setEntries_of ho hd T.fits (wpAny_pure ?_))
  refine wpAny_bind ?_
  unfold setDrawn
  refine wpAny_bind (wpAny_setState_of ho hd T.fits ?_)
  unfold setsByText
  refine wpAny_bind (wpAny_bind (wpAny_askSetting (wpAny_pure ?_)))
  refine wpAny_pure ?_
  dsimp only
  rw [if_pos (by
   show (!(byText w) && (!t.plain && decide (es.size > 1)))=true
   rw [hdr.1,hdr.2];rfl)]
  refine wpAny_bind (draw_order _ _ (by simp) fun pl d hp=>?_)
  have hpl:pl.length=es.size:=by rw [hp.length_eq,List.length_range]
  simp only [newTuple]
  refine wpAny_bind (wpAny_newObj_type ?_ (by show (List.map (fun (i:Nat)=>rawInt i) pl).toArray.size<=sizeLine;rw [sizeLine_eq];simp;omega))
  refine wpAny_bind (wpAny_setEpoch_of (Heap.get?_push_of_some _ ho) hd T.fits ?_)
  refine wpAny_bind ?_
  simp only [newFields]
  refine wpAny_newObj_type ?_ (by size_fits)
  refine wpAny_pure ⟨_,rfl,"set_iterator",_,⟨_,Heap.get?_push_size _ rfl,rfl⟩,slot_setiter_next.lookup,?_⟩
  rw [Heap.size_push]
  refine h _ d _ [s.heap.objs.size+1,a,s.heap.objs.size] (ordD es pl) (fun i h=>IsSetIterD (s.heap.objs.size+1) a s.heap.objs.size pl es ep i h/\h.get? a=some o) (perm_ordD hp) (fun A' hh'=>?_) ?_ (fun b o e=>Heap.get?_push_of_some _ (Heap.get?_push_of_some _ e)) ?_ ?_ ?_ ?_
  all_goals (try rw [Heap.size_push])
  ·exact setWalksD hh' (Nat.ne_of_lt (Nat.lt_succ_of_lt hlt)) (Nat.ne_of_lt (Nat.lt_succ_self _)) hd T.ok hpl fun p hp'=>by simpa using hp.mem_iff.mp hp'
  ·refine ⟨⟨⟨{ cls:=.type "set_iterator",data:=.fields [Value.ref s.heap.objs.size,rawInt 0,.ref a,rawInt es.size,rawInt ep].toArray },?_,rfl,rfl⟩,_,0,Heap.get?_push_of_some _ (Heap.get?_push_size _ rfl),rfl⟩,Heap.get?_push_of_some _ (Heap.get?_push_of_some _ ho)⟩
   have:=Heap.get?_push_size (h:=s.heap.push { cls:=.type "tuple",data:=.seq (pl.map fun (i:Nat)=>rawInt i).toArray }) (o:={ cls:=.type "set_iterator",data:=.fields [Value.ref s.heap.objs.size,rawInt 0,.ref a,rawInt es.size,rawInt ep].toArray }) rfl
   rw [Heap.size_push] at this
   exact this
  ·exact Nat.le_succ _
  ·exact List.mem_cons_self
  ·intro b hb
   rcases List.mem_cons.mp hb with rfl | hb
   ·exact .inr (Nat.le_succ _)
   ·rcases List.mem_cons.mp hb with rfl | hb
    ·exact .inl rfl
    ·rw [List.mem_singleton.mp hb];exact .inr (Nat.le_refl _)
  ·intro e
   have:=hdr.2
   rw [e] at this
   exact absurd this Bool.false_ne_true
 ·have T':TabW w es t:=⟨T.ok,T.led,T.fits,fun e=>by
   cases hq:(!t.plain && decide (es.size > 1)) with
   | false=>rfl
   | true=>exact absurd ⟨e,hq⟩ hdr⟩
  refine set_iterW ho hc hd T' fun h' hsz hk hit=>?_
  refine h h' s.drawn _ [s.heap.objs.size,a] (setOrd w a ep es).toList (fun i h=>IsSetIter w s.heap.objs.size a es ep t i h/\h.get? a=some o) (setOrd_perm _ _ _ _) (fun A' hh'=>?_) ⟨hit,hk _ _ ho⟩ hk (Nat.le_refl _) List.mem_cons_self ?_ fun _=>rfl
  ·have:=setWalksW (prog:=prog) (A:=A') hh' (Nat.ne_of_lt hlt) hd T'
   simpa using this
  ·intro b hb
   rcases List.mem_cons.mp hb with rfl | hb
   ·exact .inr (Nat.le_refl _)
   ·rw [List.mem_singleton.mp hb];exact .inl rfl
end
end
section
set_option tactic.hygienic false
example:True:=by
 k_with "x22"=>skip
 k_with "bank"=>((fail_if_success k_extra "x23");(first | decide | exists b432,b430,b386,b174,b435,b436,b437,b433,b438))
 trivial
open SetTable
section
variable {prog:Program}{w:World}{A:Around}{E:Value->Shared->Prop}{s:Shared}{a:Addr}{o:Obj}{es:Array (Int × Value)}{ep:Nat}{t:SetTable}
theorem collect_setH {Q:List Value->Shared->Prop}(hh:A.handled=none) (ho:s.heap.get? a=some o) (hc:o.ExactSet) (hd:o.data = .set es ep t) (T:TabC w es t)
  (h:∀ h' tk dr (acc:List Value),acc.Perm (es.toList.map (·.2))->(t.plain=true->dr=s.drawn)->(∀ b o,s.heap.get? b=some o->h'.get? b=some o)->Q acc { s with heap:=h',toks:=tk,drawn:=dr }) :
  wpAny (model prog w) A (collect (.ref a)) Q E s:=by
 have hlt:a<s.heap.objs.size:=Heap.lt_size ho
 unfold collect
 refine wpAny_bind (wpAny_runValue (codeAny_builtin PySem.F.entry_proto_collect ?_))
 rw [Around.under_plainId PySem.F.plain_proto_collect _]
 show wpAny _ A.in1 (newList [] >>= fun l=>again (.builtin "list.__iadd__" ⟨[l,.ref a],[]⟩)) _ _ s
 refine wpAny_bind (wpAny_newObj_type ?_)
 refine wpAny_pure ⟨plainId_quiet PySem.F.plain_list_iadd _,codeAny_builtin PySem.F.entry_list_iadd ?_⟩
 rw [Around.under_plainId PySem.F.plain_list_iadd _]
 generalize hH:s.heap.push { cls:=.type "list",data:=.seq ([]:List Value).toArray } = H
 have hS₁:H.get? s.heap.objs.size=some (seqObj "list" #[] 0):=hH ▸ Heap.get?_push_size _ rfl
 have ho₁:H.get? a=some o:=hH ▸ Heap.get?_push_of_some _ ho
 have h1:Builtin.List.listSameRef (.ref s.heap.objs.size) (.ref a)=false:=by
  show (s.heap.objs.size == a)=false
  exact beq_false_of_ne (Nat.ne_of_gt hlt)
 show wpAny _ A.in1 (Builtin.List.listExtendWith (.ref s.heap.objs.size) (.ref a) (.ref s.heap.objs.size)) _ _ _
 unfold Builtin.List.listExtendWith
 refine wpAny_bind (wpAny_typeOf (T:="set") ⟨o,ho₁,hc.1⟩ ?_)
 rw [if_neg (by rw [h1];decide)]
 refine wpAny_bind (set_iterH ho₁ hc hd T fun h' dr I fp ord St hop hW hst hk hI1 hI2 hfp hpd=>?_)
 have hHs:H.objs.size=s.heap.objs.size+1:=by rw [← hH,Heap.size_push]
 have ho₂:=hk _ _ ho₁
 refine wpAny_bind (wpAny_holding ?_)
 unfold Builtin.List.listLengthHint
 refine wpAny_bind (wpAny_specialOf (T:="set") ⟨o,ho₂,hc.1⟩ PySem.F.slot_set_len.lookup ?_)
 (generalize hid:("set.__len__" : String)=id0;(fail_if_success (clear hid id0));wp_delta;rw [show splitId id0=some ("set","__len__") from by subst hid;decide +kernel];subst hid)
 refine wpAny_bind (wpAny_isInstance (b:=true) (T:="set") ⟨o,ho₂,hc.1⟩ sub_set_self ?_)
 show wpAny _ A.in1 (typeOf (Value.ref a) >>= _) _ _ _
 refine wpAny_bind (wpAny_typeOf (T:="set") ⟨o,ho₂,hc.1⟩ ?_)
 refine wpAny_pure ?_
 rw [if_pos (by decide)]
 have hS₂:=hk _ _ hS₁
 refine wpAny_bind (wpAny_rule ?_)
 refine wpAny_bind ?_
 unfold Builtin.List.listTouch
 refine wpAny_bind (listUpdate_at hS₂ rfl ?_ (by rw [sizeLine_eq];simp) (by rw [sizeLine_eq];simp))
 have hS₃:=get?_update_seq hS₂ (·.push Value.none)
 refine listUpdate_at hS₃ rfl ?_ (by rw [sizeLine_eq];simp) (by rw [sizeLine_eq];simp)
 have hS₄:=get?_update_seq hS₃ (·.pop)
 have hsame:=(Heap.SameBut.update h' s.heap.objs.size (Obj.mapSeq (·.push Value.none))).trans (Heap.SameBut.update _ s.heap.objs.size (Obj.mapSeq (·.pop)))
 generalize (h'.update s.heap.objs.size (Obj.mapSeq (·.push Value.none))).update s.heap.objs.size (Obj.mapSeq (·.pop))=h2 at hS₄ hsame ⊢
 have hkp:∀ b o,b≠s.heap.objs.size->h'.get? b=some o->h2.get? b=some o:=fun b o hb e=>hsame.extBut b o hb e
 have haS:a≠s.heap.objs.size:=Nat.ne_of_lt hlt
 rw [hHs] at hI1 hfp
 have hsz2:es.size<=sizeLine:=by
  have:es.size<=100:=by rcases T.calm with q | q | q <;> omega
  rw [sizeLine_eq];omega
 refine wpAny_pure ⟨plainId_quiet PySem.F.plain_extend_loop _,codeAny_extend_loopS (hW A.in1 hh).toS hsz2 s.heap.objs.size ?_ _ es.size 0 _ #[] _ rfl (Nat.zero_le _) ((hW A.in1 hh).frame _ _ _ hst fun b hb o e=>hkp b o (by
  rcases hfp b hb with rfl | q
  ·exact haS
  ·omega) e) hS₄ (ItemsOf.nil _) fun s' acc' c' hm hS' hacc=>?_⟩
 ·intro hb
  rcases hfp _ hb with q | q
  ·exact haS q.symm
  ·omega
 ·show wpAny _ A (load s.heap.objs.size >>= _) _ _ s'
  refine wpAny_bind (wpAny_load hS' ?_)
  obtain ⟨h9,g9,d9,tk9,os9⟩:=s'
  have eg:g9=s.gens:=hm.gens
  have ed:d9=dr:=hm.drawn
  have eo:os9=s.os:=hm.os
  subst eg;subst ed;subst eo
  refine wpAny_pure (h _ _ _ _ ?_ hpd fun b ob e=>?_)
  ·have hol:ord.length=es.size:=by rw [hop.length_eq,List.length_map,Array.length_toList]
   have h3:acc'.toList=ord:=by
    apply List.ext_getElem?
    intro j
    rw [Array.getElem?_toList]
    by_cases hj:j<acc'.size
    ·have h4:=hacc.2 j acc'[j] (by simp [hj])
     rw [h4];simp [hj]
    ·rw [Array.getElem?_eq_none (by omega),List.getElem?_eq_none (by rw [hol,← hacc.1];omega)]
   show List.Perm acc'.toList _
   rw [h3];exact hop
  ·have hb:=Heap.lt_size e
   have hb1:b≠s.heap.objs.size:=Nat.ne_of_lt hb
   have hb2:b≠I:=by
    have hI3:=hI1
    have hb3:b<s.heap.objs.size:=hb
    have hI4:s.heap.objs.size+1<=I:=by first | exact hI3 | (rw [← hHs];exact hI3)
    exact Nat.ne_of_lt (Nat.lt_of_lt_of_le hb3 (Nat.le_trans (Nat.le_succ _) hI4))
   exact hm.heap b ob (by simp only [List.mem_cons,List.not_mem_nil,or_false,not_or];exact ⟨hb1,hb2⟩) (hkp _ _ hb1 (hk _ _ (hH ▸ Heap.get?_push_of_some _ e)))
theorem list_sort_short {vs:List Value}{n:Nat}{P:Fin->Shared->Prop}(ho:s.heap.get? a=some (seqObj "list" vs.toArray n)) (h2:vs.length<2)
  (h:P (.done (.ret .none)) { s with heap:=sortedHeap s.heap a vs vs.toArray }) :
  wpAny (model prog w) A (Builtin.«list.sort» ⟨[.ref a],[]⟩) P E s:=by
 rw [list_sort_plain]
 have ha:a<s.heap.objs.size:=Heap.lt_size ho
 refine wpAny_bind (listItems_at ho rfl ?_)
 refine wpAny_bind (listUpdate_at ho rfl ?_ (by rw [List.size_toArray,sizeLine_eq];omega) (Nat.zero_le _))
 obtain ⟨e1,ho1⟩:∃ e1,(s.heap.update a (Obj.mapSeq fun _=>#[])).get? a=some (seqObj "list" #[] e1):=⟨_,get?_update_seq ho (fun _=>#[])⟩
 refine wpAny_bind (seqEpoch_at ho1 rfl ?_)
 refine wpAny_bind (wpAny_newTuple ?_ (by show vs.length<=_;rw [sizeLine_eq];omega))
 refine wpAny_bind (wpAny_newList ?_ (Nat.zero_le _))
 refine wpAny_holding ?_
 have ho6:(((s.heap.update a (Obj.mapSeq fun _=>#[])).push (seqObj "tuple" vs.toArray 0)).push (seqObj "list" #[] 0)).get? a=some (seqObj "list" #[] e1):=by
  rw [Heap.get?_push_ne _ _ _ (by rw [size_push',Heap.size_update];exact Nat.ne_of_lt (Nat.lt_succ_of_lt ha)),Heap.get?_push_ne _ _ _ (by rw [Heap.size_update];exact Nat.ne_of_lt ha)]
  exact ho1
 show wpAny (model prog w) A _ P E { s with heap:=((s.heap.update a (Obj.mapSeq fun _=>#[])).push (seqObj "tuple" vs.toArray 0)).push (seqObj "list" #[] 0) }
 dsimp only
 have hsz:vs.toArray.size<2:=by rw [List.size_toArray];exact h2
 rw [if_pos hsz,if_pos hsz]
 refine wpAny_bind (wpAny_pure ?_)
 rw [StateT.run_pure]
 refine wpAny_bind (wpAny_pure ?_)
 dsimp only
 have hmap:(vs.toArray.zip vs.toArray).map (·.2)=vs.toArray:=by
  apply Array.toList_inj.mp
  rw [Array.toList_map,Array.toList_zip]
  exact List.map_snd_zip (Nat.le_refl _)
 refine wpAny_bind (seqEpoch_at ho6 rfl ?_)
 refine wpAny_bind (listUpdate_at ho6 rfl ?_ (hsz2:=by show ((vs.toArray.zip vs.toArray).map (·.2)).size<=sizeLine+1;rw [hmap,List.size_toArray,sizeLine_eq];omega))
 simp only [bne_self_eq_false,Bool.false_eq_true,if_false]
 refine wpAny_pure ?_
 rw [hmap]
 exact h
end
end
section
set_option tactic.hygienic false
example:True:=by
 k_with "x23"=>skip
 k_with "bank"=>((fail_if_success k_extra "x24");(exists b439,b440))
 trivial
open SetTable
section
variable {prog:Program}{w:World}{A:Around}{E:Value->Shared->Prop}{s:Shared}{a:Addr}{o:Obj}{es:Array (Int × Value)}{ep:Nat}{t:SetTable}
theorem sorted_set_ints {ns:List Int}{Q:Value->Shared->Prop}(hh:A.handled=none) (ho:s.heap.get? a=some o) (hS:SetI prog w o ns) (hz:ns.length<60)
  (h:∀ (D:Addr) (h':Heap) tk (out:Array Value) (ns':List Int) c,h'.get? D=some (PySem.W.listOf out c)->(∀ b o,s.heap.get? b=some o->b<D)->IntsAre out.toList ns'->ns'.Perm ns->ns'.Pairwise (·<=·)->(∀ b o,s.heap.get? b=some o->h'.get? b=some o)->Q (.ref D) { s with heap:=h',toks:=tk }) :
  wpAny (model prog w) A (call (.builtin "sorted") [.ref a]) Q E s:=by
 obtain ⟨hex,es,ep,t,hd,T,hel,hI,hN⟩:=hS
 refine Calls.call_function_entry kind_sorted plain_sorted entry_sorted (args_sorted1 _) ?_
 unfold Builtin.«sorted»
 refine wpAny_bind (m:=checkCount "sorted" 1 1 _) (wpAny_pure ?_)
 refine wpAny_bind (collect_setH hh ho hex hd ⟨T.ok,T.calm,T.led,T.fits⟩ fun h1 tk1 dr acc hp hdr hk=>?_)
 rw [hdr T.plain]
 (refine E1 (ints_perm hI hp) fun ns1=>G2 fun i1 i2=>?_)
 refine wpAny_bind (wpAny_newList ?_ (by rw [i1.length,i2.length_eq,sizeLine_eq];omega))
 have hoL:(h1.push (seqObj "list" acc.toArray 0)).get? h1.objs.size=some (seqObj "list" acc.toArray 0):=Heap.get?_push_size _ rfl
 have hlen:acc.length<64:=by rw [i1.length,i2.length_eq];omega
 refine wpAny_bind (wpAny_holding (wpAny_call_entry slot_list_sort ⟨_,hoL,rfl⟩ entry_list_sort (list_sort_tree hoL i1 hlen fun out ns' a1 a2 a3=>⟨_,rfl,?_⟩) (args_list_sort _)))
 have hlt:∀ b o,s.heap.get? b=some o->b<h1.objs.size:=fun b o e=>Heap.lt_size (hk b o e)
 have g1:=get?_update_seq hoL (fun _=>#[])
 have g2:=get?_update_seq (Heap.get?_push_of_some (o:=seqObj "list" #[] 0) (Heap.get?_push_of_some (o:=seqObj "tuple" acc.toArray 0) g1 |> fun x=>x)) (fun _=>out)
 refine wpAny_pure ⟨_,rfl,h h1.objs.size _ _ out ns' _ g2 hlt a1 (a2.trans i2) a3 fun b ob e=>?_⟩
 have hb:h1.objs.size≠b:=Nat.ne_of_gt (hlt b ob e)
 unfold sortedHeap
 dsimp only
 rw [Heap.get?_update_other _ _ hb]
 refine Heap.get?_push_of_some _ (Heap.get?_push_of_some _ ?_)
 rw [Heap.get?_update_other _ _ hb]
 exact Heap.get?_push_of_some _ (hk b ob e)
end
section
variable {prog:Program}{w:World}{A:Around}{E:Value->Shared->Prop}{s:Shared}{hO:Heap}{L:Addr}{m:Str->Option Value}{news:Led}
theorem sorted_set_led {a:Addr}{o:Obj}{ns:List Int}{Q:Value->Shared->Prop}(F:Fr hO L s.heap m) (N:News hO L s.heap news) (hh:A.handled=none) (hm:(a,o)∈news) (hS:SetI prog w o ns) (hz:ns.length<60)
  (h:∀ D h' tk vs ns' c,Fr hO L h' m->News hO L h' ((D,PySem.W.listOf (List.toArray vs) c)::news)->(∀ p∈news,p.1<D)->IntsAre vs ns'->ns'.Perm ns->ns'.Pairwise (·<=·)->Q (.ref D) { s with heap:=h',toks:=tk }) :
  wpAny (model prog w) A (call (.builtin "sorted") [.ref a]) Q E s:=by
 refine sorted_set_ints hh (N _ hm).1 hS hz fun D h' tk out ns' c hD hlt i1 i2 i3 hk=>?_
 (refine E3 F.ns fun oL _ _=>G2 fun hL _=>?_)
 refine h D h' tk out.toList ns' c ⟨F.ns.at' fun o' e=>hk L o' e,fun b o' e=>hk b o' (F.keep b o' e),F.above⟩ (fun p hp=>?_) (fun p hp=>hlt _ _ (N p hp).1) i1 i2 i3
 rcases List.mem_cons.mp hp with rfl | hp
 ·refine M3 (by simpa using hD) (Nat.ne_of_gt (hlt _ _ hL)) ?_
  cases hq:hO.get? D with
  | none=>rfl
  | some o'=>exact absurd (hlt _ _ (F.keep _ _ hq)) (Nat.lt_irrefl _)
 ·refine M3 (hk _ _ (N p hp).1) ((N p hp).2.1) ((N p hp).2.2)
end
end
section
set_option tactic.hygienic false
example:True:=by
 k_with "x24"=>skip
 trivial
open SetTable
theorem kas_sort_2:kas_sort 2 = .ask 1 0 fun c=>.ret (if c then #[1,0] else #[0,1]):=by
 show KasT.ask _ _ _=_
 congr 1
 funext c
 cases c <;> rfl
theorem led_heap (h:Heap) (S:Addr->Prop) [DecidablePred S]:∃ hb:Heap,∀ b,hb.get? b=if S b then h.get? b else none:=by
 refine ⟨{ objs:=h.objs.mapIdx fun i o=>if S i then o else { cls:=.none,data:=.freed } },fun b=>?_⟩
 unfold Heap.get?
 dsimp only
 rw [Array.getElem?_mapIdx]
 cases hb:h.objs[b]? with
 | none=>simp
 | some o =>
  rw [Option.map_some]
  by_cases hS:S b
  ·rw [if_pos hS,if_pos hS]
  ·rw [if_neg hS,if_neg hS]
section
variable {prog:Program}{w:World}{A:Around}{E:Value->Shared->Prop}{s:Shared}{hO:Heap}{L:Addr}{m:Str->Option Value}{news:Led}
noncomputable def TupHp (hb:Heap) (news:Led):Prop:=∀ (b:Addr) (o:Obj),hb.get? b=some o->(b,o)∈news/\∃ items n,o=tupOf items n
open Classical in
theorem led_of {h:Heap}(N:News hO L h news):∃ hb:Heap,TupHp hb news/\∀ b items n,(b,tupOf items n)∈news->hb.get? b=some (tupOf items n):=by
 (refine E1 (led_heap h (fun b=>∃ items n,(b,tupOf items n)∈news)) fun hb hh=>?_)
 refine K1 hb (M2 (fun b o e=>?_) (fun b items n hp=>?_))
 ·rw [hh] at e
  by_cases hS:∃ items n,(b,tupOf items n)∈news
  ·rw [if_pos hS] at e
   (refine E2 hS fun items n hp=>?_;try clear hS)
   rw [(N _ hp).1] at e
   rw [← Option.some.inj e]
   refine ⟨hp,items,n,rfl⟩
  ·rw [if_neg hS] at e;cases e
 ·rw [hh,if_pos ⟨items,n,hp⟩]
  exact (N _ hp).1
noncomputable def SetTu (prog:Program) (w:World) (news:Led) (o:Obj) (ks:List (List Mix)):Prop:=∃ hb,TupHp hb news/\SetHp prog w hb o ks
theorem TupHp.keeps {hb h:Heap}(T:TupHp hb news) (N:News hO L h news):∀ b o,hb.get? b=some o->h.get? b=some o:=fun b o e=>(N _ (T b o e).1).1
theorem TupHp.tupIn {hb:Heap}{k:List Mix}{x:Addr}(T:TupHp hb news) (h:(tupK prog w).is hb k x):TupIn prog w x k news:=by
 have h':IsTupleKey (mixKind prog w) hb k x:=h
 (refine E3 h' fun o items n=>G4 fun ho hc hd hi=>?_;try clear h')
 obtain ⟨hm,it,n',rfl⟩:=T _ _ ho
 have hd':Data.seq it n'=Data.seq items n:=hd
 cases hd'
 refine K2 _ _ (M2 hm hi)
theorem set_led_newT {l:Addr}{vs:List Value}{n:Nat}{ns:List (List Mix)}{Q:Value->Shared->Prop}(F:Fr hO L s.heap m) (N:News hO L s.heap news) (hh:A.handled=none) (hu:A.units+1000<cLine) (hm:(l,PySem.W.listOf vs.toArray n)∈news)
  (hlen:vs.length=ns.length) (hi:∀ i v,i<ns.length->vs[i]?=some v->∃ x,v = .ref x/\TupIn prog w x (ns.getD i []) news) (hz:ns.length<60)
  (h:∀ D h' tk o ms,Fr hO L h' m->News hO L h' ((D,o)::news)->(∀ p∈news,p.1<D)->SetTu prog w news o ms->(∀ j,j∈ms↔j∈ns)->Q (.ref D) { s with heap:=h',toks:=tk }) :
  wpAny (model prog w) A (call (.type "set") [.ref l]) Q E s:=by
 (refine E1 (led_of N) fun hb=>G2 fun T hT=>?_)
 refine set_listT hb (T.keeps N) hh (is_listN N hm) (by simpa using hlen) (fun i v hi' hv=>?_) hz hu fun h' tk o ms ho hS he hk=>?_
 ·obtain ⟨x,rfl,items,n',hm',hI⟩:=hi i v hi' (by simpa using hv)
  refine ⟨x,rfl,_,items,n',hT _ _ _ hm',rfl,rfl,hI⟩
 (refine E3 F.ns fun oL _ _=>G2 fun hL _=>?_)
 have hLlt:L<s.heap.objs.size:=Heap.lt_size hL
 refine h _ h' tk o ms ⟨F.ns.at' fun o' e=>hk L o' hLlt e,fun b o' e=>hk b o' (Heap.lt_size (F.keep b o' e)) (F.keep b o' e),F.above⟩ (fun p hp=>?_) (fun p hp=>Heap.lt_size (N p hp).1) ⟨hb,T,hS⟩ he
 rcases List.mem_cons.mp hp with rfl | hp
 ·refine M3 ho (Nat.ne_of_gt hLlt) ?_
  cases hq:hO.get? s.heap.objs.size with
  | none=>rfl
  | some o'=>exact absurd (Heap.lt_size (F.keep _ _ hq)) (Nat.lt_irrefl _)
 ·refine M3 (hk _ _ (Heap.lt_size (N p hp).1) (N p hp).1) ((N p hp).2.1) ((N p hp).2.2)
end
end
section
set_option tactic.hygienic false
open SetTable
noncomputable def NK (f x:Str) (k:List Mix):Prop:=(∃ i,k=[.inl f,.inr i])∨k=[.inl x]
noncomputable def numK (k:List Mix):Option Int:=(k[1]?).bind fun m=>Sum.elim (fun _=>none) some m
noncomputable def ltN (a b:List Mix):Bool:=(numK a).elim false fun i=>(numK b).elim true fun j=>decide (i<j)
theorem ltN_nn {f g:Str}{i j:Int} : ltN [.inl f,.inr i] [.inl g,.inr j]=decide (i<j):=rfl
theorem ltN_l {f:Str}{k:List Mix} : ltN [.inl f] k=false:=rfl
inductive RefsT (prog:Program) (w:World) (l:Led):List Value->List (List Mix)->Prop
 | nil:RefsT prog w l [] []
 | cons {v:Value}{x:Addr}{k:List Mix}{vs:List Value}{ks:List (List Mix)} : v = .ref x->TupIn prog w x k l->RefsT prog w l vs ks->RefsT prog w l (v::vs) (k::ks)
section
variable {prog:Program}{w:World}{A:Around}{E:Value->Shared->Prop}{s:Shared}{hO:Heap}{L:Addr}{m:Str->Option Value}{news:Led}
theorem RefsT.length {vs:List Value}{ks:List (List Mix)}(H:RefsT prog w news vs ks):vs.length=ks.length:=by
 induction H with
 | nil=>rfl
 | cons _ _ _ ih=>simp [ih]
theorem RefsT.perm {vs vs':List Value}(p:vs.Perm vs'):∀ {ks:List (List Mix)},RefsT prog w news vs ks->∃ ks',RefsT prog w news vs' ks'/\ks'.Perm ks:=by
 induction p with
 | nil=>intro ks H;refine K1 ks (M2 H (.refl _))
 | cons x _ ih =>
  intro ks H
  cases H with
  | cons e hk r =>
   (refine E1 (ih r) fun ks'=>G2 fun h1 h2=>?_)
   refine K1 _ (M2 (.cons e hk h1) (h2.cons _))
 | swap x y l =>
  intro ks H
  cases H with
  | cons e hk r =>
   cases r with
   | cons e2 hk2 r2=>refine K1 _ (M2 (.cons e2 hk2 (.cons e hk r2)) (.swap _ _ _))
 | trans _ _ ih1 ih2 =>
  intro ks H
  (refine E1 (ih1 H) fun k1=>G2 fun a1 a2=>?_)
  (refine E1 (ih2 a1) fun k2=>G2 fun b1 b2=>?_)
  refine K1 k2 (M2 b1 (b2.trans a2))
theorem RefsT.of {hb:Heap}(T:TupHp hb news) {el:List (Int × Value)}{ks:List (List Mix)}(H:EsAre prog w hb el ks):RefsT prog w news (el.map (·.2)) ks:=by
 induction H with
 | nil=>exact .nil
 | cons hk _ ih=>exact .cons rfl (T.tupIn hk) ih
theorem items_f {f:Str}{i:Int}{vs:List Value}(h:ItemsAre (mixKind prog w) [.inl f,.inr i] vs):∃ t u,vs=[.str f t,.int i u]:=by
 cases h with
 | cons h1 r =>
  cases r with
  | cons h2 r =>
   cases r
   have h1:mixIs (.inl f) _=true:=h1
   have h2:mixIs (.inr i) _=true:=h2
   (refine E1 (Value.isStrOf_shape h1) fun t zo70=>?_;rcases zo70 with rfl)
   (refine E1 (Value.isInt_shape h2) fun u zo71=>?_;rcases zo71 with rfl)
   refine K2 t u rfl
theorem items_x {x:Str}{vs:List Value}(h:ItemsAre (mixKind prog w) [.inl x] vs):∃ t,vs=[.str x t]:=by
 cases h with
 | cons h1 r =>
  cases r
  have h1:mixIs (.inl x) _=true:=h1
  (refine E1 (Value.isStrOf_shape h1) fun t zo72=>?_;rcases zo72 with rfl)
  exact ⟨t,rfl⟩
theorem nk_items {f x:Str}{k:List Mix}{a:Addr}(hk:NK f x k) (T:TupIn prog w a k news):(∃ i t u n,k=[.inl f,.inr i]/\(a,tupOf #[.str f t,.int i u] n)∈news)∨(∃ t n,k=[.inl x]/\(a,tupOf #[.str x t] n)∈news):=by
 (refine E2 T fun items n=>G2 fun hm hi=>?_;try clear T)
 rcases hk with ⟨i,rfl⟩ | rfl
 ·(refine E2 (items_f hi) fun t u e=>?_)
  refine .inl ⟨i,t,u,n,rfl,?_⟩
  rw [← Array.toArray_toList (xs:=items),e] at hm
  exact hm
 ·(refine E1 (items_x hi) fun t e=>?_)
  refine .inr ⟨t,n,rfl,?_⟩
  rw [← Array.toArray_toList (xs:=items),e] at hm
  exact hm
theorem tup_lt {f x:Str}{a b:Addr}{k1 k2:List Mix}{Q:Bool->Shared->Prop}(hfx:f≠x) (hlt:f.cps.toList<x.cps.toList) (hxf:¬ x.cps.toList<f.cps.toList) (N:News hO L s.heap news) (h1:NK f x k1) (h2:NK f x k2) (T1:TupIn prog w a k1 news) (T2:TupIn prog w b k2 news) (hne:k1≠k2) (h:Q (ltN k1 k2) s) :
  wpAny (model prog w) A (keyLt' (tuples' true) (.ref a) (.ref b)) Q E s:=by
 rcases nk_items h1 T1 with ⟨i,t,u,n,rfl,m1⟩ | ⟨t,n,rfl,m1⟩ <;> rcases nk_items h2 T2 with ⟨j,t',u',n',rfl,m2⟩ | ⟨t',n',rfl,m2⟩
 ·refine kat_lt (N _ m1).1 rfl (N _ m2).1 rfl (kat_cons (wpAny_eqBool_str ?_))
  rw [decide_eq_true rfl]
  refine kat_yes (kat_cons (wpAny_eqBool_int ?_))
  have hij:i≠j:=fun e=>hne (by rw [e])
  rw [show (i == j)=false from beq_false_of_ne hij]
  refine kat_no ?_
  show wpAny _ _ (oneLt' false _ _) _ _ _
  exact kat_one _ _ (lt_int h)
 ·refine kat_lt (N _ m1).1 rfl (N _ m2).1 rfl (kat_cons (wpAny_eqBool_str ?_))
  rw [decide_eq_false hfx]
  refine kat_no ?_
  show wpAny _ _ (oneLt' true _ _) _ _ _
  refine oneLt_str ?_
  rw [decide_eq_true hlt]
  exact h
 ·refine kat_lt (N _ m1).1 rfl (N _ m2).1 rfl (kat_cons (wpAny_eqBool_str ?_))
  rw [decide_eq_false (Ne.symm hfx)]
  refine kat_no ?_
  show wpAny _ _ (oneLt' true _ _) _ _ _
  refine oneLt_str ?_
  rw [decide_eq_false hxf]
  exact h
 ·exact absurd rfl hne
end
end
section
set_option tactic.hygienic false
example:True:=by
 k_with "bank"=>((fail_if_success k_extra "x27");(first | decide | exists b494,b430,b495,b496,b432,b433,b497))
 trivial
open SetTable
section
variable {prog:Program}{w:World}{A:Around}{E:Value->Shared->Prop}{s:Shared}{hO:Heap}{L:Addr}{m:Str->Option Value}{news:Led}
theorem sort_two {f x:Str}{a:Addr}{n:Nat}{vs:List Value}{ks:List (List Mix)}{P:PySem.Fin->Shared->Prop}(hfx:f≠x) (hlt:f.cps.toList<x.cps.toList) (hxf:¬ x.cps.toList<f.cps.toList)
  (F:Fr hO L s.heap m) (N:News hO L s.heap news) (ho:s.heap.get? a=some (seqObj "list" vs.toArray n)) (haL:a≠L) (ha0:hO.get? a=none) (hna:∀ p∈news,p.1≠a) (H:RefsT prog w news vs ks) (hz:vs.length<=2) (hk:∀ k∈ks,NK f x k) (hN:ks.Nodup)
  (h:∀ h' vs' ks' c,Fr hO L h' m->News hO L h' ((a,listOf (List.toArray vs') c)::news)->RefsT prog w news vs' ks'->ks'.Perm ks->ks'.Pairwise (fun p q=>ltN p q=true)->P (.done (.ret .none)) { s with heap:=h' }) :
  wpAny (model prog w) A (Builtin.«list.sort» ⟨[.ref a],[]⟩) P E s:=by
 have ha:a<s.heap.objs.size:=Heap.lt_size ho
 by_cases h2:vs.length<2
 ·refine list_sort_short ho h2 ?_
  have s1:=Heap.SameBut.update s.heap a (Obj.mapSeq fun _=>(#[]:Array Value))
  have g1:=get?_update_seq ho (fun _=>#[])
  obtain ⟨c,g2⟩:∃ c,(sortedHeap s.heap a vs vs.toArray).get? a=some (seqObj "list" vs.toArray c):=⟨_,get?_update_seq (Heap.get?_push_of_some (o:=seqObj "list" #[] 0) (Heap.get?_push_of_some (o:=seqObj "tuple" vs.toArray 0) g1 |> fun x=>x)) (fun _=>vs.toArray)⟩
  have F3:Fr hO L (((s.heap.update a (Obj.mapSeq fun _=>(#[]:Array Value))).push (seqObj "tuple" vs.toArray 0)).push (seqObj "list" #[] 0)) m:=((kas_fr F s1 haL ha0).push _).push _
  have N2:News hO L (((s.heap.update a (Obj.mapSeq fun _=>(#[]:Array Value))).push (seqObj "tuple" vs.toArray 0)).push (seqObj "list" #[] 0)) news :=
   (kas_news N s1 hna).grown fun b x e=>Heap.get?_push_of_some _ (Heap.get?_push_of_some _ e)
  have s2:=Heap.SameBut.update (((s.heap.update a (Obj.mapSeq fun _=>(#[]:Array Value))).push (seqObj "tuple" vs.toArray 0)).push (seqObj "list" #[] 0)) a (Obj.mapSeq fun _=>vs.toArray)
  refine h _ vs ks c (kas_fr F3 s2 haL ha0) (fun p hp=>?_) H (.refl _) ?_
  ·rcases List.mem_cons.mp hp with rfl | hp
   ·refine M3 g2 haL ha0
   ·exact kas_news N2 s2 hna p hp
  ·cases H with
   | nil=>exact .nil
   | cons _ _ r =>
    cases r with
    | nil=>exact List.pairwise_singleton _ _
    | cons _ _ r=>exact absurd h2 (by simp only [List.length_cons];omega)
 ·obtain ⟨v1,v2,rfl⟩:∃ v1 v2,vs=[v1,v2]:=by
   match vs,hz,h2 with
   | [],_,h2=>simp at h2
   | [_],_,h2=>simp at h2
   | [v1,v2],_,_=>refine K2 v1 v2 rfl
   | _::_::_::_,hz,_=>simp at hz
  cases H with
  | @cons _ x1 k1 _ ks1 e1 T1 r =>
  cases r with
  | @cons _ x2 k2 _ ks2 e2 T2 r =>
  cases r
  subst e1;subst e2
  have hne:k2≠k1:=by
   have:=hN
   simp only [List.nodup_cons,List.mem_singleton] at this
   exact fun e=>this.1 e.symm
  have hk1:=hk k1 (by simp)
  have hk2:=hk k2 (by simp)
  refine kat_list_sort F N ho haL ha0 hna (Nat.le_refl 2) (by show 2<64;omega) fun e1 h' F' N'=>?_
  have N1:News hO L h' news:=fun p hp=>N' p (.tail _ hp)
  have tot:∀ {b:Bool},b=ltN k2 k1->b=false->ltN k1 k2=true:=by
   intro b e1 e2
   rw [e2] at e1
   rcases hk1 with ⟨i,rfl⟩ | rfl <;> rcases hk2 with ⟨j,rfl⟩ | rfl
   ·have hij:i≠j:=fun e=>hne (by rw [e])
    rw [ltN_nn] at e1 ⊢
    have:¬ j<i:=by simpa using e1
    simp;omega
   ·rfl
   ·cases e1
   ·exact absurd rfl hne
  have fst:∀ {k:List Mix}{a:Addr},NK f x k->TupIn prog w a k news->∃ (y:Str) (t:Tok) (items:Array Value) (n:Nat),(a,tupOf items n)∈news/\items[0]?=some (.str y t):=by
   intro k a hk T
   rcases nk_items hk T with ⟨i,t,u,n,rfl,m1⟩ | ⟨t,n,rfl,m1⟩
   ·refine K4 _ t _ n (M2 m1 rfl)
   ·refine K4 _ t _ n (M2 m1 rfl)
  (refine E4 (fst hk1 T1) fun y1 t1 it1 n1=>G2 fun m1 q1=>?_)
  (refine E4 (fst hk2 T2) fun y2 t2 it2 n2=>G2 fun m2 q2=>?_)
  refine kat_kind (vs:=[.ref x1,.ref x2]) (fs:=[.str y1 t1,.str y2 t2]) (T:=.type "str") (.cons (N1 _ m1).1 rfl rfl q1 (.cons (N1 _ m2).1 rfl rfl q2 .nil)) (by simp) (fun v hv=>?_) (by decide) ?_
  ·have:∃ y t,v = .str y t:=by
    rcases List.mem_cons.mp hv with rfl | hv
    ·refine K2 _ _ rfl
    ·rw [List.mem_singleton.mp hv];refine K2 _ _ rfl
   (refine E2 this fun y t zo73=>?_;try clear this;rcases zo73 with rfl)
   exact Looks.of_pure rfl
  show (kas_sort 2).kasWp _ _ _
  rw [show (Value.type "str" != Value.type "tuple")=true from by decide,kas_sort_2]
  show wpAny (model prog w) A (keyLt' (tuples' true) (.ref x2) (.ref x1)) _ _ _
  refine tup_lt hfx hlt hxf N1 hk2 hk1 T2 T1 hne ?_
  show KasFin _ _ _ _ _ _ _ _
  refine KasFin.intro F' N' (.head hna) fun h'' c F'' N''=>?_
  cases hb:ltN k2 k1 with
  | true =>
   rw [hb] at N''
   refine h h'' [.ref x2,.ref x1] [k2,k1] c F'' N'' (.cons rfl T2 (.cons rfl T1 .nil)) (.swap _ _ _) ?_
   simp [hb]
  | false =>
   rw [hb] at N''
   refine h h'' [.ref x1,.ref x2] [k1,k2] c F'' N'' (.cons rfl T1 (.cons rfl T2 .nil)) (.refl _) ?_
   simp [tot hb.symm rfl]
theorem sorted_setT {f x:Str}{a:Addr}{o:Obj}{ks:List (List Mix)}{Q:Value->Shared->Prop}(hfx:f≠x) (hlt:f.cps.toList<x.cps.toList) (hxf:¬ x.cps.toList<f.cps.toList)
  (F:Fr hO L s.heap m) (N:News hO L s.heap news) (hh:A.handled=none) (hm:(a,o)∈news) (hS:SetTu prog w news o ks) (hz:ks.length<=2) (hk:∀ k∈ks,NK f x k)
  (h:∀ D h' tk dr vs ks' c,Fr hO L h' m->News hO L h' ((D,listOf (List.toArray vs) c)::news)->(∀ p∈news,p.1<D)->RefsT prog w news vs ks'->ks'.Perm ks->ks'.Pairwise (fun p q=>ltN p q=true)->Q (.ref D) { s with heap:=h',toks:=tk,drawn:=dr }) :
  wpAny (model prog w) A (call (.builtin "sorted") [.ref a]) Q E s:=by
 obtain ⟨hb,T,hex,es,ep,t,hd,TF,hE,hND⟩:=hS
 refine Calls.call_function_entry kind_sorted plain_sorted entry_sorted (args_sorted1 _) ?_
 unfold Builtin.«sorted»
 refine wpAny_bind (m:=checkCount "sorted" 1 1 _) (wpAny_pure ?_)
 refine wpAny_bind (collect_setH hh (N _ hm).1 hex hd ⟨TF.ok,TF.calm,TF.led,TF.fits⟩ fun h1 tk1 dr acc hp _ hkp=>?_)
 (refine E1 ((RefsT.of T hE).perm hp.symm) fun ks1=>G2 fun R1 p1=>?_)
 have hal:acc.length<=2:=by rw [R1.length,p1.length_eq];exact hz
 refine wpAny_bind (wpAny_newList ?_ (by rw [sizeLine_eq];omega))
 have hoL:(h1.push (seqObj "list" acc.toArray 0)).get? h1.objs.size=some (seqObj "list" acc.toArray 0):=Heap.get?_push_size _ rfl
 (refine E3 F.ns fun oL _ _=>G2 fun hL _=>?_)
 have hlt1:∀ b o,s.heap.get? b=some o->b<h1.objs.size:=fun b o e=>Heap.lt_size (hkp b o e)
 have keep:∀ b o,s.heap.get? b=some o->(h1.push (seqObj "list" acc.toArray 0)).get? b=some o:=fun b o e=>Heap.get?_push_of_some _ (hkp b o e)
 have h0n:hO.get? h1.objs.size=none:=by
  cases hq:hO.get? h1.objs.size with
  | none=>rfl
  | some o'=>exact absurd (hlt1 _ _ (F.keep _ _ hq)) (Nat.lt_irrefl _)
 refine wpAny_bind (wpAny_holding (wpAny_call_entry slot_list_sort ⟨_,hoL,rfl⟩ entry_list_sort (sort_two (s:={ s with heap:=h1.push (seqObj "list" acc.toArray 0),toks:=tk1,drawn:=dr }) hfx hlt hxf (F.kept keep) (N.grown keep) hoL (Nat.ne_of_gt (hlt1 _ _ hL)) h0n (fun p hp=>Nat.ne_of_lt (hlt1 _ _ (N p hp).1)) R1 hal (fun k hk'=>hk k (p1.mem_iff.mp hk')) (p1.nodup_iff.mpr hND) fun h' vs' ks' c F' N' R' p' s'=>⟨_,rfl,?_⟩) (args_list_sort _)))
 exact wpAny_pure ⟨_,rfl,h _ h' tk1 dr vs' ks' c F' N' (fun p hp=>hlt1 _ _ (N p hp).1) R' (p'.trans p1) s'⟩
theorem len_setT {a:Addr}{o:Obj}{ks:List (List Mix)}{Q:Value->Shared->Prop}(N:News hO L s.heap news) (hm:(a,o)∈news) {l:Led}(hS:SetTu prog w l o ks)
  (h:∀ t tk,Q (.int ks.length t) { s with toks:=tk }):wpAny (model prog w) A (call (.builtin "len") [.ref a]) Q E s:=by
 obtain ⟨hb,T,hex,es,ep,t,hd,TF,hE,hND⟩:=hS
 have hz:es.size<=100:=by rcases TF.calm with q | q | q <;> omega
 have hl:es.size=ks.length:=by rw [← hE.length,Array.length_toList]
 refine call_len_set (N _ hm).1 hex hd TF.fits (by omega) ?_
 rw [hl]
 exact h _ _
end
end
section
set_option tactic.hygienic false
example:True:=by
 k_with "x27"=>skip
 k_with "bank"=>((fail_if_success k_extra "x28");(exists b25))
 trivial
noncomputable def DS (prog:Program) (w:World) (d:Addr) (N:Nat) (f:Str->Option Value) (l:Led):Prop :=
 (d == sysModules)=false/\∃ o kvs,(d,o)∈l/\o.IsDictOf (PySem.strKind prog w) kvs/\kvs.length<=N/\∀ k,valueAt kvs k=f k
theorem DS.move {prog:Program}{w:World}{d:Addr}{n:Nat}{f:Str->Option Value}{l l':Led}(H:DS prog w d n f l) (h:∀ p∈l,p.1=d->p∈l'):DS prog w d n f l':=by
 obtain ⟨a,o,kvs,hm,r⟩:=H
 refine ⟨a,o,kvs,h _ hm rfl,r⟩
theorem DS.cons {prog:Program}{w:World}{d:Addr}{n:Nat}{f:Str->Option Value}{p:Addr × Obj}{l:Led}(H:DS prog w d n f l):DS prog w d n f (p::l):=H.move fun _ h _=>.tail _ h
theorem DS.obj {prog:Program}{w:World}{d:Addr}{n:Nat}{f:Str->Option Value}{l:Led}(H:DS prog w d n f l):∃ o,(d,o)∈l:=let ⟨_,o,_,hm,_⟩:=H;⟨o,hm⟩
section
variable {prog:Program}{w:World}{A:Around}{E:Value->Shared->Prop}{s:Shared}{hO:Heap}{L d:Addr}{v:Value}{m:Str->Option Value}{news:Led}{k:Str}{t:Tok}{n:Nat}{f:Str->Option Value}
theorem DS.of (H:DS prog w d n f news) (N:News hO L s.heap news):∃ kvs,s.heap.DictOf (PySem.strKind prog w) d kvs/\kvs.length<=n/\∀ k,valueAt kvs k=f k:=by
 obtain ⟨a,o,kvs,hm,b,c,e⟩:=H
 refine K1 kvs (M3 (Heap.dictOf_iff.mpr ⟨o,(N _ hm).1,b⟩) c e)
theorem DS.after {h':Heap}{kvs':List (Str × Value)}{n':Nat}{f':Str->Option Value}(H:DS prog w d n f news) (N:News hO L s.heap news) (F:Fr hO L s.heap m) (hm:h'.DictOf (PySem.strKind prog w) d kvs') (hs:Heap.SameBut d s.heap h') (hl:kvs'.length<=n') (hf:∀ k,valueAt kvs' k=f' k) :
  ∃ o',Fr hO L h' m/\News hO L h' (setL d o' news)/\DS prog w d n' f' (setL d o' news):=by
 obtain ⟨lo,o,kvs,hm0,b,c,e⟩:=H
 (refine E1 (Heap.dictOf_iff.mp hm) fun o'=>G2 fun ho' hd'=>?_)
 have z:=N _ hm0
 refine ⟨o',F.change hs z.2.1 z.2.2,N.replace hs ho',lo,o',kvs',mem_setL_self hm0,hd',hl,hf⟩
theorem ds_item {Q:Value->Shared->Prop}{value slice:Expr}(N:News hO L s.heap news) (H:DS prog w d n f news) (hp:f k=some v) (h:∀ tk,Q v { s with toks:=tk })
  (hs:subscripted slice false (.ref d) (.str k t)=operate [.ref d,.str k t] (getItem (.ref d) (.str k t)):=by with_unfolding_all rfl) :
  wpAny (model prog w) A (subscriptTail value slice (.ref d) (.str k t)) Q E s:=by
 (refine E1 (H.of N) fun kvs=>G3 fun hD _ hv=>?_)
 exact tail_any hD.typeIs slot_dict_getitem.lookup (wpAny_getItem_of (knd:=PySem.strKind prog w) (PySem.strKind_is prog w k t) hD.mapOf (by rw [hv,hp]) (h _)) hs
theorem ds_set {Q:Unit->Shared->Prop}{u:Value}(F:Fr hO L s.heap m) (N:News hO L s.heap news) (H:DS prog w d n f news) (hz:n<100000) (hp:f k=some u)
  (h:∀ h' tk o',Fr hO L h' m->News hO L h' (setL d o' news)->DS prog w d n (fun j=>if j=k then some v else f j) (setL d o' news)->Q () { s with heap:=h',toks:=tk }) :
  wpAny (model prog w) A (setItem (.ref d) (.str k t) v) Q E s:=by
 (refine E1 (H.of N) fun kvs=>G3 fun hD hl hv=>?_)
 refine wpAny_setItem_pairs (knd:=PySem.strKind prog w) (PySem.strKind_is prog w k t) hD (fun h' hm hs=>?_) (by rw [sizeLine_eq];omega)
 (refine E1 (H.after (f':=fun j=>if j=k then some v else f j) (n':=n) N F hm hs (by
   rw [stored_len_old (u:=u) (by rw [hv,hp])];exact hl) (fun j=>by
   rw [valueAt_stored,hv])) fun o'=>G3 fun F' N' H'=>?_)
 exact h h' _ o' F' N' H'
theorem ds_set_o {Q:Unit->Shared->Prop}{u:Value}(F:Fr hO L s.heap m) (N:News hO L s.heap news) (H:DS prog w d n f news) (hz:n<100000) (hp:f k=some u)
  (h:∀ h' tk o' l',Fr hO L h' m->News hO L h' l'->SetTo d o' news l'->(d,o')∈l'->DS prog w d n (fun j=>if j=k then some v else f j) l'->Q () { s with heap:=h',toks:=tk }) :
  wpAny (model prog w) A (setItem (.ref d) (.str k t) v) Q E s:=by
 (refine E1 H.obj fun o ho=>?_)
 exact ds_set F N H hz hp fun h' tk o' F' N' H'=>h h' tk o' _ F' N' (.of _ _ _) (mem_setL_self ho) H'
theorem DS.congr {f':Str->Option Value}(H:DS prog w d n f news) (h:∀ k,f k=f' k):DS prog w d n f' news:=by
 obtain ⟨a,o,kvs,hm,b,c,e⟩:=H
 refine ⟨a,o,kvs,hm,b,c,fun k=>(e k).trans (h k)⟩
end
end
section
set_option tactic.hygienic false
example:True:=by
 k_with "x28"=>skip
 k_with "bank"=>((fail_if_success k_extra "x29");(exists b534))
 trivial
noncomputable def ForEndD (hO:Heap) (L:Addr) (J:(Str->Option Value)->Led->Prop) (own:Led) (s₁:Shared) (Q:Flow->Shared->Prop) (f:Flow) (s₂:Shared):Prop :=
 match f with
 | .ret v=>Q (.ret v) s₂
 | .brk=>Q .next s₂
 | _=>∃ h' tk dr m' l',s₂ = { s₁ with heap:=h',toks:=tk,drawn:=dr }/\Fr hO L h' m'/\News hO L h' (own++l')/\(∀ p∈l',∀ q∈own,p.1≠q.1)/\J m' l'
theorem ForEndD.mkS {hO:Heap}{L:Addr}{Q:Flow->Shared->Prop}{J:(Str->Option Value)->Led->Prop}{own:Led}{s₁ s₂:Shared}{h':Heap}{tk:Nat}{m':Str->Option Value}{l':Led}(F:Fr hO L h' m') (N:News hO L h' l') (hm:∀ p∈own,p∈l') (e:s₂ = { s₁ with heap:=h',toks:=tk,drawn:=s₂.drawn })
  (hJ:∀ l'',(∀ p∈l',(∀ q∈own,p.1≠q.1)->p∈l'')->J m' l''):ForEndD hO L J own s₁ Q .next s₂:=by
 classical
 refine K5 h' tk s₂.drawn m' (l'.filter fun p=>decide (∀ q∈own,p.1≠q.1)) (M5 e F (News.sub N fun p hp=>?_) (fun p hp=>of_decide_eq_true (List.mem_filter.mp hp).2) (hJ _ fun p hp hn=>List.mem_filter.mpr ⟨hp,decide_eq_true hn⟩))
 rcases List.mem_append.mp hp with h | h
 ·exact hm p h
 ·exact (List.mem_filter.mp h).1
noncomputable def LoopAtD (prog:Program) (w:World) (A:Around) (env:Env) (target:Expr) (body:List Stmt) (Q:Flow->Shared->Prop) (E:Value->Shared->Prop) (it:Value) (s₂:Shared):Prop :=
 codeAny (model prog w) A (.forLoop target it body [] env) (fun r s'=>match r with | .ok f=>Q f s' | .error e=>cameBackBy (model prog w) A env E e s') s₂
section
variable {prog:Program}{w:World}{A:Around}{E:Value->Shared->Prop}{s:Shared}{hO:Heap}{env:Env}{x:Str}{body:List Stmt}{Q:Flow->Shared->Prop}{news:Led}{m₀:Str->Option Value}
theorem For_D {target iter:Expr}{pos:Pos}(h:wpAny (model prog w) A (eval iter env) (fun xv s₁=>wpAny (model prog w) A (pyIter xv) (fun it s₂=>LoopAtD prog w A env target body Q E it s₂) E s₁) E s)
  (hs:∀ x,foldedSetIterable iter env x=pure x:=by intro _;rfl):wpAny (model prog w) A (exec (.For target iter body [] pos) env) Q E s:=wpAny_For h hs
noncomputable def enumO (it:Addr) (i:Int) (old:Value):Obj:={ cls:=.type "enumerate",dict:=none,data:=.fields #[.none,.bool false,.ref it,rawInt i,.none,old],slots:=#[] }
theorem call_enum_D {ax:Addr}{vs:List Value}{k:Nat}{Q:Value->Shared->Prop}{L:Addr}(F:Fr hO L s.heap m₀) (N:News hO L s.heap news) (hm:(ax,PySem.W.listOf vs.toArray k)∈news)
  (h:∀ h' e it oi,Fr hO L h' m₀->News hO L h' ((e,enumO it 0 .none)::(it,oi)::news)->h'.IsListIter it ax 0->e≠it->(∀ p∈news,p.1≠e/\p.1≠it)->Q (.ref e) { s with heap:=h' }) :
  wpAny (model prog w) A (call (.type "enumerate") [.ref ax]) Q E s:=by
 have hL:=F.ns.lt
 have hz:hO.objs.size<=s.heap.objs.size:=Nat.le_of_lt (Nat.lt_of_le_of_lt F.above hL)
 have hn:∀ b,s.heap.objs.size<=b->hO.get? b=none:=fun b hb=>by
  cases e:hO.get? b with
  | none=>rfl
  | some o=>exact absurd (Heap.lt_size e) (Nat.not_lt.mpr (Nat.le_trans hz hb))
 refine call_enumerate_list (is_listN N hm) fun h' he hit hsz hk=>?_
 (refine E1 (id hit) fun oi=>G2 fun hoi hd=>?_)
 refine h h' _ _ oi ⟨F.ns.keeps hk,fun b o e=>hk b o (F.keep b o e),F.above⟩ (fun p hp=>?_) hit (Nat.ne_of_gt (Nat.lt_succ_self _)) fun p hp=>?_
 ·rcases List.mem_cons.mp hp with rfl | hp
  ·refine M3 he (Nat.ne_of_gt (Nat.lt_succ_of_lt hL)) (hn _ (Nat.le_succ _))
  ·rcases List.mem_cons.mp hp with rfl | hp
   ·refine M3 hoi (Nat.ne_of_gt hL) (hn _ (Nat.le_refl _))
   ·exact ⟨hk _ _ (N p hp).1,(N p hp).2⟩
 ·have:=Heap.lt_size (N p hp).1
  exact ⟨Nat.ne_of_lt (Nat.lt_succ_of_lt this),Nat.ne_of_lt this⟩
theorem assign_enum {xk xi xj:Str}{pk pi pj p1 p2:Pos}{c1 c2:Nat}{b a:Addr}{i:Int}{tk:Tok}{v0 v1:Value}{n:Nat}{P:Unit->Shared->Prop}{l:Led}(hh:A.handled=none) (hxk:env.kindOf xk=some .local) (hxi:env.kindOf xi=some .local) (hxj:env.kindOf xj=some .local)
  (hp:(env.scope.kind == .class || (env.scope.kind == .module && env.locals != env.globals))=false)
  (F:Fr hO env.locals s.heap m₀) (N:News hO env.locals s.heap l) (ht:s.heap.IsTuple b #[.int i tk,.ref a]) (ma:(a,tupOf #[v0,v1] n)∈l)
  (h:∀ h' tk',Fr hO env.locals h' (fun y=>if y=xj then some v1 else if y=xi then some v0 else if y=xk then some (.int i tk) else m₀ y)->News hO env.locals h' l->P () { s with heap:=h',toks:=tk' }) :
  wpAny (model prog w) A (assign (.Tuple [.Name xk pk,.Tuple [.Name xi pi,.Name xj pj] c1 p1] c2 p2) env (.ref b)) P E s:=by
 refine wpAny_assign_Tuple hh ht rfl rfl fun h₃ hx₃=>?_
 replace hx₃:Heap.ExtBut s.heap.objs.size s.heap h₃:=hx₃
 have up₃:∀ b o,s.heap.get? b=some o->h₃.get? b=some o:=fun b o x=>hx₃ b o (Nat.ne_of_lt (Heap.lt_size x)) x
 have F₃:Fr hO env.locals h₃ _:=⟨F.ns.at' fun o x=>up₃ _ o x,fun b o x=>up₃ _ _ (F.keep b o x),F.above⟩
 have N₃:News hO env.locals h₃ _:=fun p hp=>⟨up₃ _ _ (N p hp).1,(N p hp).2⟩
 clear up₃ hx₃ ht F N
 dsimp only
 show wpAny _ A (do holding [.ref a] (assign (.Name xk pk) env (.int i tk));do holding [] (assign (.Tuple [.Name xi pi,.Name xj pj] c1 p1) env (.ref a));pure ()) _ _ _
 refine wpAny_bind (wpAny_holding (wpAny_assign_Name (wpAny_storeName_local hxk F₃.ns (fun h₄ hn₄ hs₄=>?_) hp)))
 have F₄:=F₃.set hn₄ hs₄
 have N₄:=N₃.set hs₄
 have ta:h₄.IsTuple a #[v0,v1]:=⟨_,(N₄ _ ma).1,rfl,_,rfl⟩
 clear hn₄ hs₄ F₃ N₃
 refine wpAny_bind (wpAny_holding (wpAny_assign_Tuple hh ta rfl rfl fun h₅ hx₅=>?_))
 replace hx₅:Heap.ExtBut h₄.objs.size h₄ h₅:=hx₅
 have up₅:∀ b o,h₄.get? b=some o->h₅.get? b=some o:=fun b o x=>hx₅ b o (Nat.ne_of_lt (Heap.lt_size x)) x
 have F₅:Fr hO env.locals h₅ _:=⟨F₄.ns.at' fun o x=>up₅ _ o x,fun b o x=>up₅ _ _ (F₄.keep b o x),F₄.above⟩
 have N₅:News hO env.locals h₅ _:=fun p hp=>⟨up₅ _ _ (N₄ p hp).1,(N₄ p hp).2⟩
 clear up₅ hx₅ ta F₄ N₄
 dsimp only
 show wpAny _ A (do holding [v1] (assign (.Name xi pi) env v0);do holding [] (assign (.Name xj pj) env v1);pure ()) _ _ _
 refine wpAny_bind (wpAny_holding (wpAny_assign_Name (wpAny_storeName_local hxi F₅.ns (fun h₆ hn₆ hs₆=>?_) hp)))
 have F₆:=F₅.set hn₆ hs₆
 have N₆:=N₅.set hs₆
 clear hn₆ F₅ N₅
 refine wpAny_bind (wpAny_holding (wpAny_assign_Name (wpAny_storeName_local hxj F₆.ns (fun h₇ hn₇ hs₇=>wpAny_pure (wpAny_pure ?_)) hp)))
 exact h h₇ _ (F₆.set hn₇ hs₇) (N₆.set hs₇)
theorem for_enum_D {xk xi xj:Str}{pk pi pj p1 p2:Pos}{c1 c2:Nat}{e it ax:Addr}{oi:Obj}{vs:List Value}{k:Nat}(J:Nat->(Str->Option Value)->Led->Prop) (hh:A.handled=none) (hxk:env.kindOf xk=some .local) (hxi:env.kindOf xi=some .local) (hxj:env.kindOf xj=some .local)
  (hp:(env.scope.kind == .class || (env.scope.kind == .module && env.locals != env.globals))=false)
  (F:Fr hO env.locals s.heap m₀) (N:News hO env.locals s.heap ((e,enumO it 0 .none)::(it,oi)::news)) (hit:s.heap.IsListIter it ax 0) (hei:e≠it) (hoff:∀ p∈news,p.1≠e/\p.1≠it) (hJ:J 0 m₀ news)
  (hS:∀ i m l,J i m l->(ax,PySem.W.listOf vs.toArray k)∈l)
  (hT:∀ i v m l,vs[i]?=some v->J i m l->∃ a v0 v1 n,v = .ref a/\(a,tupOf #[v0,v1] n)∈l)
  (turn:∀ (i:Nat) a v0 v1 n t m₁ l h tk dr oe oi',vs[i]?=some (.ref a)->(a,tupOf #[v0,v1] n)∈l->J i m₁ l->(∀ p∈l,p.1≠e/\p.1≠it)->Fr hO env.locals h (fun y=>if y=xj then some v1 else if y=xi then some v0 else if y=xk then some (.int i t) else m₁ y)->News hO env.locals h ((e,oe)::(it,oi')::l) ->
   wpAny (model prog w) A (execs body env) (ForEndD hO env.locals (J (i+1)) [(e,oe),(it,oi')] s Q) E { s with heap:=h,toks:=tk,drawn:=dr })
  (done:∀ m₁ l h tk dr,J vs.length m₁ l->Fr hO env.locals h m₁->News hO env.locals h l->Q .next { s with heap:=h,toks:=tk,drawn:=dr })
  (hE:PassesOwn (model prog w) A env E:=by passes_own) :
  wpAny (model prog w) A (pyIter (.ref e)) (fun it s₂=>LoopAtD prog w A env (.Tuple [.Name xk pk,.Tuple [.Name xi pi,.Name xj pj] c1 p1] c2 p2) body Q E it s₂) E s:=by
 have heL:e≠env.locals:=(N _ (.head _)).2.1
 have hiL:it≠env.locals:=(N _ (.tail _ (.head _))).2.1
 have he0:hO.get? e=none:=(N _ (.head _)).2.2
 have hi0:hO.get? it=none:=(N _ (.tail _ (.head _))).2.2
 refine wpAny_pyIter_enum (it:=it) (i:=0) (old:=.none) (N _ (.head _)).1 ?_
 refine codeAny_forLoop_any
  (fun k' s'=>∃ h' tk dr m' l' i oi old,s' = { s with heap:=h',toks:=tk,drawn:=dr }/\h'.IsListIter it ax i/\Fr hO env.locals h' m'/\News hO env.locals h' ((e,enumO it (i:Nat) old)::(it,oi)::l')/\(∀ p∈l',p.1≠e/\p.1≠it)/\J i m' l'/\i<=vs.length/\k'=vs.length+1 - i) ?_ (vs.length+1)
  ⟨_,s.toks,s.drawn,m₀,news,0,oi,_,rfl,hit,F,N,hoff,hJ,Nat.zero_le _,rfl⟩
 (intro k' s' zr2;(refine E8 zr2 fun h' tk dr m' l' i oi old=>G8 fun zo77 hit F' N' off hJ' hi zo78=>?_;try clear zr2;rcases zo77 with rfl;rcases zo78 with rfl))
 have hm':=hS _ _ _ hJ'
 have hl:=is_listN (s:={ s with heap:=h' }) (fun p hp=>N' p (.tail _ (.tail _ hp))) hm'
 have he':IsEnum h' e it i old:=(N' _ (.head _)).1
 by_cases hlt:i<vs.length
 ·have hv:vs[i]?=some vs[i]:=by simp [hlt]
  (refine E4 (hT i vs[i] m' l' hv hJ') fun a v0 v1 n=>G2 fun hva ma=>?_)
  have hv':vs[i]?=some (.ref a):=hv.trans (congrArg some hva)
  have hH:∀ p∈(e,enumO it (i:Nat) old)::(it,oi)::l',p.1<h'.objs.size:=fun p hp=>Heap.lt_size (N' p hp).1
  have heH:e<h'.objs.size:=hH _ (.head _)
  refine wpAny_pyNext_enum_item (x:=.ref a) he' hit hl (by simpa using hv') hei fun h₁ heo hit₁ ht₁ hz₁ hk₁=>?_
  refine wpAny_letOwnedTupleGo_enum heo fun h₂ he₂ hs₂=>?_
  replace hs₂:Heap.SameBut e h₁ h₂:=hs₂
  have ht₂:h₂.IsTuple h'.objs.size #[.int i tk,.ref a]:=⟨_,(hs₂.2 _ (Nat.ne_of_gt heH)).trans ht₁,rfl,_,rfl⟩
  have hz₂:h₂.objs.size=h'.objs.size+1:=hs₂.1.trans hz₁
  (refine E1 (id hit₁) fun oi1=>G3 fun ho1 hd1 hd2=>?_)
  have old₂:∀ b o,b≠e->b≠it->h'.get? b=some o->h₂.get? b=some o:=fun b o h1 h2 x=>(hs₂.2 b h1).trans (hk₁ b o h1 h2 x)
  have F₂:Fr hO env.locals h₂ m':=⟨F'.ns.at' fun o x=>old₂ _ o (Ne.symm heL) (Ne.symm hiL) x,fun b o x=>old₂ _ o (fun q=>by rw [q,he0] at x;cases x) (fun q=>by rw [q,hi0] at x;cases x) (F'.keep b o x),F'.above⟩
  have N₂:News hO env.locals h₂ ((e,enumO it ((i+1:Nat):Int) (.ref a))::(it,oi1)::l'):=fun p hp=>by
   rcases List.mem_cons.mp hp with rfl | hp
   ·refine M3 ?_ heL he0
    have:((i+1:Nat):Int)=(i:Int)+1:=by push_cast;rfl
    rw [this];exact he₂
   ·rcases List.mem_cons.mp hp with rfl | hp
    ·refine M3 ((hs₂.2 it (Ne.symm hei)).trans ho1) hiL hi0
    ·have q:=N' p (.tail _ (.tail _ hp))
     exact ⟨old₂ _ _ (off p hp).1 (off p hp).2 q.1,q.2⟩
  clear old₂ hz₂ he₂ hs₂ ho1 ht₁ hz₁ hk₁ hit₁ heo heH hH he' hl hm' hva F' N'
  dsimp only
  refine assign_enum hh hxk hxi hxj hp F₂ N₂ ht₂ (.tail _ (.tail _ ma)) fun h₇ tk₇ F₇ N₇=>?_
  dsimp only
  refine wpAny_mono (wpAny_passesOwn hE (turn i a v0 v1 n tk m' l' h₇ _ dr _ oi1 hv' ma hJ' off F₇ N₇)) (fun f s₃ h₃=>?_) fun _ _ e=>e
  have go:(∃ h' tk dr m' l'',s₃ = { s with heap:=h',toks:=tk,drawn:=dr }/\Fr hO env.locals h' m'/\News hO env.locals h' ([(e,enumO it ((i+1:Nat):Int) (.ref a)),(it,oi1)]++l'')/\(∀ p∈l'',∀ q∈[(e,enumO it ((i+1:Nat):Int) (.ref a)),(it,oi1)],p.1≠q.1)/\J (i+1) m' l'') ->
    ∃ m,m<vs.length+1 - i/\∃ h' tk dr m' l' i oi old,s₃ = { s with heap:=h',toks:=tk,drawn:=dr }/\h'.IsListIter it ax i/\Fr hO env.locals h' m'/\News hO env.locals h' ((e,enumO it (i:Nat) old)::(it,oi)::l')/\(∀ p∈l',p.1≠e/\p.1≠it)/\J i m' l'/\i<=vs.length/\m=vs.length+1 - i:=by
   (intro zr0;(refine E5 zr0 fun h3 tk3 dr3 m3 l3=>G5 fun zo79 F3 N3 off3 hJ3=>?_;try clear zr0;rcases zo79 with rfl))
   refine ⟨vs.length+1 - (i+1),by omega,h3,tk3,dr3,m3,l3,i+1,oi1,_,rfl,⟨oi1,(N3 _ (.tail _ (.head _))).1,hd1,hd2⟩,F3,N3,fun p hp=>⟨off3 p hp _ (.head _),off3 p hp _ (.tail _ (.head _))⟩,hJ3,hlt,rfl⟩
  cases f with
  | ret v=>exact h₃
  | brk=>exact h₃
  | next=>exact go h₃
  | cont=>exact go h₃
 ·have hin:i=vs.length:=by omega
  subst hin
  refine wpAny_pyNext_enum_end hh he' hit hl (by simp) fun h₁ he₁=>wpAny_execs_nil ?_
  exact done m' l' h₁ _ dr hJ' ⟨F'.ns.extBut he₁ hiL.symm,fun b o x=>he₁ b o (fun q=>by rw [q,hi0] at x;cases x) (F'.keep b o x),F'.above⟩ fun p hp=>⟨he₁ _ _ (off p hp).2 (N' p (.tail _ (.tail _ hp))).1,(N' p (.tail _ (.tail _ hp))).2⟩
end
theorem cell_set {M:Model}{A:Around}{E:Value->Shared->Prop}{s:Shared}{hO:Heap}{L:Addr}{m:Str->Option Value}{env:Env}{x:Str}{v:Value}{Q:Unit->Shared->Prop}{news:Led}{c:Addr}{o:Obj}{v₀:Option Value}
  (F:Fr hO L s.heap m) (N:News hO L s.heap news) (hc:env.cells.lookup x=some c) (hm:(c,o)∈news) (hd:o.data = .cell v₀)
  (h:∀ h' o' l',Fr hO L h' m->News hO L h' l'->SetTo c o' news l'->o'.data = .cell (some v)->Q () { s with heap:=h' })
  (hk:env.scope.kind = .function:=by rfl) (hx:env.kindOf x=some .cell:=by rfl):wpAny M A (storeName env x v) Q E s:=by
 have z:=N _ hm
 refine wpAny_storeName_cell hk hx hc ⟨o,z.1,hd⟩ fun h' hK hs=>?_
 (refine E1 hK fun o'=>G2 fun ho' hd'=>?_;try clear hK)
 exact h h' o' _ (F.change hs z.2.1 z.2.2) (N.replace hs ho') (.of _ _ _) hd'
noncomputable abbrev rangeObj (n:Int) (t u v:Tok):Obj:={ cls:=.type "range",dict:=none,data:=.fields #[.int 0 t,.int n u,.int 1 v],slots:=#[] }
theorem range_led {prog:Program}{w:World}{A:Around}{E:Value->Shared->Prop}{s:Shared}{hO:Heap}{L:Addr}{m:Str->Option Value}{news:Led}{n:Int}{t:Tok}{Q:Value->Shared->Prop}(F:Fr hO L s.heap m) (N:News hO L s.heap news)
  (h:∀ D h' tk t₁ u₁ v₁,Fr hO L h' m->News hO L h' ((D,rangeObj n t₁ u₁ v₁)::news)->(∀ p∈news,p.1<D)->Q (.ref D) { s with heap:=h',toks:=tk }) :
  wpAny (model prog w) A (call (.type "range") [.int n t]) Q E s :=
 call_range_1 (h _ _ _ _ _ _ (F.push _) (News.push F N _ rfl) fun p hp=>Heap.lt_size (N p hp).1)
theorem isRange_of {hO h:Heap}{L D:Addr}{news:Led}{n:Int}{t u v:Tok}(N:News hO L h news) (hm:(D,rangeObj n t u v)∈news):IsRange h D 0 n 1 t u v:=(N _ hm).1
section
variable {prog:Program}{w:World}{A:Around}{E:Value->Shared->Prop}{s:Shared}{hO:Heap}{env:Env}{x:Str}{body:List Stmt}{Q:Flow->Shared->Prop}{news:Led}{m₀:Str->Option Value}
theorem for_list_cell {px:Pos}{ax cA:Addr}{vs:List Value}{k:Nat}(J:Nat->(Str->Option Value)->Led->Prop) (hh:A.handled=none) (hk:env.scope.kind = .function) (hx:env.kindOf x=some .cell) (hc:env.cells.lookup x=some cA)
  (F:Fr hO env.locals s.heap m₀) (N:News hO env.locals s.heap news) (hm:(ax,PySem.W.listOf vs.toArray k)∈news) (hJ:J 0 m₀ news)
  (hS:∀ i m l,J i m l->(ax,PySem.W.listOf vs.toArray k)∈l) (hC:∀ i m l,J i m l->∃ o v₀,(cA,o)∈l/\o.data = .cell v₀)
  (turn:∀ (i:Nat) v m₁ l l' h tk dr I oI oc,vs[i]?=some v->J i m₁ l->(∀ p∈l,p.1≠I)->SetTo cA oc l l'->oc.data = .cell (some v)->Fr hO env.locals h m₁->News hO env.locals h ((I,oI)::l') ->
   wpAny (model prog w) A (execs body env) (ForEndD hO env.locals (J (i+1)) [(I,oI)] s Q) E { s with heap:=h,toks:=tk,drawn:=dr })
  (done:∀ m₁ l h tk dr,J vs.length m₁ l->Fr hO env.locals h m₁->News hO env.locals h l->Q .next { s with heap:=h,toks:=tk,drawn:=dr })
  (hE:PassesOwn (model prog w) A env E:=by passes_own) :
  wpAny (model prog w) A (pyIter (.ref ax)) (fun it s₂=>LoopAtD prog w A env (.Name x px) body Q E it s₂) E s:=by
 have hI0:=next_is_new F
 have hIL:s.heap.objs.size≠env.locals:=Nat.ne_of_gt F.ns.lt
 refine wpAny_pyIter_list (is_listN N hm) ?_
 refine codeAny_forLoop
  (fun k' s'=>∃ h' tk dr m' l' i oI,s' = { s with heap:=h',toks:=tk,drawn:=dr }/\h'.IsListIter s.heap.objs.size ax i/\Fr hO env.locals h' m'/\News hO env.locals h' ((s.heap.objs.size,oI)::l')/\(∀ p∈l',p.1≠s.heap.objs.size)/\J i m' l'/\i<=vs.length/\k'=vs.length+1 - i) ?_ (vs.length+1)
  ⟨_,s.toks,s.drawn,m₀,news,0,{ cls:=.type "list_iterator",data:=.fields #[.ref ax,.int 0 0] },rfl,⟨_,Heap.get?_push_size _ rfl,rfl,rfl⟩,F.push _,?_,fun p hp=>Nat.ne_of_lt (Heap.lt_size (N p hp).1),hJ,Nat.zero_le _,rfl⟩ (by intro _;rfl)
 ·(intro k' s' zr2;(refine E7 zr2 fun h' tk dr m' l' i oI=>G8 fun zo80 hit F' N' off hJ' hi zo81=>?_;try clear zr2;rcases zo80 with rfl;rcases zo81 with rfl))
  have hm':=hS _ _ _ hJ'
  (refine E2 (hC _ _ _ hJ') fun oc0 v₀=>G2 fun mc hd0=>?_)
  have hl:=is_listN (s:={ s with heap:=h' }) (fun p hp=>N' p (.tail _ hp)) hm'
  by_cases hlt:i<vs.length
  ·refine wpAny_pyNext_list_item hit hl (x:=vs[i]) (by simp [hlt]) fun h₁ hit₁ hs₁=>?_
   (refine E1 (id hit₁) fun oI1=>G3 fun ho1 hd1 hd2=>?_)
   have F₁:Fr hO env.locals h₁ m':=F'.change hs₁ hIL hI0
   have N₁:News hO env.locals h₁ ((s.heap.objs.size,oI1)::l'):=News.setHead N' off hs₁ ho1
   have z:=N₁ _ (.tail _ mc)
   refine wpAny_assign_Name (wpAny_storeName_cell hk hx hc ⟨oc0,z.1,hd0⟩ fun h₂ hK hs₂=>?_)
   (refine E1 hK fun oc=>G2 fun hoc hdc=>?_;try clear hK)
   have hIc:s.heap.objs.size≠cA:=fun q=>off _ mc q.symm
   have N₂:News hO env.locals h₂ ((s.heap.objs.size,oI1)::setL cA oc l'):=fun p hp=>by
    rcases List.mem_cons.mp hp with rfl | hp
    ·exact ⟨(hs₂.2 _ hIc).trans (N₁ _ (.head _)).1,(N₁ _ (.head _)).2⟩
    ·exact News.replace (fun p hp=>N₁ p (.tail _ hp)) hs₂ hoc p hp
   refine wpAny_mono (wpAny_passesOwn hE (turn i vs[i] m' l' _ h₂ _ dr s.heap.objs.size oI1 oc (by simp [hlt]) hJ' off (.of _ _ _) hdc (F₁.change hs₂ z.2.1 z.2.2) N₂)) (fun f s₃ h₃=>?_) fun _ _ e=>e
   have go:(∃ h' tk dr m' l',s₃ = { s with heap:=h',toks:=tk,drawn:=dr }/\Fr hO env.locals h' m'/\News hO env.locals h' ([(s.heap.objs.size,oI1)]++l')/\(∀ p∈l',∀ q∈[(s.heap.objs.size,oI1)],p.1≠q.1)/\J (i+1) m' l') ->
     ∃ m,m<vs.length+1 - i/\∃ h' tk dr m' l' i oI,s₃ = { s with heap:=h',toks:=tk,drawn:=dr }/\h'.IsListIter s.heap.objs.size ax i/\Fr hO env.locals h' m'/\News hO env.locals h' ((s.heap.objs.size,oI)::l')/\(∀ p∈l',p.1≠s.heap.objs.size)/\J i m' l'/\i<=vs.length/\m=vs.length+1 - i:=by
    (intro zr0;(refine E5 zr0 fun h3 tk3 dr3 m3 l3=>G5 fun zo82 F3 N3 off3 hJ3=>?_;try clear zr0;rcases zo82 with rfl))
    refine ⟨vs.length+1 - (i+1),by omega,h3,tk3,dr3,m3,l3,i+1,oI1,rfl,⟨oI1,(N3 _ (.head _)).1,hd1,hd2⟩,F3,N3,fun p hp=>off3 p hp _ (.head _),hJ3,hlt,rfl⟩
   cases f with
   | ret v=>exact h₃
   | brk=>exact h₃
   | next=>exact go h₃
   | cont=>exact go h₃
  ·have hin:i=vs.length:=by omega
   subst hin
   refine wpAny_pyNext_list_end hh hit hl (by simp) fun h₁ he₁=>wpAny_execs_nil ?_
   exact done m' l' h₁ _ dr hJ' ⟨F'.ns.extBut he₁ hIL.symm,fun b o e=>he₁ b o (fun q=>by rw [q,hI0] at e;cases e) (F'.keep b o e),F'.above⟩ fun p hp=>⟨he₁ _ _ (off p hp) (N' p (.tail _ hp)).1,(N' p (.tail _ hp)).2⟩
 ·intro p hp
  rcases List.mem_cons.mp hp with rfl | hp
  ·refine M3 (Heap.get?_push_size _ rfl) hIL hI0
  ·exact ⟨Heap.get?_push_of_some _ (N p hp).1,(N p hp).2⟩
end
theorem over2_self (a b:Str) (m:Str->Option Value):m=fun y=>if y=b then m b else if y=a then m a else m y:=by
 funext y
 by_cases h:y=b
 ·rw [if_pos h,h]
 ·rw [if_neg h]
  by_cases h2:y=a
  ·rw [if_pos h2,h2]
  ·rw [if_neg h2]
theorem over2_twice (a b:Str) (m:Str->Option Value) (p1 p2 o1 o2:Option Value) :
  (fun y=>if y=b then p2 else if y=a then p1 else (fun y=>if y=b then o2 else if y=a then o1 else m y) y)=fun y=>if y=b then p2 else if y=a then p1 else m y:=by
 funext y
 by_cases h:y=b
 ·simp only [if_pos h]
 ·simp only [if_neg h]
  by_cases h2:y=a
  ·simp only [if_pos h2]
  ·simp only [if_neg h2]
section
variable {prog:Program}{w:World}{A:Around}{E:Value->Shared->Prop}{s:Shared}{hO:Heap}{env:Env}{x:Str}{body:List Stmt}{Q:Flow->Shared->Prop}{news:Led}{m₀:Str->Option Value}
theorem for_list_cell2 {px:Pos}{ax cA:Addr}{vs:List Value}{k:Nat}(a b:Str) (J:Nat->Led->Prop) (hh:A.handled=none) (hk:env.scope.kind = .function) (hx:env.kindOf x=some .cell) (hc:env.cells.lookup x=some cA)
  (F:Fr hO env.locals s.heap m₀) (N:News hO env.locals s.heap news) (hm:(ax,PySem.W.listOf vs.toArray k)∈news) (hJ:J 0 news)
  (hS:∀ i l,J i l->(ax,PySem.W.listOf vs.toArray k)∈l) (hC:∀ i l,J i l->∃ o v₀,(cA,o)∈l/\o.data = .cell v₀)
  (turn:∀ (i:Nat) v o1 o2 l l' h tk dr I oI oc,vs[i]?=some v->J i l->(∀ p∈l,p.1≠I)->SetTo cA oc l l'->oc.data = .cell (some v)->Fr hO env.locals h (fun y=>if y=b then o2 else if y=a then o1 else m₀ y)->News hO env.locals h ((I,oI)::l') ->
   wpAny (model prog w) A (execs body env) (ForEndD hO env.locals (fun m l=>J (i+1) l/\∃ o1 o2,m=fun y=>if y=b then o2 else if y=a then o1 else m₀ y) [(I,oI)] s Q) E { s with heap:=h,toks:=tk,drawn:=dr })
  (done:∀ o1 o2 l h tk dr,J vs.length l->Fr hO env.locals h (fun y=>if y=b then o2 else if y=a then o1 else m₀ y)->News hO env.locals h l->Q .next { s with heap:=h,toks:=tk,drawn:=dr })
  (hE:PassesOwn (model prog w) A env E:=by passes_own) :
  wpAny (model prog w) A (pyIter (.ref ax)) (fun it s₂=>LoopAtD prog w A env (.Name x px) body Q E it s₂) E s:=by
 refine for_list_cell (fun i m l=>J i l/\∃ o1 o2,m=fun y=>if y=b then o2 else if y=a then o1 else m₀ y) hh hk hx hc F N hm ⟨hJ,_,_,over2_self a b m₀⟩ (fun i m l h=>hS i l h.1) (fun i m l h=>hC i l h.1) (fun i v m₁ l l' h tk dr I oI oc hv hj off S d F1 N1=>?_) (fun m₁ l h tk dr hj F1 N1=>?_) hE
 ·obtain ⟨hj,o1,o2,rfl⟩:=hj
  exact turn i v o1 o2 l l' h tk dr I oI oc hv hj off S d F1 N1
 ·obtain ⟨hj,o1,o2,rfl⟩:=hj
  exact done o1 o2 l h tk dr hj F1 N1
end
end
section
set_option tactic.hygienic false
example:True:=by
 k_with "x29"=>skip
 k_with "bank"=>((fail_if_success k_extra "x30");(exists b535,b536))
 trivial
noncomputable def mixD:Mix->PyData
 | .inl x=>.str x
 | .inr i=>.int i
noncomputable def mixData (k:List Mix):PyData:=.tuple (k.map mixD)
theorem mixRead {prog:Program}{w:World}{h:Heap}{k:List Mix}{vs:List Value}(H:ItemsAre (mixKind prog w) k vs):ReadsAll h vs (k.map mixD) []:=by
 induction H with
 | nil=>exact .nil
 | @cons k v ks vs h1 _ ih =>
  cases k with
  | inl x=>(refine E1 (Value.isStrOf_shape h1) fun t zo83=>?_;rcases zo83 with rfl);exact ReadsAll.cons (.str x t) ih
  | inr i=>(refine E1 (Value.isInt_shape h1) fun t zo84=>?_;rcases zo84 with rfl);exact ReadsAll.cons (.int i t) ih
theorem refsRead {prog:Program}{w:World}{hO h:Heap}{L:Addr}{l:Led}(N:News hO L h l) {vs:List Value}{ks:List (List Mix)}(H:RefsT prog w l vs ks):ReadsAll h vs (ks.map mixData) []:=by
 induction H with
 | nil=>exact .nil
 | cons e T _ ih =>
  subst e
  (refine E2 T fun items n=>G2 fun hm hi=>?_;try clear T)
  exact ReadsAll.cons (reads_tuple_at (N _ hm).1 rfl rfl (mixRead hi)) ih
noncomputable def mixOk:Mix->Bool
 | .inl x=>PyData.strOk x
 | .inr _=>true
theorem lay_mix:∀ k:List Mix,(∀ a∈k,mixOk a=true)->PyData.canLayAll0 (k.map mixD)=true
 | [],_=>rfl
 | a::k,h=>by
  have h1:=h a (.head _)
  have h2:=lay_mix k fun x hx=>h x (.tail _ hx)
  cases a with
  | inl x=>simp only [mixOk] at h1;simp [PyData.canLayAll0,PyData.canLay0,mixD,h1,h2]
  | inr x=>simp [PyData.canLayAll0,PyData.canLay0,mixD,h2]
theorem lay_mixes:∀ ks:List (List Mix),(∀ k∈ks,∀ a∈k,mixOk a=true)->PyData.canLayAll0 (ks.map mixData)=true
 | [],_=>rfl
 | a::k,h=>by simp [PyData.canLayAll0,PyData.canLay0,mixData,lay_mix a (h a (.head _)),lay_mixes k fun x hx=>h x (.tail _ hx)]
theorem depth_mix:∀ k:List Mix,PyData.depthAll (k.map mixD)=0
 | []=>by simp [PyData.depthAll]
 | a::k=>by cases a <;> simp [PyData.depthAll,PyData.depth,mixD,depth_mix k]
theorem depth_mixes:∀ ks:List (List Mix),PyData.depthAll (ks.map mixData)<=1
 | []=>by simp [PyData.depthAll]
 | a::k=>by
  have:=depth_mixes k
  simp only [List.map_cons,PyData.depthAll,PyData.depth,mixData,depth_mix] at this ⊢
  omega
theorem mix_mix:∀ k:List Mix,SeqAt.noMixAll (k.map mixD) (k.map mixD)=true
 | []=>by simp [SeqAt.noMixAll]
 | a::k=>by cases a <;> simp [SeqAt.noMixAll,SeqAt.noMix,mixD,mix_mix k]
theorem mix_mixes:∀ ks:List (List Mix),SeqAt.noMixAll (ks.map mixData) (ks.map mixData)=true
 | []=>by simp [SeqAt.noMixAll]
 | a::k=>by simp [SeqAt.noMixAll,SeqAt.noMix,mixData,mix_mix a,mix_mixes k]
section
variable {prog:Program}{w:World}{A:Around}{E:Value->Shared->Prop}{s:Shared}{hO:Heap}{L a b:Addr}{news:Led}{xs ys:List Value}{n n2:Nat}{Q:Value->Shared->Prop}
theorem ne_refs_led {ks:List (List Mix)}(N:News hO L s.heap news) (ha:(a,PySem.W.listOf xs.toArray n)∈news) (hb:(b,PySem.W.listOf ys.toArray n2)∈news) (hi:RefsT prog w news xs ks) (hj:RefsT prog w news ys ks) (hu:A.units+64<cLine) (hk:∀ k∈ks,∀ a∈k,mixOk a=true) (h:Q (.bool false) s) :
  wpAny (model prog w) A (compareOp .NotEq (.ref a) (.ref b)) Q E s:=by
 have sh:SeqAt.shaped (.list (ks.map mixData))=true:=by
  have:=depth_mixes ks
  rw [SeqAt.shaped,PyData.canLay0,lay_mixes ks hk,Bool.true_and]
  refine decide_eq_true ?_
  rw [PyData.depth]
  omega
 refine ne_dataH_same (da:=.list (ks.map mixData)) (db:=.list (ks.map mixData)) (reads_list_at (N _ ha).1 rfl rfl (refsRead N hi)) (reads_list_at (N _ hb).1 rfl rfl (refsRead N hj)) sh sh hu (by rw [SeqAt.noMix];exact mix_mixes ks) ?_
 rw [PySem.Spec.same_self];exact h
theorem ne_ints_led {ns ms:List Int}(N:News hO L s.heap news) (ha:(a,PySem.W.listOf xs.toArray n)∈news) (hb:(b,PySem.W.listOf ys.toArray n2)∈news) (hi:IntsAre xs ns) (hj:IntsAre ys ms) (hu:A.units+64<cLine) (e:ns=ms) (h:Q (.bool false) s) :
  wpAny (model prog w) A (compareOp .NotEq (.ref a) (.ref b)) Q E s:=ke_ne_ints (is_listN N ha) (is_listN N hb) hi hj hu (by rw [decide_eq_true e];exact h)
theorem in_list_led {ns:List Int}{k:Int}{u:Tok}(N:News hO L s.heap news) (ha:(a,PySem.W.listOf xs.toArray n)∈news) (hi:IntsAre xs ns) (h:Q (.bool (decide (k∈ns))) s) :
  wpAny (model prog w) A (compareOp .In (.int k u) (.ref a)) Q E s:=in_list_ints (is_listN N ha) hi (by
   have e:ns.any (· == k)=decide (k∈ns):=by
    rw [Bool.eq_iff_iff,List.any_eq_true,decide_eq_true_eq]
    constructor
    ·(intro zr0;(refine E1 zr0 fun x=>G2 fun hx e=>?_;try clear zr0))
     exact beq_iff_eq.mp e ▸ hx
    ·exact fun h=>⟨k,h,beq_self_eq_true k⟩
   rw [e];exact h)
end
end
section
set_option tactic.hygienic false
example:True:=by
 k_with "x30"=>skip
 trivial
section
variable {prog:Program}{w:World}{A:Around}{E:Value->Shared->Prop}{s:Shared}{hO:Heap}{L:Addr}{m:Str->Option Value}{news:Led}
theorem ds_new {env:Env}{keys:List (Option Expr)}{values:List Expr}{pos:Pos}{Q:Value->Shared->Prop}(hall:keys.all (·.isSome)=true) (hl:keys.length=values.length) (h0:keys≠[]) (hlen:keys.length<=15)
  (F:Fr hO L s.heap m) (N:News hO L s.heap news) (hbig:hO.NoLimit)
  (h:∀ d h1 o,Fr hO L h1 m->News hO L h1 ((d,o)::news)->(∀ p∈news,p.1<d) ->
   wpAny (model prog w) A (evalPairs (pairTrees keys values env pos)) (fun vs s₁=>∃ (kvs:List (Str × Value)) (l1:Led),PySem.Carries (PySem.strKind prog w) vs kvs/\Fr hO L s₁.heap m/\News hO L s₁.heap l1/\(d,o)∈l1 /\
    ∀ h' tk l2 o',Fr hO L h' m->News hO L h' l2->SetTo d o' l1 l2->(d,o')∈l2->DS prog w d (merged [] kvs).length (valueAt (merged [] kvs)) l2->Q (.ref d) { s₁ with heap:=h',toks:=tk }) E { s with heap:=h1 }) :
  wpAny (model prog w) A (eval (.Dict keys values pos) env) Q E s:=by
 have hn:=pairTrees_length keys values env pos hall hl
 have hp0:pairTrees keys values env pos≠[]:=by
  intro he
  rw [he] at hn
  exact h0 (List.length_eq_zero_iff.mp hn.symm)
 have hlow:=F.notModules (modules_low hbig)
 refine wpAny_Dict_pairs (knd:=PySem.strKind prog w) (zip_pairTrees keys values env pos hall hl) hp0 (by rw [hn];exact hlen) ?_
 refine wpAny_mono (h s.heap.objs.size _ _ (F.push _) (News.push F N _) (fun p hp=>Heap.lt_size (N p hp).1)) (fun vs s₁ q=>?_) fun _ _ e=>e
 (refine E2 q fun kvs l1=>G5 fun hc F1 N1 hm k=>?_;try clear q)
 (refine E1 (Heap.dictOf_iff.mp (Heap.DictOf.new (knd:=PySem.strKind prog w) s.heap)) fun o=>G2 fun ho hd=>?_)
 rw [Heap.get?_push_size _ rfl] at ho
 obtain rfl:=Option.some.inj ho
 refine K1 kvs (M3 hc (Heap.dictOf_iff.mpr ⟨_,(N1 _ hm).1,hd⟩) (fun h' hm' hs'=>?_))
 (refine E1 (Heap.dictOf_iff.mp hm') fun o'=>G2 fun ho' hd'=>?_)
 have z:=N1 _ hm
 exact k h' _ _ o' (F1.change hs' z.2.1 z.2.2) (N1.replace hs' ho') (.of _ _ _) (mem_setL_self hm) ⟨hlow,o',_,mem_setL_self hm,hd',Nat.le_refl _,fun _=>rfl⟩
end
end
section
open PyProof.Rows.LCg
set_option tactic.hygienic false
example:True:=by
 k_with "bank"=>((fail_if_success k_extra "x32");(exists b526,b17,b9,b21,b20,b16,b575,b576,b577,b578,b579,b18,b19,b22,b580,b581,b582,b583))
 trivial
theorem ints_take {vs:List Value}{ns:List Int}(h:IntsAre vs ns):∀ k,IntsAre (vs.take k) (ns.take k):=by
 induction h with
 | nil=>intro k;simp;exact .nil
 | cons i t _ ih =>
  intro k
  cases k with
  | zero=>exact .nil
  | succ k=>exact .cons i t (ih k)
theorem slicePick_to (items:Array Value) (b:Nat):slicePick items none (some b) none=(items.toList.take b).toArray:=by
 by_cases hb:b<=items.size
 ·exact slicePick_upto items b hb
 ·have e:sliceBounds none (some (b:Int)) none items.size=sliceBounds none (some (items.size:Int)) none items.size:=by
   simp only [sliceBounds,Option.getD_none]
   have h2:¬ ((b:Int)<0):=by omega
   have h3:¬ ((items.size:Int)<0):=by omega
   simp only [h2,h3,if_false,show (1:Int) > 0 by decide,if_true]
   congr 2
   omega
  have e2:slicePick items none (some b) none=slicePick items none (some items.size) none:=by
   unfold slicePick;rw [e]
  rw [e2,slicePick_upto items _ (Nat.le_refl _),List.take_of_length_le (by simp),List.take_of_length_le (by simp;omega)]
section
variable {prog:Program}{w:World}{A:Around}{E:Value->Shared->Prop}{s s₁:Shared}{hO:Heap}{L:Addr}{m:Str->Option Value}{env:Env}{elt ct:Expr}{x:Str}{scope:Scope}{cl:List (Str × Addr)}{news:Led}{Q:Value->Shared->Prop}{t:Addr}{vs:List Value}{n:Nat}
theorem list_slice_to {value slice:Expr}{k:Nat}{u:Tok}(F:Fr hO L s.heap m) (N:News hO L s.heap news) (ht:s.heap.IsList t vs.toArray) (hz:vs.length<10000)
  (h:∀ D h',Fr hO L h' m->News hO L h' ((D,PySem.W.listOf (vs.take k).toArray 0)::news)->(∀ p∈news,p.1<D)->Q (.ref D) { s with heap:=h' })
  (hs:subscripted slice false (.ref t) (.ref s.heap.objs.size)=operate [.ref s.heap.objs.size,.ref t] (getItem (.ref t) (.ref s.heap.objs.size)):=by with_unfolding_all rfl) :
  wpAny (model prog w) A (subscriptTail value slice (.ref t) (.ref s.heap.objs.size)) Q E { s with heap:=s.heap.push { cls:=.type "slice",data:=.fields #[.none,.int (k:Int) u,.none] } }:=by
 have ht':=ht.push { cls:=.type "slice",data:=.fields #[.none,.int (k:Int) u,.none] }
 refine tail_any (s:={ s with heap:=s.heap.push { cls:=.type "slice",data:=.fields #[.none,.int (k:Int) u,.none] } }) ht'.typeIs slot_list_getitem.lookup
  (wpAny_getItem_list_slice ht' (Heap.IsSliceOf.new ..) .none (.int k u) .none (by simp) ?_ (by rw [List.size_toArray,sizeLine_eq];omega)) hs
 rw [slicePick_to]
 have N1:=News.push (F.push { cls:=.type "slice",data:=.fields #[.none,.int (k:Int) u,.none] }) (N.grown fun _ _ e=>Heap.get?_push_of_some _ e) (PySem.W.listOf (vs.take k).toArray 0)
 exact h _ _ ((F.push _).push _) N1 fun p hp=>by rw [Heap.size_push];exact Nat.lt_succ_of_lt (Heap.lt_size (N p hp).1)
open PyProof.Rows.LCt
theorem compT_list_gen {Fin:Shared->List Value->Led->Prop}{r:Addr}{vs:List Value}{k:Nat}(J:Nat->List Value->Led->Prop) (hh:A.handled=none) (F:Fr hO L s₁.heap m) (N:News hO L s₁.heap news) (hm:(r,PySem.W.listOf vs.toArray k)∈news) (hn:vs.length<100000)
  (hJ:J 0 [] news) (hS:∀ i ys news,J i ys news->(r,PySem.W.listOf vs.toArray k)∈news)
  (turn:∀ (i:Nat) v I oI C oC D m₂ ys news h tk (E':Value->Shared->Prop),vs[i]?=some v->J i ys news->NsObj oC m₂->m₂ x=some v->Fr hO L h m->News hO L h ((I,oI)::(C,oC)::(D,lst ys)::news)->Off3 I C D news ->
   wpAny (model prog w) A (isTrue ct (compEnvC scope cl C env) (eval ct (compEnvC scope cl C env))) (fun ok s'=>if ok=true then
    wpAny (model prog w) A (eval elt (compEnvC scope cl C env)) (CompEnd hO L m { s₁ with heap:=h,toks:=tk } I oI C oC D (lst ys) (fun _=>True) (fun y news'=>J (i+1) (ys++[y]) news')) E' s'
    else CompEnd hO L m { s₁ with heap:=h,toks:=tk } I oI C oC D (lst ys) (fun _=>True) (fun _ news'=>J (i+1) ys news') Value.none s') E' { s₁ with heap:=h,toks:=tk })
  (fin:∀ g ys news,J vs.length ys news->Fin { s₁ with heap:=g } ys news) :
  CompSrcT prog w A hO L m env ct elt x scope cl Fin (.ref r) s₁:=by
 refine CompSrcT.ledger (its:=vs.toArray) (k:=k) hh F N hm (by rw [List.size_toArray,sizeLine_eq];omega) fun g=>?_
 refine compT_rest (n:=vs.toArray.size) J (fun i v I oI C oC D m₂ ys news h tk E' hi hP hJ hC hx F N off=>?_) (fun ys news hJ=>?_) vs.toArray.size 0 [] news (by omega) hJ
 ·refine wpAny_mono (turn i v I oI C oC D m₂ ys news h tk E' (by simpa using hP) hJ hC hx F N off) (fun ok s₂ hq=>?_) fun _ _ e=>e
  have go:∀ {K:Value->Led->Prop}{P:List Value->Led->Prop}{y:Value}{s₃:Shared},(∀ y l,K y l->(r,PySem.W.listOf vs.toArray k)∈l)->CompEnd hO L m { s₁ with heap:=h,toks:=tk } I oI C oC D (lst ys) (fun _=>True) K y s₃->CompEnd hO L m { s₁ with heap:=h,toks:=tk } I oI C oC D (lst ys) (SrcAt hO r vs.toArray) K y s₃:=by
   (intro K _ y s₃ hK zr5;(refine E3 zr5 fun h' tk' nw=>G6 fun e F' N' off' _ hJ'=>?_;try clear zr5))
   refine K3 h' tk' nw (M6 e F' N' off' (.inr ⟨_,hK _ _ hJ',rfl,_,rfl⟩) hJ')
  cases ok with
  | true =>
   simp only [if_true] at hq ⊢
   exact wpAny_mono hq (fun y s₃ hq=>go (P:=fun _ _=>True) (fun y l hj=>hS _ _ _ hj) hq) fun _ _ e=>e
  | false =>
   simp only [Bool.false_eq_true,if_false] at hq ⊢
   exact go (P:=fun _ _=>True) (fun y l hj=>hS _ _ _ hj) hq
 ·exact fin g ys news (by simpa using hJ)
theorem compT_listA {r:Addr}{vs:List Value}{k:Nat}{y:Str}{QA:Flow->Shared->Prop}(J:Nat->List Value->Led->Prop) (hh:A.handled=none) (F:Fr hO L s₁.heap m) (N:News hO L s₁.heap news) (hm:(r,PySem.W.listOf vs.toArray k)∈news) (hn:vs.length<100000)
  (hJ:J 0 [] news) (hS:∀ i ys news,J i ys news->(r,PySem.W.listOf vs.toArray k)∈news)
  (turn:∀ (i:Nat) v I oI C oC D m₂ ys news h tk (E':Value->Shared->Prop),vs[i]?=some v->J i ys news->NsObj oC m₂->m₂ x=some v->Fr hO L h m->News hO L h ((I,oI)::(C,oC)::(D,lst ys)::news)->Off3 I C D news ->
   wpAny (model prog w) A (isTrue ct (compEnvC scope cl C env) (eval ct (compEnvC scope cl C env))) (fun ok s'=>if ok=true then
    wpAny (model prog w) A (eval elt (compEnvC scope cl C env)) (CompEnd hO L m { s₁ with heap:=h,toks:=tk } I oI C oC D (lst ys) (fun _=>True) (fun y news'=>J (i+1) (ys++[y]) news')) E' s'
    else CompEnd hO L m { s₁ with heap:=h,toks:=tk } I oI C oC D (lst ys) (fun _=>True) (fun _ news'=>J (i+1) ys news') Value.none s') E' { s₁ with heap:=h,toks:=tk })
  (fin:∀ D ys news h tk,J vs.length ys news->Fr hO L h (fun z=>if z=y then some (.ref D) else m z)->News hO L h ((D,PySem.W.listOf ys.toArray ys.length)::news)->(∀ p∈news,p.1≠D)->QA .next { s₁ with heap:=h,toks:=tk }) :
  CompSrcT prog w A hO L m env ct elt x scope cl (fun s₂=>FinA hO L m s₂ y QA) (.ref r) s₁:=by
 exact compT_list_gen J hh F N hm hn hJ hS turn fun g ys news hJ D h tk F' N' off=>fin D ys news h tk hJ F' N' (off1_all off)
open PyProof.Rows.LCg in
theorem comp_rangeA {r:Addr}{b:Int}{t u v:Tok}{n:Nat}{y:Str}{QA:Flow->Shared->Prop}(J:Nat->List Value->Led->Prop) (hh:A.handled=none) (F:Fr hO L s₁.heap m) (N:News hO L s₁.heap news) (hr:IsRange s₁.heap r 0 b 1 t u v) (hb:b=n) (hn:n<100000)
  (hJ:J 0 [] news)
  (turn:∀ (i:Nat) t I oI C oC D m₂ ys news h tk (E':Value->Shared->Prop),i<n->J i ys news->NsObj oC m₂->m₂ x=some (.int (i:Int) t)->Fr hO L h m->News hO L h ((I,oI)::(C,oC)::(D,lst ys)::news)->Off3 I C D news->((@Ne Nat I C)/\(@Ne Nat I D)/\(@Ne Nat C D)) ->
   wpAny (model prog w) A (eval elt (compEnvC scope cl C env)) (CompEnd hO L m { s₁ with heap:=h,toks:=tk } I oI C oC D (lst ys) (fun _=>True) (fun y news'=>J (i+1) (ys++[y]) news')) E' { s₁ with heap:=h,toks:=tk })
  (fin:∀ D ys news h tk,J n ys news->Fr hO L h (fun z=>if z=y then some (.ref D) else m z)->News hO L h ((D,PySem.W.listOf ys.toArray ys.length)::news)->(∀ p∈news,p.1≠D)->QA .next { s₁ with heap:=h,toks:=tk }) :
  CompSrc prog w A hO L m env elt x scope cl (fun s₂=>FinA hO L m s₂ y QA) (.ref r) s₁:=by
 subst hb
 have h1:Builtin.Range.small 0 (n:Int) 1=true:=small_one (by decide) (by decide) (by omega) (by omega)
 have h2:Builtin.Range.rangeSize 0 (n:Int) 1=((n:Nat):Int):=by
  rw [rangeSize_one];split <;> omega
 have rest:∀ (g:Heap) (j i:Nat) (ys:List Value) (nw:Led),i+j=n->J i ys nw->CompRest prog w A hO L m env elt x scope cl { s₁ with heap:=g } (fun _=>True) (fun i v=>∃ t,v = .int (0+(i:Int)) t) (FinA hO L m { s₁ with heap:=g } y QA) j i ys nw:=by
  intro g j
  induction j with
  | zero =>
   intro i ys nw hi hj
   have:i=n:=by omega
   subst this
   exact CompRest.zero fun D h tk F' N' off=>fin D ys nw h tk hj F' N' (off1_all off)
  | succ j ih =>
   intro i ys nw hi hj
   refine CompRest.succ ?_
   intro v I oI C oC D m₂ h tk E' hP hC hx F N off ne
   (refine E1 hP fun t e=>?_;try clear hP)
   have e':v = .int (i:Int) t:=by rw [e,Int.zero_add]
   rw [e'] at hx
   refine wpAny_mono (turn i t I oI C oC D m₂ ys nw h tk E' (by omega) hj hC hx F N off ne) (fun y s₂ hq=>?_) fun _ _ e=>e
   (refine E3 hq fun h' tk' nw'=>G6 fun e F' N' off' hS hJ'=>?_;try clear hq)
   refine K3 h' tk' nw' (M6 e F' N' off' hS (ih (i+1) _ _ (by omega) hJ'))
 exact CompSrc.range hh F N hr h1 h2 (by rw [sizeLine_eq];omega) fun g=>rest g n 0 [] news (by omega) hJ
end
section
variable {prog:Program}{w:World}{A:Around}{E:Value->Shared->Prop}{s:Shared}{hO:Heap}{env:Env}{x:Str}{body:List Stmt}{Q:Flow->Shared->Prop}{news:Led}{m₀:Str->Option Value}
theorem for_tup_J {ax:Addr}{vs:List Value}{k:Nat}(J:Nat->Led->Prop) (hh:A.handled=none) (F:Fr hO env.locals s.heap m₀) (N:News hO env.locals s.heap news) (hm:(ax,tupOf vs.toArray k)∈news) (hJ:J 0 news)
  (hS:∀ i l,J i l->(ax,tupOf vs.toArray k)∈l)
  (turn:∀ (i:Nat) v l h tk I oI,vs[i]?=some v->J i l->(∀ p∈l,p.1≠I)->Fr hO env.locals h (fun y=>if y=x then some v else m₀ y)->News hO env.locals h ((I,oI)::l) ->
   wpAny (model prog w) A (execs body env) (ForEnd hO env.locals (fun m l'=>J (i+1) l'/\m=fun y=>if y=x then some v else m₀ y) I oI { s with heap:=h,toks:=tk } Q) E { s with heap:=h,toks:=tk })
  (done:∀ ov l h tk,J vs.length l->Fr hO env.locals h (fun y=>if y=x then ov else m₀ y)->News hO env.locals h l->Q .next { s with heap:=h,toks:=tk }) :
  wpAny (model prog w) A (pyIter (.ref ax)) (fun it s₂=>LoopAtV prog w A hO env x body Q E it s₂) E s:=by
 refine for_tup (fun i m l=>J i l/\∃ ov,m=fun y=>if y=x then ov else m₀ y) hh F N hm ⟨hJ,_,over_self x⟩ (fun i _ l h=>hS i l h.1) (fun i v m₁ l h tk I oI hv hJ' hI F1 N1=>?_) fun m₁ l h tk hJ' F1 N1=>?_
 ·obtain ⟨hj,ov,rfl⟩:=hJ'
  rw [over_over] at F1
  refine wpAny_mono (turn i v l h tk I oI hv hj hI F1 N1) (fun f s₂ hq=>?_) fun _ _ e=>e
  cases f with
  | ret v=>exact hq
  | brk=>exact hq
  | next=>(refine E4 hq fun h' tk m' l'=>G6 fun e F' N' hI' e1 e2=>?_;try clear hq);refine ⟨h',tk,m',l',e,F',N',hI',e1,_,e2⟩
  | cont=>(refine E4 hq fun h' tk m' l'=>G6 fun e F' N' hI' e1 e2=>?_;try clear hq);refine ⟨h',tk,m',l',e,F',N',hI',e1,_,e2⟩
 ·obtain ⟨hj,ov,rfl⟩:=hJ'
  exact done ov l h tk hj F1 N1
end
section
variable {prog:Program}{w:World}{A:Around}{E:Value->Shared->Prop}{s:Shared}{hO:Heap}{L:Addr}{env:Env}{x:Str}{body:List Stmt}{Q:Flow->Shared->Prop}{news:Led}{m₀:Str->Option Value}
theorem for_range_a {r:Addr}{a b:Int}{t u v:Tok}{n:Nat}(J:Nat->(Str->Option Value)->Led->Prop) (hh:A.handled=none) (F:Fr hO env.locals s.heap m₀) (N:News hO env.locals s.heap news) (hr:IsRange s.heap r a b 1 t u v) (ha0:0<=a) (ha1:a<100000) (hb:b=a+n) (hn:n<100000) (hJ:J 0 m₀ news)
  (turn:∀ (i:Nat) t m₁ l h tk I oI,i<n->J i m₁ l->(∀ p∈l,p.1≠I)->Fr hO env.locals h (fun y=>if y=x then some (.int (a+(i:Int)) t) else m₁ y)->News hO env.locals h ((I,oI)::l) ->
   wpAny (model prog w) A (execs body env) (ForEnd hO env.locals (J (i+1)) I oI { s with heap:=h,toks:=tk } Q) E { s with heap:=h,toks:=tk })
  (done:∀ m₁ l h tk,J n m₁ l->Fr hO env.locals h m₁->News hO env.locals h l->Q .next { s with heap:=h,toks:=tk }) :
  wpAny (model prog w) A (pyIter (.ref r)) (fun it s₂=>LoopAtV prog w A hO env x body Q E it s₂) E s:=by
 subst hb
 have hsm:Builtin.Range.small a (a+(n:Int)) 1=true:=small_one (by omega) (by omega) (by omega) (by omega)
 have h2:Builtin.Range.rangeSize a (a+(n:Int)) 1=((n:Nat):Int):=by
  rw [rangeSize_one];split <;> omega
 refine wpAny_pyIter_range hr hsm ?_
 refine K9 s.heap.objs.size [s.heap.objs.size] [s.heap.objs.size] n _ _ m₀ news J (M11 rfl (range_walks hh a n) ?_ ?_ ?_ (by show IsRangeIter _ _ _ _ _;rw [h2];simpa using Heap.get?_push_size _ rfl) (F.push _) (fun p hp=>⟨Heap.get?_push_of_some _ (N p hp).1,(N p hp).2⟩) hJ ?_ ?_)
 ·intro hm
  exact absurd F.ns.lt ((List.mem_singleton.mp hm) ▸ Nat.lt_irrefl _)
 ·intro b hb
  rw [List.mem_singleton.mp hb]
  exact next_is_new F
 ·intro p hp hI
  exact absurd (Heap.lt_size (N p hp).1) ((List.mem_singleton.mp hI) ▸ Nat.lt_irrefl _)
 ·(intro i v m₁ l s₁ own zr6 hin zr8 hJ hoff hown hget hfp hst F₁ N₁;(refine E2 zr6 fun hh' tk' zo85=>?_;try clear zr6;rcases zo85 with rfl);(refine E1 zr8 fun t hP=>?_;try clear zr8))
  obtain ⟨oI,hst'⟩:∃ o,hh'.get? s.heap.objs.size=some o:=⟨_,hst⟩
  have hIown:=hfp _ (List.mem_singleton.mpr rfl) (next_is_new F) _ hst'
  have e':v = .int (a+(i:Int)) t:=hP
  subst e'
  refine wpAny_mono (turn i t m₁ l hh' tk' s.heap.objs.size oI hin hJ (fun p hp q=>hoff p hp (List.mem_singleton.mpr q)) F₁ (fun p hp=>by
   rcases List.mem_cons.mp hp with e | hp
   ·exact e ▸ N₁ _ (List.mem_append_left _ hIown)
   ·exact N₁ _ (List.mem_append_right _ hp))) (fun f s₂ p=>?_) fun _ _ e=>e
  have fin:(∃ h' tk m' l',s₂ = { ({ s with heap:=hh',toks:=tk' } : Shared) with heap:=h',toks:=tk }/\Fr hO env.locals h' m'/\News hO env.locals h' ((s.heap.objs.size,oI)::l')/\(∀ p∈l',p.1≠s.heap.objs.size)/\J (i+1) m' l') ->
    LoopStepU hO env.locals [s.heap.objs.size] own (J (i+1)) { s with heap:=hh',toks:=tk' } .next s₂:=by
   (intro zr0;(refine E4 zr0 fun h' tk m' l'=>G5 fun e F' N' hI hj=>?_;try clear zr0))
   refine ⟨rfl,h',tk,m',l',e,F',fun p hp=>?_,fun p hp q=>hI p hp (List.mem_singleton.mp q),hj⟩
   rcases List.mem_append.mp hp with hp | hp
   ·have h1:p.1=s.heap.objs.size:=List.mem_singleton.mp (hown p hp)
    have h3:=hget p hp
    rw [h1] at h3
    have h2:p=(s.heap.objs.size,oI):=Prod.ext h1 (Option.some.inj (h3.symm.trans hst'))
    rw [h2];exact N' _ (.head _)
   ·exact N' _ (.tail _ hp)
  cases f with
  | ret v=>exact .ret p
  | brk=>exact .brk p
  | next=>exact .next (fin p)
  | cont=>exact .cont (fin p)
 ·rintro h' tk m' l F' N' _ hJ
  exact done m' l h' tk hJ F' N'
theorem for_range_J {r:Addr}{a b:Int}{t u v:Tok}{n:Nat}(J:Nat->Led->Prop) (hh:A.handled=none) (F:Fr hO env.locals s.heap m₀) (N:News hO env.locals s.heap news) (hr:IsRange s.heap r a b 1 t u v) (ha0:0<=a) (ha1:a<100000) (hb:b=a+n) (hn:n<100000) (hJ:J 0 news)
  (turn:∀ (i:Nat) t l h tk I oI,i<n->J i l->(∀ p∈l,p.1≠I)->Fr hO env.locals h (fun y=>if y=x then some (.int (a+(i:Int)) t) else m₀ y)->News hO env.locals h ((I,oI)::l) ->
   wpAny (model prog w) A (execs body env) (ForEnd hO env.locals (fun m l'=>J (i+1) l'/\m=fun y=>if y=x then some (.int (a+(i:Int)) t) else m₀ y) I oI { s with heap:=h,toks:=tk } Q) E { s with heap:=h,toks:=tk })
  (done:∀ ov l h tk,J n l->Fr hO env.locals h (fun y=>if y=x then ov else m₀ y)->News hO env.locals h l->Q .next { s with heap:=h,toks:=tk }) :
  wpAny (model prog w) A (pyIter (.ref r)) (fun it s₂=>LoopAtV prog w A hO env x body Q E it s₂) E s:=by
 refine for_range_a (fun i m l=>J i l/\∃ ov,m=fun y=>if y=x then ov else m₀ y) hh F N hr ha0 ha1 hb hn ⟨hJ,_,over_self x⟩ (fun i t m₁ l h tk I oI hi hJ' hI F1 N1=>?_) fun m₁ l h tk hJ' F1 N1=>?_
 ·obtain ⟨hj,ov,rfl⟩:=hJ'
  rw [over_over] at F1
  refine wpAny_mono (turn i t l h tk I oI hi hj hI F1 N1) (fun f s₂ hq=>?_) fun _ _ e=>e
  cases f with
  | ret v=>exact hq
  | brk=>exact hq
  | next=>(refine E4 hq fun h' tk m' l'=>G6 fun e F' N' hI' e1 e2=>?_;try clear hq);refine ⟨h',tk,m',l',e,F',N',hI',e1,_,e2⟩
  | cont=>(refine E4 hq fun h' tk m' l'=>G6 fun e F' N' hI' e1 e2=>?_;try clear hq);refine ⟨h',tk,m',l',e,F',N',hI',e1,_,e2⟩
 ·obtain ⟨hj,ov,rfl⟩:=hJ'
  exact done ov l h tk hj F1 N1
end
end
section
set_option tactic.hygienic false
example:True:=by
 k_with "x32"=>skip
 trivial
structure Sound (ls:List Int) (wd:Wd) (ps:List (Nat × Nat)):Prop where
 sub:Sub ls (Ar wd)
 eq:wd=ps.foldl (fun w p=>toldN w p.1 p.2) none
 pr:∀ p∈ps,p.1<ls.length/\p.2<ls.length/\ls.getD p.1 0=ls.getD p.2 0
theorem Sound.zero:Sound [] none []:=⟨fun a _ ha=>absurd ha (Nat.not_lt_zero a),rfl,fun _ h=>absurd h List.not_mem_nil⟩
theorem Sound.up {ls ls':List Int}{wd:Wd}{ps:List (Nat × Nat)}(S:Sound ls wd ps) (U:Up ls ls'):Sound ls' wd ps :=
 ⟨U.sound _ (ar_cg wd) S.sub,S.eq,fun p hp=>by
  (refine G3 ?_ (S.pr p hp);intro h1 h2 h3)
  refine M3 (Nat.lt_of_lt_of_le h1 U.len) (Nat.lt_of_lt_of_le h2 U.len) (U.keep _ _ h1 h2 h3)⟩
theorem told_all {ls:List Int}(C:Cl ls):∀ (ps:List (Nat × Nat)) (w:Wd),Holds01 ls w->(∀ p∈ps,p.1<ls.length/\p.2<ls.length/\ls.getD p.1 0=ls.getD p.2 0)->Holds01 ls (ps.foldl (fun w p=>toldN w p.1 p.2) w)
 | [],_,h,_=>h
 | p::ps,w,h,hp=>by
  (refine G3 ?_ (hp p (.head _));intro h1 h2 h3)
  exact told_all C ps _ (told_holds C h h1 h2 h3) fun q hq=>hp q (.tail _ hq)
theorem Sound.homes {ls ns:List Int}{wd:Wd}{ps:List (Nat × Nat)}(S:Sound ls wd ps) (F:Forest ns ls) (C:Cl ls):∀ n:Nat,n<ls.length->ls.getD n 0=(homeN wd n:Nat):=fun n hn =>
 labels_home F C (by rw [S.eq];exact told_all C ps none trivial S.pr) S.sub hn
end
section
set_option tactic.hygienic false
noncomputable def twoF (x1 x2:Str) (a b:Value) (k:Str):Option Value:=if k=x1 then some a else if k=x2 then some b else none
section
variable {prog:Program}{w:World}{A:Around}{E:Value->Shared->Prop}{s:Shared}{hO:Heap}{L:Addr}{m:Str->Option Value}{news:Led}
theorem eval_stood {e:PySem.Expr}{env:Env}{pos:Pos}{Q:Value->Shared->Prop}(h:wpAny (model prog w) A (eval e env) Q E s):wpAny (model prog w) A (do let x ← eval e env;standAt pos;pure x) Q E s :=
 wpAny_bind (wpAny_mono h (fun _ _ hq=>wpAny_bind (wpAny_standAt (wpAny_pure hq))) fun _ _ e=>e)
theorem merged_two {x1 x2:Str}(hne:x1≠x2) (a b:Value):(merged [] [(x1,a),(x2,b)])=[(x1,a),(x2,b)]:=by
 simp [merged,stored,hne]
theorem valueAt_two (x1 x2:Str) (a b:Value):∀ k,valueAt [(x1,a),(x2,b)] k=twoF x1 x2 a b k:=fun k=>by
 unfold valueAt twoF
 by_cases h1:k=x1
 ·subst h1;simp
 ·have h1':¬ x1=k:=fun e=>h1 e.symm
  by_cases h2:k=x2
  ·subst h2;simp [h1,h1']
  ·have h2':¬ x2=k:=fun e=>h2 e.symm
   simp [h1,h2,h1',h2']
theorem ds_two {env:Env}{x1 x2:Str}{c1 c2:Nat}{p1 p2 pos:Pos}{v1 v2:PySem.Expr}{Q:Value->Shared->Prop}(hne:x1≠x2) (F:Fr hO L s.heap m) (N:News hO L s.heap news) (hbig:hO.NoLimit)
  (h:∀ d h1 tk o,Fr hO L h1 m->News hO L h1 ((d,o)::news)->(∀ p∈news,p.1<d) ->
   wpAny (model prog w) A (eval v1 env) (fun a s1=>∀ tk,wpAny (model prog w) A (eval v2 env) (fun b s2=>∃ l1:Led,Fr hO L s2.heap m/\News hO L s2.heap l1/\(d,o)∈l1 /\
    ∀ h' tk l2 o',Fr hO L h' m->News hO L h' l2->SetTo d o' l1 l2->DS prog w d 2 (twoF x1 x2 a b) l2->Q (.ref d) { s2 with heap:=h',toks:=tk }) E { s1 with toks:=tk }) E { s with heap:=h1,toks:=tk }) :
  wpAny (model prog w) A (eval (.Dict [some (.Constant (.str x1) c1 p1),some (.Constant (.str x2) c2 p2)] [v1,v2] pos) env) Q E s:=by
 refine ds_new rfl rfl (by simp) (by simp) F N hbig fun d h1 o F1 N1 lt1=>?_
 refine evalPairs_cons (Calls.Constant_str (eval_stood (wpAny_mono (h d h1 _ o F1 N1 lt1) (fun a s1 hq=>?_) fun _ _ e=>e)))
 refine evalPairs_cons (Calls.Constant_str (eval_stood (wpAny_mono (hq _) (fun b s2 hq2=>?_) fun _ _ e=>e)))
 refine evalPairs_nil ?_
 (refine E1 hq2 fun l1=>G4 fun F2 N2 hm k=>?_;try clear hq2)
 refine K2 [(x1,a),(x2,b)] l1 (M5 ⟨?_,rfl,?_,rfl,trivial⟩ F2 N2 hm (fun h' tk l2 o' F3 N3 S3 _ D3=>k h' tk l2 o' F3 N3 S3 ?_))
 ·exact PySem.strKind_is prog w x1 _
 ·exact PySem.strKind_is prog w x2 _
 ·rw [merged_two hne] at D3
  exact D3.congr (valueAt_two x1 x2 a b)
end
end
section
set_option tactic.hygienic false
theorem over4_self (a j i k:Str) (m:Str->Option Value):m=fun y=>if y=a then m a else if y=j then m j else if y=i then m i else if y=k then m k else m y:=by
 funext y
 by_cases h:y=a
 ·rw [if_pos h,h]
 rw [if_neg h]
 by_cases h:y=j
 ·rw [if_pos h,h]
 rw [if_neg h]
 by_cases h:y=i
 ·rw [if_pos h,h]
 rw [if_neg h]
 by_cases h:y=k
 ·rw [if_pos h,h]
 rw [if_neg h]
theorem over4_twice (a j i k:Str) (m:Str->Option Value) (pa pj pi pk oa oj oi ok:Option Value) :
  (fun y=>if y=a then pa else if y=j then pj else if y=i then pi else if y=k then pk else (fun y=>if y=a then oa else if y=j then oj else if y=i then oi else if y=k then ok else m y) y)=fun y=>if y=a then pa else if y=j then pj else if y=i then pi else if y=k then pk else m y:=by
 funext y
 by_cases h:y=a
 ·simp only [if_pos h]
 simp only [if_neg h]
 by_cases h:y=j
 ·simp only [if_pos h]
 simp only [if_neg h]
 by_cases h:y=i
 ·simp only [if_pos h]
 simp only [if_neg h]
 by_cases h:y=k
 ·simp only [if_pos h]
 simp only [if_neg h]
section
variable {prog:Program}{w:World}{A:Around}{E:Value->Shared->Prop}{s:Shared}{hO:Heap}{env:Env}{body:List Stmt}{Q:Flow->Shared->Prop}{news:Led}{m₀:Str->Option Value}
theorem for_enum_D1 (xa:Str) {xk xi xj:Str}{pk pi pj p1 p2:Pos}{c1 c2:Nat}{e it ax:Addr}{oi:Obj}{vs:List Value}{k:Nat}(J:Nat->Led->Prop) (hh:A.handled=none) (hxk:env.kindOf xk=some .local) (hxi:env.kindOf xi=some .local) (hxj:env.kindOf xj=some .local)
  (hp:(env.scope.kind == .class || (env.scope.kind == .module && env.locals != env.globals))=false)
  (F:Fr hO env.locals s.heap m₀) (N:News hO env.locals s.heap ((e,enumO it 0 .none)::(it,oi)::news)) (hit:s.heap.IsListIter it ax 0) (hei:e≠it) (hoff:∀ p∈news,p.1≠e/\p.1≠it) (hJ:J 0 news)
  (hS:∀ i l,J i l->(ax,PySem.W.listOf vs.toArray k)∈l)
  (hT:∀ i v l,vs[i]?=some v->J i l->∃ a v0 v1 n,v = .ref a/\(a,tupOf #[v0,v1] n)∈l)
  (turn:∀ (i:Nat) a v0 v1 n t oa oj oi' ok l h tk dr oe oi'',vs[i]?=some (.ref a)->(a,tupOf #[v0,v1] n)∈l->J i l->(∀ p∈l,p.1≠e/\p.1≠it)->Fr hO env.locals h (fun y=>if y=xj then some v1 else if y=xi then some v0 else if y=xk then some (.int i t) else (fun y=>if y=xa then oa else if y=xj then oj else if y=xi then oi' else if y=xk then ok else m₀ y) y)->News hO env.locals h ((e,oe)::(it,oi'')::l) ->
   wpAny (model prog w) A (execs body env) (ForEndD hO env.locals (fun m l=>J (i+1) l/\∃ oa oj oi ok,m=fun y=>if y=xa then oa else if y=xj then oj else if y=xi then oi else if y=xk then ok else m₀ y) [(e,oe),(it,oi'')] s Q) E { s with heap:=h,toks:=tk,drawn:=dr })
  (done:∀ oa oj oi' ok l h tk dr,J vs.length l->Fr hO env.locals h (fun y=>if y=xa then oa else if y=xj then oj else if y=xi then oi' else if y=xk then ok else m₀ y)->News hO env.locals h l->Q .next { s with heap:=h,toks:=tk,drawn:=dr })
  (hE:PassesOwn (model prog w) A env E:=by passes_own) :
  wpAny (model prog w) A (pyIter (.ref e)) (fun it s₂=>LoopAtD prog w A env (.Tuple [.Name xk pk,.Tuple [.Name xi pi,.Name xj pj] c1 p1] c2 p2) body Q E it s₂) E s:=by
 refine for_enum_D (fun i m l=>J i l/\∃ oa oj oi ok,m=fun y=>if y=xa then oa else if y=xj then oj else if y=xi then oi else if y=xk then ok else m₀ y) hh hxk hxi hxj hp F N hit hei hoff ⟨hJ,_,_,_,_,over4_self xa xj xi xk m₀⟩ (fun i m l h=>hS i l h.1) (fun i v m l hv h=>hT i v l hv h.1) (fun i a v0 v1 n t m₁ l h tk dr oe oi'' hv ma hj off F1 N1=>?_) (fun m₁ l h tk dr hj F1 N1=>?_) hE
 ·obtain ⟨hj,oa,oj,oi',ok,rfl⟩:=hj
  exact turn i a v0 v1 n t oa oj oi' ok l h tk dr oe oi'' hv ma hj off F1 N1
 ·obtain ⟨hj,oa,oj,oi',ok,rfl⟩:=hj
  exact done oa oj oi' ok l h tk dr hj F1 N1
end
end
section
example:True:=by
 k_with "bank"=>((fail_if_success k_extra "x36");(first | decide | exists b32,b33,b34,b36,b37,b35))
 trivial
noncomputable def Con (w:World) (f:Addr) (args:List Value) (dd uu:Nat) (pre:Led->Prop) (post:Led->Led->Value->Prop):Prop :=
 ∀ (mean:ExcName->Option Value) (mg mb:Str->Option Value) (dp un:Nat) (gd:Option (List Code)) (env:Env) (outer:List Env) (A₀:Around) (base hO:Heap) (L:Addr) (m:Str->Option Value) (news:Led) (s:Shared) (Q E:Value->Shared->Prop),
  Below A₀ base outer hO->Fr hO L s.heap m->(Mine.q.hd.heap_39 w.params).In hO->News hO L s.heap news->Top Mine.q.hd.view_39 (looseW Mine.q.hd.view_39 []) mean mg mb hO->env.frame=some L->env.scope.kind = .function ->
  dp+dd<recursionLimit->un+uu<cLine->pre news ->
  (∀ r h' tk' news',Fr hO L h' m->News hO L h' news'->post news news' r->Q r { s with heap:=h',toks:=tk' }) ->
  wpAny (model Challenge.rw_pq0123_01.row.prog w) (top dp un gd env outer) (call (.ref f) args) Q E s

set_option cleanup.letToHave false in
theorem a_let {α:Type}{M:Model}{A:Around}{c:Sem α}{Q:α->Shared->Prop}{E:Value->Shared->Prop}{s:Shared}(k:let A':=A;wpAny M A' c Q E s):wpAny M A c Q E s:=k
set_option cleanup.letToHave false in
theorem e_let {M:Model}{A:Around}{b:List Stmt}{env:Env}{Q:Flow->Shared->Prop}{E:Value->Shared->Prop}{s:Shared}(k:let e:=env;wpAny M A (execs b e) Q E s):wpAny M A (execs b env) Q E s:=k
set_option cleanup.letToHave false in
theorem con_use {w:World}{f:Addr}{args:List Value}{dd uu:Nat}{pre:Led->Prop}{post:Led->Led->Value->Prop}(C:Con w f args dd uu pre post)
  {mean:ExcName->Option Value}{mg mb:Str->Option Value}{A A₀:Around}{env:Env}{outer:List Env}{base hO:Heap}{L:Addr}{m:Str->Option Value}{news:Led}{s:Shared}{Q E:Value->Shared->Prop}
  (B:Below A₀ base outer hO) (F:Fr hO L s.heap m) (X:(Mine.q.hd.heap_39 w.params).In hO) (N:News hO L s.heap news) (T:Top Mine.q.hd.view_39 (looseW Mine.q.hd.view_39 []) mean mg mb hO)
  (hA:A.frames=some (env::outer)) (hh:A.handled=none) (hf:env.frame=some L) (hk:env.scope.kind = .function)
  (hd:A.depth+dd<recursionLimit) (hu:A.units+uu<cLine) (hp:pre news)
  (ret:let kQ:=Q;∀ r h' tk' news',Fr hO L h' m->News hO L h' news'->post news news' r->kQ r { s with heap:=h',toks:=tk' }) :
  wpAny (model Challenge.rw_pq0123_01.row.prog w) A (call (.ref f) args) Q E s:=by
 obtain ⟨hd',dp,fr,gd,un⟩:=A
 cases hA;cases hh
 exact C mean mg mb dp un gd env outer A₀ base hO L m news s Q E B F X N T hf hk hd hu hp ret

noncomputable def uDict (w:World) (k1 k2 k3:Tok) (la ll lm:Addr):List DictEntry :=
 [⟨PyData.keyHash w.params "above",.str "above" k1,.ref la⟩,⟨PyData.keyHash w.params "lots",.str "lots" k2,.ref ll⟩,⟨PyData.keyHash w.params "merged",.str "merged" k3,.ref lm⟩]

structure UIn (w:World) (u du la ll lm:Addr) (nd na nl nm:Nat) (k1 k2 k3:Tok) (vs:List Value) (as bs:List Addr) (ns:List Int) (cs:List (List Int)) (ms:List (Int × Int)) (l:Led):Prop where
 nod:(u::du::la::ll::lm::(as++bs)).Nodup
 inst:(u,instObj 256 du)∈l
 dict:(du,dictOf (uDict w k1 k2 k3 la ll lm) nd)∈l
 above:(la,PySem.W.listOf vs.toArray na)∈l
 vints:IntsAre vs ns
 lots:(ll,PySem.W.listOf (as.map Value.ref).toArray nl)∈l
 lists:Lists as cs l
 merged:(lm,PySem.W.listOf (bs.map Value.ref).toArray nm)∈l
 tups:Tups bs ms l
 len:cs.length=ns.length
 small:ns.length<60
 smallm:ms.length<60
 smallc:∀ c∈cs,c.length<60

noncomputable def UAt (w:World) (u:Addr) (ns:List Int) (cs:List (List Int)) (ms:List (Int × Int)) (foot:List Addr) (l:Led):Prop :=
 ∃ du la ll lm nd na nl nm k1 k2 k3 vs as bs,UIn w u du la ll lm nd na nl nm k1 k2 k3 vs as bs ns cs ms l/\foot=u::du::la::ll::lm::(as++bs)

theorem UAt.move {w:World}{u:Addr}{ns:List Int}{cs:List (List Int)}{ms:List (Int × Int)}{foot:List Addr}{l l':Led}(h:UAt w u ns cs ms foot l) (k:∀ p∈l,p.1∈foot->p∈l'):UAt w u ns cs ms foot l':=by
 (refine E14 h fun du la ll lm nd na nl nm k1 k2 k3 vs as bs=>G2 fun I zo86=>?_;try clear h;rcases zo86 with rfl)
 refine K14 du la ll lm nd na nl nm k1 k2 k3 vs as bs (M2 ⟨I.nod,k _ I.inst (by simp),k _ I.dict (by simp),k _ I.above (by simp),I.vints,k _ I.lots (by simp),⟨I.lists.1,fun i hi=>?_⟩,k _ I.merged (by simp),⟨I.tups.1,fun i hi=>?_⟩,I.len,I.small,I.smallm,I.smallc⟩ rfl)
 ·(refine E2 (I.lists.2 i hi) fun v n=>G2 fun h1 h2=>?_)
  refine K2 v n (M2 (k _ h1 ?_) h2)
  simp only [List.mem_cons,List.mem_append]
  exact .inr (.inr (.inr (.inr (.inr (.inl (getD_mem hi))))))
 ·(refine E3 (I.tups.2 i hi) fun t1 t2 n h1=>?_)
  refine K3 t1 t2 n (k _ h1 ?_)
  simp only [List.mem_cons,List.mem_append]
  exact .inr (.inr (.inr (.inr (.inr (.inr (getD_mem hi))))))


theorem UIn.nes {w:World}{u du la ll lm:Addr}{nd na nl nm:Nat}{k1 k2 k3:Tok}{vs:List Value}{as bs:List Addr}{ns:List Int}{cs:List (List Int)}{ms:List (Int × Int)}{l:Led}(I:UIn w u du la ll lm nd na nl nm k1 k2 k3 vs as bs ns cs ms l) :
  u≠du/\u≠la/\u≠ll/\u≠lm/\du≠la/\du≠ll/\du≠lm/\la≠ll/\la≠lm/\ll≠lm:=by
 have h:=I.nod
 simp only [List.nodup_cons,List.mem_cons,not_or] at h
 (refine G5 ?_ h;try clear h;intro zo87 zo88 zo89 zo90 _;obtain ⟨a1,a2,a3,a4,_⟩:=zo87;obtain ⟨b1,b2,b3,_⟩:=zo88;obtain ⟨c1,c2,_⟩:=zo89;obtain ⟨d1,_⟩:=zo90)
 refine M10 a1 a2 a3 a4 b1 b2 b3 c1 c2 d1
theorem UIn.asne {w:World}{u du la ll lm:Addr}{nd na nl nm:Nat}{k1 k2 k3:Tok}{vs:List Value}{as bs:List Addr}{ns:List Int}{cs:List (List Int)}{ms:List (Int × Int)}{l:Led}(I:UIn w u du la ll lm nd na nl nm k1 k2 k3 vs as bs ns cs ms l)
  {i:Nat}(h:i<as.length):u≠as.getD i 0/\du≠as.getD i 0/\la≠as.getD i 0/\ll≠as.getD i 0/\lm≠as.getD i 0:=by
 have hn:=I.nod
 have hm:as.getD i 0∈as:=getD_mem h
 simp only [List.nodup_cons,List.mem_cons,List.mem_append,not_or] at hn
 (refine G6 ?_ hn;try clear hn;intro zo91 zo92 zo93 zo94 zo95 _;obtain ⟨_,_,_,_,a5,_⟩:=zo91;obtain ⟨_,_,_,b4,_⟩:=zo92;obtain ⟨_,_,c3,_⟩:=zo93;obtain ⟨_,d2,_⟩:=zo94;obtain ⟨e1,_⟩:=zo95)
 refine M5 (fun e=>a5 (e ▸ hm)) (fun e=>b4 (e ▸ hm)) (fun e=>c3 (e ▸ hm)) (fun e=>d2 (e ▸ hm)) (fun e=>e1 (e ▸ hm))
theorem UIn.asinj {w:World}{u du la ll lm:Addr}{nd na nl nm:Nat}{k1 k2 k3:Tok}{vs:List Value}{as bs:List Addr}{ns:List Int}{cs:List (List Int)}{ms:List (Int × Int)}{l:Led}(I:UIn w u du la ll lm nd na nl nm k1 k2 k3 vs as bs ns cs ms l)
  {i j:Nat}(hi:i<as.length) (hj:j<as.length) (h:i≠j):as.getD i 0≠as.getD j 0:=by
 have hn:=I.nod
 simp only [List.nodup_cons] at hn
 have ha:as.Nodup:=(List.nodup_append.mp hn.2.2.2.2.2).1
 have e1:as.getD i 0=as[i]:=by simp [hi]
 have e2:as.getD j 0=as[j]:=by simp [hj]
 rw [e1,e2]
 intro e
 exact h ((List.getElem_inj ha).mp e)

theorem UIn.foot_in {w:World}{u du la ll lm:Addr}{nd na nl nm:Nat}{k1 k2 k3:Tok}{vs:List Value}{as bs:List Addr}{ns:List Int}{cs:List (List Int)}{ms:List (Int × Int)}{l:Led}(I:UIn w u du la ll lm nd na nl nm k1 k2 k3 vs as bs ns cs ms l) :
  ∀ a∈u::du::la::ll::lm::(as++bs),∃ o,(a,o)∈l:=by
 intro a ha
 simp only [List.mem_cons,List.mem_append] at ha
 rcases ha with rfl | rfl | rfl | rfl | rfl | ha | ha
 ·exact ⟨_,I.inst⟩
 ·exact ⟨_,I.dict⟩
 ·exact ⟨_,I.above⟩
 ·exact ⟨_,I.lots⟩
 ·exact ⟨_,I.merged⟩
 ·obtain ⟨i,hi,e⟩:=List.getElem_of_mem ha
  (refine E2 (I.lists.2 i hi) fun v n=>G2 fun h _=>?_)
  have e2:as.getD i 0=a:=by rw [← e];simp [hi]
  exact ⟨_,e2 ▸ h⟩
 ·obtain ⟨i,hi,e⟩:=List.getElem_of_mem ha
  (refine E3 (I.tups.2 i hi) fun t1 t2 n h=>?_)
  have e2:bs.getD i 0=a:=by rw [← e];simp [hi]
  exact ⟨_,e2 ▸ h⟩
theorem UAt.foot_in {w:World}{u:Addr}{ns:List Int}{cs:List (List Int)}{ms:List (Int × Int)}{foot:List Addr}{l:Led}(h:UAt w u ns cs ms foot l):∀ a∈foot,∃ o,(a,o)∈l:=by
 (refine E14 h fun du la ll lm nd na nl nm k1 k2 k3 vs as bs=>G2 fun I zo96=>?_;try clear h;rcases zo96 with rfl)
 exact I.foot_in
theorem UIn.merge {w:World}{u du la ll lm:Addr}{nd na nl nm:Nat}{k1 k2 k3:Tok}{vs:List Value}{as bs:List Addr}{ns:List Int}{cs:List (List Int)}{ms:List (Int × Int)}{l:Led}(I:UIn w u du la ll lm nd na nl nm k1 k2 k3 vs as bs ns cs ms l)
  {k g:Int}(hk0:0<=k) (hk1:k<ns.length) {l':Led}{t1 t2:Tok}{vk vg:List Value}{n1 n2 n3 n4:Nat}{D1:Addr}
  (keep:∀ p∈l,p.1≠la->p.1≠as.getD k.toNat 0->p.1≠lm->p∈l')
  (ha:(la,PySem.W.listOf (vs.set g.toNat (.int k t1)).toArray n1)∈l') (hi:IntsAre (vs.set g.toNat (.int k t1)) (ns.set g.toNat k))
  (hkl:(as.getD k.toNat 0,PySem.W.listOf (vk++vg).toArray n2)∈l') (hik:IntsAre vk (cs.getD k.toNat [])) (hig:IntsAre vg (cs.getD g.toNat []))
  (hm:(lm,PySem.W.listOf (bs.map Value.ref++[Value.ref D1]).toArray n3)∈l') (hD:(D1,tupOf #[.int k t1,.int g t2] n4)∈l') (hf:∀ p∈l,p.1≠D1)
  (hsz:(cs.getD k.toNat []).length+(cs.getD g.toNat []).length<60) (hms:ms.length<50) :
  UIn w u du la ll lm nd n1 nl n3 k1 k2 k3 (vs.set g.toNat (.int k t1)) as (bs++[D1]) (ns.set g.toNat k) (cs.set k.toNat (cs.getD k.toNat []++cs.getD g.toNat [])) (ms++[(k,g)]) l':=by
 (refine G10 ?_ I.nes;intro n01 n02 n03 n04 n05 n06 n07 n08 n09 n10)
 have hal:as.length=cs.length:=I.lists.1
 have hcl:=I.len
 have hbl:=I.tups.1
 have hD1:D1∉u::du::la::ll::lm::(as++bs):=fun h=>by
  (refine E1 (I.foot_in _ h) fun o ho=>?_)
  exact hf _ ho rfl
 (refine G5 ?_ (I.asne (i:=k.toNat) (by omega));intro p1 p2 p3 p4 p5)
 refine ⟨?_,keep _ I.inst n02 p1 n04,keep _ I.dict n05 p2 n07,ha,hi,keep _ I.lots (Ne.symm n08) p4 n10,⟨by rw [List.length_set];exact hal,fun i h=>?_⟩,by rw [List.map_append];exact hm,⟨by simp [hbl],fun i h=>?_⟩,by rw [List.length_set,List.length_set];exact hcl,by rw [List.length_set];exact I.small,by simp;omega,fun c hc=>?_⟩
 ·have e:u::du::la::ll::lm::(as++(bs++[D1]))=(u::du::la::ll::lm::(as++bs))++[D1]:=by simp
  rw [e,List.nodup_append]
  refine M3 I.nod (by simp) (fun a h1 b h2=>by rw [List.mem_singleton.mp h2];exact fun q=>hD1 (q ▸ h1))
 ·by_cases hik':k.toNat=i
  ·subst hik'
   rw [getD_set_self (by omega)]
   refine K2 _ _ (M2 hkl (hik.append hig))
  ·rw [getD_set_ne hik']
   (refine E2 (I.lists.2 i h) fun v n=>G2 fun h1 h2=>?_)
   (refine G5 ?_ (I.asne (i:=i) h);intro q1 q2 q3 q4 q5)
   refine K2 v n (M2 (keep _ h1 (Ne.symm q3) (I.asinj h (by omega) (Ne.symm hik')) (Ne.symm q5)) h2)
 ·rw [List.length_append,List.length_singleton] at h
  by_cases hl:i<bs.length
  ·rw [getD_app_lt hl,getD_app_lt (by omega)]
   (refine E3 (I.tups.2 i hl) fun t1 t2 n h1=>?_)
   have hb:bs.getD i 0∈bs:=getD_mem hl
   have hn:=I.nod
   simp only [List.nodup_cons,List.mem_cons,List.mem_append,not_or] at hn
   (refine G6 ?_ hn;try clear hn;intro _ _ zo97 _ zo98 x3;obtain ⟨_,_,_,x1⟩:=zo97;obtain ⟨_,x2⟩:=zo98)
   have hx:as.getD k.toNat 0∈as:=getD_mem (by omega)
   have x4:=(List.nodup_append.mp x3).2.2 _ hx _ hb
   refine K3 t1 t2 n (keep _ h1 (fun e=>x1 (e ▸ hb)) (Ne.symm x4) (fun e=>x2 (e ▸ hb)))
  ·have e:i=bs.length:=by omega
   rw [getD_app_last e,getD_app_last (by omega)]
   refine K3 t1 t2 n4 hD
 ·rcases mem_set_or hc with h | h
  ·exact I.smallc _ h
  ·rw [h,List.length_append];exact hsz
theorem UIn.make {w:World}{u du la ll lm:Addr}{nd na nl nm:Nat}{k1 k2 k3:Tok}{vs:List Value}{as bs:List Addr}{ns:List Int}{cs:List (List Int)}{ms:List (Int × Int)}{l:Led}(I:UIn w u du la ll lm nd na nl nm k1 k2 k3 vs as bs ns cs ms l)
  {l':Led}{t1 t2:Tok}{n1 n2 n3:Nat}{D1:Addr}
  (keep:∀ p∈l,p.1≠la->p.1≠ll->p∈l')
  (ha:(la,PySem.W.listOf (vs++[Value.int ns.length t1]).toArray n1)∈l')
  (hm:(ll,PySem.W.listOf (as.map Value.ref++[Value.ref D1]).toArray n2)∈l') (hD:(D1,PySem.W.listOf #[.int ns.length t2] n3)∈l') (hf:∀ p∈l,p.1≠D1) (hlen:ns.length<50) :
  UIn w u du la ll lm nd n1 n2 nm k1 k2 k3 (vs++[Value.int ns.length t1]) (as++[D1]) bs (ns++[(ns.length:Int)]) (cs++[[(ns.length:Int)]]) ms l':=by
 (refine G10 ?_ I.nes;intro n01 n02 n03 n04 n05 n06 n07 n08 n09 n10)
 have hal:as.length=cs.length:=I.lists.1
 have hcl:=I.len
 have hD1:D1∉u::du::la::ll::lm::(as++bs):=fun h=>by
  (refine E1 (I.foot_in _ h) fun o ho=>?_)
  exact hf _ ho rfl
 refine ⟨?_,keep _ I.inst n02 n03,keep _ I.dict n05 n06,ha,I.vints.append (.cons _ _ .nil),by rw [List.map_append];exact hm,⟨by simp [hal],fun i h=>?_⟩,keep _ I.merged (Ne.symm n09) (Ne.symm n10),⟨I.tups.1,fun i h=>?_⟩,by simp [hcl],by simp;omega,I.smallm,fun c hc=>?_⟩
 ·have hp:(u::du::la::ll::lm::(as++[D1]++bs)).Perm ((u::du::la::ll::lm::(as++bs))++[D1]):=by
   have h1:(as++[D1]++bs).Perm (as++bs++[D1]):=by
    rw [List.append_assoc,List.append_assoc]
    exact List.Perm.append_left as List.perm_append_comm
   have:=((((h1.cons lm).cons ll).cons la).cons du).cons u
   simpa using this
  rw [hp.nodup_iff,List.nodup_append]
  refine M3 I.nod (by simp) (fun a h1 b h2=>by rw [List.mem_singleton.mp h2];exact fun q=>hD1 (q ▸ h1))
 ·rw [List.length_append,List.length_singleton] at h
  by_cases hl:i<as.length
  ·rw [getD_app_lt hl,getD_app_lt (by omega)]
   (refine E2 (I.lists.2 i hl) fun v n=>G2 fun h1 h2=>?_)
   (refine G5 ?_ (I.asne (i:=i) hl);intro q1 q2 q3 q4 q5)
   refine K2 v n (M2 (keep _ h1 (Ne.symm q3) (Ne.symm q4)) h2)
  ·have e:i=as.length:=by omega
   rw [getD_app_last e,getD_app_last (by omega)]
   refine K2 [.int ns.length t2] n3 (M2 hD (.cons _ _ .nil))
 ·(refine E3 (I.tups.2 i h) fun t1 t2 n h1=>?_)
  have hb:bs.getD i 0∈bs:=getD_mem h
  have hn:=I.nod
  simp only [List.nodup_cons,List.mem_cons,List.mem_append,not_or] at hn
  (refine G5 ?_ hn;try clear hn;intro _ _ zo99 zo0 _;obtain ⟨_,_,_,x1⟩:=zo99;obtain ⟨_,_,x2⟩:=zo0)
  refine K3 t1 t2 n (keep _ h1 (fun e=>x1 (e ▸ hb)) (fun e=>x2 (e ▸ hb)))
 ·rcases List.mem_append.mp hc with h | h
  ·exact I.smallc _ h
  ·rw [List.mem_singleton.mp h];show 1<60;omega
end
section
example:True:=by
 k_with "g37"=>fail_if_success k_extra "x37"
 k_with "x36"=>skip
 k_with "bank"=>(k_extra "g37";(exists b44,b39,b40,b41,b42,b43,b45))
 k_with "la"=>k_extra "g37"
 k_with "lb"=>k_extra "g37"
 k_with "lc"=>k_extra "g37"
 k_with "ld"=>k_extra "g37"
 trivial
example:True:=by
 k_with "storeName"=>(k_extra "g37";((k_here;k_dflt (refine' storeX_L ?kzF ?kzN ?_ ?kza ?kzb;(case kzF=>k_asm);(case kzN=>k_asm);(case kza=>rfl);(case kzb=>rfl);k_whole);intro _ _ _;(try dsimp only);(try k_sweep))))
 trivial
theorem find_con {w:World}(u:Addr) (ns ls:List Int) (cs:List (List Int)) (ms:List (Int × Int)) (foot:List Addr) (a:Int) (ta:Tok) (FO:Forest ns ls) :
  Con w 213 [.ref u,.int a ta] 5 50 (fun news=>UAt w u ns cs ms foot news/\0<=a/\a<ns.length) (fun news news' r=>news'=news/\∃ t,r = .int (ls.getD a.toNat 0) t):=by
 (intro mean mg mb dp un gd env outer A₀ base hO L m news s Q E B F X N T hf hk hd hu zr26 hret;(refine G3 ?_ zr26;try clear zr26;intro zo1 ha hlt;obtain ⟨du,la,ll,lm,nd,na,nl,nm,k1,k2,k3,vs,as,bs,I,hfoot⟩:=zo1))
 have m1:=I.inst
 have m2:=I.dict
 have m3:=I.above
 have hi:=I.vints
 have hz:=I.small
 clear I
 refine wpAny_call ?_
 let kzb:List (Str × Value):=[("self",.ref u),("a",.int a ta)]
 k_extra "c0"
 walk1
 walk1
 refine While_inv (n₀:=a.toNat) (fun n m₁ l=>l=news/\∃ (x:Int) (t:Tok),n=x.toNat/\0<=x/\x<ns.length/\ls.getD x.toNat 0=ls.getD a.toNat 0/\m₁=fm [("a",.int x t),("self",.ref u)]) F' N' ⟨rfl,a,ta,rfl,ha,hlt,rfl,by rfl⟩ ?_
 (intro n m₁ l h₁ tk₁ F₁ N₁ zr7;obtain ⟨rfl,x,t,rfl,hx0,hx1,hxl,rfl⟩:=zr7)
 k_steps
 ·rename_i hne _ _ _ F2 N2
  (refine G2 ?_ (FO.lo x.toNat (by omega));intro e1 e2)
  have e3:=FO.up x.toNat (by omega)
  rw [set_head] at F2
  exact WhileStep.intro F2 N2 (n':=(ns.getD x.toNat 0).toNat) (by omega) ⟨rfl,_,_,rfl,e1,by omega,e3.trans hxl,rfl⟩
 ·rename_i heq kF kN _ _
  have e:=FO.fix x.toNat (by omega) (by omega)
  have e':x=ls.getD a.toNat 0:=by rw [← hxl];omega
  rw [e']
  (refine hret _ _ _ _ kF kN ?_;refine ⟨rfl,_,rfl⟩)
end
section
example:True:=by
 k_with "x37"=>skip
 trivial
noncomputable abbrev ent (w:World) (x:Str) (t:Tok) (v:Value):DictEntry:=⟨PyData.keyHash w.params x,.str x t,v⟩
noncomputable def bDict (w:World) (k:Nat->Tok) (ln dn lw ld:Addr):List DictEntry:=[ent w "nodes" (k 0) (.ref ln),ent w "numbers" (k 1) (.ref dn),ent w "weights" (k 2) (.ref lw),ent w "depths" (k 3) (.ref ld)]
noncomputable def hDict (w:World) (k:Nat->Tok) (b u le lf dk da lw:Addr):List DictEntry :=
 [ent w "bank" (k 0) (.ref b),ent w "unions" (k 1) (.ref u),ent w "edges" (k 2) (.ref le),ent w "forest" (k 3) (.ref lf),ent w "known" (k 4) (.ref dk),ent w "above" (k 5) (.ref da),ent w "waiting" (k 6) (.ref lw)]
noncomputable def NumIs (xs:Ents) (nks:List (List Mix)):Prop:=xs.length=nks.length/\∀ i,i<xs.length->∃ t,(xs.getD i ([],0,.none)).1=nks.getD i []/\(xs.getD i ([],0,.none)).2.2 = .int (i:Int) t
noncomputable def KnIs (xs:Ents) (kn:List (List Mix × Int)):Prop:=xs.length=kn.length/\∀ i,i<xs.length->∃ t,(xs.getD i ([],0,.none)).1=(kn.getD i ([],0)).1/\(xs.getD i ([],0,.none)).2.2 = .int (kn.getD i ([],0)).2 t
noncomputable def TupsIn (w:World) (nas:List Addr) (nks:List (List Mix)) (l:Led):Prop:=nas.length=nks.length/\∀ i,i<nas.length->TupIn Challenge.rw_pq0123_01.row.prog w (nas.getD i 0) (nks.getD i []) l

structure BIn (w:World) (b db ln dn lw ld:Addr) (k:Nat->Tok) (n1 n2 n3 n4:Nat) (nas:List Addr) (xs:Ents) (vw vd:List Value) (ws ds:List Int) (nks:List (List Mix)) (foot:List Addr) (l:Led):Prop where
 inst:(b,instObj 174 db)∈l
 dict:(db,dictOf (bDict w k ln dn lw ld) n1)∈l
 nodes:(ln,PySem.W.listOf (nas.map Value.ref).toArray n2)∈l
 tups:TupsIn w nas nks l
 numbers:DH Challenge.rw_pq0123_01.row.prog w dn xs l
 num:NumIs xs nks
 weights:(lw,PySem.W.listOf vw.toArray n3)∈l
 wints:IntsAre vw ws
 depths:(ld,PySem.W.listOf vd.toArray n4)∈l
 dints:IntsAre vd ds
 wlen:ws.length=nks.length
 dlen:ds.length=nks.length
 small:nks.length<60/\(∀ i:Nat,i<ws.length->0<=ws.getD i 0/\ws.getD i 0<=i+1)/\(∀ i:Nat,i<ds.length->0<=ds.getD i 0/\ds.getD i 0<=i+1)
 nod:[b,db,ln,dn,lw,ld].Nodup
 tne:∀ a,(a∈nas∨a∈entAddrs xs)->a≠dn/\a≠ln/\a≠lw/\a≠ld
 feet:b∈foot/\db∈foot/\ln∈foot/\dn∈foot/\lw∈foot/\ld∈foot/\(∀ a∈nas,a∈foot)/\(∀ a∈entAddrs xs,a∈foot)
 footin:∀ a∈foot,∃ o,(a,o)∈l
noncomputable def BAt (w:World) (b:Addr) (nks:List (List Mix)) (foot:List Addr) (l:Led):Prop:=∃ db ln dn lw ld k n1 n2 n3 n4 nas xs vw vd ws ds,BIn w b db ln dn lw ld k n1 n2 n3 n4 nas xs vw vd ws ds nks foot l

structure HIn (w:World) (hp b u dh le lf dk da lw:Addr) (k:Nat->Tok) (n1 n2 n3 n4:Nat) (ve vf vw:List Value) (kxs:Ents) (fa:Int->Option Addr) (kn:List (List Mix × Int)) (ab:Int->Option (List Int)) (wt:List Int) (N E:Nat) (foot:List Addr) (l:Led):Prop where
 inst:(hp,instObj 384 dh)∈l
 dict:(dh,dictOf (hDict w k b u le lf dk da lw) n1)∈l
 edges:(le,PySem.W.listOf ve.toArray n2)∈l
 elen:ve.length<=E
 forest:(lf,PySem.W.listOf vf.toArray n3)∈l
 flen:vf.length<=E
 known:DH Challenge.rw_pq0123_01.row.prog w dk kxs l
 knis:KnIs kxs kn
 above:DI Challenge.rw_pq0123_01.row.prog w da N fa l
 users:∀ j,(fa j=none/\ab j=none)∨∃ a us vs n,fa j=some a/\ab j=some us/\(a,PySem.W.listOf (List.toArray vs) n)∈l/\IntsAre vs us/\us.length<60
 inj:∀ i j a,fa i=some a->fa j=some a->i=j
 waiting:(lw,PySem.W.listOf vw.toArray n4)∈l
 wints:IntsAre vw wt
 small:N<1000/\E<1000/\wt.length<1000/\kn.length<1000
 nod:[hp,dh,le,lf,dk,da,lw].Nodup
 ane:∀ j a,fa j=some a->a∉[hp,dh,le,lf,dk,da,lw]
 tne:∀ a,a∈entAddrs kxs->a∉[hp,dh,le,lf,dk,da,lw]/\∀ j,fa j≠some a
 feet:hp∈foot/\dh∈foot/\le∈foot/\lf∈foot/\dk∈foot/\da∈foot/\lw∈foot/\(∀ a∈entAddrs kxs,a∈foot)/\∀ j a,fa j=some a->a∈foot
 footin:∀ a∈foot,∃ o,(a,o)∈l
noncomputable def HAt (w:World) (hp b u:Addr) (kn:List (List Mix × Int)) (ab:Int->Option (List Int)) (wt:List Int) (N E:Nat) (foot:List Addr) (l:Led):Prop :=
 ∃ dh le lf dk da lw k n1 n2 n3 n4 ve vf vw kxs fa,HIn w hp b u dh le lf dk da lw k n1 n2 n3 n4 ve vf vw kxs fa kn ab wt N E foot l

theorem BAt.move {w:World}{b:Addr}{nks:List (List Mix)}{foot:List Addr}{l l':Led}(h:BAt w b nks foot l) (k:∀ p∈l,p.1∈foot->p∈l'):BAt w b nks foot l':=by
 (refine E16 h fun db ln dn lw ld kk n1 n2 n3 n4 nas xs vw vd ws ds I=>?_;try clear h)
 (refine G8 ?_ I.feet;intro f1 f2 f3 f4 f5 f6 f7 f8)
 refine ⟨db,ln,dn,lw,ld,kk,n1,n2,n3,n4,nas,xs,vw,vd,ws,ds,k _ I.inst f1,k _ I.dict f2,k _ I.nodes f3,⟨I.tups.1,fun i hi=>(I.tups.2 i hi).mono fun p hp e=>k p hp (e ▸ f7 _ (getD_mem hi))⟩,I.numbers.move fun p hp e=>k p hp ?_,I.num,k _ I.weights f5,I.wints,k _ I.depths f6,I.dints,I.wlen,I.dlen,I.small,I.nod,I.tne,I.feet,fun a ha=>?_⟩
 ·rcases e with e | e
  ·exact e ▸ f4
  ·exact f8 _ e
 ·(refine E1 (I.footin a ha) fun o ho=>?_)
  exact ⟨o,k _ ho ha⟩
theorem HAt.move {w:World}{hp b u:Addr}{kn:List (List Mix × Int)}{ab:Int->Option (List Int)}{wt:List Int}{N E:Nat}{foot:List Addr}{l l':Led}(h:HAt w hp b u kn ab wt N E foot l) (k:∀ p∈l,p.1∈foot->p∈l'):HAt w hp b u kn ab wt N E foot l':=by
 (refine E16 h fun dh le lf dk da lw kk n1 n2 n3 n4 ve vf vw kxs fa I=>?_;try clear h)
 (refine G9 ?_ I.feet;intro f1 f2 f3 f4 f5 f6 f7 f8 f9)
 refine ⟨dh,le,lf,dk,da,lw,kk,n1,n2,n3,n4,ve,vf,vw,kxs,fa,k _ I.inst f1,k _ I.dict f2,k _ I.edges f3,I.elen,k _ I.forest f4,I.flen,I.known.move fun p hp e=>k p hp ?_,I.knis,I.above.move fun p hp e=>k p hp (e ▸ f6),fun j=>?_,I.inj,k _ I.waiting f7,I.wints,I.small,I.nod,I.ane,I.tne,I.feet,fun a ha=>?_⟩
 ·rcases e with e | e
  ·exact e ▸ f5
  ·exact f8 _ e
 ·rcases I.users j with h | ⟨a,us,vs,n,h1,h2,h3,h4⟩
  ·exact .inl h
  ·exact .inr ⟨a,us,vs,n,h1,h2,k _ h3 (f9 _ _ h1),h4⟩
 ·(refine E1 (I.footin a ha) fun o ho=>?_)
  exact ⟨o,k _ ho ha⟩
end
section
example:True:=by
 k_with "g39"=>fail_if_success k_extra "x39"
 k_with "bank"=>(k_extra "g39";(exists b46,b47,b48))
 k_with "la"=>k_extra "g39"
 k_with "lb"=>k_extra "g39"
 k_with "lc"=>k_extra "g39"
 k_with "ld"=>k_extra "g39"
 trivial
example:True:=by
 k_with "call ref"=>(k_extra "g39";((k_here;(with_reducible show wpAny _ _ (call (Value.ref 213) _) _ _ _);k_dflt (refine' con_use (find_con _ _ _ _ _ _ _ _ ?kzFO) ?kB ?kF ?kX ?kN ?kT ?kA ?kH ?kf ?kk ?kd ?ku ?hp ?_;(case kzFO=>assumption);(case hp=>refine ⟨by assumption,by first | assumption | omega,by first | assumption | omega⟩);tb_start); intro kzQ _ _ _ _ _ _ hp';obtain ⟨e',_,e2'⟩:=hp';subst e';subst e2';(try unfold kzQ);(try clear kzQ);(try dsimp only))))
 k_with "eval ListComp"=>(k_extra "g39";((k_here;lct_look;k_dflt (refine ListComp_S (_F₀:=by k_asm) (by with_unfolding_all rfl) (by decide) (by rfl) (by decide) (by rfl) ?_))))
 trivial
noncomputable def okSign (c:Nat):Prop:=Txt.isspace ⟨#[c]⟩=false/\(Builtin.Str.occurrences (Str.ofString "()[]{},:") ⟨#[c]⟩ 0 (Str.ofString "()[]{},:").length 1).isEmpty=true
theorem isspace_no {prog:Program}{w:World}{A:Around}{E:Value->Shared->Prop}{s:Shared}{x:Str}{t:Tok}{Q:Value->Shared->Prop}(e:Txt.isspace x=false) (h:Q (.bool false) s):wpAny (model prog w) A (call (.builtin "str.isspace") [.str x t]) Q E s:=PySem.SC.isspace (by rw [e];exact h)
theorem in_no {prog:Program}{w:World}{A:Around}{E:Value->Shared->Prop}{s:Shared}{x y:Str}{t u:Tok}{Q:Value->Shared->Prop}(e:(Builtin.Str.occurrences x y 0 x.length 1).isEmpty=true) (h:Q (.bool false) s):wpAny (model prog w) A (compareOp .In (.str y u) (.str x t)) Q E s:=in_str (by rw [e];exact h)
theorem isop_con {w:World}(x:Str) (tx:Tok) (hx:x≠Str.ofString "") (ha:x.cps.all (· < 128)=true) (hz:x.cps.size<1000) (hok:∀ c∈x.cps,okSign c) :
  Con w 67 [.str x tx] 20 200 (fun _=>True) (fun news news' r=>r = .bool true/\news'=news):=by
 intro mean mg mb dp un gd env outer A₀ base hO L m news s Q E B F X N T hf hk hd hu _ hret
 refine wpAny_call ?_
 let kzb:List (Str × Value):=[("text",.str x tx)]
 k_extra "c0"
 k_steps
 ·refine Hold.done (comp_str_none rfl (by k_asm) (by k_asm) ha (by omega) ?_ ?_)
  ·intro c u I oI C oC D m₂ h tk E' hc hC hxx F1 N1 off
   (refine G2 ?_ (hok c hc);intro ho1 ho2)
   clear hok ha
   k_steps
   refine K3 _ _ _ (M6 rfl F1 N1 off trivial rfl)
  ·intro D h tk F1 N1 hD
   unfold kzA
   k_steps
   rename News hO L _ _=>kN
   exact hret _ _ _ _ ‹_› (News.sub kN fun p hp=>.tail _ (.tail _ hp)) ⟨rfl,rfl⟩
 ·have hb:(x != Str.ofString "")=true:=by simpa using hx
  rename (x != _)=false=>h9
  rw [hb] at h9
  cases h9
end
section
example:True:=by
 k_with "g40"=>fail_if_success k_extra "x40"
 k_with "x39"=>skip
 k_with "bank"=>(k_extra "g40";(exists b49,b50,b51,b52))
 k_with "la"=>k_extra "g40"
 k_with "lb"=>k_extra "g40"
 k_with "lc"=>k_extra "g40"
 k_with "ld"=>k_extra "g40"
 trivial
example:True:=by
 k_with "call ref"=>(k_extra "g40";((k_here;(with_reducible show wpAny _ _ (call (Value.ref 213) _) _ _ _);k_dflt (refine' con_use (find_con _ _ _ _ _ _ _ _ ?kzFO) ?kB ?kF ?kX ?kN ?kT ?kA ?kH ?kf ?kk ?kd ?ku ?hp ?_;(case kzFO=>assumption);(case hp=>refine ⟨by assumption,by first | assumption | omega,by first | assumption | omega⟩);tb_start); intro kzQ _ _ _ _ _ _ hp';obtain ⟨e',_,e2'⟩:=hp';subst e';subst e2';(try unfold kzQ);(try clear kzQ);(try dsimp only))))
 trivial
theorem eq_no {prog:Program}{w:World}{A:Around}{E:Value->Shared->Prop}{s:Shared}{x y:Str}{t u:Tok}{Q:Value->Shared->Prop}(e:(x == y)=false) (h:Q (.bool false) s):wpAny (model prog w) A (compareOp .Eq (.str x t) (.str y u)) Q E s:=eq_str (by rw [e];exact h)
theorem require_con {w:World}(b:Addr) (x:Str) (tx:Tok) (hx:x≠Str.ofString "") (ha:x.cps.all (· < 128)=true) (hz:x.cps.size<1000) (hok:∀ c∈x.cps,okSign c) (h0:0<x.length) (hz2:x.length<1000) (hq:(Txt.item x 0 == Str.ofString "?")=false) :
  Con w 105 [.ref b,.str x tx] 40 400 (fun _=>True) (fun news news' r=>r = .none/\news'=news):=by
 intro mean mg mb dp un gd env outer A₀ base hO L m news s Q E B F X N T hf hk hd hu _ hret
 refine wpAny_call ?_
 let kzb:List (Str × Value):=[("self",.ref b),("op",.str x tx)]
 k_extra "c0"
 iterate 13 walk1
 refine' con_use (isop_con x tx hx ha hz hok) ?kB ?kF ?kX ?kN ?kT ?kA ?kH ?kf ?kk ?kd ?ku ?hp ?_
 case hp=>trivial
 tb_start
 (intro kzQ r' h' tk' l' F' N' hp';unfold kzQ;clear kzQ)
 (refine G2 ?_ hp';try clear hp';intro zo2 zo3;rcases zo2 with rfl;rcases zo3 with rfl)
 clear ha hok
 walk1
 iterate 6 walk1
 refine KXi.item rfl (by omega) (by omega) (by omega) (fun _=>?_)
 k_steps
 ·exact hret _ _ _ _ ‹_› ‹_› ⟨rfl,rfl⟩
structure OkOp (x:Str):Prop where
 ne:x≠Str.ofString ""
 asc:x.cps.all (· < 128)=true
 size:x.cps.size<1000
 signs:∀ c∈x.cps,okSign c
 pos:0<x.length
 len:x.length<1000
 first:(Txt.item x 0 == Str.ofString "?")=false
theorem require_ok {w:World}(b:Addr) (x:Str) (tx:Tok) (O:OkOp x):Con w 105 [.ref b,.str x tx] 40 400 (fun _=>True) (fun news news' r=>r = .none/\news'=news) :=
 require_con b x tx O.ne O.asc O.size O.signs O.pos O.len O.first
end
section
example:True:=by
 k_with "x40"=>skip
 k_with "bank"=>((fail_if_success k_extra "x41");(exists b54,b53,b34,b32))
 trivial
theorem entAddrs_snoc {P:Addr->Prop}{xs:Ents}{k:List Mix}{D:Addr}{v:Value}(h:∀ a∈entAddrs xs,P a) (hD:P D):∀ a∈entAddrs (xs++[(k,D,v)]),P a:=fun a ha=>by
 unfold entAddrs at ha h
 rw [List.map_append] at ha
 rcases List.mem_append.mp ha with ha | ha
 ·exact h a ha
 ·exact List.mem_singleton.mp ha ▸ hD
theorem bound_snoc {ws:List Int}{x:Int}(h:∀ i:Nat,i<ws.length->0<=ws.getD i 0/\ws.getD i 0<=i+1) (hx:0<=x/\x<=ws.length+1):∀ i:Nat,i<(ws++[x]).length->0<=(ws++[x]).getD i 0/\(ws++[x]).getD i 0<=i+1:=fun i hi=>by
 by_cases e:i<ws.length
 ·rw [getD_app_lt e];exact h i e
 ·have e2:i=ws.length:=by simp at hi;omega
  rw [getD_app_last e2,e2];exact hx
theorem BIn.take {w:World}{b db ln dn lw ld:Addr}{k:Nat->Tok}{n1 n2 n3 n4 n2' n3' n4':Nat}{nas:List Addr}{xs:Ents}{vw vd:List Value}{ws ds:List Int}{nks:List (List Mix)}{foot:List Addr}{l l':Led}
  (I:BIn w b db ln dn lw ld k n1 n2 n3 n4 nas xs vw vd ws ds nks foot l) {D:Addr}{key:List Mix}{t t1 t2:Tok}{x1 x2:Int}
  (hl:nks.length<50) (hx1:0<=x1/\x1<=nks.length+1) (hx2:0<=x2/\x2<=nks.length+1) (keep:∀ p∈l,p.1≠dn->p.1≠ln->p.1≠lw->p.1≠ld->p∈l')
  (m1:(ln,PySem.W.listOf (nas.map Value.ref++[Value.ref D]).toArray n2')∈l') (m2:DH Challenge.rw_pq0123_01.row.prog w dn (xs++[(key,D,Value.int (nas.length:Nat) t)]) l')
  (m3:(lw,PySem.W.listOf (vw++[Value.int x1 t1]).toArray n3')∈l') (m4:(ld,PySem.W.listOf (vd++[Value.int x2 t2]).toArray n4')∈l') (T:TupIn Challenge.rw_pq0123_01.row.prog w D key l') (hD:∀ p∈l,p.1≠D) :
  BAt w b (nks++[key]) (foot++[D]) l'/\Keeps foot l l'/\Grow foot (foot++[D]) l/\∀ a∈foot,a∈foot++[D]:=by
 have hnod:=nod6 I.nod
 (refine G6 ?_ hnod;try clear hnod;intro zo4 zo5 zo6 zo7 z15 _;obtain ⟨z1,z2,z3,z4,z5⟩:=zo4;obtain ⟨z6,z7,z8,z9⟩:=zo5;obtain ⟨z10,z11,z12⟩:=zo6;obtain ⟨z13,z14⟩:=zo7)
 (refine G8 ?_ I.feet;intro f1 f2 f3 f4 f5 f6 f7 f8)
 (refine E1 I.numbers.obj fun odn mdn=>?_)
 have hnl:nas.length=nks.length:=I.tups.1
 have hxl:xs.length=nks.length:=I.num.1
 have dD:dn≠D:=hD _ mdn
 have lD:ln≠D:=hD _ I.nodes
 have wD:lw≠D:=hD _ I.weights
 have eD:ld≠D:=hD _ I.depths
 refine M4 ⟨db,ln,dn,lw,ld,k,n1,n2',n3',n4',nas++[D],xs++[(key,D,Value.int (nas.length:Nat) t)],vw++[Value.int x1 t1],vd++[Value.int x2 t2],ws++[x1],ds++[x2],?_⟩ ?_ ?_ (fun a ha=>List.mem_append_left _ ha)
 ·refine ⟨keep _ I.inst z3 z2 z4 z5,keep _ I.dict z7 z6 z8 z9,by simpa using m1,⟨by simp [hnl],fun i hi=>?_⟩,m2,⟨by simp [hxl],fun i hi=>?_⟩,m3,I.wints.append (.cons _ _ .nil),m4,I.dints.append (.cons _ _ .nil),by simp [I.wlen],by simp [I.dlen],⟨by simp;omega,bound_snoc I.small.2.1 (by rw [I.wlen];exact hx1),bound_snoc I.small.2.2 (by rw [I.dlen];exact hx2)⟩,I.nod,?_,?_,?_⟩
  ·by_cases hi':i<nas.length
   ·rw [getD_app_lt hi',getD_app_lt (by omega)]
    (refine G4 ?_ (I.tne _ (.inl (getD_mem (d:=0) hi')));intro q1 q2 q3 q4)
    exact (I.tups.2 i hi').mono fun p hp e=>keep p hp (e ▸ q1) (e ▸ q2) (e ▸ q3) (e ▸ q4)
   ·have e:i=nas.length:=by simp at hi;omega
    rw [getD_app_last e,getD_app_last (by omega)]
    exact T
  ·by_cases hi':i<xs.length
   ·rw [getD_app_lt hi',getD_app_lt (by omega)]
    exact I.num.2 i hi'
   ·have e:i=xs.length:=by simp at hi;omega
    rw [getD_app_last e,getD_app_last (by omega)]
    refine K1 t (M2 rfl (by rw [e,hxl,hnl]))
  ·intro a ha
   have h2:(a∈nas∨a∈entAddrs xs)∨a=D:=by
    rcases ha with ha | ha
    ·rcases List.mem_append.mp ha with ha | ha
     ·exact .inl (.inl ha)
     ·exact .inr (List.mem_singleton.mp ha)
    ·unfold entAddrs at ha ⊢
     rw [List.map_append] at ha
     rcases List.mem_append.mp ha with ha | ha
     ·exact .inl (.inr ha)
     ·exact .inr (List.mem_singleton.mp ha)
   rcases h2 with h2 | rfl
   ·exact I.tne a h2
   ·refine M4 dD.symm lD.symm wD.symm eD.symm
  ·refine M8 (List.mem_append_left _ f1) (List.mem_append_left _ f2) (List.mem_append_left _ f3) (List.mem_append_left _ f4) (List.mem_append_left _ f5) (List.mem_append_left _ f6) (fun a ha=>?_) (fun a ha=>?_)
   ·rcases List.mem_append.mp ha with ha | ha
    ·exact List.mem_append_left _ (f7 a ha)
    ·exact List.mem_append_right _ ha
   ·unfold entAddrs at ha
    rw [List.map_append] at ha
    rcases List.mem_append.mp ha with ha | ha
    ·exact List.mem_append_left _ (f8 a ha)
    ·exact List.mem_append_right _ ha
  ·intro a ha
   rcases List.mem_append.mp ha with ha | ha
   ·by_cases e1:a=dn
    ·(refine E1 m2.obj fun o ho=>?_)
     exact ⟨o,e1 ▸ ho⟩
    by_cases e2:a=ln
    ·exact ⟨_,e2 ▸ m1⟩
    by_cases e3:a=lw
    ·exact ⟨_,e3 ▸ m3⟩
    by_cases e4:a=ld
    ·exact ⟨_,e4 ▸ m4⟩
    (refine E1 (I.footin a ha) fun o ho=>?_)
    exact ⟨o,keep _ ho e1 e2 e3 e4⟩
   ·(refine E2 T fun items n=>G2 fun hm _=>?_;try clear T)
    exact ⟨_,List.mem_singleton.mp ha ▸ hm⟩
 ·exact fun p hp hn=>keep p hp (fun e=>hn (e ▸ f4)) (fun e=>hn (e ▸ f3)) (fun e=>hn (e ▸ f5)) (fun e=>hn (e ▸ f6))
 ·intro a ha
  rcases List.mem_append.mp ha with ha | ha
  ·exact .inl ha
  ·exact .inr (List.mem_singleton.mp ha ▸ hD)
theorem tup_item0 {prog:Program}{w:World}{A:Around}{E:Value->Shared->Prop}{s:Shared}{hO:Heap}{L l:Addr}{news:Led}{value slice:PySem.Expr}{x:Value}{vs:List Value}{n:Nat}{u:Tok}{Q:Value->Shared->Prop}
  (N:News hO L s.heap news) (hm:(l,tupOf (x::vs).toArray n)∈news) (h:Q x s)
  (hs:subscripted slice false (.ref l) (.int 0 u)=operate [.ref l,.int 0 u] (getItem (.ref l) (.int 0 u)):=by with_unfolding_all rfl) :
  wpAny (model prog w) A (subscriptTail value slice (.ref l) (.int 0 u)) Q E s:=by
 have hl:IsTup s.heap l (x::vs).toArray:=⟨_,(N _ hm).1,rfl,n,rfl⟩
 exact tail_any hl.typeIs PySem.F.slot_tuple_getitem.lookup (getItem_tuple (j:=0) hl (by decide) (by decide) (seqIndex_of (by decide) (by simp)) (by simp) h) hs
theorem BAt.cons {w:World}{b:Addr}{nks:List (List Mix)}{foot:List Addr}{l:Led}{p:Addr × Obj}(h:BAt w b nks foot l):BAt w b nks foot (p::l):=h.move fun _ hq _=>.tail _ hq
theorem HAt.cons {w:World}{hp b u:Addr}{kn:List (List Mix × Int)}{ab:Int->Option (List Int)}{wt:List Int}{N E:Nat}{foot:List Addr}{l:Led}{p:Addr × Obj}(h:HAt w hp b u kn ab wt N E foot l):HAt w hp b u kn ab wt N E foot (p::l):=h.move fun _ hq _=>.tail _ hq
theorem UAt.cons {w:World}{u:Addr}{ns:List Int}{cs:List (List Int)}{ms:List (Int × Int)}{foot:List Addr}{l:Led}{p:Addr × Obj}(h:UAt w u ns cs ms foot l):UAt w u ns cs ms foot (p::l):=h.move fun _ hq _=>.tail _ hq
end
section
example:True:=by
 k_with "x41"=>skip
 k_with "bank"=>((fail_if_success k_extra "x42");(exists b34,b60,b54,b53))
 trivial
theorem HIn.look {w:World}{hp b u dh le lf dk da lw:Addr}{k:Nat->Tok}{n1 n2 n3 n4:Nat}{ve vf vw:List Value}{kxs:Ents}{fa:Int->Option Addr}{kn:List (List Mix × Int)}{ab:Int->Option (List Int)}{wt:List Int}{NN EE:Nat}{foot:List Addr}{l l':Led}
  (I:HIn w hp b u dh le lf dk da lw k n1 n2 n3 n4 ve vf vw kxs fa kn ab wt NN EE foot l) {D:Addr}{o':Obj}{key:List Mix}{n:Int}{t:Tok}{oD:Obj}
  (S:SetTo dk o' ((D,oD)::l) l') (m2:DH Challenge.rw_pq0123_01.row.prog w dk (kxs++[(key,D,Value.int n t)]) l') (hD:∀ p∈l,p.1<D) (hkz:kn.length<900) :
  HAt w hp b u (kn++[(key,n)]) ab wt NN EE (foot++[D]) l'/\Keeps foot l l'/\Grow foot (foot++[D]) l/\(∀ a∈foot,a∈foot++[D]):=by
 have hnod:=nod7 I.nod
 (refine G7 ?_ hnod;try clear hnod;intro zo8 zo9 zo10 zo11 zo12 z21 _;obtain ⟨z1,z2,z3,z4,z5,z6⟩:=zo8;obtain ⟨z7,z8,z9,z10,z11⟩:=zo9;obtain ⟨z12,z13,z14,z15⟩:=zo10;obtain ⟨z16,z17,z18⟩:=zo11;obtain ⟨z19,z20⟩:=zo12)
 (refine G9 ?_ I.feet;intro f1 f2 f3 f4 f5 f6 f7 f8 f9)
 have keep:∀ p∈l,p.1≠dk->p∈l':=fun p hp e=>S.keep p (.tail _ hp) e
 (refine E1 I.known.obj fun odk mdk=>?_)
 have dD:dk≠D:=Nat.ne_of_lt (hD _ mdk)
 have mD:(D,oD)∈l':=S.keep _ (.head _) dD.symm
 have ltD:∀ {a:Addr},a∈foot->a≠D:=fun {a} ha=>by
  (refine E1 (I.footin a ha) fun o ho=>?_)
  exact Nat.ne_of_lt (hD _ ho)
 have hxl:kxs.length=kn.length:=I.knis.1
 refine M4 ⟨dh,le,lf,dk,da,lw,k,n1,n2,n3,n4,ve,vf,vw,kxs++[(key,D,Value.int n t)],fa,keep _ I.inst z4,keep _ I.dict z9,keep _ I.edges z13,I.elen,keep _ I.forest z16,I.flen,m2,⟨by simp [hxl],fun i hi=>?_⟩,I.above.move fun p hp e=>keep p hp (e ▸ Ne.symm z19),fun j=>?_,I.inj,keep _ I.waiting (Ne.symm z20),I.wints,?_,I.nod,I.ane,entAddrs_snoc I.tne ⟨?_,fun j e=>ltD (f9 _ _ e) rfl⟩,⟨List.mem_append_left _ f1,List.mem_append_left _ f2,List.mem_append_left _ f3,List.mem_append_left _ f4,List.mem_append_left _ f5,List.mem_append_left _ f6,List.mem_append_left _ f7,entAddrs_snoc (fun a ha=>List.mem_append_left _ (f8 a ha)) (List.mem_append_right _ (.head _)),fun j a e=>List.mem_append_left _ (f9 j a e)⟩,fun a ha=>?_⟩ (fun p hp hn=>keep p hp fun e=>hn (e ▸ f5)) (fun a ha=>?_) (fun a ha=>List.mem_append_left _ ha)
 ·by_cases hi':i<kxs.length
  ·rw [getD_app_lt hi',getD_app_lt (by omega)]
   exact I.knis.2 i hi'
  ·have e:i=kxs.length:=by simp at hi;omega
   rw [getD_app_last e,getD_app_last (by omega)]
   refine K1 t (M2 rfl rfl)
 ·rcases I.users j with h | ⟨a,us,vs,n,h1,h2,h3,h4⟩
  ·exact .inl h
  ·refine .inr ⟨a,us,vs,n,h1,h2,keep _ h3 fun e=>I.ane j a h1 ?_,h4⟩
   rw [show a=dk from e];simp
 ·(refine G4 ?_ I.small;intro s1 s2 s3 s4)
  refine M4 s1 s2 s3 (by simp;omega)
 ·simp only [List.mem_cons,List.not_mem_nil,or_false,not_or]
  refine M7 ((ltD f1).symm) ((ltD f2).symm) ((ltD f3).symm) ((ltD f4).symm) ((ltD f5).symm) ((ltD f6).symm) ((ltD f7).symm)
 ·rcases List.mem_append.mp ha with ha | ha
  ·by_cases e:a=dk
   ·(refine E1 m2.obj fun o ho=>?_)
    exact ⟨o,e ▸ ho⟩
   ·(refine E1 (I.footin a ha) fun o ho=>?_)
    exact ⟨o,keep _ ho e⟩
  ·exact ⟨_,List.mem_singleton.mp ha ▸ mD⟩
 ·rcases List.mem_append.mp ha with ha | ha
  ·exact .inl ha
  ·exact .inr fun p hp=>List.mem_singleton.mp ha ▸ Nat.ne_of_lt (hD p hp)
end
section
example:True:=by
 k_with "x42"=>skip
 k_with "bank"=>((fail_if_success k_extra "x43");(exists b61))
 trivial
theorem HIn.move {w:World}{hp b u dh le lf dk da lw:Addr}{k:Nat->Tok}{n1 n2 n3 n4:Nat}{ve vf vw:List Value}{kxs:Ents}{fa:Int->Option Addr}{kn:List (List Mix × Int)}{ab:Int->Option (List Int)}{wt:List Int}{NN EE:Nat}{foot:List Addr}{l l':Led}(I:HIn w hp b u dh le lf dk da lw k n1 n2 n3 n4 ve vf vw kxs fa kn ab wt NN EE foot l) (kp:∀ p∈l,p.1∈foot->p∈l'):HIn w hp b u dh le lf dk da lw k n1 n2 n3 n4 ve vf vw kxs fa kn ab wt NN EE foot l':=by
 (refine G9 ?_ I.feet;intro f1 f2 f3 f4 f5 f6 f7 f8 f9)
 refine ⟨kp _ I.inst f1,kp _ I.dict f2,kp _ I.edges f3,I.elen,kp _ I.forest f4,I.flen,I.known.move fun p hp e=>kp p hp ?_,I.knis,I.above.move fun p hp e=>kp p hp (e ▸ f6),fun j=>?_,I.inj,kp _ I.waiting f7,I.wints,I.small,I.nod,I.ane,I.tne,I.feet,fun a ha=>?_⟩
 ·rcases e with e | e
  ·exact e ▸ f5
  ·exact f8 _ e
 ·rcases I.users j with h | ⟨a,us,vs,n,h1,h2,h3,h4⟩
  ·exact .inl h
  ·exact .inr ⟨a,us,vs,n,h1,h2,kp _ h3 (f9 _ _ h1),h4⟩
 ·(refine E1 (I.footin a ha) fun o ho=>?_)
  exact ⟨o,kp _ ho ha⟩
theorem HIn.cons {w:World}{hp b u dh le lf dk da lw:Addr}{k:Nat->Tok}{n1 n2 n3 n4:Nat}{ve vf vw:List Value}{kxs:Ents}{fa:Int->Option Addr}{kn:List (List Mix × Int)}{ab:Int->Option (List Int)}{wt:List Int}{NN EE:Nat}{foot:List Addr}{l l':Led}{p:Addr × Obj}(I:HIn w hp b u dh le lf dk da lw k n1 n2 n3 n4 ve vf vw kxs fa kn ab wt NN EE foot l):HIn w hp b u dh le lf dk da lw k n1 n2 n3 n4 ve vf vw kxs fa kn ab wt NN EE foot (p::l):=I.move fun _ hq _=>.tail _ hq

theorem HIn.setEdges {w:World}{hp b u dh le lf dk da lw:Addr}{k:Nat->Tok}{n1 n2 n3 n4:Nat}{ve vf vw:List Value}{kxs:Ents}{fa:Int->Option Addr}{kn:List (List Mix × Int)}{ab:Int->Option (List Int)}{wt:List Int}{NN EE:Nat}{foot:List Addr}{l l':Led}(I:HIn w hp b u dh le lf dk da lw k n1 n2 n3 n4 ve vf vw kxs fa kn ab wt NN EE foot l) {x:Value}{n2':Nat}(S:SetTo le (PySem.W.listOf (ve++[x]).toArray n2') l l') (hE:EE<990):HIn w hp b u dh le lf dk da lw k n1 n2' n3 n4 (ve++[x]) vf vw kxs fa kn ab wt NN (EE+1) foot l':=by
 have hnod:=nod7 I.nod
 (refine G7 ?_ hnod;try clear hnod;intro zo13 zo14 zo15 zo16 zo17 z21 _;obtain ⟨z1,z2,z3,z4,z5,z6⟩:=zo13;obtain ⟨z7,z8,z9,z10,z11⟩:=zo14;obtain ⟨z12,z13,z14,z15⟩:=zo15;obtain ⟨z16,z17,z18⟩:=zo16;obtain ⟨z19,z20⟩:=zo17)
 (refine G9 ?_ I.feet;intro f1 f2 f3 f4 f5 f6 f7 f8 f9)
 have keep:∀ p∈l,p.1≠le->p∈l':=fun p hp e=>S.keep p hp e
 refine ⟨keep _ I.inst z2,keep _ I.dict z7,S.self _ I.edges,by have:=I.elen;simp;omega,keep _ I.forest (Ne.symm z12),Nat.le_succ_of_le I.flen,I.known.move fun p hp e=>keep p hp ?_,I.knis,I.above.move fun p hp e=>keep p hp (e ▸ (Ne.symm z14)),fun j=>?_,I.inj,keep _ I.waiting (Ne.symm z15),I.wints,⟨I.small.1,by omega,I.small.2.2.1,I.small.2.2.2⟩,I.nod,I.ane,I.tne,I.feet,fun a ha=>?_⟩
 ·rcases e with e | e
  ·exact e ▸ (Ne.symm z13)
  ·exact fun e2=>(I.tne _ e).1 (by rw [e2];simp)
 ·rcases I.users j with h | ⟨a,us,vs,n,h1,h2,h3,h4⟩
  ·exact .inl h
  ·refine .inr ⟨a,us,vs,n,h1,h2,keep _ h3 fun e=>I.ane j a h1 ?_,h4⟩
   rw [show a=le from e];simp
 ·by_cases e:a=le
  ·exact ⟨_,e ▸ S.self _ I.edges⟩
  ·(refine E1 (I.footin a ha) fun o ho=>?_)
   exact ⟨o,keep _ ho e⟩

theorem HIn.setForest {w:World}{hp b u dh le lf dk da lw:Addr}{k:Nat->Tok}{n1 n2 n3 n4:Nat}{ve vf vw:List Value}{kxs:Ents}{fa:Int->Option Addr}{kn:List (List Mix × Int)}{ab:Int->Option (List Int)}{wt:List Int}{NN EE:Nat}{foot:List Addr}{l l':Led}(I:HIn w hp b u dh le lf dk da lw k n1 n2 n3 n4 ve vf vw kxs fa kn ab wt NN EE foot l) {x:Value}{n3':Nat}(S:SetTo lf (PySem.W.listOf (vf++[x]).toArray n3') l l') (hE:vf.length+1<=EE):HIn w hp b u dh le lf dk da lw k n1 n2 n3' n4 ve (vf++[x]) vw kxs fa kn ab wt NN EE foot l':=by
 have hnod:=nod7 I.nod
 (refine G7 ?_ hnod;try clear hnod;intro zo18 zo19 zo20 zo21 zo22 z21 _;obtain ⟨z1,z2,z3,z4,z5,z6⟩:=zo18;obtain ⟨z7,z8,z9,z10,z11⟩:=zo19;obtain ⟨z12,z13,z14,z15⟩:=zo20;obtain ⟨z16,z17,z18⟩:=zo21;obtain ⟨z19,z20⟩:=zo22)
 (refine G9 ?_ I.feet;intro f1 f2 f3 f4 f5 f6 f7 f8 f9)
 have keep:∀ p∈l,p.1≠lf->p∈l':=fun p hp e=>S.keep p hp e
 refine ⟨keep _ I.inst z3,keep _ I.dict z8,keep _ I.edges z12,I.elen,S.self _ I.forest,by simp;omega,I.known.move fun p hp e=>keep p hp ?_,I.knis,I.above.move fun p hp e=>keep p hp (e ▸ (Ne.symm z17)),fun j=>?_,I.inj,keep _ I.waiting (Ne.symm z18),I.wints,I.small,I.nod,I.ane,I.tne,I.feet,fun a ha=>?_⟩
 ·rcases e with e | e
  ·exact e ▸ (Ne.symm z16)
  ·exact fun e2=>(I.tne _ e).1 (by rw [e2];simp)
 ·rcases I.users j with h | ⟨a,us,vs,n,h1,h2,h3,h4⟩
  ·exact .inl h
  ·refine .inr ⟨a,us,vs,n,h1,h2,keep _ h3 fun e=>I.ane j a h1 ?_,h4⟩
   rw [show a=lf from e];simp
 ·by_cases e:a=lf
  ·exact ⟨_,e ▸ S.self _ I.forest⟩
  ·(refine E1 (I.footin a ha) fun o ho=>?_)
   exact ⟨o,keep _ ho e⟩

theorem HIn.setWaiting {w:World}{hp b u dh le lf dk da lw:Addr}{k:Nat->Tok}{n1 n2 n3 n4:Nat}{ve vf vw:List Value}{kxs:Ents}{fa:Int->Option Addr}{kn:List (List Mix × Int)}{ab:Int->Option (List Int)}{wt:List Int}{NN EE:Nat}{foot:List Addr}{l l':Led}(I:HIn w hp b u dh le lf dk da lw k n1 n2 n3 n4 ve vf vw kxs fa kn ab wt NN EE foot l) {vw':List Value}{wt':List Int}{n4':Nat}(S:SetTo lw (PySem.W.listOf vw'.toArray n4') l l') (hi:IntsAre vw' wt') (hz:wt'.length<1000):HIn w hp b u dh le lf dk da lw k n1 n2 n3 n4' ve vf vw' kxs fa kn ab wt' NN EE foot l':=by
 have hnod:=nod7 I.nod
 (refine G7 ?_ hnod;try clear hnod;intro zo23 zo24 zo25 zo26 zo27 z21 _;obtain ⟨z1,z2,z3,z4,z5,z6⟩:=zo23;obtain ⟨z7,z8,z9,z10,z11⟩:=zo24;obtain ⟨z12,z13,z14,z15⟩:=zo25;obtain ⟨z16,z17,z18⟩:=zo26;obtain ⟨z19,z20⟩:=zo27)
 (refine G9 ?_ I.feet;intro f1 f2 f3 f4 f5 f6 f7 f8 f9)
 have keep:∀ p∈l,p.1≠lw->p∈l':=fun p hp e=>S.keep p hp e
 refine ⟨keep _ I.inst z6,keep _ I.dict z11,keep _ I.edges z15,I.elen,keep _ I.forest z18,I.flen,I.known.move fun p hp e=>keep p hp ?_,I.knis,I.above.move fun p hp e=>keep p hp (e ▸ z21),fun j=>?_,I.inj,S.self _ I.waiting,hi,⟨I.small.1,I.small.2.1,hz,I.small.2.2.2⟩,I.nod,I.ane,I.tne,I.feet,fun a ha=>?_⟩
 ·rcases e with e | e
  ·exact e ▸ z20
  ·exact fun e2=>(I.tne _ e).1 (by rw [e2];simp)
 ·rcases I.users j with h | ⟨a,us,vs,n,h1,h2,h3,h4⟩
  ·exact .inl h
  ·refine .inr ⟨a,us,vs,n,h1,h2,keep _ h3 fun e=>I.ane j a h1 ?_,h4⟩
   rw [show a=lw from e];simp
 ·by_cases e:a=lw
  ·exact ⟨_,e ▸ S.self _ I.waiting⟩
  ·(refine E1 (I.footin a ha) fun o ho=>?_)
   exact ⟨o,keep _ ho e⟩

theorem HIn.pop {w:World}{hp b u dh le lf dk da lw:Addr}{k:Nat->Tok}{n1 n2 n3 n4:Nat}{ve vf vw:List Value}{kxs:Ents}{fa:Int->Option Addr}{kn:List (List Mix × Int)}{ab:Int->Option (List Int)}{wt:List Int}{NN EE:Nat}{foot:List Addr}{l l':Led}(I:HIn w hp b u dh le lf dk da lw k n1 n2 n3 n4 ve vf vw kxs fa kn ab wt NN EE foot l) {g:Int}{o':Obj}(S:SetTo da o' l l') (H:DI Challenge.rw_pq0123_01.row.prog w da NN (fun j=>if j=g then none else fa j) l'):HIn w hp b u dh le lf dk da lw k n1 n2 n3 n4 ve vf vw kxs (fun j=>if j=g then none else fa j) kn (fun j=>if j=g then none else ab j) wt NN EE foot l':=by
 have hnod:=nod7 I.nod
 (refine G7 ?_ hnod;try clear hnod;intro zo28 zo29 zo30 zo31 zo32 z21 _;obtain ⟨z1,z2,z3,z4,z5,z6⟩:=zo28;obtain ⟨z7,z8,z9,z10,z11⟩:=zo29;obtain ⟨z12,z13,z14,z15⟩:=zo30;obtain ⟨z16,z17,z18⟩:=zo31;obtain ⟨z19,z20⟩:=zo32)
 (refine G9 ?_ I.feet;intro f1 f2 f3 f4 f5 f6 f7 f8 f9)
 have keep:∀ p∈l,p.1≠da->p∈l':=fun p hp e=>S.keep p hp e
 refine ⟨keep _ I.inst z5,keep _ I.dict z10,keep _ I.edges z14,I.elen,keep _ I.forest z17,I.flen,I.known.move fun p hp e=>keep p hp ?_,I.knis,H,fun j=>?_,fun i j a h1 h2=>I.inj i j a (by split at h1;cases h1;exact h1) (by split at h2;cases h2;exact h2),keep _ I.waiting (Ne.symm z21),I.wints,I.small,I.nod,fun j a h=>I.ane j a (by split at h;cases h;exact h),fun a ha=>⟨(I.tne a ha).1,fun j h=>(I.tne a ha).2 j (by split at h;cases h;exact h)⟩,⟨f1,f2,f3,f4,f5,f6,f7,f8,fun j a h=>f9 j a (by split at h;cases h;exact h)⟩,fun a ha=>?_⟩
 ·rcases e with e | e
  ·exact e ▸ z19
  ·exact fun e2=>(I.tne _ e).1 (by rw [e2];simp)
 ·by_cases hj:j=g
  ·exact .inl ⟨by simp [hj],by simp [hj]⟩
  simp only [hj,if_false]
  rcases I.users j with h | ⟨a,us,vs,n,h1,h2,h3,h4⟩
  ·exact .inl h
  ·refine .inr ⟨a,us,vs,n,h1,h2,keep _ h3 fun e=>I.ane j a h1 ?_,h4⟩
   rw [show a=da from e];simp
 ·by_cases e:a=da
  ·(refine E1 H.obj fun o ho=>?_);exact ⟨o,e ▸ ho⟩
  ·(refine E1 (I.footin a ha) fun o ho=>?_)
   exact ⟨o,keep _ ho e⟩

theorem HIn.put {w:World}{hp b u dh le lf dk da lw:Addr}{k:Nat->Tok}{n1 n2 n3 n4:Nat}{ve vf vw:List Value}{kxs:Ents}{fa:Int->Option Addr}{kn:List (List Mix × Int)}{ab:Int->Option (List Int)}{wt:List Int}{NN EE:Nat}{foot:List Addr}{l l':Led}(I:HIn w hp b u dh le lf dk da lw k n1 n2 n3 n4 ve vf vw kxs fa kn ab wt NN EE foot l) {kk:Int}{D:Addr}{o':Obj}{NN':Nat}{vs:List Value}{us:List Int}{n:Nat}(S:SetTo da o' l l') (mD:(D,PySem.W.listOf vs.toArray n)∈l) (hD:D∉foot) (hi:IntsAre vs us) (hu:us.length<60) (hN:NN'<1000)
  (H:DI Challenge.rw_pq0123_01.row.prog w da NN' (fun j=>if j=kk then some D else fa j) l') :
  HIn w hp b u dh le lf dk da lw k n1 n2 n3 n4 ve vf vw kxs (fun j=>if j=kk then some D else fa j) kn (fun j=>if j=kk then some us else ab j) wt NN' EE (foot++[D]) l':=by
 have hnod:=nod7 I.nod
 (refine G7 ?_ hnod;try clear hnod;intro zo33 zo34 zo35 zo36 zo37 z21 _;obtain ⟨z1,z2,z3,z4,z5,z6⟩:=zo33;obtain ⟨z7,z8,z9,z10,z11⟩:=zo34;obtain ⟨z12,z13,z14,z15⟩:=zo35;obtain ⟨z16,z17,z18⟩:=zo36;obtain ⟨z19,z20⟩:=zo37)
 (refine G9 ?_ I.feet;intro f1 f2 f3 f4 f5 f6 f7 f8 f9)
 have keep:∀ p∈l,p.1≠da->p∈l':=fun p hp e=>S.keep p hp e
 have ne:∀ {a:Addr},a∈foot->D≠a:=fun {a} ha e=>hD (e ▸ ha)
 have back:∀ {j:Int}{a:Addr},(if j=kk then some D else fa j)=some a->(j=kk/\a=D)∨(j≠kk/\fa j=some a):=fun {j} {a} h=>by
  split at h
  ·exact .inl ⟨‹_›,(Option.some.inj h).symm⟩
  ·exact .inr ⟨‹_›,h⟩
 refine ⟨keep _ I.inst z5,keep _ I.dict z10,keep _ I.edges z14,I.elen,keep _ I.forest z17,I.flen,I.known.move fun p hp e=>keep p hp ?_,I.knis,H,fun j=>?_,?_,keep _ I.waiting (Ne.symm z21),I.wints,⟨hN,I.small.2⟩,I.nod,?_,?_,⟨List.mem_append_left _ f1,List.mem_append_left _ f2,List.mem_append_left _ f3,List.mem_append_left _ f4,List.mem_append_left _ f5,List.mem_append_left _ f6,List.mem_append_left _ f7,fun a ha=>List.mem_append_left _ (f8 a ha),?_⟩,fun a ha=>?_⟩
 ·rcases e with e | e
  ·exact e ▸ z19
  ·exact fun e2=>(I.tne _ e).1 (by rw [e2];simp)
 ·by_cases hj:j=kk
  ·refine .inr ⟨D,us,vs,n,by simp [hj],by simp [hj],keep _ mD (ne f6),hi,hu⟩
  simp only [hj,if_false]
  rcases I.users j with h | ⟨a,us,vs,n,h1,h2,h3,h4⟩
  ·exact .inl h
  ·refine .inr ⟨a,us,vs,n,h1,h2,keep _ h3 fun e=>I.ane j a h1 ?_,h4⟩
   rw [show a=da from e];simp
 ·intro i j a h1 h2
  rcases back h1 with ⟨e1,e2⟩ | ⟨e1,e2⟩ <;> rcases back h2 with ⟨e3,e4⟩ | ⟨e3,e4⟩
  ·rw [e1,e3]
  ·exact absurd e2.symm (ne (f9 j a e4))
  ·exact absurd e4.symm (ne (f9 i a e2))
  ·exact I.inj i j a e2 e4
 ·intro j a h
  rcases back h with ⟨_,e⟩ | ⟨_,e⟩
  ·rw [e]
   simp only [List.mem_cons,List.not_mem_nil,or_false,not_or]
   refine M7 (ne f1) (ne f2) (ne f3) (ne f4) (ne f5) (ne f6) (ne f7)
  ·exact I.ane j a e
 ·intro a ha
  refine ⟨(I.tne a ha).1,fun j h=>?_⟩
  rcases back h with ⟨_,e⟩ | ⟨_,e⟩
  ·exact absurd e.symm (ne (f8 a ha))
  ·exact (I.tne a ha).2 j e
 ·intro j a h
  rcases back h with ⟨_,e⟩ | ⟨_,e⟩
  ·exact List.mem_append_right _ (List.mem_singleton.mpr e)
  ·exact List.mem_append_left _ (f9 j a e)
 ·rcases List.mem_append.mp ha with ha | ha
  ·by_cases e:a=da
   ·(refine E1 H.obj fun o ho=>?_)
    exact ⟨o,e ▸ ho⟩
   ·(refine E1 (I.footin a ha) fun o ho=>?_)
    exact ⟨o,keep _ ho e⟩
  ·exact ⟨_,List.mem_singleton.mp ha ▸ keep _ mD (ne f6)⟩
end
section
example:True:=by
 k_with "x43"=>skip
 k_with "bank"=>((fail_if_success k_extra "x44");(exists b62))
 trivial
theorem list_add {prog:Program}{w:World}{A:Around}{E:Value->Shared->Prop}{s:Shared}{hO:Heap}{L a b:Addr}{m:Str->Option Value}{news:Led}{vs vs2:List Value}{n n2:Nat}{Q:Value->Shared->Prop}
  (F:Fr hO L s.heap m) (N:News hO L s.heap news) (hm:(a,PySem.W.listOf vs.toArray n)∈news) (hb:(b,PySem.W.listOf vs2.toArray n2)∈news) (hz:vs.length<5000) (hz2:vs2.length<5000)
  (h:∀ D h',Fr hO L h' m->News hO L h' ((D,PySem.W.listOf (vs++vs2).toArray 0)::news)->(∀ p∈news,p.1<D)->Q (.ref D) { s with heap:=h' }):wpAny (model prog w) A (binaryOp .Add (.ref a) (.ref b)) Q E s :=
 kmk_add_lit F N (is_listN N hm) (is_listN N hb) rfl h (by rw [sizeLine_eq];show vs.length+vs2.length<=_;omega)
theorem set_attr_o {prog:Program}{w:World}{A:Around}{E:Value->Shared->Prop}{s:Shared}{K:Frag}{x C dx L:Addr}{hO:Heap}{m:Str->Option Value}{news:Led}{es:List DictEntry}{es':Tok->List DictEntry}{n n':Nat}{name:Str}{v:Value}{Q:Unit->Shared->Prop}(F:Fr hO L s.heap m) (X₀:K.In hO) (N:News hO L s.heap news)
  (mx:(x,instObj C dx)∈news) (md:(dx,dictOf es n)∈news)
  (hs:findIn K (.ref C) "__setattr__" = some (some (.builtin "object.__setattr__"))) (hp:plainOver K C=true) (ht:takerIn K C name=some none) (hh:hasDictIn K C=true) (hl:(getL name es).isSome=true)
  (e:∀ t,(putL name (PyData.keyHash w.params name) (.str name t) v es,putN name es n)=(es' t,n')) (hz:∀ t,(es' t).length<=1000)
  (h:∀ t tk h' l',Fr hO L h' m->News hO L h' l'->SetTo dx (dictOf (es' t) n') news l'->Q () { s with heap:=h',toks:=tk }) :
  wpAny (model prog w) A (setAttr (.ref x) name v) Q E s:=by
 (refine E1 (News.nod N) fun l'=>G2 fun ND hi=>?_)
 have N2:News hO L s.heap l':=News.sub N fun p hp=>(hi p).mpr hp
 refine set_dict F X₀ N2 (InstAt.of_news N2 ((hi _).mp mx) ((hi _).mp md)) rfl hs hp ht hh hl (e _) (upd_setL ND ((hi _).mp md)) (hz _) fun h' F' N'=>?_
 exact h _ _ h' _ F' (News.sub N' fun p hp=>(mem_setL_iff hi p).mp hp) (.of _ _ _)
end
section
example:True:=by
 k_with "g45"=>fail_if_success k_extra "x45"
 k_with "x44"=>skip
 k_with "bank"=>(k_extra "g45";(first | decide | exists b68,b65,b67,b70,b72,b63,b66,b69,b71,b78,b74,b75,b76,b77,b34,b79,b80))
 k_with "cuton"=>k_extra "g45"
 trivial
example:True:=by
 k_with "call ref"=>(k_extra "g45";((k_here;(with_reducible show wpAny _ _ (call (Value.ref 213) _) _ _ _);k_dflt (refine' con_use (find_con _ _ _ _ _ _ _ _ ?kzFO) ?kB ?kF ?kX ?kN ?kT ?kA ?kH ?kf ?kk ?kd ?ku ?hp ?_;(case kzFO=>assumption);(case hp=>refine ⟨by assumption,by first | assumption | omega,by first | assumption | omega⟩);tb_start); intro kzQ _ _ _ _ _ _ hp';obtain ⟨e',_,e2'⟩:=hp';subst e';subst e2';(try unfold kzQ);(try clear kzQ);(try dsimp only))))
 trivial
example:True:=by
 k_with "ktr_rel"=>(k_extra "g45";(first | with_reducible assumption | (with_reducible exact DH.cons (by ktr_rel)) | (with_reducible exact TupIn.cons (by ktr_rel)) | (with_reducible exact DI.cons (by ktr_rel)) | ((with_reducible refine BAt.cons ?_);ktr_rel) | ((with_reducible refine HAt.cons ?_);ktr_rel) | ((with_reducible refine UAt.cons ?_);ktr_rel)))
 k_with "call ref"=>(k_extra "g45";((k_here;(with_reducible show wpAny _ _ (call (Value.ref 105) _) _ _ _);k_dflt (refine' con_use (require_ok _ _ _ ?kzO) ?kB ?kF ?kX ?kN ?kT ?kA ?kH ?kf ?kk ?kd ?ku ?hp ?_;(case kzO=>assumption);(case hp=>trivial);tb_start);intro kzQ _ _ _ _ _ _ hp';(refine G2 ?_ hp';try clear hp';intro e' e2');subst e';subst e2';(try unfold kzQ);(try clear kzQ);(try dsimp only))))
 k_with "subscriptTail"=>(k_extra "g45";((k_here;(with_reducible show wpAny _ _ (subscriptTail _ _ (Value.ref _) (Value.int _ _)) _ _ _);k_dflt (refine' ksa_sub ?kzN ?kzm ?kzi ?kza ?kzb ?kzz ?_ ?kzhs;(case kzN=>k_asm);(case kzm=>k_mem);(case kzi=>with_reducible assumption);(case kza=>first | with_reducible assumption | omega);(case kzb=>first | with_reducible assumption | omega);(case kzz=>omega);(case kzhs=>with_unfolding_all rfl));intro _)))
 k_with "subscriptTail Attribute Name Name ref int"=>(k_extra "g45";((k_here;(with_reducible show wpAny _ _ (subscriptTail _ _ (Value.ref _) (Value.int _ _)) _ _ _);k_dflt (refine' ksa_sub ?kzN ?kzm ?kzi ?kza ?kzb ?kzz ?_ ?kzhs;(case kzN=>k_asm);(case kzm=>k_mem);(case kzi=>with_reducible assumption);(case kza=>first | with_reducible assumption | omega);(case kzb=>first | with_reducible assumption | omega);(case kzz=>omega);(case kzhs=>with_unfolding_all rfl));intro _)))
 trivial
example:True:=by
 k_with "binaryOp Add ref ref"=>(k_extra "g45";((k_here;(with_reducible show wpAny _ _ (binaryOp _ (Value.ref _) (Value.ref _)) _ _ _);refine Hold.out ?_)))
 k_with "compareOp In"=>(k_extra "g45";((k_here;(with_reducible show wpAny _ _ (compareOp CmpOp.In (Value.ref _) (Value.ref _)) _ _ _);k_dflt (first | (refine' dh_in_none ?zu ?zN ?zH ?zT ?zK ?_;(case zN=>k_asm);(case zH=>ktr_rel);(case zT=>ktr_rel);(case zK=>with_reducible assumption);(case zu=>ktr_units)) | (refine' dh_in_some ?yu ?yN ?yH ?yT ?yK ?_;(case yN=>k_asm);(case yH=>ktr_rel);(case yT=>ktr_rel);(case yK=>with_reducible assumption);(case yu=>ktr_units)));intro _;(try dsimp only))))
 k_with "subscriptTail"=>(k_extra "g45";((k_here;(with_reducible show wpAny _ _ (subscriptTail _ _ (Value.ref _) (Value.ref _)) _ _ _);k_dflt (refine' dh_item ?yu ?yN ?yH ?yT ?yK ?_ ?ys;(case yN=>k_asm);(case yH=>ktr_rel);(case yT=>ktr_rel);(case yK=>with_reducible assumption);(case yu=>ktr_units);(case ys=>with_unfolding_all rfl));intro _;(try dsimp only))))
 k_with "call builtin:sum"=>(k_extra "g45";(refine Hold.out ?_))
 k_with "call builtin:max"=>(k_extra "g45";(refine Hold.out ?_))
 trivial
theorem take_conF {w:World}(b:Addr) (nks:List (List Mix)) (foot:List Addr) (kt:Addr) (x:Str) (tx:Tok) (nt:Nat) (vks:List Value) (ks:List Int) (O:OkOp x) (hk1:ks.length<=1) (hkr:∀ k∈ks,0<=k/\k<nks.length) (hl:nks.length<50) :
  Con w 98 [.ref b,.str x tx,.ref kt] 80 800 (fun news=>BAt w b nks foot news/\(kt,tupOf vks.toArray nt)∈news/\IntsAre vks ks)
   (fun news news' r=>(∃ t i,nks[i]?=some (nKey x ks)/\r = .int (i:Nat) t/\∀ p∈news,p∈news') ∨
    ∃ t foot',nKey x ks∉nks/\r = .int nks.length t/\BAt w b (nks++[nKey x ks]) foot' news'/\Keeps foot news news'/\Grow foot foot' news/\∀ a∈foot,a∈foot'):=by
 (intro mean mg mb dp un gd env outer A₀ base hO L m news s Q E B F X N T hf hk hd hu zr26 hret;(refine G3 ?_ zr26;try clear zr26;intro U mkt hik))
 (refine E16 U fun db ln dn lw ld kk n1 n2 n3 n4 nas xs vw vd ws ds I=>?_;try clear U)
 have m1:=I.inst
 have m2:=I.dict
 have m3:=I.nodes
 have m5:=I.weights
 have m6:=I.depths
 have hiw:=I.wints
 have hid:=I.dints
 have hDH:=I.numbers
 have hnl:nas.length=nks.length:=I.tups.1
 have hwl:vw.length=nks.length:=hiw.length.trans I.wlen
 have hdl:vd.length=nks.length:=hid.length.trans I.dlen
 have hxl:xs.length=nks.length:=I.num.1
 have hvk:=hik.length
 have hwl2:ws.length=nks.length:=I.wlen
 have hdl2:ds.length=nks.length:=I.dlen
 have hnod:=nod6 I.nod
 (refine G6 ?_ hnod;try clear hnod;intro zo38 zo39 zo40 zo41 z15 _;obtain ⟨z1,z2,z3,z4,z5⟩:=zo38;obtain ⟨z6,z7,z8,z9⟩:=zo39;obtain ⟨z10,z11,z12⟩:=zo40;obtain ⟨z13,z14⟩:=zo41)
 refine wpAny_call ?_
 let kzb:List (Str × Value):=[("self",.ref b),("op",.str x tx),("kids",.ref kt)]
 k_extra "c1"
 rename_i oc d1'
 revert l1
 intro lD
 k_steps
 rename_i D0 h0 F0 N0 lD1
 refine Hold.done ?_
 refine tup_addG (by k_asm) (by k_asm) (by k_mem) (by k_mem) (by simp) (by show (1:Nat)<5000;omega) (by omega) ?_
 intro D h1 l1 n9 F1 N1 mD kp1 bk1 hD
 replace mD:(D,tupOf (.str x tx::vks).toArray n9)∈l1:=mD
 have T1:TupIn Challenge.rw_pq0123_01.row.prog w D (nKey x ks) l1:=tupIn_n mD hik
 have H1:DH Challenge.rw_pq0123_01.row.prog w dn xs l1:=hDH.move fun p hp _=>kp1 p (by repeat (first | assumption | (refine List.mem_cons_of_mem _ ?_)))
 clear hDH
 (refine E1 I.numbers.obj fun odn m4=>?_)
 have a1:=ltn (lD _ m4)
 have a2:=ltn (lD _ m3)
 have a3:=ltn (lD _ m5)
 have a4:=ltn (lD _ m6)
 have a5 : @LT.lt Nat _ (L'+1) D:=by
  have h1:=ltn (lD1 _ (.head _))
  rcases hD with e | h
  ·rw [e];exact h1
  ·have h2:=ltn (h _ (.tail _ (.head _)))
   exact h2
 dsimp only at a1 a2 a3 a4
 have nb:nks.length<50:=hl
 have c1:=kp1 _ (List.mem_cons_of_mem _ (.head _))
 have m1:=kp1 _ (List.mem_cons_of_mem _ (List.mem_cons_of_mem _ m1))
 have m2:=kp1 _ (List.mem_cons_of_mem _ (List.mem_cons_of_mem _ m2))
 have m3:=kp1 _ (List.mem_cons_of_mem _ (List.mem_cons_of_mem _ m3))
 have m5:=kp1 _ (List.mem_cons_of_mem _ (List.mem_cons_of_mem _ m5))
 have m6:=kp1 _ (List.mem_cons_of_mem _ (List.mem_cons_of_mem _ m6))
 replace kp1:Hold (∀ p∈(D0,tupOf #[Value.str x tx] 0)::(L'+1,oc)::news,p∈l1):=kp1
 clear bk1
 rcases hat:atKey xs (nKey x ks) with _ | p
 ·k_steps
  refine Hold.done (for_tup_read rfl (by k_asm) (by k_asm) (by k_mem) (fun i v h2 tk2 I2 oI2 hv hI2 F2 N2=>?_) fun ov h2 tk2 F2 N2=>?_)
  ·(refine E1 (ints_at hik hv) fun t2=>G2 fun zo42 hi2=>?_;rcases zo42 with rfl)
   have hkr2:=hkr _ (getD_mem (d:=0) hi2)
   repeat walk1
   exact ForEnd.mk (by k_asm) (by k_asm) hI2 ⟨rfl,rfl⟩
  dsimp only
  iterate 46 walk1
  repeat walk1
  rename SetTo dn _ _ _=>S1
  rename SetTo ln _ _ _=>S2
  have Ism:=I.small
  rename_i D1 q1 q2 q3 q4 q5 l2 q6 q7 l3 q8 D2 q9 q10 q11 lD2
  have k3:=SetTo.two S1 S2
  have c3:=k3.out _ c1 (nen (by show @Ne Nat (L'+1) dn;omega)) (nen (by show @Ne Nat (L'+1) ln;omega))
  have mm1:=k3.out _ m1 z3 z2
  have mm2:=k3.out _ m2 z7 z6
  have mm3:=S2.self _ (S1.keep _ (.tail _ m3) z10)
  have mm5:=k3.out _ m5 (Ne.symm z13) (Ne.symm z11)
  have mm6:=k3.out _ m6 (Ne.symm z14) (Ne.symm z12)
  have mmD:=k3.out _ mD (nen (by show @Ne Nat D dn;omega)) (nen (by show @Ne Nat D ln;omega))
  clear c1 m1 m2 m3 m5 m6 mD
  refine Hold.done (comp_tup_ints (fun k=>ws.getD k.toNat 0) rfl (by k_asm) (by k_asm) (by k_mem) hik (by omega) ?_ ?_)
  ·intro j t I oI C oC D m₂ ys h tk E' hj hC hx F3 N3 off
   have hj2:=hkr j hj
   repeat walk1
   refine ⟨_,_,_,rfl,F3,N3,off,trivial,rfl,_,rfl⟩
  intro D3 ys3 h3 tk3 hys3 F3 N3 nD3
  repeat walk1
  refine Hold.done (sum_led_B 0 nks.length rfl (by k_asm) (by k_asm) (.head _) hys3 (sum_bound1 hk1 hkr Ism.2.1 hwl2) ?_)
  intro W1 h4 tk4 t4 hW1 hW2 F4 N4
  iterate 4 walk1
  rename SetTo lw _ _ _=>S3
  have k4:=SetTo.at2 S3
  have ac4:=k4.out _ c3 (nen (by show @Ne Nat (L'+1) lw;omega))
  have am1:=k4.out _ mm1 z4
  have am2:=k4.out _ mm2 z8
  have am3:=k4.out _ mm3 z11
  have am5:=S3.self _ (.tail _ (.tail _ mm5))
  have am6:=k4.out _ mm6 (Ne.symm z15)
  have amD:=k4.out _ mmD (nen (by show @Ne Nat D lw;omega))
  clear c3 mm1 mm2 mm3 mm5 mm6 mmD
  repeat walk1
  refine Hold.done (comp_tup_ints (fun k=>ds.getD k.toNat 0) rfl (by k_asm) (by k_asm) (by k_mem) hik (by omega) ?_ ?_)
  ·intro j t I oI C oC D m₂ ys h tk E' hj hC hx F3 N3 off
   have hj2:=hkr j hj
   repeat walk1
   refine ⟨_,_,_,rfl,F3,N3,off,trivial,rfl,_,rfl⟩
  intro D5 ys5 h5 tk5 hys5 F5 N5 nD5
  repeat walk1
  refine Hold.done (list_add (by k_asm) (by k_asm) (.tail _ (.head _)) (.head _) (by rw [hys5.length,List.length_map];omega) (by show (1:Nat)<5000;omega) ?_)
  intro D6 h5b F5b N5b nD6
  repeat walk1
  refine Hold.done (max_led_B 0 nks.length rfl (by k_asm) (by k_asm) (.head _) (hys5.append (.cons _ _ .nil)) (by simp) (max_bound1 hkr Ism.2.2 hdl2) ?_)
  intro W2 h6 tk6 t6 hW3 hW4 F6 N6
  repeat walk1
  rename SetTo ld _ _ _=>S4
  rename DH _ _ dn (storedH _ _ _ _) _=>H2
  have e9:((nas.length+(0+1):Nat):Int) - 1=(nks.length:Nat):=by omega
  rw [e9]
  rw [storedH_new hat] at H2
  have dD:D≠ln:=nen (by show @Ne Nat D ln;omega)
  have dD2:D≠lw:=nen (by show @Ne Nat D lw;omega)
  have dD3:D≠ld:=nen (by show @Ne Nat D ld;omega)
  have H3:=H2.setTo S2 (Ne.symm z10) (entAddrs_snoc (fun a ha=>(I.tne a (.inr ha)).2.1) dD)
  have H4:=DH.setTo H3.cons.cons S3 z13 (entAddrs_snoc (fun a ha=>(I.tne a (.inr ha)).2.2.1) dD2)
  have H5:=DH.setTo H4.cons.cons.cons.cons S4 z14 (entAddrs_snoc (fun a ha=>(I.tne a (.inr ha)).2.2.2) dD3)
  have k5:=SetTo.at4 S4
  have hnk:nKey x ks∉nks:=fun hm=>by
   obtain ⟨i,hi,e⟩:=List.getElem_of_mem hm
   (refine E1 (I.num.2 i (by omega)) fun t=>G2 fun e1 _=>?_)
   have hmx:xs.getD i ([],0,.none)∈xs:=getD_mem (by omega)
   refine ne_of_atKey_none hat _ hmx ?_
   rw [e1,List.getD_eq_getElem?_getD,List.getElem?_eq_getElem hi];exact e
  have hDn:∀ p∈news,p.1≠D:=fun p hp e=>by
   have h1:=ltn (lD p hp)
   rw [e] at h1
   omega
  (refine hret _ _ _ _ ‹_› ‹_› (.inr ?_);refine K2 _ _ (M3 hnk rfl (I.take hl ⟨by omega,by omega⟩ ⟨by omega,by omega⟩ (fun p hp e1 e2 e3 e4=>k5.out p (k4.out p (k3.out p (kp1.out p (.tail _ (.tail _ hp))) e1 e2) e3) e4) (k5.out _ am3 z12) H5 (k5.out _ am5 z15) (S4.self _ (.tail _ (.tail _ (.tail _ (.tail _ am6))))) (tupIn_n (k5.out _ amD dD3) hik) hDn)))
 ·k_steps
  obtain ⟨t9,i9,e9,hi9⟩:∃ t i,p.2 = .int (i:Nat) t/\nks[i]?=some (nKey x ks):=by
   obtain ⟨j,hj⟩:∃ j,xs[j]?=some (nKey x ks,p):=get_of_atKey hat
   have hjl:j<xs.length:=(List.getElem?_eq_some_iff.mp hj).1
   (refine E1 (I.num.2 j hjl) fun t=>G2 fun e1 e2=>?_)
   have e3:xs.getD j ([],0,.none)=(nKey x ks,p):=by simp [hj]
   rw [e3] at e1 e2
   refine K2 t j (M2 e2 ?_)
   rw [List.getElem?_eq_getElem (by omega)]
   rw [List.getD_eq_getElem?_getD,List.getElem?_eq_getElem (by omega)] at e1
   exact congrArg some e1.symm
  rw [e9]
  (refine hret _ _ _ _ ‹_› ‹_› (.inl ?_);refine K2 _ _ (M3 hi9 rfl (fun p hp=>kp1.out _ (.tail _ (.tail _ hp)))))
end
section
example:True:=by
 k_with "x45"=>skip
 k_with "bank"=>((fail_if_success k_extra "x46");(exists b82,b81,b83))
 trivial
example:True:=by
 k_with "call ref"=>((fail_if_success k_extra "x46");((k_here;(with_reducible show wpAny _ _ (call (Value.ref 213) _) _ _ _);k_dflt (refine' con_use (find_con _ _ _ _ _ _ _ _ ?kzFO) ?kB ?kF ?kX ?kN ?kT ?kA ?kH ?kf ?kk ?kd ?ku ?hp ?_;(case kzFO=>assumption);(case hp=>refine ⟨by assumption,by first | assumption | omega,by first | assumption | omega⟩);tb_start); intro kzQ _ _ _ _ _ _ hp';obtain ⟨e',_,e2'⟩:=hp';subst e';subst e2';(try unfold kzQ);(try clear kzQ);(try dsimp only))))
 trivial
theorem op_conF {w:World}(b:Addr) (nks:List (List Mix)) (foot:List Addr) (n:Int) (tn:Tok) (x:Str) (ks:List Int) (hx:nks[n.toNat]?=some (nKey x ks)) (h0:0<=n) :
  Con w 131 [.ref b,.int n tn] 10 100 (fun news=>BAt w b nks foot news) (fun news news' r=>news'=news/\∃ t,r = .str x t):=by
 intro mean mg mb dp un gd env outer A₀ base hO L m news s Q E B F X N T hf hk hd hu U hret
 (refine E16 U fun db ln dn lw ld kk n1 n2 n3 n4 nas xs vw vd ws ds I=>?_;try clear U)
 have m1:=I.inst
 have m2:=I.dict
 have m3:=I.nodes
 have hnl:nas.length=nks.length:=I.tups.1
 have hsm:=I.small
 have hlt:n.toNat<nks.length:=(List.getElem?_eq_some_iff.mp hx).1
 have ha:=ref_at (as:=nas) (k:=n) (by omega)
 have ht:=I.tups.2 n.toNat (by omega)
 have e1:nks.getD n.toNat []=nKey x ks:=by simp [hx]
 rw [e1] at ht
 (refine E3 (tupIn_n_inv ht) fun tx vks nx=>G2 fun m4 hik=>?_)
 have hvk:=hik.length
 refine wpAny_call ?_
 let kzb:List (Str × Value):=[("self",.ref b),("n",.int n tn)]
 k_extra "c0"
 k_steps
 (refine hret _ _ _ _ ‹_› ‹_› ?_;refine ⟨rfl,_,rfl⟩)
theorem kids_conF {w:World}(b:Addr) (nks:List (List Mix)) (foot:List Addr) (n:Int) (tn:Tok) (x:Str) (ks:List Int) (hk10:ks.length<100) (hx:nks[n.toNat]?=some (nKey x ks)) (h0:0<=n) :
  Con w 138 [.ref b,.int n tn] 10 100 (fun news=>BAt w b nks foot news) (fun news news' r=>∃ D vks,r = .ref D/\news'=(D,tupOf (List.toArray vks) 0)::news/\IntsAre vks ks/\∀ p∈news,p.1<D):=by
 intro mean mg mb dp un gd env outer A₀ base hO L m news s Q E B F X N T hf hk hd hu U hret
 (refine E16 U fun db ln dn lw ld kk n1 n2 n3 n4 nas xs vw vd ws ds I=>?_;try clear U)
 have m1:=I.inst
 have m2:=I.dict
 have m3:=I.nodes
 have hnl:nas.length=nks.length:=I.tups.1
 have hsm:=I.small
 have hlt:n.toNat<nks.length:=(List.getElem?_eq_some_iff.mp hx).1
 have ha:=ref_at (as:=nas) (k:=n) (by omega)
 have ht:=I.tups.2 n.toNat (by omega)
 have e1:nks.getD n.toNat []=nKey x ks:=by simp [hx]
 rw [e1] at ht
 (refine E3 (tupIn_n_inv ht) fun tx vks nx=>G2 fun m4 hik=>?_)
 have hvk:=hik.length
 refine wpAny_call ?_
 let kzb:List (Str × Value):=[("self",.ref b),("n",.int n tn)]
 k_extra "c0"
 k_steps
 (refine hret _ _ _ _ ‹_› ‹_› ?_;refine K2 _ _ (M4 rfl rfl hik ‹_›))
end
section
example:True:=by
 k_with "x46"=>skip
 k_with "la"=>(fail_if_success k_extra "x47")
 k_with "lb"=>(fail_if_success k_extra "x47")
 trivial
example:True:=by
 k_with "call ref"=>((fail_if_success k_extra "x47");((k_here;(with_reducible show wpAny _ _ (call (Value.ref 213) _) _ _ _);k_dflt (refine' con_use (find_con _ _ _ _ _ _ _ _ ?kzFO) ?kB ?kF ?kX ?kN ?kT ?kA ?kH ?kf ?kk ?kd ?ku ?hp ?_;(case kzFO=>assumption);(case hp=>refine ⟨by assumption,by first | assumption | omega,by first | assumption | omega⟩);tb_start); intro kzQ _ _ _ _ _ _ hp';obtain ⟨e',_,e2'⟩:=hp';subst e';subst e2';(try unfold kzQ);(try clear kzQ);(try dsimp only))))
 trivial
end
section
example:True:=by
 k_with "g48"=>fail_if_success k_extra "x48"
 k_with "x47"=>skip
 k_with "la"=>k_extra "g48"
 k_with "lb"=>k_extra "g48"
 k_with "cuton"=>k_extra "g48"
 trivial
example:True:=by
 k_with "call ref"=>(k_extra "g48";((k_here;(with_reducible show wpAny _ _ (call (Value.ref 213) _) _ _ _);k_dflt (refine' con_use (find_con _ _ _ _ _ _ _ _ ?kzFO) ?kB ?kF ?kX ?kN ?kT ?kA ?kH ?kf ?kk ?kd ?ku ?hp ?_;(case kzFO=>assumption);(case hp=>refine ⟨by assumption,by first | assumption | omega,by first | assumption | omega⟩);tb_start); intro kzQ _ _ _ _ _ _ hp';obtain ⟨e',_,e2'⟩:=hp';subst e';subst e2';(try unfold kzQ);(try clear kzQ);(try dsimp only))))
 k_with "ktr_rel"=>(k_extra "g48";(first | with_reducible assumption | ((with_reducible refine BAt.cons ?_);ktr_rel) | ((with_reducible refine HAt.cons ?_);ktr_rel)))
 trivial
end
section
example:True:=by
 k_with "g49"=>fail_if_success k_extra "x49"
 k_with "x48"=>skip
 k_with "bank"=>(k_extra "g49";(exists b47))
 k_with "la"=>k_extra "g49"
 k_with "lb"=>k_extra "g49"
 trivial
example:True:=by
 k_with "call ref"=>(k_extra "g49";((k_here;(with_reducible show wpAny _ _ (call (Value.ref 213) _) _ _ _);k_dflt (refine' con_use (find_con _ _ _ _ _ _ _ _ ?kzFO) ?kB ?kF ?kX ?kN ?kT ?kA ?kH ?kf ?kk ?kd ?ku ?hp ?_;(case kzFO=>assumption);(case hp=>refine M3 ‹_› (by first | assumption | omega) (by first | assumption | omega));tb_start); intro kzQ _ _ _ _ _ _ hp';obtain ⟨e',_,e2'⟩:=hp';subst e';subst e2';(try unfold kzQ);(try clear kzQ);(try dsimp only))))
 trivial
theorem hfind_con {w:World}(hp b u:Addr) (kn:List (List Mix × Int)) (ab:Int->Option (List Int)) (wt:List Int) (NN EE:Nat) (footh:List Addr) (ns ls:List Int) (cs:List (List Int)) (ms:List (Int × Int)) (footu:List Addr) (FO:Forest ns ls) (a:Int) (ta:Tok) :
  Con w 310 [.ref hp,.int a ta] 20 200 (fun news=>HAt w hp b u kn ab wt NN EE footh news/\UAt w u ns cs ms footu news/\0<=a/\a<ns.length) (fun news news' r=>news'=news/\∃ t,r = .int (ls.getD a.toNat 0) t):=by
 (intro mean mg mb dp un gd env outer A₀ base hO L m news s Q E B F X N T hf hk hd hu zr26 hret;(refine G4 ?_ zr26;try clear zr26;intro U UU h0 h1))
 (refine E16 U fun dh le lf dk da lw k n1 n2 n3 n4 ve vf vw kxs fa I=>?_;try clear U)
 have m1:=I.inst
 have m2:=I.dict
 have UU':=UU
 (refine E14 UU' fun du la ll lm nd na nl nm k1 k2 k3 vs as bs=>G2 fun I2 hfoot=>?_;try clear UU')
 have mu1:=I2.inst
 have mu2:=I2.dict
 refine wpAny_call ?_
 let kzb:List (Str × Value):=[("self",.ref hp),("n",.int a ta)]
 k_extra "c0"
 k_steps
 (refine hret _ _ _ _ ‹_› ‹_› ?_;refine ⟨rfl,_,rfl⟩)
end
section
example:True:=by
 k_with "g50"=>fail_if_success k_extra "x50"
 k_with "x49"=>skip
 k_with "bank"=>(k_extra "g50";(first | decide | exists b84,b83,b70,b85,b86,b87))
 k_with "cuton"=>k_extra "g50"
 trivial
example:True:=by
 k_with "call ref"=>(k_extra "g50";((k_here;(with_reducible show wpAny _ _ (call (Value.ref 213) _) _ _ _);k_dflt (refine' con_use (find_con _ _ _ _ _ _ _ _ ?kzFO) ?kB ?kF ?kX ?kN ?kT ?kA ?kH ?kf ?kk ?kd ?ku ?hp ?_;(case kzFO=>assumption);(case hp=>refine ⟨by assumption,by first | assumption | omega,by first | assumption | omega⟩);tb_start); intro kzQ _ _ _ _ _ _ hp';obtain ⟨e',_,e2'⟩:=hp';subst e';subst e2';(try unfold kzQ);(try clear kzQ);(try dsimp only))))
 trivial
example:True:=by
 k_with "ktr_rel"=>(k_extra "g50";(first | with_reducible assumption | ((with_reducible refine BAt.cons ?_);ktr_rel) | ((with_reducible refine HAt.cons ?_);ktr_rel) | ((with_reducible refine UAt.cons ?_);ktr_rel)))
 k_with "call ref"=>(k_extra "g50";(first | ((k_here;(with_reducible show wpAny _ _ (call (Value.ref 310) _) _ _ _);k_dflt (refine' con_use (hfind_con _ _ _ _ _ _ _ _ _ _ _ _ _ _ ?kzFO _ _) ?kB ?kF ?kX ?kN ?kT ?kA ?kH ?kf ?kk ?kd ?ku ?hp ?_;(case kzFO=>assumption);tb_start;(case hp=>refine M4 (by ktr_rel) (by ktr_rel) (by omega) (by omega))); intro kzQ _ _ _ _ _ _ hp';obtain ⟨e',_,e2'⟩:=hp';subst e';subst e2';(try unfold kzQ);(try clear kzQ);(try dsimp only))) | ((k_here;(with_reducible show wpAny _ _ (call (Value.ref 138) _) _ _ _);refine Hold.out ?_)) | ((k_here;(with_reducible show wpAny _ _ (call (Value.ref 131) _) _ _ _);k_dflt (refine' con_use (op_conF _ _ _ _ _ _ _ ?kzO ?kzH) ?kB ?kF ?kX ?kN ?kT ?kA ?kH ?kf ?kk ?kd ?ku ?hp ?_;(case kzO=>with_reducible assumption);(case kzH=>with_reducible assumption);tb_start;(case hp=>ktr_rel)); intro kzQ _ _ _ _ _ _ hp';obtain ⟨e',_,e2'⟩:=hp';subst e';subst e2';(try unfold kzQ);(try clear kzQ);(try dsimp only)))))
 k_with "binaryOp Add ref ref"=>(k_extra "g50";((k_here;(with_reducible show wpAny _ _ (binaryOp _ (Value.ref _) (Value.ref _)) _ _ _);refine Hold.out ?_)))
 trivial
theorem node_conF {w:World}(hp b u:Addr) (nks:List (List Mix)) (footb:List Addr) (kn:List (List Mix × Int)) (ab:Int->Option (List Int)) (wt:List Int) (NN EE:Nat) (footh:List Addr) (ns ls:List Int) (cs:List (List Int)) (ms:List (Int × Int)) (footu:List Addr) (FO:Forest ns ls)
  (n:Int) (tn:Tok) (x:Str) (ks:List Int) (hk10:ks.length<100) (hx:nks[n.toNat]?=some (nKey x ks)) (h0:0<=n) (hkr:∀ k∈ks,0<=k/\k<ns.length) :
  Con w 286 [.ref hp,.int n tn] 60 600 (fun news=>HAt w hp b u kn ab wt NN EE footh news/\BAt w b nks footb news/\UAt w u ns cs ms footu news)
   (fun news news' r=>∃ D t vs n9,r = .ref D/\news'=(D,tupOf (List.toArray (.str x t::vs)) n9)::news/\IntsAre vs (ks.map fun k=>ls.getD k.toNat 0)/\∀ p∈news,p.1<D):=by
 (intro mean mg mb dp un gd env outer A₀ base hO L m news s Q E B F X N T hf hk hd hu zr26 hret;(refine G3 ?_ zr26;try clear zr26;intro U UB UU))
 have U':=U
 (refine E16 U' fun dh le lf dk da lw k n1 n2 n3 n4 ve vf vw kxs fa I=>?_;try clear U')
 have m1:=I.inst
 have m2:=I.dict
 have UB':=UB
 (refine E16 UB' fun db ln dn lw ld kk n1 n2 n3 n4 nas xs vw vd ws ds I2=>?_;try clear UB')
 have mb1:=I2.inst
 have mb2:=I2.dict
 refine wpAny_call ?_
 let kzb:List (Str × Value):=[("self",.ref hp),("n",.int n tn)]
 k_extra "c1"
 rename_i oc d1'
 revert l1
 intro lD
 repeat walk1
 refine Hold.done ?_
 refine' con_use (kids_conF b nks footb n _ x ks hk10 hx h0) ?kB ?kF ?kX ?kN ?kT ?kA ?kH ?kf ?kk ?kd ?ku ?hp ?_
 tb_start
 case hp=>ktr_rel
 (intro kzQ r2 h2 tk2 l2 F2 N2 zr6;(refine E2 zr6 fun D2 vks=>G4 fun zo43 zo44 hik l2=>?_;try clear zr6;rcases zo43 with rfl;rcases zo44 with rfl);unfold kzQ;clear kzQ)
 walk1
 refine Hold.done (comp_tup_ints (fun k=>ls.getD k.toNat 0) rfl (by k_asm) (by k_asm) (.head _) hik (by omega) ?_ ?_)
 ·intro j t I oI C oC D m₂ ys h tk E' hj hC hx F3 N3 off
  have hj2:=hkr j hj
  repeat walk1
  refine ⟨_,_,_,rfl,by k_asm,by k_asm,off,trivial,rfl,_,rfl⟩
 intro D3 ys3 h3 tk3 hys3 F3 N3 nD3
 have hys3l:=hys3.length
 rw [List.length_map] at hys3l
 repeat walk1
 refine Hold.done (tup_addG (by k_asm) (by k_asm) (by k_mem) (by k_mem) (by simp) (by show (1:Nat)<5000;omega) (by omega) ?_)
 intro D h1 l1 n9 F1 N1 mD kp1 bk1 hD
 repeat walk1
 obtain ⟨tx,mD⟩:∃ t,(D,tupOf (List.toArray (.str x t::ys3)) n9)∈l1:=⟨_,mD⟩
 rename News hO L _ _=>kN
 refine hret _ _ _ ((D,tupOf (List.toArray (.str x tx::ys3)) n9)::news) ‹_› (News.sub kN fun p hp=>?_) ⟨D,tx,ys3,n9,rfl,rfl,hys3,fun p hp=>?_⟩
 ·rcases List.mem_cons.mp hp with e | hp
  ·rw [e];exact mD
  ·exact kp1 _ (.tail _ (.tail _ (.tail _ (.tail _ (.tail _ hp)))))
 ·rename ∀ p∈(_,_)::news,p.1<_=>lD1
  rcases hD with e | h
  ·rw [e];exact lD1 p (.tail _ hp)
  ·exact h p (.tail _ (.tail _ (.tail _ (.tail _ (.tail _ hp)))))
end
section
example:True:=by
 k_with "g51"=>fail_if_success k_extra "x51"
 k_with "x50"=>skip
 k_with "bank"=>(k_extra "g51";(first | decide | exists b55,b88,b89,b92,b93,b94,b70,b91,b81,b95,b65))
 k_with "la"=>k_extra "g51"
 k_with "lb"=>k_extra "g51"
 k_with "lc"=>k_extra "g51"
 k_with "ld"=>k_extra "g51"
 trivial
example:True:=by
 k_with "call ref"=>(k_extra "g51";((k_here;(with_reducible show wpAny _ _ (call (Value.ref 213) _) _ _ _);k_dflt (refine' con_use (find_con _ _ _ _ _ _ _ _ ?kzFO) ?kB ?kF ?kX ?kN ?kT ?kA ?kH ?kf ?kk ?kd ?ku ?hp ?_;(case kzFO=>assumption);(case hp=>refine M3 ‹_› (by first | assumption | omega) (by first | assumption | omega));tb_start); intro kzQ _ _ _ _ _ _ hp';obtain ⟨e',_,e2'⟩:=hp';subst e';subst e2';(try unfold kzQ);(try clear kzQ);(try dsimp only))))
 trivial
theorem toNat_below {p:Int}{n:Nat}(hn:0<n) (hp:p<n):((p.toNat:Nat):Int)<n:=by
 rcases Int.le_total 0 p with h | h
 ·rw [Int.toNat_of_nonneg h];exact hp
 ·rw [Int.toNat_of_nonpos h];exact Int.ofNat_lt.mpr hn
theorem mm_rng {x y p q k g:Int}{n m:Nat}(hk:k=min x y) (hg:g=max x y) (hq0:0<=q) (hq:q<n) (hp:p<n) (hc:m=n) (hx:0<=x/\x<=(p.toNat:Nat)) (hy:0<=y/\y<=(q.toNat:Nat)) :
  (0<=k/\k<m)/\(0<=g/\g<m)/\k<=g:=by
 subst hk;subst hg;subst hc
 have n0:0<m:=Int.ofNat_lt.mp (Int.lt_of_le_of_lt hq0 hq)
 have h1:=Int.lt_of_le_of_lt hx.2 (toNat_below n0 hp)
 have h2:=Int.lt_of_le_of_lt hy.2 (toNat_below n0 hq)
 refine M3 ⟨Int.le_min.mpr ⟨hx.1,hy.1⟩,Int.lt_of_le_of_lt (Int.min_le_left _ _) h1⟩ ⟨Int.le_trans hx.1 (Int.le_max_left _ _),Int.max_lt.mpr ⟨h1,h2⟩⟩ (Int.le_trans (Int.min_le_left _ _) (Int.le_max_left _ _))
theorem merge_con {w:World}(u:Addr) (ns ls:List Int) (cs:List (List Int)) (ms:List (Int × Int)) (foot:List Addr) (a b:Int) (ta tb:Tok) (k g:Int) (FO:Forest ns ls)
  (hk:k=min (ls.getD a.toNat 0) (ls.getD b.toNat 0)) (hg:g=max (ls.getD a.toNat 0) (ls.getD b.toNat 0)) (hsz:k≠g->(cs.getD k.toNat []).length+(cs.getD g.toNat []).length<60) (hms:ms.length<50) :
  Con w 220 [.ref u,.int a ta,.int b tb] 10 100 (fun news=>UAt w u ns cs ms foot news/\(0<=a/\a<ns.length)/\0<=b/\b<ns.length)
   (fun news news' r=>(k=g/\r = .none/\∀ p∈news,p∈news') ∨
    (k≠g/\∃ D t1 t2 n foot',r = .ref D/\(D,({ cls:=.type "tuple",data:=.seq #[.int k t1,.int g t2] n } : Obj))∈news'/\(∀ p∈news,p.1≠D)/\D∉foot' /\
     UAt w u (ns.set g.toNat k) (cs.set k.toNat (cs.getD k.toNat []++cs.getD g.toNat [])) (ms++[(k,g)]) foot' news'/\Keeps foot news news'/\Grow foot foot' news/\∀ a∈foot,a∈foot')):=by
 (intro mean mg mb dp un gd env outer A₀ base hO L m news s Q E B F X N T hf hk' hd hu zr26 hret;(refine G4 ?_ zr26;try clear zr26;intro U zo45 hb hltb;obtain ⟨ha,hlt⟩:=zo45))
 have U':=U
 (refine E14 U' fun du la ll lm nd na nl nm k1 k2 k3 vs as bs=>G2 fun I hfoot=>?_;try clear U')
 have m1:=I.inst
 have m2:=I.dict
 have m3:=I.above
 have m4:=I.lots
 have m5:=I.merged
 have hi:=I.vints
 have hal:as.length=cs.length:=I.lists.1
 have hcl:=I.len
 have hsm:=I.small
 (refine G10 ?_ I.nes;intro n01 n02 n03 n04 n05 n06 n07 n08 n09 n10)
 have hbl:=I.tups.1
 have hsb:=I.smallm
 have hra:=FO.rng a.toNat (by omega)
 have hrb:=FO.rng b.toNat (by omega)
 obtain ⟨hkR,hgR,hle⟩:=mm_rng hk hg ‹_› ‹_› ‹_› ‹_› hra hrb
 have hkE:Hold (k=min (ls.getD a.toNat 0) (ls.getD b.toNat 0)):=hk
 have hgE:Hold (g=max (ls.getD a.toNat 0) (ls.getD b.toNat 0)):=hg
 clear hk hg hra hrb
 have hxk:=ref_at (as:=as) (k:=k) (by omega)
 have hxg:=ref_at (as:=as) (k:=g) (by omega)
 (refine E2 (I.lists.2 k.toNat (by omega)) fun vk nk=>G2 fun m6 hik=>?_)
 (refine E2 (I.lists.2 g.toNat (by omega)) fun vg ng=>G2 fun m7 hig=>?_)
 have hck:(cs.getD k.toNat []).length<60:=I.smallc _ (getD_mem (by omega))
 have hcg:(cs.getD g.toNat []).length<60:=I.smallc _ (getD_mem (by omega))
 have hvk:=hik.length
 have hvg:=hig.length
 (refine G5 ?_ (I.asne (i:=k.toNat) (by omega));intro p1 p2 p3 p4 p5)
 (refine G5 ?_ (I.asne (i:=g.toNat) (by omega));intro q1 q2 q3 q4 q5)
 refine wpAny_call ?_
 let kzb:List (Str × Value):=[("self",.ref u),("a",.int a ta),("b",.int b tb)]
 k_extra "c0"
 iterate 33 walk1
 rw [← show k=min (ls.getD a.toNat 0) (ls.getD b.toNat 0) from hkE,← show g=max (ls.getD a.toNat 0) (ls.getD b.toNat 0) from hgE]
 k_steps
 ·(refine hret _ _ _ _ ‹_› ‹_› (.inl ?_);refine M3 ‹_› rfl (fun p hp=>by simp [hp]))
 ·by_cases hkg:k=g
  ·exact absurd hkg ‹_›
  have hsz':=hsz hkg
  have r1:=I.asinj (i:=k.toNat) (j:=g.toNat) (by omega) (by omega) (by omega)
  k_steps
  rename ∀ p∈setL lm _ _,_<_=>lD
  rename ∀ p∈setL (as.getD k.toNat 0) _ _,_<_=>lD1
  have d1:=Nat.ne_of_gt (lt_setL lD |> fun h=>h _ (.head _))
  have d4:=ne_of_lts (lt_tail (lt_tail (lt_setL (lt_setL (lt_tail (lt_setL lD))))))
  have e3:=ne_of_lts (lt_tail (lt_tail (lt_setL (lt_setL lD1))))
  (refine hret _ _ _ _ ‹_› ‹_› (.inr ?_);refine ⟨hkg,_,_,_,0,_,rfl,.head _,d4,?_,⟨_,_,_,_,_,_,_,_,_,_,_,_,_,_,I.merge (t2:=_) (by omega) (by omega) (fun p hp e1 e2 e3=>List.mem_cons_of_mem _ (mem_setL_ne' (List.mem_cons_of_mem _ (mem_setL_ne' (mem_setL_ne' (List.mem_cons_of_mem _ (List.mem_cons_of_mem _ hp)) e1) e2)) e3)) (by k_mem) ‹_› (by k_mem) hik hig (by k_mem) (.tail _ (mem_setL_ne (.head _) ?_)) e3 hsz' hms,rfl⟩,?_,?_,?_⟩)
  ·intro h
   have h2:=(List.mem_append (s:=u::du::la::ll::lm::(as++bs)) (t:=[_])).mp (by simpa using h)
   rcases h2 with h2 | h2
   ·(refine E1 (I.foot_in _ h2) fun o ho=>?_)
    exact d4 _ ho rfl
   ·exact d1 (List.mem_singleton.mp h2)
  ·intro e
   (refine E1 (I.foot_in lm (by simp)) fun o ho=>?_)
   exact e3 _ ho e.symm
  ·intro p hp hn
   rw [hfoot] at hn
   simp only [List.mem_cons,List.mem_append,not_or] at hn
   exact List.mem_cons_of_mem _ (mem_setL_ne' (List.mem_cons_of_mem _ (mem_setL_ne' (mem_setL_ne' (List.mem_cons_of_mem _ (List.mem_cons_of_mem _ hp)) hn.2.2.1) (fun e=>hn.2.2.2.2.2.1 (e ▸ getD_mem (by omega))))) hn.2.2.2.2.1)
  ·intro a ha
   have h2:=(List.mem_append (s:=u::du::la::ll::lm::(as++bs)) (t:=[_])).mp (by simpa using ha)
   rcases h2 with h2 | h2
   ·exact .inl (hfoot ▸ h2)
   ·rw [List.mem_singleton.mp h2];exact .inr e3
  ·intro a ha
   rw [hfoot] at ha
   simp only [List.mem_cons,List.mem_append,List.not_mem_nil,or_false] at ha ⊢
   rcases ha with h | h | h | h | h | h | h <;> simp [h]
end
section
example:True:=by
 k_with "g52"=>fail_if_success k_extra "x52"
 k_with "x51"=>skip
 k_with "bank"=>(k_extra "g52";(first | decide | exists b99,b96,b97,b98,b26,b100,b92,b85,b102))
 k_with "la"=>k_extra "g52"
 trivial
example:True:=by
 k_with "call ref"=>(k_extra "g52";((k_here;(with_reducible show wpAny _ _ (call (Value.ref 213) _) _ _ _);k_dflt (refine' con_use (find_con _ _ _ _ _ _ _ _ ?kzFO) ?kB ?kF ?kX ?kN ?kT ?kA ?kH ?kf ?kk ?kd ?ku ?hp ?_;(case kzFO=>assumption);(case hp=>refine ⟨by assumption,by first | assumption | omega,by first | assumption | omega⟩);tb_start); intro kzQ _ _ _ _ _ _ hp';obtain ⟨e',_,e2'⟩:=hp';subst e';subst e2';(try unfold kzQ);(try clear kzQ);(try dsimp only))))
 k_with "ktr_rel"=>(k_extra "g52";(first | with_reducible assumption | ((with_reducible refine BAt.cons ?_);ktr_rel) | ((with_reducible refine HAt.cons ?_);ktr_rel) | ((with_reducible refine UAt.cons ?_);ktr_rel)))
 trivial
theorem join_con {w:World}(hp b u:Addr) (kn:List (List Mix × Int)) (ab:Int->Option (List Int)) (wt:List Int) (NN EE:Nat) (footh:List Addr) (ns ls:List Int) (cs:List (List Int)) (ms:List (Int × Int)) (footu:List Addr) (FO:Forest ns ls)
  (i j:Int) (ti tj:Tok) (rs:Addr) (k g:Int) (hk':k=min (ls.getD i.toNat 0) (ls.getD j.toNat 0)) (hg':g=max (ls.getD i.toNat 0) (ls.getD j.toNat 0)) (uk ug:List Int)
  (hsz:k≠g->(cs.getD k.toNat []).length+(cs.getD g.toNat []).length<60) (hms:ms.length<50) (hE:EE<900) (habk:k≠g->ab k=some uk) (habg:k≠g->ab g=some ug) (hkg:k≠g->uk.length+ug.length<60/\wt.length+ug.length<1000) (hdu:∀ a∈footh,a∉footu) :
  Con w 331 [.ref hp,.int i ti,.int j tj,.ref rs] 60 600 (fun news=>HAt w hp b u kn ab wt NN EE footh news/\UAt w u ns cs ms footu news/\(0<=i/\i<ns.length)/\0<=j/\j<ns.length)
   (fun news news' r=>(k=g/\r = .bool false/\HAt w hp b u kn ab wt NN (EE+1) footh news'/\UAt w u ns cs ms footu news'/\Keeps footh news news') ∨
    (k≠g/\r = .bool true/\∃ footh' footu',HAt w hp b u kn (fun j=>if j=k then some (uk++ug) else if j=g then none else ab j) (wt++ug) NN (EE+1) footh' news' /\
     UAt w u (ns.set g.toNat k) (cs.set k.toNat (cs.getD k.toNat []++cs.getD g.toNat [])) (ms++[(k,g)]) footu' news'/\(∀ a∈footh',a∉footu') /\
     (∀ p∈news,p.1∉footh->p.1∉footu->p∈news')/\Grow footh footh' news/\Grow footu footu' news/\(∀ a∈footh,a∈footh')/\∀ a∈footu,a∈footu')):=by
 (intro mean mg mb dp un gd env outer A₀ base hO L m news s Q E B F X N T hf hk hd hu zr26 hret;(refine G4 ?_ zr26;try clear zr26;intro U UU h0 h1))
 have U':=U
 (refine E16 U' fun dh le lf dk da lw kk n1 n2 n3 n4 ve vf vw kxs fa I=>?_;try clear U')
 have m1:=I.inst
 have m2:=I.dict
 have m3:=I.edges
 have m4:=I.forest
 have m5:=I.waiting
 have hel:=I.elen
 have hfl:=I.flen
 have hwl:=I.wints.length
 have hDI:=I.above
 have hnod:=nod7 I.nod
 (refine G7 ?_ hnod;try clear hnod;intro zo46 zo47 zo48 zo49 zo50 z21 _;obtain ⟨z1,z2,z3,z4,z5,z6⟩:=zo46;obtain ⟨z7,z8,z9,z10,z11⟩:=zo47;obtain ⟨z12,z13,z14,z15⟩:=zo48;obtain ⟨z16,z17,z18⟩:=zo49;obtain ⟨z19,z20⟩:=zo50)
 have hsm:=I.small
 have UU':=UU
 (refine E14 UU' fun du la ll lm nd na nl nm k1 k2 k3 vs as bs=>G2 fun I2 hfoot=>?_;try clear UU')
 have mu1:=I2.inst
 have mu2:=I2.dict
 (refine G9 ?_ I.feet;intro f1 f2 f3 f4 f5 f6 f7 f8 f9)
 have ap:∀ {a c:Addr},a∈footh->c∈footu->c≠a:=fun {a c} ha hc e=>hdu a ha (e ▸ hc)
 have hfu:u∈footu:=by rw [hfoot];simp
 have hfdu:du∈footu:=by rw [hfoot];simp
 have y1:=ap f3 hfu
 have y2:=ap f3 hfdu
 refine wpAny_call ?_
 let kzb:List (Str × Value):=[("self",.ref hp),("a",.int i ti),("b",.int j tj),("reason",.ref rs)]
 k_extra "c0"
 k_steps
 rename SetTo le _ _ _=>S1
 have UU1:=UU.move (l':=_) fun p hp hf=>S1.keep p (.tail _ hp) (ap f3 hf)
 refine' con_use (merge_con u ns ls cs ms footu i j _ _ k g FO hk' hg' hsz hms) ?kB ?kF ?kX ?kN ?kT ?kA ?kH ?kf ?kk ?kd ?ku ?hp ?_
 tb_start
 case hp=>refine M3 UU1 h0 h1
 (intro kzQ r' h' tk' l' F' N' hp';unfold kzQ;clear kzQ)
 have J1:=(I.cons (l':=news)).setEdges S1 (by omega)
 rcases hp' with ⟨ekg,er,kp⟩ | ⟨nkg,D9,t1,t2,n9,footu',er,mD9,neD9,hD9,UU9,kp9,gr9,in9⟩
 ·subst er
  k_steps
  (refine hret _ _ _ _ ‹_› ‹_› (.inl ?_);refine M5 ekg rfl ⟨_,_,_,_,_,_,_,_,_,_,_,_,_,_,_,_,J1.move fun p hp _=>kp p hp⟩ (UU1.move fun p hp _=>kp p hp) (fun p hp hn=>kp _ (S1.keep _ (.tail _ hp) fun e=>hn (e ▸ f3))))
 ·subst er
  have J2:=J1.move (l':=l') fun p hp hf=>kp9 p hp fun h=>hdu _ hf h
  have q1:=J2.inst
  have q2:=J2.dict
  have q3:=J2.edges
  have q4:=J2.forest
  have q5:=J2.waiting
  have hDI2:=J2.above
  (refine G2 ?_ (hkg nkg);intro s1 s2)
  have e1:=habk nkg
  have e2:=habg nkg
  have ⟨ak,ck,mk,p1,p2,p3,p4⟩:∃ ak vs n,fa k=some ak/\(ak,PySem.W.listOf (List.toArray vs) n)∈l'/\IntsAre vs uk/\uk.length<60:=by
   rcases J2.users k with ⟨_,h⟩ | ⟨a,us,vs,n,h1,h2,h3,h4,h5⟩
   ·rw [e1] at h;cases h
   ·rw [e1] at h2;cases h2;refine K3 a vs n (M4 h1 h3 h4 h5)
  have ⟨ag,cg,mg,p5,p6,p7,p8⟩:∃ ag vs n,fa g=some ag/\(ag,PySem.W.listOf (List.toArray vs) n)∈l'/\IntsAre vs ug/\ug.length<60:=by
   rcases J2.users g with ⟨_,h⟩ | ⟨a,us,vs,n,h1,h2,h3,h4,h5⟩
   ·rw [e2] at h;cases h
   ·rw [e2] at h2;cases h2;refine K3 a vs n (M4 h1 h3 h4 h5)
  have x1:=I.ane _ _ p1
  have x2:=I.ane _ _ p5
  simp only [List.mem_cons,List.not_mem_nil,or_false,not_or] at x1 x2
  (refine G7 ?_ x1;try clear x1;intro x11 x12 x13 x14 x15 x16 x17)
  (refine G7 ?_ x2;try clear x2;intro x21 x22 x23 x24 x25 x26 x27)
  have x3:ak≠ag:=fun e=>nkg (I.inj _ _ _ p1 (e ▸ p5))
  have lk:=p3.length
  have lg:=p7.length
  k_steps
  rename SetTo lf _ _ _=>S2
  rename SetTo lw _ _ _=>S3
  rename SetTo da _ _ _=>S4
  rename DI _ _ da _ _ _=>H4
  have J3:=J2.setForest S2 (by omega)
  have J4:=J3.setWaiting S3 (I.wints.append p7) (by simp;omega)
  have J5:=J4.pop S4 H4
  rename ∀ p∈_,_<_=>l5
  have ap':∀ {a c:Addr},a∈footh->c∈footu'->c≠a:=fun {a c} ha hc e=>by
   (refine E1 (J1.footin a ha) fun o ho=>?_)
   rcases gr9 c hc with h | h
   ·exact hdu a ha (e ▸ h)
   ·exact h _ ho e.symm
  have UU10:=UU9.move fun p hp hf=>S4.keep p (S3.keep p (S2.keep p hp (ap' f4 hf)) (ap' f7 hf)) (ap' f6 hf)
  have kn1:∀ p∈news,p.1∉footh->p.1∉footu->p∈_:=fun p hp hn hn2=>S4.keep p (S3.keep p (S2.keep p (kp9 p (S1.keep _ (.tail _ hp) fun e=>hn (e ▸ f3)) hn2) (fun e=>hn (e ▸ f4))) (fun e=>hn (e ▸ f7))) (fun e=>hn (e ▸ f6))
  have adr:∀ p∈news,∃ o,(p.1,o)∈_:=fun p hp=>by
   by_cases e1:p.1∈footh
   ·exact J5.footin _ e1
   by_cases e2:p.1∈footu
   ·exact UU10.foot_in _ (in9 _ e2)
   exact ⟨p.2,kn1 p hp e1 e2⟩
  refine di_set_o (n':=NN) (by k_asm) (by k_asm) (DI.cons H4) (by omega) (.inr ⟨by simp [nkg,p1],rfl⟩) ?_
  intro h5 tk5 o5 l6 F5 N5 S5 H5
  have J6:=(J5.cons (l':=news)).put S5 (.head _) (fun h=>by (refine E1 (J5.footin _ h) fun o ho=>?_);exact absurd (l5 _ ho) (Nat.lt_irrefl _)) (us:=uk++ug) (by with_reducible assumption) (by rw [List.length_append];omega) hsm.1 H5
  k_steps
  (refine hret _ _ _ _ ‹_› ‹_› (.inr ?_);refine ⟨nkg,rfl,_,footu',⟨_,_,_,_,_,_,_,_,_,_,_,_,_,_,_,_,J6⟩,UU10.move fun p hp hf=>S5.keep p (.tail _ hp) (ap' f6 hf),?_,?_,?_,?_,fun a ha=>List.mem_append_left _ ha,in9⟩)
  ·intro a ha h
   rcases List.mem_append.mp ha with ha | ha
   ·exact ap' ha h rfl
   ·(refine E1 (UU10.foot_in _ h) fun o ho=>?_)
    rw [List.mem_singleton.mp ha] at ho
    exact absurd (l5 _ ho) (Nat.lt_irrefl _)
  ·exact fun p hp e1 e2=>S5.keep p (.tail _ (kn1 p hp e1 e2)) fun e=>e1 (e ▸ f6)
  ·intro a ha
   rcases List.mem_append.mp ha with ha | ha
   ·exact .inl ha
   ·refine .inr fun p hp e=>?_
    (refine E1 (adr p hp) fun o ho=>?_)
    rw [e,List.mem_singleton.mp ha] at ho
    exact absurd (l5 _ ho) (Nat.lt_irrefl _)
  ·intro a ha
   rcases gr9 a ha with h | h
   ·exact .inl h
   ·refine .inr fun p hp e=>?_
    (refine E1 (S1.addr (p:=p) (.tail _ hp)) fun o ho=>?_)
    exact h _ ho e
end
section
example:True:=by
 k_with "x52"=>skip
 trivial
noncomputable def Disj (f g:List Addr):Prop:=∀ a∈f,a∉g
theorem Disj.symm {f g:List Addr}(h:Disj f g):Disj g f:=fun a ha hb=>h a hb ha
theorem Disj.grow {f g g':List Addr}{l:Led}(h:Disj f g) (G:Grow g g' l) (hf:∀ a∈f,∃ o,(a,o)∈l):Disj f g':=fun a ha hg=>by
 rcases G a hg with e | e
 ·exact h a ha e
 ·(refine E1 (hf a ha) fun o ho=>?_)
  exact e _ ho rfl
theorem HAt.footin {w:World}{hp b u:Addr}{kn:List (List Mix × Int)}{ab:Int->Option (List Int)}{wt:List Int}{N E:Nat}{foot:List Addr}{l:Led}(h:HAt w hp b u kn ab wt N E foot l):∀ a∈foot,∃ o,(a,o)∈l:=by
 (refine E16 h fun dh le lf dk da lw kk n1 n2 n3 n4 ve vf vw kxs fa I=>?_;try clear h)
 exact I.footin
theorem BAt.footin {w:World}{b:Addr}{nks:List (List Mix)}{foot:List Addr}{l:Led}(h:BAt w b nks foot l):∀ a∈foot,∃ o,(a,o)∈l:=by
 (refine E16 h fun db ln dn lw ld kk n1 n2 n3 n4 nas xs vw vd ws ds I=>?_;try clear h)
 exact I.footin
structure Trio (w:World) (hp b u:Addr) (nks:List (List Mix)) (kn:List (List Mix × Int)) (ab:Int->Option (List Int)) (wt:List Int) (NN EE:Nat) (ns:List Int) (cs:List (List Int)) (ms:List (Int × Int)) (fh fb fu:List Addr) (l:Led):Prop where
 h:HAt w hp b u kn ab wt NN EE fh l
 b:BAt w b nks fb l
 u:UAt w u ns cs ms fu l
 hb:Disj fh fb
 hu:Disj fh fu
 bu:Disj fb fu
theorem Trio.move {w:World}{hp b u:Addr}{nks:List (List Mix)}{kn:List (List Mix × Int)}{ab:Int->Option (List Int)}{wt:List Int}{NN EE:Nat}{ns:List Int}{cs:List (List Int)}{ms:List (Int × Int)}{fh fb fu:List Addr}{l l':Led}
  (T:Trio w hp b u nks kn ab wt NN EE ns cs ms fh fb fu l) (k:∀ p∈l,(p.1∈fh∨p.1∈fb∨p.1∈fu)->p∈l'):Trio w hp b u nks kn ab wt NN EE ns cs ms fh fb fu l' :=
 ⟨T.h.move fun p hp e=>k p hp (.inl e),T.b.move fun p hp e=>k p hp (.inr (.inl e)),T.u.move fun p hp e=>k p hp (.inr (.inr e)),T.hb,T.hu,T.bu⟩
theorem Trio.cons {w:World}{hp b u:Addr}{nks:List (List Mix)}{kn:List (List Mix × Int)}{ab:Int->Option (List Int)}{wt:List Int}{NN EE:Nat}{ns:List Int}{cs:List (List Int)}{ms:List (Int × Int)}{fh fb fu:List Addr}{l:Led}{p:Addr × Obj}
  (T:Trio w hp b u nks kn ab wt NN EE ns cs ms fh fb fu l):Trio w hp b u nks kn ab wt NN EE ns cs ms fh fb fu (p::l):=T.move fun _ hq _=>.tail _ hq
structure Step3 (fh fb fu fh' fb' fu':List Addr) (l l':Led):Prop where
 keep:∀ p∈l,p.1∉fh->p.1∉fb->p.1∉fu->p∈l'
 gh:Grow fh fh' l
 gb:Grow fb fb' l
 gu:Grow fu fu' l
 ih:∀ a∈fh,a∈fh'
 ib:∀ a∈fb,a∈fb'
 iu:∀ a∈fu,a∈fu'
theorem Grow.rfl {f:List Addr}{l:Led} : Grow f f l:=fun _ h=>.inl h
theorem Trio.addr {w:World}{hp b u:Addr}{nks:List (List Mix)}{kn:List (List Mix × Int)}{ab:Int->Option (List Int)}{wt:List Int}{NN EE:Nat}{ns:List Int}{cs:List (List Int)}{ms:List (Int × Int)}{fh fb fu fh' fb' fu':List Addr}{l l':Led}
  (T':Trio w hp b u nks kn ab wt NN EE ns cs ms fh' fb' fu' l') (S:Step3 fh fb fu fh' fb' fu' l l'):∀ p∈l,∃ o,(p.1,o)∈l':=fun p hp=>by
 by_cases e1:p.1∈fh
 ·exact T'.h.footin _ (S.ih _ e1)
 by_cases e2:p.1∈fb
 ·exact T'.b.footin _ (S.ib _ e2)
 by_cases e3:p.1∈fu
 ·exact T'.u.foot_in _ (S.iu _ e3)
 exact ⟨p.2,S.keep p hp e1 e2 e3⟩
theorem Grow.trans {f f' f'':List Addr}{l l':Led}(h1:Grow f f' l) (h2:Grow f' f'' l') (ha:∀ p∈l,∃ o,(p.1,o)∈l'):Grow f f'' l:=fun a h=>by
 rcases h2 a h with h | h
 ·exact h1 a h
 ·exact .inr fun p hp e=>by
   (refine E1 (ha p hp) fun o ho=>?_)
   exact h _ ho e
theorem Step3.trans {w:World}{hp b u:Addr}{nks:List (List Mix)}{kn:List (List Mix × Int)}{ab:Int->Option (List Int)}{wt:List Int}{NN EE:Nat}{ns:List Int}{cs:List (List Int)}{ms:List (Int × Int)}{fh fb fu fh' fb' fu' fh'' fb'' fu'':List Addr}{l l' l'':Led}
  (S1:Step3 fh fb fu fh' fb' fu' l l') (T':Trio w hp b u nks kn ab wt NN EE ns cs ms fh' fb' fu' l') (S2:Step3 fh' fb' fu' fh'' fb'' fu'' l' l''):Step3 fh fb fu fh'' fb'' fu'' l l'' where
 keep:=fun p hp e1 e2 e3=>S2.keep p (S1.keep p hp e1 e2 e3) (fun h=>by rcases S1.gh _ h with h | h;exact e1 h;exact h p hp rfl) (fun h=>by rcases S1.gb _ h with h | h;exact e2 h;exact h p hp rfl) (fun h=>by rcases S1.gu _ h with h | h;exact e3 h;exact h p hp rfl)
 gh:=S1.gh.trans S2.gh (T'.addr S1)
 gb:=S1.gb.trans S2.gb (T'.addr S1)
 gu:=S1.gu.trans S2.gu (T'.addr S1)
 ih:=fun a h=>S2.ih a (S1.ih a h)
 ib:=fun a h=>S2.ib a (S1.ib a h)
 iu:=fun a h=>S2.iu a (S1.iu a h)
theorem Step3.of {fh fb fu:List Addr}{l l':Led}(h:∀ p∈l,p∈l'):Step3 fh fb fu fh fb fu l l':=⟨fun p hp _ _ _=>h p hp,.rfl,.rfl,.rfl,fun _ h=>h,fun _ h=>h,fun _ h=>h⟩
theorem BAt.inst {w:World}{b:Addr}{nks:List (List Mix)}{foot:List Addr}{l:Led}(h:BAt w b nks foot l):∃ db k ln dn lw ld n,(b,instObj 174 db)∈l/\(db,dictOf (bDict w k ln dn lw ld) n)∈l/\b∈foot/\db∈foot:=by
 (refine E16 h fun db ln dn lw ld kk n1 n2 n3 n4 nas xs vw vd ws ds I=>?_;try clear h)
 refine K7 _ _ _ _ _ _ _ (M4 I.inst I.dict I.feet.1 I.feet.2.1)
theorem UAt.inst {w:World}{u:Addr}{ns:List Int}{cs:List (List Int)}{ms:List (Int × Int)}{foot:List Addr}{l:Led}(h:UAt w u ns cs ms foot l):∃ du k1 k2 k3 la ll lm n,(u,instObj 256 du)∈l/\(du,dictOf (uDict w k1 k2 k3 la ll lm) n)∈l/\u∈foot/\du∈foot:=by
 (refine E14 h fun du la ll lm nd na nl nm k1 k2 k3 vs as bs=>G2 fun I zo51=>?_;try clear h;rcases zo51 with rfl)
 refine K8 _ _ _ _ _ _ _ _ (M4 I.inst I.dict (by simp) (by simp))
theorem HIn.none {w:World}{hp b u dh le lf dk da lw:Addr}{k:Nat->Tok}{n1 n2 n3 n4:Nat}{ve vf vw:List Value}{kxs:Ents}{fa:Int->Option Addr}{kn:List (List Mix × Int)}{ab:Int->Option (List Int)}{wt:List Int}{NN EE:Nat}{foot:List Addr}{l:Led}
  (I:HIn w hp b u dh le lf dk da lw k n1 n2 n3 n4 ve vf vw kxs fa kn ab wt NN EE foot l) {j:Int}(h:ab j = .none):fa j = .none:=by
 rcases I.users j with ⟨h1,_⟩ | ⟨a,us,vs,n,h1,h2,_⟩
 ·exact h1
 ·rw [h] at h2;cases h2
theorem kp_use {l l':Led}{p:Addr × Obj}(k:∀ p∈l,p∈l') (h:p∈l):p∈l':=k p h
end
section
example:True:=by
 k_with "g54"=>fail_if_success k_extra "x54"
 k_with "bank"=>(k_extra "g54";(first | decide | exists b255,b256,b148,b171,b253,b254,b217,b257,b163,b258,b259,b260,b261))
 k_with "cuton"=>k_extra "g54"
 trivial
example:True:=by
 k_with "call ref"=>(k_extra "g54";((k_here;(with_reducible show wpAny _ _ (call (Value.ref 213) _) _ _ _);k_dflt (refine' con_use (find_con _ _ _ _ _ _ _ _ ?kzFO) ?kB ?kF ?kX ?kN ?kT ?kA ?kH ?kf ?kk ?kd ?ku ?hp ?_;(case kzFO=>assumption);(case hp=>refine ⟨by assumption,by first | assumption | omega,by first | assumption | omega⟩);tb_start); intro kzQ _ _ _ _ _ _ hp';obtain ⟨e',_,e2'⟩:=hp';subst e';subst e2';(try unfold kzQ);(try clear kzQ);(try dsimp only))))
 trivial
theorem kn_of_at {kxs:Ents}{kn:List (List Mix × Int)}{key:List Mix}{p:Addr × Value}(h:KnIs kxs kn) (e:atKey kxs key=some p):∃ n t,p.2 = .int n t/\(key,n)∈kn:=by
 (refine E1 (get_of_atKey e) fun j hj=>?_)
 have hjl:j<kxs.length:=(List.getElem?_eq_some_iff.mp hj).1
 (refine E1 (h.2 j hjl) fun t=>G2 fun e1 e2=>?_)
 have e3:kxs.getD j ([],0,.none)=(key,p):=by simp [hj]
 rw [e3] at e1 e2
 refine K2 _ t (M2 e2 ?_)
 have e4:kn.getD j ([],0)=(key,(kn.getD j ([],0)).2):=Prod.ext e1.symm rfl
 rw [← e4]
 exact getD_mem (by rw [← h.1];exact hjl)
theorem kn_none {kxs:Ents}{kn:List (List Mix × Int)}{key:List Mix}(h:KnIs kxs kn) (e:atKey kxs key=none):∀ p∈kn,p.1≠key:=fun p hp=>by
 obtain ⟨i,hi,ei⟩:=List.getElem_of_mem hp
 have hl:=h.1
 (refine E1 (h.2 i (by omega)) fun t=>G2 fun e1 _=>?_)
 have hm:kxs.getD i ([],0,.none)∈kxs:=getD_mem (by omega)
 have h2:=ne_of_atKey_none e _ hm
 rw [e1,List.getD_eq_getElem?_getD,List.getElem?_eq_getElem hi] at h2
 rw [← ei];exact h2
theorem grow_tail2 {f f':List Addr}{p q:Addr × Obj}{l:Led}(h:Grow f f' (p::q::l)):Grow f f' l:=fun a ha=>by
 rcases h a ha with h | h
 ·exact .inl h
 ·exact .inr fun x hx=>h x (.tail _ (.tail _ hx))
example:True:=by
 k_with "ktr_rel"=>(k_extra "g54";(first | with_reducible assumption | ((with_reducible refine BAt.cons ?_);ktr_rel) | ((with_reducible refine HAt.cons ?_);ktr_rel) | ((with_reducible refine UAt.cons ?_);ktr_rel)))
 k_with "call ref"=>(k_extra "g54";(first | ((k_here;(with_reducible show wpAny _ _ (call (Value.ref 310) _) _ _ _);k_dflt (refine' con_use (hfind_con _ _ _ _ _ _ _ _ _ _ _ _ _ _ ?kzFO _ _) ?kB ?kF ?kX ?kN ?kT ?kA ?kH ?kf ?kk ?kd ?ku ?hp ?_;(case kzFO=>with_reducible assumption);tb_start;(case hp=>refine M4 (by ktr_rel) (by ktr_rel) (by omega) (by omega))); intro kzQ _ _ _ _ _ _ hp';obtain ⟨e',_,e2'⟩:=hp';subst e';subst e2';(try unfold kzQ);(try clear kzQ);(try dsimp only))) | ((k_here;(with_reducible show wpAny _ _ (call (Value.ref 331) _) _ _ _);refine Hold.out ?_)) | ((k_here;(with_reducible show wpAny _ _ (call (Value.ref 286) _) _ _ _);refine Hold.out ?_))))
 k_with "call builtin:dict.setdefault"=>(k_extra "g54";(refine Hold.out ?_))
 trivial
theorem look_conF {w:World}(hp b u:Addr) (N:Nat) (kn:List (List Mix × Int)) (ab:Int->Option (List Int)) (wt:List Int) (EE q:Nat) (ns ls:List Int) (cs:List (List Int)) (ms:List (Int × Int)) (fh fb fu:List Addr) (n:Nat) (tn:Tok)
  (S:St N kn ab ((n:Int)::wt) EE q ns ls cs ms) (hN:N<=24) (hq:q<10) :
  Con w 303 [.ref hp,.int (n:Int) tn] 150 1500 (fun news=>Trio w hp b u (bankK N) kn ab wt N EE ns cs ms fh fb fu news)
   (fun news news' r=>r = .none/\∃ kn' ab' wt' EE' ns' ls' cs' ms' fh' fu',Trio w hp b u (bankK N) kn' ab' wt' N EE' ns' cs' ms' fh' fb fu' news'/\St N kn' ab' wt' EE' q ns' ls' cs' ms'/\Up ls ls' /\
    Step3 fh fb fu fh' fb fu' news news'/\wt'.length+25 * cnt ls'<1+wt.length+25 * cnt ls/\∀ j∈wt',j∈wt∨(1<=j/\j<N/\ls.getD n 0<=ls.getD (j - 1).toNat 0)):=by
 rintro mean mg mb dp un gd env outer A₀ base hO L m news s Q E B F X NW T hf hk hd hu TR hret
 have U:=TR.h
 have UB:=TR.b
 have UU:=TR.u
 have U':=U
 (refine E16 U' fun dh le lf dk da lw k n1 n2 n3 n4 ve vf vw kxs fa I=>?_;try clear U')
 have m1:=I.inst
 have m2:=I.dict
 have hDH:=I.known
 have FO:=S.fo
 have hl:=S.llen
 have hsl:=S.nlen
 have hpot:=S.pot
 have hec:=S.ecnt
 have hmc:=S.mcnt
 have hkz:kn.length<900:=by omega
 have hxl:kxs.length=kn.length:=I.knis.1
 have hn:n<N:=by have:=S.pds _ (.head _);omega
 have hn0:(0:Int)<=n:=Int.natCast_nonneg n
 have hn1:(n:Int)<ns.length:=by omega
 have eN:((n:Int)).toNat=n:=by omega
 have hnod:=nod7 I.nod
 (refine G3 ?_ hnod;try clear hnod;intro zo54 zo55 _;obtain ⟨z1,z2,z3,z4,z5,z6⟩:=zo54;obtain ⟨z7,z8,z9,z10,z11⟩:=zo55)
 refine wpAny_call ?_
 let kzb:List (Str × Value):=[("self",.ref hp),("n",.int (n:Int) tn)]
 k_extra "c0"
 repeat walk1
 refine Hold.done ?_
 refine' con_use (node_conF hp b u (bankK N) fb kn ab wt N EE fh ns ls cs ms fu FO n _ (opS n) (kidS n) (by have:=kidS_len n;omega) (by rw [eN];exact bankK_at hn) hn0 (by rw [hsl];exact kidS_lt (by omega))) ?kB ?kF ?kX ?kN ?kT ?kA ?kH ?kf ?kk ?kd ?ku ?hp ?_
 tb_start
 case hp=>refine M3 U UB UU
 (intro kzQ r2 h2 tk2 l2 F2 N2 zr6;(refine E4 zr6 fun D tx vs n9=>G4 fun zo56 zo57 hvs lD=>?_;try clear zr6;rcases zo56 with rfl;rcases zo57 with rfl);unfold kzQ;clear kzQ)
 repeat walk1
 refine Hold.done ?_
 refine' dh_setdefault_o ?u ?F ?N ?H ?T ?z ?args ?kq1 ?kq2
 case u=>ktr_units
 case F=>k_asm
 case N=>k_asm
 case H=>exact DH.cons hDH
 case T=>exact tupIn_n (.head _) hvs
 case z=>omega
 case args=>rfl
 case kq1 =>
  intro p hat tk3
  rw [← keyOf_n] at hat
  (refine E2 (kn_of_at I.knis hat) fun n' t'=>G2 fun e2 hkn=>?_)
  rw [e2]
  (refine E1 (S.knx _ hkn) fun m'=>G3 fun hm1 hm2 hm3=>?_)
  have hm2:n'=m':=hm2
  subst hm2
  (refine G2 ?_ (S.same_rule hn hkn);intro hmn rule)
  have hn2:(m':Int)<ns.length:=by omega
  have eM:((m':Int)).toNat=m':=by omega
  (refine E4 (S.pick hm1 hn hN hq) fun kl gl uk ug=>G10 fun ek eg ak ag s1 s2 s3 s4 s5 s6=>?_)
  have s5':wt.length+ug.length<1000:=by
   rw [List.length_cons] at s5;omega
  repeat walk1
  ·rename _≠_=>hne
   rw [eM,eN] at hne
   have hkg:=s6.mpr hne
   (refine G4 ?_ (S.look_join hkn ek eg hkg ak ag hN);intro S' UP MS WB)
   refine Hold.done ?_
   refine' con_use (join_con hp b u kn ab wt N EE fh ns ls cs ms fu FO m' n _ _ _ kl gl (by rw [eM,eN];exact ek) (by rw [eM,eN];exact eg) uk ug (fun _=>s1) s2 s3 (fun _=>ak) (fun _=>ag) (fun _=>⟨s4,s5'⟩) TR.hu) ?kB ?kF ?kX ?kN ?kT ?kA ?kH ?kf ?kk ?kd ?ku ?hp ?_
   tb_start
   case hp=>refine M5 U.cons.cons UU.cons.cons ⟨by omega,hn2⟩ hn0 hn1
   (intro kzQ r5 h5 tk5 l5 F5 N5 hpost;unfold kzQ;clear kzQ)
   rcases hpost with ⟨ekg,_⟩ | ⟨_,rfl,fh',fu',A5,U5,d5,k5,g5,g6,i5,i6⟩
   ·exact absurd ekg hkg
   have B5:BAt w b (bankK N) fb l5:=UB.cons.cons.move fun p hp hf=>k5 p hp (fun e=>TR.hb _ e hf) (fun e=>TR.bu _ hf e)
   repeat walk1
   (refine hret _ _ _ _ ‹_› ‹_› ?_;refine ⟨rfl,_,_,_,_,_,_,_,_,fh',fu',⟨A5,B5,U5,?_,d5,?_⟩,S',UP,⟨fun p hp e1 _ e3=>k5 p (.tail _ (.tail _ hp)) e1 e3,?_,.rfl,?_,i5,fun _ h=>h,i6⟩,MS,WB⟩)
   ·intro a ha hfb
    (refine E1 (UB.footin a hfb) fun o ho=>?_)
    rcases g5 a ha with h | h
    ·exact TR.hb a h hfb
    ·exact h _ (.tail _ (.tail _ ho)) rfl
   ·intro a hfb ha
    (refine E1 (UB.footin a hfb) fun o ho=>?_)
    rcases g6 a ha with h | h
    ·exact TR.bu a hfb h
    ·exact h _ (.tail _ (.tail _ ho)) rfl
   ·exact grow_tail2 g5
   ·exact grow_tail2 g6
  ·rename _=_=>he
   rw [eM,eN] at he
   repeat walk1
   (refine hret _ _ _ _ ‹_› ‹_› ?_;refine ⟨rfl,_,_,_,_,_,_,_,_,fh,fu,TR.cons,S.look_old hkn he,.rfl,Step3.of fun p hp=>.tail _ hp,by omega,fun j hj=>.inl hj⟩)
 case kq2 =>
  intro hno h2 tk2 o2 l2 F2 N2 S2 H2
  rw [← keyOf_n] at hno H2
  have S':=S.look_new (kn_none I.knis hno)
  (refine G4 ?_ (I.look S2 H2 lD hkz);intro HA kk1 gg1 ii1)
  have UU2:UAt w u ns cs ms fu l2:=UU.move (fun p hp hf=>S2.keep p (.tail _ hp) (fun e=>TR.hu dk I.feet.2.2.2.2.1 (e ▸ hf)))
  have UB2:BAt w b (bankK N) fb l2:=UB.move (fun p hp hf=>S2.keep p (.tail _ hp) (fun e=>TR.hb dk I.feet.2.2.2.2.1 (e ▸ hf)))
  have mm1:(hp,instObj 384 dh)∈l2:=S2.keep _ (.tail _ m1) z4
  have mm2:(dh,dictOf (hDict w k b u le lf dk da lw) n1)∈l2:=S2.keep _ (.tail _ m2) z9
  clear m1 m2
  repeat walk1
  ·exfalso
   rename _≠_=>hne
   exact hne rfl
  ·repeat walk1
   (refine hret _ _ _ _ ‹_› ‹_› ?_;refine ⟨rfl,_,_,_,_,_,_,_,_,fh++[D],fu,⟨HA,UB2,UU2,?_,?_,TR.bu⟩,S',.rfl,⟨fun p hp e1 _ _=>kk1 p hp e1,gg1,.rfl,.rfl,ii1,fun _ h=>h,fun _ h=>h⟩,by omega,fun j hj=>.inl hj⟩)
   ·intro a ha hfb
    rcases List.mem_append.mp ha with ha | ha
    ·exact TR.hb a ha hfb
    ·(refine E1 (UB.footin a hfb) fun o ho=>?_)
     rw [List.mem_singleton.mp ha] at ho
     exact absurd (lD _ ho) (Nat.lt_irrefl _)
   ·intro a ha hfu
    rcases List.mem_append.mp ha with ha | ha
    ·exact TR.hu a ha hfu
    ·(refine E1 (UU.foot_in a hfu) fun o ho=>?_)
     rw [List.mem_singleton.mp ha] at ho
     exact absurd (lD _ ho) (Nat.lt_irrefl _)
end
section
example:True:=by
 k_with "g55"=>fail_if_success k_extra "x55"
 k_with "x54"=>skip
 k_with "bank"=>(k_extra "g55";(exists b81,b262))
 k_with "la"=>k_extra "g55"
 k_with "lb"=>k_extra "g55"
 k_with "lc"=>k_extra "g55"
 k_with "ld"=>k_extra "g55"
 trivial
example:True:=by
 k_with "call ref"=>(k_extra "g55";((k_here;(with_reducible show wpAny _ _ (call (Value.ref 213) _) _ _ _);k_dflt (refine' con_use (find_con _ _ _ _ _ _ _ _ ?kzFO) ?kB ?kF ?kX ?kN ?kT ?kA ?kH ?kf ?kk ?kd ?ku ?hp ?_;(case kzFO=>assumption);(case hp=>refine ⟨by assumption,by first | assumption | omega,by first | assumption | omega⟩);tb_start); intro kzQ _ _ _ _ _ _ hp';obtain ⟨e',_,e2'⟩:=hp';subst e';subst e2';(try unfold kzQ);(try clear kzQ);(try dsimp only))))
 trivial
theorem usize_con {w:World}(u:Addr) (ns:List Int) (cs:List (List Int)) (ms:List (Int × Int)) (foot:List Addr) :
  Con w 206 [.ref u] 10 100 (fun news=>UAt w u ns cs ms foot news) (fun news news' r=>news'=news/\∃ t,r = .int ns.length t):=by
 intro mean mg mb dp un gd env outer A₀ base hO L m news s Q E B F X N T hf hk hd hu U hret
 (refine E14 U fun du la ll lm nd na nl nm k1 k2 k3 vs as bs=>G2 fun I hfoot=>?_;try clear U)
 have m1:=I.inst
 have m2:=I.dict
 have m3:=I.above
 have hi:=I.vints
 have hsm:=I.small
 have hvl:=hi.length
 refine wpAny_call ?_
 let kzb:List (Str × Value):=[("self",.ref u)]
 k_extra "c0"
 k_steps
 (refine hret _ _ _ _ ‹_› ‹_› ?_;refine ⟨rfl,_,rfl⟩)
end
section
example:True:=by
 k_with "g56"=>fail_if_success k_extra "x56"
 k_with "x55"=>skip
 k_with "bank"=>(k_extra "g56";(first | decide | exists b75,b263,b81,b264,b76,b265,b65))
 k_with "la"=>k_extra "g56"
 k_with "lb"=>k_extra "g56"
 k_with "lc"=>k_extra "g56"
 k_with "ld"=>k_extra "g56"
 trivial
example:True:=by
 k_with "call ref"=>(k_extra "g56";((k_here;(with_reducible show wpAny _ _ (call (Value.ref 213) _) _ _ _);k_dflt (refine' con_use (find_con _ _ _ _ _ _ _ _ ?kzFO) ?kB ?kF ?kX ?kN ?kT ?kA ?kH ?kf ?kk ?kd ?ku ?hp ?_;(case kzFO=>assumption);(case hp=>refine ⟨by assumption,by first | assumption | omega,by first | assumption | omega⟩);tb_start); intro kzQ _ _ _ _ _ _ hp';obtain ⟨e',_,e2'⟩:=hp';subst e';subst e2';(try unfold kzQ);(try clear kzQ);(try dsimp only))))
 trivial
theorem make_con {w:World}(u:Addr) (ns:List Int) (cs:List (List Int)) (ms:List (Int × Int)) (foot:List Addr) (hlen:ns.length<50) :
  Con w 199 [.ref u] 10 100 (fun news=>UAt w u ns cs ms foot news)
   (fun news news' r=>∃ t foot',r = .int ns.length t/\UAt w u (ns++[(ns.length:Int)]) (cs++[[(ns.length:Int)]]) ms foot' news'/\Keeps foot news news'/\Grow foot foot' news/\∀ a∈foot,a∈foot'):=by
 intro mean mg mb dp un gd env outer A₀ base hO L m news s Q E B F X N T hf hk hd hu U hret
 (refine E14 U fun du la ll lm nd na nl nm k1 k2 k3 vs as bs=>G2 fun I hfoot=>?_;try clear U)
 have m1:=I.inst
 have m2:=I.dict
 have m3:=I.above
 have m4:=I.lots
 have hi:=I.vints
 have hal:as.length=cs.length:=I.lists.1
 have hcl:=I.len
 have hsm:=I.small
 (refine G10 ?_ I.nes;intro n01 n02 n03 n04 n05 n06 n07 n08 n09 n10)
 have hbl:=I.tups.1
 have hsb:=I.smallm
 refine wpAny_call ?_
 let kzb:List (Str × Value):=[("self",.ref u)]
 k_extra "c0"
 k_steps
 rename ∀ p∈_,_<_=>lD
 have fD:=ne_of_lts (lt_setL lD)
 have hvl:=hi.length
 rw [show ((↑(vs.length+(0+1)):Int) - 1)=(ns.length:Int) by omega]
 have eas:(as.length:Int)=ns.length:=by omega
 simp only [eas] at *
 (refine hret _ _ _ _ ‹_› ‹_› ?_;refine K2 _ _ (M5 rfl ⟨_,_,_,_,_,_,_,_,_,_,_,_,_,_,I.make (fun p hp e1 e2=>mem_setL_ne' (List.mem_cons_of_mem _ (mem_setL_ne' hp e1)) e2) (by k_mem) (by k_mem) (mem_setL_ne (.head _) ?_) fD hlen,rfl⟩ ?_ ?_ ?_))
 ·intro e
  (refine E1 (I.foot_in ll (by simp)) fun o ho=>?_)
  exact fD _ ho e.symm
 ·intro p hp hn
  rw [hfoot] at hn
  simp only [List.mem_cons,List.mem_append,not_or] at hn
  exact mem_setL_ne' (List.mem_cons_of_mem _ (mem_setL_ne' hp hn.2.2.1)) hn.2.2.2.1
 ·intro a ha
  rw [hfoot]
  simp only [List.mem_cons,List.mem_append,List.not_mem_nil,or_false] at ha ⊢
  rcases ha with h | h | h | h | h | (h | h) | h <;> first | (rw [h];exact .inr fD) | exact .inl (by simp [h])
 ·intro a ha
  rw [hfoot] at ha
  simp only [List.mem_cons,List.mem_append,List.not_mem_nil,or_false] at ha ⊢
  rcases ha with h | h | h | h | h | h | h <;> simp [h]
end
section
example:True:=by
 k_with "x56"=>skip
 trivial
theorem HIn.addUser {w:World}{hp b u dh le lf dk da lw:Addr}{k:Nat->Tok}{n1 n2 n3 n4:Nat}{ve vf vw:List Value}{kxs:Ents}{fa:Int->Option Addr}{kn:List (List Mix × Int)}{ab:Int->Option (List Int)}{wt:List Int}{NN EE:Nat}{foot:List Addr}{l l':Led}(I:HIn w hp b u dh le lf dk da lw k n1 n2 n3 n4 ve vf vw kxs fa kn ab wt NN EE foot l)
  {c x:Int}{t:Tok}{a:Addr}{vs:List Value}{us:List Int}{n n':Nat}(hf:fa c=some a) (hab:ab c=some us) (hm:(a,PySem.W.listOf vs.toArray n)∈l) (hi:IntsAre vs us) (hz:us.length+1<60)
  (S:SetTo a (PySem.W.listOf (vs++[Value.int x t]).toArray n') l l') :
  HIn w hp b u dh le lf dk da lw k n1 n2 n3 n4 ve vf vw kxs fa kn (fun j=>if j=c then some (us++[x]) else ab j) wt NN EE foot l':=by
 have ha:=I.ane c a hf
 simp only [List.mem_cons,List.not_mem_nil,or_false,not_or] at ha
 (refine G7 ?_ ha;try clear ha;intro a1 a2 a3 a4 a5 a6 a7)
 (refine G9 ?_ I.feet;intro f1 f2 f3 f4 f5 f6 f7 f8 f9)
 have keep:∀ p∈l,p.1≠a->p∈l':=fun p hp e=>S.keep p hp e
 refine ⟨keep _ I.inst (Ne.symm a1),keep _ I.dict (Ne.symm a2),keep _ I.edges (Ne.symm a3),I.elen,keep _ I.forest (Ne.symm a4),I.flen,I.known.move fun p hp e=>keep p hp ?_,I.knis,I.above.move fun p hp e=>keep p hp (e ▸ (Ne.symm a6)),fun j=>?_,I.inj,keep _ I.waiting (Ne.symm a7),I.wints,I.small,I.nod,I.ane,I.tne,I.feet,fun d hd=>?_⟩
 ·rcases e with e | e
  ·exact e ▸ (Ne.symm a5)
  ·exact fun e2=>(I.tne _ e).2 c (by rw [e2];exact hf)
 ·by_cases hj:j=c
  ·subst hj
   exact .inr ⟨a,us++[x],vs++[Value.int x t],n',hf,by simp,S.self _ hm,hi.append (.cons _ _ .nil),by simp;omega⟩
  ·simp only [hj,if_false]
   rcases I.users j with h | ⟨d,us,vs,n,h1,h2,h3,h4⟩
   ·exact .inl h
   ·exact .inr ⟨d,us,vs,n,h1,h2,keep _ h3 fun e=>hj (I.inj _ _ _ h1 (by rw [show d=a from e];exact hf)),h4⟩
 ·(refine E1 (I.footin d hd) fun o ho=>?_)
  by_cases e:d=a
  ·exact ⟨_,e ▸ S.self _ hm⟩
  ·exact ⟨o,keep _ ho e⟩
theorem Step3.cons3 {fh fb fu fh' fb' fu':List Addr}{l l':Led}{p1 p2 p3:Addr × Obj}(S:Step3 fh fb fu fh' fb' fu' l l'):Step3 fh fb fu fh' fb' fu' l (p1::p2::p3::l'):=⟨fun p hp e1 e2 e3=>.tail _ (.tail _ (.tail _ (S.keep p hp e1 e2 e3))),S.gh,S.gb,S.gu,S.ih,S.ib,S.iu⟩
theorem Step3.cons2 {fh fb fu fh' fb' fu':List Addr}{l l':Led}{p1 p2:Addr × Obj}(S:Step3 fh fb fu fh' fb' fu' l l'):Step3 fh fb fu fh' fb' fu' l (p1::p2::l'):=⟨fun p hp e1 e2 e3=>.tail _ (.tail _ (S.keep p hp e1 e2 e3)),S.gh,S.gb,S.gu,S.ih,S.ib,S.iu⟩
theorem Step3.tail2 {fh fb fu fh' fb' fu':List Addr}{l l':Led}{p1 p2:Addr × Obj}(S:Step3 fh fb fu fh' fb' fu' (p1::p2::l) l'):Step3 fh fb fu fh' fb' fu' l l':=⟨fun p hp e1 e2 e3=>S.keep p (.tail _ (.tail _ hp)) e1 e2 e3,fun a h=>(S.gh a h).imp id fun h p hp=>h p (.tail _ (.tail _ hp)),fun a h=>(S.gb a h).imp id fun h p hp=>h p (.tail _ (.tail _ hp)),fun a h=>(S.gu a h).imp id fun h p hp=>h p (.tail _ (.tail _ hp)),S.ih,S.ib,S.iu⟩
theorem Grow.apart {f f':List Addr}{l:Led}(G:Grow f f' l) {a:Addr}(ha:∃ o,(a,o)∈l) (h:a∉f):a∉f':=fun h'=>by
 (refine E1 ha fun o ho=>?_;try clear ha)
 rcases G a h' with e | e
 ·exact h e
 ·exact e _ ho (Eq.refl _)
end
section
noncomputable def okB (x:Str):Bool:=(x != Str.ofString "") && x.cps.all (· < 128) && decide (x.cps.size<1000) && x.cps.all (fun c=>Txt.isspace ⟨#[c]⟩ == false && (Builtin.Str.occurrences (Str.ofString "()[]{},:") ⟨#[c]⟩ 0 (Str.ofString "()[]{},:").length 1).isEmpty) && decide (0<x.length) && decide (x.length<1000) && (Txt.item x 0 == Str.ofString "?") == false
theorem ok_of {x:Str}(h:okB x=true):OkOp x:=by
 unfold okB at h
 simp only [Bool.and_eq_true,decide_eq_true_eq,beq_iff_eq] at h
 (refine G2 ?_ h;try clear h;intro zo58 h7;obtain ⟨⟨⟨⟨⟨h1,h2⟩,h3⟩,h4⟩,h5⟩,h6⟩:=zo58)
 refine ⟨by simpa using h1,h2,h3,fun c hc=>?_,h5,h6,h7⟩
 have:=Array.all_eq_true'.mp h4 c hc
 simp only [Bool.and_eq_true,beq_iff_eq] at this
 exact this
theorem opS_ok (n:Nat):OkOp (opS n):=by
 unfold opS
 by_cases h:n=0
 ·rw [if_pos h];exact ok_of (by decide +kernel)
 ·rw [if_neg h];exact ok_of (by decide +kernel)
end
section
example:True:=by
 k_with "g59"=>fail_if_success k_extra "x59"
 k_with "bank"=>(k_extra "g59";(first | decide | exists b445,b451,b92,b71,b255,b441,b442,b291,b55,b34,b443,b444,b446,b447,b448,b289,b449,b450,b452,b453,b454,b293,b456,b457,b70))
 k_with "cuton"=>k_extra "g59"
 trivial
example:True:=by
 k_with "call ref"=>(k_extra "g59";((k_here;(with_reducible show wpAny _ _ (call (Value.ref 213) _) _ _ _);k_dflt (refine' con_use (find_con _ _ _ _ _ _ _ _ ?kzFO) ?kB ?kF ?kX ?kN ?kT ?kA ?kH ?kf ?kk ?kd ?ku ?hp ?_;(case kzFO=>assumption);(case hp=>refine ⟨by assumption,by first | assumption | omega,by first | assumption | omega⟩);tb_start); intro kzQ _ _ _ _ _ _ hp';obtain ⟨e',_,e2'⟩:=hp';subst e';subst e2';(try unfold kzQ);(try clear kzQ);(try dsimp only))))
 trivial
example:True:=by
 k_with "call ref"=>(k_extra "g59";(first | ((k_here;(with_reducible show wpAny _ _ (call (Value.ref 310) _) _ _ _);k_dflt (refine' con_use (hfind_con _ _ _ _ _ _ _ _ _ _ _ _ _ _ ?kzFO _ _) ?kB ?kF ?kX ?kN ?kT ?kA ?kH ?kf ?kk ?kd ?ku ?hp ?_;(case kzFO=>with_reducible assumption);tb_start;(case hp=>refine M4 (by ktr_rel) (by ktr_rel) (by omega) (by omega))); intro kzQ _ _ _ _ _ _ hp';obtain ⟨e',_,e2'⟩:=hp';subst e';subst e2';(try unfold kzQ);(try clear kzQ);(try dsimp only))) | ((k_here;(with_reducible show wpAny _ _ (call (Value.ref 98) _) _ _ _);refine Hold.out ?_)) | ((k_here;(with_reducible show wpAny _ _ (call (Value.ref 303) _) _ _ _);refine Hold.out ?_)) | ((k_here;(with_reducible show wpAny _ _ (call (Value.ref 199) _) _ _ _);refine Hold.out ?_)) | ((k_here;(with_reducible show wpAny _ _ (call (Value.ref 206) _) _ _ _);k_dflt (refine' con_use (usize_con _ _ _ _ _) ?kB ?kF ?kX ?kN ?kT ?kA ?kH ?kf ?kk ?kd ?ku ?hp ?_;tb_start;(case hp=>ktr_rel)); intro kzQ _ _ _ _ _ _ hp';obtain ⟨e',_,e2'⟩:=hp';replace e':=e'.symm;subst e';subst e2';(try unfold kzQ);(try clear kzQ);(try dsimp only)))))
 k_with "setItem ref int"=>(k_extra "g59";(((with_reducible show wpAny _ _ (setItem (Value.ref _) (Value.int _ _) (Value.ref _)) _ _ _);refine Hold.out ?_)))
 k_with "ktr_rel"=>(k_extra "g59";(first | with_reducible assumption | ((with_reducible refine BAt.cons ?_);ktr_rel) | ((with_reducible refine HAt.cons ?_);ktr_rel) | ((with_reducible refine UAt.cons ?_);ktr_rel)))
 k_with "subscriptTail Attribute Name Name ref int"=>(k_extra "g59";(refine Hold.out ?_))
 trivial
theorem add_conF {w:World}(hp b u:Addr) (N kx:Nat) (kn:List (List Mix × Int)) (ab:Int->Option (List Int)) (EE q:Nat) (ns ls:List Int) (cs:List (List Int)) (ms:List (Int × Int)) (fh fb fu:List Addr)
  (S:St N kn ab [] EE q ns ls cs ms) (hkN:kx<=N) (hN:N<24) (hq:q<10) (kt:Addr) (tx:Tok) (nt:Nat) (vks:List Value) (hik:IntsAre vks (kidS kx)) :
  Con w 291 [.ref hp,.str (opS kx) tx,.ref kt] 300 3000 (fun news=>Trio w hp b u (bankK N) kn ab [] N EE ns cs ms fh fb fu news/\(kt,tupOf vks.toArray nt)∈news/\kt∉fh/\kt∉fb/\kt∉fu)
   (fun news news' r=>∃ t kn' ab' EE' ns' ls' cs' ms' fh' fb' fu',r = .int (kx:Int) t/\Trio w hp b u (bankK (max N (kx+1))) kn' ab' [] (max N (kx+1)) EE' ns' cs' ms' fh' fb' fu' news'/\St (max N (kx+1)) kn' ab' [] EE' q ns' ls' cs' ms'/\Up ls ls'/\Step3 fh fb fu fh' fb' fu' news news'):=by
 (intro mean mg mb dp un gd env outer A₀ base hO L m news s Q E B F X NW T hf hk hd hu zr26 hret;(refine G5 ?_ zr26;try clear zr26;intro TR mkt nk1 nk2 nk3))
 have U:=TR.h
 have U':=U
 (refine E16 U' fun dh le lf dk da lw kk n1 n2 n3 n4 ve vf vw kxs fa I=>?_;try clear U')
 have m1:=I.inst
 have m2:=I.dict
 (refine E7 TR.b.inst fun db bk1 bk2 bk3 bk4 bk5 bk6=>G4 fun mb1 mb2 fb1 fb2=>?_)
 (refine G9 ?_ I.feet;intro f1 f2 f3 f4 f5 f6 f7 f8 f9)
 have hl:=S.llen
 have hsl:=S.nlen
 have hbl:=bankK_len N
 have hsm:=I.small
 have hnod:=nod7 I.nod
 (refine G7 ?_ hnod;try clear hnod;intro zo59 zo60 zo61 zo62 zo63 z21 _;obtain ⟨z1,z2,z3,z4,z5,z6⟩:=zo59;obtain ⟨z7,z8,z9,z10,z11⟩:=zo60;obtain ⟨z12,z13,z14,z15⟩:=zo61;obtain ⟨z16,z17,z18⟩:=zo62;obtain ⟨z19,z20⟩:=zo63)
 refine wpAny_call ?_
 let kzb:List (Str × Value):=[("self",.ref hp),("op",.str (opS kx) tx),("numbers",.ref kt)]
 k_extra "c1"
 rename_i oc d1'
 have nc:∀ {a:Addr},(∃ o,(a,o)∈news)->L'+1≠a:=fun {a} h e=>by
  (refine E1 h fun o ho=>?_;try clear h)
  have:=ltn (l1 _ ho)
  subst e
  exact Nat.not_succ_lt_self this
 repeat walk1
 refine Hold.done ?_
 refine' con_use (take_conF b (bankK N) fb kt (opS kx) tx nt vks (kidS kx) (opS_ok kx) (kidS_len kx) (by rw [hbl];exact kidS_lt hkN) (by omega)) ?kB ?kF ?kX ?kN ?kT ?kA ?kH ?kf ?kk ?kd ?ku ?hp ?_
 tb_start
 case hp=>refine M3 TR.b.cons (.tail _ mkt) hik
 (intro kzQ r1 h1 tk1 la1 F1 N1 zr6;rcases zr6 with zr6 | zr6;(refine E2 zr6 fun t1 i1=>G3 fun e1 zo64 kp1=>?_;try clear zr6;rcases zo64 with rfl);rotate_left;(refine E2 zr6 fun t1 fb'=>G6 fun hnin zo65 B1 kp1 gr1 in1=>?_;try clear zr6;rcases zo65 with rfl);rotate_right;all_goals (try (unfold kzQ;clear kzQ)))
 ·have hi1:i1<N:=by have:=(List.getElem?_eq_some_iff.mp e1).1;omega
  have e2:i1=kx:=by
   rw [bankK_at hi1] at e1
   exact nKey_kid_inj (Option.some.inj e1)
  subst e2
  have TR1:=TR.move (l':=la1) fun p hp _=>kp1 p (.tail _ hp)
  have q1:=kp1 _ (.tail _ m1)
  have q2:=kp1 _ (.tail _ m2)
  have c1:=kp1 _ (.head _)
  have UU1:=TR1.u
  (refine E8 UU1.inst fun du uk1 uk2 uk3 uk4 uk5 uk6 uk7=>G4 fun mu1 mu2 fu1 fu2=>?_)
  have kp1':Hold (∀ p∈(L'+1,oc)::news,p∈la1):=kp1
  clear kp1
  repeat walk1
  have e3:max N (i1+1)=N:=by omega
  (refine hret _ _ _ _ ‹_› ‹_› ?_;refine K11 t1 kn ab EE ns ls cs ms fh fb fu (M5 rfl (by rw [e3];exact TR1) (by rw [e3];exact S) (.rfl) (Step3.of fun p hp=>kp1'.out p (.tail _ hp))))
 ·have ekx:kx=N:=by
   by_cases e:kx<N
   ·exact absurd (List.mem_of_getElem? (bankK_at e)) hnin
   ·omega
  subst ekx
  rw [← bankK_succ] at B1
  rw [hbl]
  have I1:=I.move (l':=la1) fun p hp hf=>kp1 p (.tail _ hp) (TR.hb _ hf)
  have U1:=TR.u.move (l':=la1) fun p hp hf=>kp1 p (.tail _ hp) (TR.bu.symm _ hf)
  have c1:(L'+1,oc)∈la1:=kp1 _ (.head _) fun h=>nc (TR.b.footin _ h) rfl
  have k1:(kt,tupOf vks.toArray nt)∈la1:=kp1 _ (.tail _ mkt) nk2
  have hb1:Disj fh fb':=TR.hb.grow gr1 fun a h=>by (refine E1 (I.footin a h) fun o ho=>?_);exact ⟨o,.tail _ ho⟩
  have bu1:Disj fb' fu:=(TR.bu.symm.grow gr1 fun a h=>by (refine E1 (TR.u.foot_in a h) fun o ho=>?_);exact ⟨o,.tail _ ho⟩).symm
  have q11:=I1.inst
  have q12:=I1.dict
  (refine E8 U1.inst fun du uk1 uk2 uk3 uk4 uk5 uk6 uk7=>G4 fun mu1 mu2 fu1 fu2=>?_)
  repeat walk1
  refine Hold.done ?_
  refine' con_use (make_con u ns cs ms fu (by omega)) ?kB ?kF ?kX ?kN ?kT ?kA ?kH ?kf ?kk ?kd ?ku ?hp ?_
  tb_start
  case hp=>exact U1
  (intro kzQ r2 h2 tk2 la2 F2 N2 zr6;(refine E2 zr6 fun t2 fu'=>G5 fun zo66 U2 kp2 gr2 in2=>?_;try clear zr6;rcases zo66 with rfl);unfold kzQ;clear kzQ)
  have hu1:Disj fh fu':=TR.hu.grow gr2 I1.footin
  have bu2:Disj fb' fu':=bu1.grow gr2 B1.footin
  have I2:=I1.move (l':=la2) fun p hp hf=>kp2 p hp (TR.hu _ hf)
  have B2:=B1.move (l':=la2) fun p hp hf=>kp2 p hp (bu1 _ hf)
  have c2:(L'+1,oc)∈la2:=kp2 _ c1 fun h=>nc (TR.u.foot_in _ h) rfl
  have k2:(kt,tupOf vks.toArray nt)∈la2:=kp2 _ k1 nk3
  have q21:=I2.inst
  have q22:=I2.dict
  repeat walk1
  refine Hold.done ?_
  rename ∀ p∈la2,_<_=>lD
  rename_i D hD' _ _
  have habN:ab (kx:Int)=none:=S.abn _ fun h=>by have:=h.2.1;omega
  have hnone:=I.none habN
  refine di_set_o (n':=kx+1) (by k_asm) (by k_asm) (DI.cons I2.above) (by omega) (.inl ⟨hnone,rfl⟩) ?_
  intro h3 tk3 o3 la3 F3 N3 S3 H3
  have hDf:D∉fh:=fun h=>by
   (refine E1 (I2.footin _ h) fun o ho=>?_)
   exact absurd (lD _ ho) (Nat.lt_irrefl _)
  have I3:=(I2.cons (l':=news)).put (us:=[]) S3 (.head _) hDf .nil (by show 0<60;omega) (by omega) H3
  have fda:∀ {a:Addr},a∈fb'∨a∈fu'->a≠da:=fun {a} h e=>by
   rcases h with h | h
   ·exact hb1 da f6 (e ▸ h)
   ·exact hu1 da f6 (e ▸ h)
  have kp3:Hold (∀ p∈la2,p.1≠da->p∈la3):=fun p hp e=>S3.keep p (.tail _ hp) e
  have B3:=B2.move (l':=la3) fun p hp hf=>kp3 p hp (fda (.inl hf))
  have U3:=U2.move (l':=la3) fun p hp hf=>kp3 p hp (fda (.inr hf))
  have c3:(L'+1,oc)∈la3:=kp3 _ c2 (nc (I.footin _ f6))
  have k3:(kt,tupOf vks.toArray nt)∈la3:=kp3 _ k2 fun e=>nk1 (by rw [show kt=da from e];exact f6)
  have hb3:Disj (fh++[D]) fb':=fun a ha h=>by
   rcases List.mem_append.mp ha with ha | ha
   ·exact hb1 a ha h
   ·(refine E1 (B2.footin _ h) fun o ho=>?_)
    rw [List.mem_singleton.mp ha] at ho
    exact absurd (lD _ ho) (Nat.lt_irrefl _)
  have hu3:Disj (fh++[D]) fu':=fun a ha h=>by
   rcases List.mem_append.mp ha with ha | ha
   ·exact hu1 a ha h
   ·(refine E1 (U2.foot_in _ h) fun o ho=>?_)
    rw [List.mem_singleton.mp ha] at ho
    exact absurd (lD _ ho) (Nat.lt_irrefl _)
  have q31:=I3.inst
  have q32:=I3.dict
  have A3:HAt w hp b u kn (fun j=>if j=(kx:Int) then some [] else ab j) [] (kx+1) EE (fh++[D]) la3:=⟨_,_,_,_,_,_,_,_,_,_,_,_,_,_,_,_,I3⟩
  have FO3:=S.fo.make
  have hln:(ns++[(ns.length:Int)]).length=ns.length+1:=by rw [List.length_append,List.length_singleton]
  have hkr:=kidS_lt (n:=kx) (Nat.le_refl kx)
  have cD:L'+1∉fh++[D]:=fun h=>by
   rcases List.mem_append.mp h with h | h
   ·exact nc (I.footin _ h) rfl
   ·have:=lD _ c2
    rw [List.mem_singleton.mp h] at this
    exact absurd this (Nat.lt_irrefl _)
  have adr1:∀ p∈news,∃ o,(p.1,o)∈la1:=fun p hp=>by
   by_cases e2:p.1∈fb
   ·exact B1.footin _ (in1 _ e2)
   exact ⟨p.2,kp1 p (.tail _ hp) e2⟩
  have adr2:∀ p∈news,∃ o,(p.1,o)∈la2:=fun p hp=>by
   (refine E1 (adr1 p hp) fun o ho=>?_)
   by_cases e2:p.1∈fu
   ·exact U2.foot_in _ (in2 _ e2)
   exact ⟨o,kp2 _ ho e2⟩
  have nD:∀ p∈news,p.1≠D:=fun p hp e=>by
   (refine E1 (adr2 p hp) fun o ho=>?_)
   rw [e] at ho
   exact absurd (lD _ ho) (Nat.lt_irrefl _)
  have ST3:Step3 fh fb fu (fh++[D]) fb' fu' news la3:=⟨fun p hp e1 e2 e3=>kp3 p (kp2 p (kp1 p (.tail _ hp) e2) e3) (fun e=>e1 (e ▸ f6)),fun a h=>by
   rcases List.mem_append.mp h with h | h
   ·exact .inl h
   ·exact .inr fun p hp=>by rw [List.mem_singleton.mp h];exact nD p hp,fun a h=>by
   rcases gr1 a h with h | h
   ·exact .inl h
   ·exact .inr fun p hp=>h p (.tail _ hp),fun a h=>by
   rcases gr2 a h with h | h
   ·exact .inl h
   ·refine .inr fun p hp e=>?_
    (refine E1 (adr1 p hp) fun o ho=>?_)
    exact h _ ho e,fun a h=>List.mem_append_left _ h,in1,in2⟩
  have cB:L'+1∉fb':=fun h=>by
   rcases gr1 _ h with h | h
   ·exact nc (TR.b.footin _ h) rfl
   ·exact h _ (.head _) rfl
  have cU:L'+1∉fu':=fun h=>by
   rcases gr2 _ h with h | h
   ·exact nc (TR.u.foot_in _ h) rfl
   ·exact h _ c1 rfl
  clear q11 q12 q21 q22 k1 k2 c1 c2 I1 I2 U1 B1 U2 B2 adr1 adr2
  repeat walk1
  refine Hold.done (comp_tup_ints (fun k=>(ls++[(ns.length:Int)]).getD k.toNat 0) rfl (by k_asm) (by k_asm) (by k_mem) hik (by have:=kidS_len kx;omega) ?_ ?_)
  ·intro j t I oI C oC D' m₂ ys h tk E' hj hC hx F4 N4 off
   have hj2:=hkr j hj
   repeat walk1
   refine ⟨_,_,_,rfl,by k_asm,by k_asm,off,trivial,rfl,_,rfl⟩
  intro D4 ys4 h4 tk4 hys4 F4 N4 nD4
  have hkl:(kidS kx).map (fun k=>(ls++[(ns.length:Int)]).getD k.toNat 0)=kidL ls kx:=by
   unfold kidL
   refine List.map_congr_left fun k hk=>?_
   have:=hkr k hk
   rw [getD_app_lt (by omega)]
  rw [hkl] at hys4
  have hys4l:=hys4.length
  have hkll:=kidL_len ls kx
  repeat walk1
  rename_i D5 hh5 tk5 o5 ms5 lt5 S5 e5 zz5 D6 hh6 tk6 vs6 ns6 c6 F6 N6 lt6 i6 p6 r6
  have ens:=one_of hkll e5 zz5 p6
  subst ens
  have kl3:Hold (∀ p∈la3,p∈(D6,PySem.W.listOf vs6.toArray c6)::(D5,o5)::(D4,PySem.W.listOf ys4.toArray ys4.length)::la3):=fun p hp=>.tail _ (.tail _ (.tail _ hp))
  have nD6:D6∉fh++[D]:=fun h=>by
   (refine E1 (A3.footin _ h) fun o ho=>?_)
   exact absurd (lt6 _ (.tail _ (.tail _ ho))) (Nat.lt_irrefl _)
  refine Hold.done (for_list_J (fun i l=>HAt w hp b u kn (abAdd (fun j=>if j=(kx:Int) then some [] else ab j) ((kidL ls kx).take i) kx) [] (kx+1) EE (fh++[D]) l/\∀ p∈(D6,PySem.W.listOf vs6.toArray c6)::(D5,o5)::(D4,PySem.W.listOf ys4.toArray ys4.length)::la3,p.1∉fh++[D]->p∈l) rfl (by k_asm) (by k_asm) (.head _) ⟨?_,fun p hp _=>hp⟩ ?_ ?_ ?_)
  ·rw [List.take_zero,abAdd_nil];exact A3.cons.cons.cons
  ·exact fun i l h=>h.2 _ (.head _) nD6
  ·intro i v l7 h7 tk7 I7 oI7 hv hJ hI7 F7 N7
   (refine G2 ?_ hJ;try clear hJ;intro A7 k7)
   (refine E1 (ints_at i6 hv) fun t7=>G2 fun zo67 hil=>?_;rcases zo67 with rfl)
   have hi0:i=0:=by omega
   subst hi0
   rw [List.take_zero,abAdd_nil] at A7
   (refine E16 A7 fun dh' le' lf' dk' da' lw' kk' n1' n2' n3' n4' ve' vf' vw' kxs' fa' J7=>?_;try clear A7)
   have hroot:isRoot ls ((kidL ls kx).getD 0 0):=by
    (refine G2 ?_ (mem_kidL.mp (getD_mem (d:=0) hil));intro x1 x2)
    rw [← x2]
    exact isRoot_lab S.fo (by omega)
   (refine E1 (S.abr _ hroot) fun uc=>G2 fun euc puc=>?_)
   have hul:uc.length<=ls.length:=by rw [puc.length_eq];exact usersOf_len _ _
   have eab:(fun j=>if j=(kx:Int) then some [] else ab j) ((kidL ls kx).getD 0 0)=some uc:=by
    show (if _ then _ else _)=_
    rw [if_neg (by have:=hroot.2.1;omega)];exact euc
   obtain ⟨ac,vc,nc9,p1,p2,p3,p4⟩:∃ ac vs n,fa' ((kidL ls kx).getD 0 0)=some ac/\(ac,PySem.W.listOf (List.toArray vs) n)∈l7/\IntsAre vs uc/\uc.length<60:=by
    rcases J7.users ((kidL ls kx).getD 0 0) with ⟨_,h⟩ | ⟨a,us,vs,n,h1,h2,h3,h4,h5⟩
    ·have h:=eab.symm.trans h
     cases h
    ·have h2:=eab.symm.trans h2
     cases h2;refine K3 a vs n (M4 h1 h3 h4 h5)
   have q71:=J7.inst
   have q72:=J7.dict
   have q73:=J7.above
   have c7:(L'+1,oc)∈l7:=k7 _ (.tail _ (.tail _ (.tail _ c3))) cD
   have hvc:=p3.length
   have kk7:Hold (∀ p∈(D6,PySem.W.listOf vs6.toArray c6)::(D5,o5)::(D4,PySem.W.listOf ys4.toArray ys4.length)::la3,p.1∉fh++[D]->p∈l7):=k7
   clear k7
   repeat walk1
   refine Hold.done (di_item (by k_asm) (DI.cons q73) p1 ?_)
   intro tk8
   repeat walk1
   rename SetTo ac _ _ _=>S8
   have acf:=J7.feet.2.2.2.2.2.2.2.2 _ _ p1
   have J8:=(J7.cons (l':=l7)).addUser p1 eab (.tail _ p2) p3 (by omega) S8
   rw [abAdd_one hkll hil eab] at J8
   refine ForEnd.mkS (by k_asm) (by k_asm) (S8.keep _ (.head _) (Ne.symm (hI7 _ p2))) fun l9 k9=>⟨⟨⟨_,_,_,_,_,_,_,_,_,_,_,_,_,_,_,_,J8.move fun p hp hf=>k9 p hp fun e=>?_⟩,fun p hp hn=>k9 p (S8.keep p (.tail _ (kk7.out p hp hn)) fun e=>hn (by rw [show p.1=ac from e];exact acf)) (hI7 p (kk7.out p hp hn))⟩,rfl⟩
   (refine E1 (J7.footin _ hf) fun o ho=>?_)
   exact hI7 _ ho e
  ·intro ov l7 h7 tk7 hJ F7 N7
   (refine G2 ?_ hJ;try clear hJ;intro A7 k7)
   rw [i6.length,List.take_length] at A7
   have k7':∀ p∈la3,p.1∉fh++[D]->p∈l7:=fun p hp hn=>k7 p (.tail _ (.tail _ (.tail _ hp))) hn
   have kk7:Hold (∀ p∈la3,p.1∉fh++[D]->p∈l7):=k7'
   have B7:=B3.move (l':=l7) fun p hp hf=>k7' p hp fun h=>hb3 _ h hf
   have U7:=U3.move (l':=l7) fun p hp hf=>k7' p hp fun h=>hu3 _ h hf
   have SM:=S.make
   have TR7:Trio w hp b u (bankK (kx+1)) kn (abAdd (fun j=>if j=(kx:Int) then some [] else ab j) (kidL ls kx) kx) [] (kx+1) EE (ns++[(ns.length:Int)]) (cs++[[(ns.length:Int)]]) ms (fh++[D]) fb' fu' l7:=⟨A7,B7,U7,hb3,hu3,bu2⟩
   have q71:=k7' _ q31
   (refine E16 A7 fun dh' le' lf' dk' da' lw' kk' n1' n2' n3' n4' ve' vf' vw' kxs' fa' J7=>?_;try clear A7)
   have q71:=J7.inst
   have q72:=J7.dict
   have c7:(L'+1,oc)∈l7:=k7' _ c3 cD
   clear k7 k7'
   dsimp only
   repeat walk1
   refine Hold.done ?_
   refine' con_use (look_conF hp b u (kx+1) kn _ [] EE q _ _ _ ms (fh++[D]) fb' fu' kx _ SM (by omega) hq) ?kB ?kF ?kX ?kN ?kT ?kA ?kH ?kf ?kk ?kd ?ku ?hp ?_
   tb_start
   case hp=>exact TR7
   (intro kzQ r9 h9 tk9 l9 F9 N9 zr6;obtain ⟨rfl,kn',ab',wt',EE',ns',ls',cs',ms',fh',fu9,T9,S9,UP9,ST9,MS9,WB9⟩:=zr6;unfold kzQ;clear kzQ)
   have ewt:wt'=[]:=by
    refine List.eq_nil_iff_forall_not_mem.mpr fun j hj=>?_
    rcases WB9 j hj with h | ⟨h1,h2,h3⟩
    ·cases h
    ·have e1:(ls++[(ns.length:Int)]).getD kx 0=(ns.length:Int):=getD_app_last (by omega)
     have e2:(ls++[(ns.length:Int)]).getD (j - 1).toNat 0=ls.getD (j - 1).toNat 0:=getD_app_lt (by omega)
     have h4:=S.fo.rng (j - 1).toNat (by omega)
     rw [e1,e2] at h3
     omega
   subst ewt
   have c9:(L'+1,oc)∈l9:=ST9.keep _ c7 cD cB cU
   have ST7:Step3 fh fb fu (fh++[D]) fb' fu' news l7:=⟨fun p hp e1 e2 e3=>kk7.out p (ST3.keep p hp e1 e2 e3) (fun h=>by
    rcases List.mem_append.mp h with h | h
    ·exact e1 h
    ·exact nD p hp (List.mem_singleton.mp h)),ST3.gh,ST3.gb,ST3.gu,ST3.ih,ST3.ib,ST3.iu⟩
   have e0:(ns.length:Int)=ls.length:=by omega
   have UP0:Up ls (ls++[(ns.length:Int)]):=by
    rw [e0]
    exact up_snoc fun x hx=>by rw [← e0];exact S.fo.lt x hx
   repeat walk1
   have e3:max kx (kx+1)=kx+1:=by omega
   (refine hret _ _ _ _ ‹_› ‹_› ?_;refine K11 _ kn' ab' EE' ns' ls' cs' ms' fh' fb' fu9 (M5 rfl (by rw [e3];exact T9) (by rw [e3];exact S9) (UP0.trans UP9) (ST7.trans TR7 ST9)))
end
section
example:True:=by
 k_with "g60"=>fail_if_success k_extra "x60"
 k_with "x59"=>skip
 k_with "bank"=>(k_extra "g60";(exists b63,b458,b459,b460,b461,b462,b463,b464,b465,b466,b467,b468,b470,b471,b472))
 k_with "cuton"=>k_extra "g60"
 trivial
example:True:=by
 k_with "call ref"=>(k_extra "g60";((k_here;(with_reducible show wpAny _ _ (call (Value.ref 213) _) _ _ _);k_dflt (refine' con_use (find_con _ _ _ _ _ _ _ _ ?kzFO) ?kB ?kF ?kX ?kN ?kT ?kA ?kH ?kf ?kk ?kd ?ku ?hp ?_;(case kzFO=>assumption);(case hp=>refine ⟨by assumption,by first | assumption | omega,by first | assumption | omega⟩);tb_start); intro kzQ _ _ _ _ _ _ hp';obtain ⟨e',_,e2'⟩:=hp';subst e';subst e2';(try unfold kzQ);(try clear kzQ);(try dsimp only))))
 trivial
noncomputable def Tow:Nat->List Addr->Led->Prop
 | 0,as,l=>∃ a t n,as=[a]/\(a,tupOf (List.toArray [.str (opS 0) t]) n)∈l
 | k+1,as,l=>∃ a a' r t n,as=a::a'::r/\(a,tupOf (List.toArray [.str (opS (k+1)) t,.ref a']) n)∈l/\Tow k (a'::r) l
theorem Tow.move:∀ {k:Nat}{as:List Addr}{l l':Led},Tow k as l->(∀ p∈l,p.1∈as->p∈l')->Tow k as l'
 | 0,_,_,_,⟨a,t,n,e,h⟩,hk=>⟨a,t,n,e,hk _ h (by rw [e];exact .head _)⟩
 | k+1,_,_,_,⟨a,a',r,t,n,e,h,ht⟩,hk=>⟨a,a',r,t,n,e,hk _ h (by rw [e];exact .head _),ht.move fun p hp hin=>hk p hp (by rw [e];exact .tail _ hin)⟩
theorem Tow.ins:∀ {k:Nat}{as:List Addr}{l:Led},Tow k as l->∀ a∈as,∃ o,(a,o)∈l
 | 0,_,_,⟨a,t,n,e,h⟩,x,hx=>by rw [e,List.mem_singleton] at hx;exact ⟨_,hx ▸ h⟩
 | k+1,_,_,⟨a,a',r,t,n,e,h,ht⟩,x,hx=>by
  rw [e] at hx
  rcases List.mem_cons.mp hx with hx | hx
  ·exact ⟨_,hx ▸ h⟩
  ·exact ht.ins x hx
theorem Tow.head {k:Nat}{a:Addr}{r:List Addr}{l:Led}(h:Tow k (a::r) l):∃ t its n,(a,tupOf (List.toArray (.str (opS k) t::its)) n)∈l/\its.length=(kidS k).length /\
  ∀ (i:Nat) v,its[i]?=some v->∃ k' a' r',k=k'+1/\i=0/\v = .ref a'/\r=a'::r'/\Tow k' (a'::r') l:=by
 cases k with
 | zero =>
  (refine E3 h ?_;try clear h;intro a t n;refine G2 ?_;intro e h)
  cases e
  refine K3 t [] n (M3 h rfl (fun i v hv=>by simp at hv))
 | succ k =>
  (refine E5 h ?_;try clear h;intro a a' r t n;refine G3 ?_;intro e h ht)
  cases e
  refine K3 t [.ref a'] n (M3 h rfl (fun i v hv=>?_))
  cases i with
  | zero=>refine K3 k a' r (M5 rfl rfl (by simpa using hv.symm) rfl ht)
  | succ i=>simp at hv
example:True:=by
 k_with "ktr_rel"=>(k_extra "g60";(first | with_reducible assumption | ((with_reducible refine BAt.cons ?_);ktr_rel) | ((with_reducible refine HAt.cons ?_);ktr_rel) | ((with_reducible refine UAt.cons ?_);ktr_rel)))
 k_with "call ref"=>(k_extra "g60";(first | ((k_here;(with_reducible show wpAny _ _ (call (Value.ref 296) _) _ _ _);refine Hold.out ?_)) | ((k_here;(with_reducible show wpAny _ _ (call (Value.ref 291) _) _ _ _);refine Hold.out ?_))))
 trivial
theorem put_conF {w:World}(hp b u:Addr) (q:Nat) (hq:q<10):∀ (kx:Nat) (hkx:kx<24) (N:Nat) (kn:List (List Mix × Int)) (ab:Int->Option (List Int)) (EE:Nat) (ns ls:List Int) (cs:List (List Int)) (ms:List (Int × Int)) (fh fb fu:List Addr)
  (S:St N kn ab [] EE q ns ls cs ms) (hN:N<24) (ta:Addr) (tas:List Addr),
  Con w 296 [.ref hp,.ref ta] (400+10 * kx) (4000+100 * kx) (fun news=>Trio w hp b u (bankK N) kn ab [] N EE ns cs ms fh fb fu news/\Tow kx (ta::tas) news/\∀ x∈ta::tas,x∉fh/\x∉fb/\x∉fu)
   (fun news news' r=>∃ t kn' ab' EE' ns' ls' cs' ms' fh' fb' fu',r = .int (kx:Int) t/\Trio w hp b u (bankK (max N (kx+1))) kn' ab' [] (max N (kx+1)) EE' ns' cs' ms' fh' fb' fu' news'/\St (max N (kx+1)) kn' ab' [] EE' q ns' ls' cs' ms'/\Up ls ls'/\Step3 fh fb fu fh' fb' fu' news news'):=by
 intro kx
 induction kx using Nat.strongRecOn with
 | ind kx ih =>
 intro hkx N kn ab EE ns ls cs ms fh fb fu S hN ta tas
 (intro mean mg mb dp un gd env outer A₀ base hO L m news s Q E B F X NW T hf hk hd hu zr26 hret;(refine G3 ?_ zr26;try clear zr26;intro TR TW off))
 have U:=TR.h
 have U':=U
 (refine E16 U' fun dh le lf dk da lw kk n1 n2 n3 n4 ve vf vw kxs fa I=>?_;try clear U')
 have m1:=I.inst
 have m2:=I.dict
 clear I
 (refine E3 TW.head fun tx its nt=>G3 fun mta hits hit=>?_)
 have hkl:=kidS_len kx
 refine wpAny_call ?_
 let kzb:List (Str × Value):=[("self",.ref hp),("term",.ref ta)]
 k_extra "c1"
 rename_i oc d1'
 have nc:∀ {a:Addr},(∃ o,(a,o)∈news)->L'+1≠a:=fun {a} h e=>by
  (refine E1 h fun o ho=>?_;try clear h)
  have:=ltn (l1 _ ho)
  subst e
  exact Nat.not_succ_lt_self this
 have cH:L'+1∉fh:=fun h=>nc (TR.h.footin _ h) rfl
 have cB:L'+1∉fb:=fun h=>nc (TR.b.footin _ h) rfl
 have cU:L'+1∉fu:=fun h=>nc (TR.u.foot_in _ h) rfl
 repeat walk1
 rename_i D1 hh1 FF1 NN1 lD1
 have inD:∀ {a:Addr},(∃ o,(a,o)∈news)->D1≠a:=fun {a} h e=>by
  (refine E1 h fun o ho=>?_;try clear h)
  have:=lD1 _ (.tail _ ho)
  rw [e] at this
  exact absurd this (Nat.lt_irrefl _)
 have dH:D1∉fh:=fun h=>inD (TR.h.footin _ h) rfl
 have dB:D1∉fb:=fun h=>inD (TR.b.footin _ h) rfl
 have dU:D1∉fu:=fun h=>inD (TR.u.foot_in _ h) rfl
 refine Hold.done (comp_tup (fun i ys l=>∃ N' kn' ab' EE' ns' ls' cs' ms' fh' fb' fu',N'=(if i=0 then N else max N kx)/\Trio w hp b u (bankK N') kn' ab' [] N' EE' ns' cs' ms' fh' fb' fu' l/\St N' kn' ab' [] EE' q ns' ls' cs' ms'/\Up ls ls' /\
   Step3 fh fb fu fh' fb' fu' ((D1,tupOf its.toArray 0)::(L'+1,oc)::news) l/\IntsAre ys ((kidS kx).take i)) rfl (by k_asm) (by k_asm) (.head _) (by omega) ⟨N,kn,ab,EE,ns,ls,cs,ms,fh,fb,fu,rfl,TR.cons.cons,S,.rfl,Step3.of fun p hp=>hp,.nil⟩ ?_ ?_ ?_)
 ·(intro i ys l zr3;(refine E11 zr3 fun N' kn' ab' EE' ns' ls' cs' ms' fh' fb' fu'=>G6 fun eN T1 S1 UP1 ST1 hys=>?_;try clear zr3))
  exact ST1.keep _ (.head _) dH dB dU
 ·(intro i v I oI C oC D m₂ ys l h tk E' hv zr14 hC hx F9 N9 offI;(refine E11 zr14 fun N' kn' ab' EE' ns' ls' cs' ms' fh' fb' fu'=>G6 fun eN T1 S1 UP1 ST1 hys=>?_;try clear zr14))
  (refine E3 (hit i v hv) fun k' a' r'=>G5 fun ekx ei zo68 er TWk=>?_;rcases zo68 with rfl)
  subst ei
  rw [if_pos rfl] at eN
  subst eN
  have om:=offI.mem
  have ad1:=T1.addr ST1
  have c9:(L'+1,oc)∈l:=ST1.keep _ (.tail _ (.head _)) cH cB cU
  have A1:=T1.h
  (refine E16 A1 fun dh' le' lf' dk' da' lw' kk' n1' n2' n3' n4' ve' vf' vw' kxs' fa' J1=>?_;try clear A1)
  have q1:=J1.inst
  have q2:=J1.dict
  have c9':(L'+1,oc)∈(I,oI)::(C,oC)::(D,LCg.lst ys)::l:=.tail _ (.tail _ (.tail _ c9))
  repeat walk1
  refine Hold.done ?_
  have T3:Trio w hp b u (bankK N') kn' ab' [] N' EE' ns' cs' ms' fh' fb' fu' ((I,oI)::(C,oC)::(D,LCg.lst ys)::l):=T1.cons.cons.cons
  have lk:∀ x∈a'::r',(∃ o,(x,o)∈(D1,tupOf its.toArray 0)::(L'+1,oc)::news)/\x∉fh/\x∉fb/\x∉fu:=fun x hx=>by
   (refine E1 (TWk.ins x hx) fun o ho=>?_)
   exact ⟨⟨o,.tail _ (.tail _ ho)⟩,off x (.tail _ (er ▸ hx))⟩
  refine' con_use (ih k' (by omega) (by omega) N' kn' ab' EE' ns' ls' cs' ms' fh' fb' fu' S1 (by omega) a' r') ?kB ?kF ?kX ?kN ?kT ?kA ?kH ?kf ?kk ?kd ?ku ?hp ?_
  tb_start
  case hp =>
   refine M3 T3 (TWk.move fun p hp hin=>.tail _ (.tail _ (.tail _ (ST1.keep p (.tail _ (.tail _ hp)) (lk _ hin).2.1 (lk _ hin).2.2.1 (lk _ hin).2.2.2)))) (fun x hx=>?_)
   (refine G4 ?_ (lk x hx);intro e1 e2 e3 e4)
   refine M3 (ST1.gh.apart e1 e2) (ST1.gb.apart e1 e3) (ST1.gu.apart e1 e4)
  (intro kzQ r2 h2 tk2 l2 F2 N2 zr6;(refine E11 zr6 fun t2 kn2 ab2 EE2 ns2 ls2 cs2 ms2 fh2 fb2 fu2=>G5 fun zo69 T2 S2 UP2 ST2=>?_;try clear zr6;rcases zo69 with rfl);unfold kzQ;clear kzQ)
  have eM:max N' (k'+1)=max N' kx:=by omega
  rw [eM] at T2 S2
  have offD:∀ {f:List Addr},(∀ a∈f,∃ o,(a,o)∈l)->I∉f/\C∉f/\D∉f:=fun {f} hf=>⟨fun h=>by (refine E1 (hf _ h) fun o ho=>?_);exact (om _ ho).1 rfl,fun h=>by (refine E1 (hf _ h) fun o ho=>?_);exact (om _ ho).2.1 rfl,fun h=>by (refine E1 (hf _ h) fun o ho=>?_);exact (om _ ho).2.2 rfl⟩
  have oH:=offD T1.h.footin
  have oB:=offD T1.b.footin
  have oU:=offD T1.u.foot_in
  have iI:(∃ o,(I,o)∈(I,oI)::(C,oC)::(D,LCg.lst ys)::l):=⟨_,.head _⟩
  have iC:(∃ o,(C,o)∈(I,oI)::(C,oC)::(D,LCg.lst ys)::l):=⟨_,.tail _ (.head _)⟩
  have iD:(∃ o,(D,o)∈(I,oI)::(C,oC)::(D,LCg.lst ys)::l):=⟨_,.tail _ (.tail _ (.head _))⟩
  have ST12:=(ST1.cons3 (p1:=(I,oI)) (p2:=(C,oC)) (p3:=(D,LCg.lst ys))).trans T3 ST2
  refine CompEnd.mkS (by k_asm) (by k_asm) (ST2.keep _ (.head _) oH.1 oB.1 oU.1) (ST2.keep _ (.tail _ (.head _)) oH.2.1 oB.2.1 oU.2.1) (ST2.keep _ (.tail _ (.tail _ (.head _))) oH.2.2 oB.2.2 oU.2.2) fun l9 k9 =>
   ⟨max N' kx,kn2,ab2,EE2,ns2,ls2,cs2,ms2,fh2,fb2,fu2,rfl,T2.move fun p hp hin=>k9 p hp (fun e=>?_) (fun e=>?_) (fun e=>?_),S2,UP1.trans UP2,⟨fun p hp e1 e2 e3=>k9 p (ST12.keep p hp e1 e2 e3) ?_ ?_ ?_,ST12.gh,ST12.gb,ST12.gu,ST12.ih,ST12.ib,ST12.iu⟩,?_⟩
  ·rw [e] at hin
   rcases hin with h | h | h
   ·exact ST2.gh.apart iI oH.1 h
   ·exact ST2.gb.apart iI oB.1 h
   ·exact ST2.gu.apart iI oU.1 h
  ·rw [e] at hin
   rcases hin with h | h | h
   ·exact ST2.gh.apart iC oH.2.1 h
   ·exact ST2.gb.apart iC oB.2.1 h
   ·exact ST2.gu.apart iC oU.2.1 h
  ·rw [e] at hin
   rcases hin with h | h | h
   ·exact ST2.gh.apart iD oH.2.2 h
   ·exact ST2.gb.apart iD oB.2.2 h
   ·exact ST2.gu.apart iD oU.2.2 h
  ·(refine E1 (ad1 p hp) fun o ho=>?_);exact (om _ ho).1
  ·(refine E1 (ad1 p hp) fun o ho=>?_);exact (om _ ho).2.1
  ·(refine E1 (ad1 p hp) fun o ho=>?_);exact (om _ ho).2.2
  ·have e5:kidS kx=[(k':Int)]:=by
    unfold kidS
    rw [if_neg (by omega),ekx,Nat.add_sub_cancel]
   rw [e5] at hys ⊢
   exact hys.append (.cons _ _ .nil)
 ·(intro D ys l h tk zr5 F9 N9 nD9;(refine E11 zr5 fun N' kn' ab' EE' ns' ls' cs' ms' fh' fb' fu'=>G6 fun eN T1 S1 UP1 ST1 hys=>?_;try clear zr5))
  have eN2:N'=max N kx:=by
   rw [eN]
   by_cases e:its.length=0
   ·rw [if_pos e]
    have:kx=0:=by
     by_cases e2:kx=0
     ·exact e2
     ·unfold kidS at hits
      rw [if_neg e2] at hits
      simp at hits
      omega
    omega
   ·rw [if_neg e]
  rw [hits,List.take_length] at hys
  have hysl:=hys.length
  have c9:(L'+1,oc)∈l:=ST1.keep _ (.tail _ (.head _)) cH cB cU
  have t9:(ta,tupOf (List.toArray (.str (opS kx) tx::its)) nt)∈l:=ST1.keep _ (.tail _ (.tail _ mta)) (off ta (.head _)).1 (off ta (.head _)).2.1 (off ta (.head _)).2.2
  have A1:=T1.h
  (refine E16 A1 fun dh' le' lf' dk' da' lw' kk' n1' n2' n3' n4' ve' vf' vw' kxs' fa' J1=>?_;try clear A1)
  have q1:=J1.inst
  have q2:=J1.dict
  clear J1
  repeat walk1
  rename ∀ p∈(_,_)::l,_<_=>lt9
  refine Hold.done ?_
  refine' con_use (add_conF hp b u N' kx kn' ab' EE' q ns' ls' cs' ms' fh' fb' fu' S1 (by omega) (by omega) hq _ tx 0 ys hys) ?kB ?kF ?kX ?kN ?kT ?kA ?kH ?kf ?kk ?kd ?ku ?hp ?_
  tb_start
  case hp =>
   refine M5 T1.cons.cons (.head _) (fun h=>?_) (fun h=>?_) (fun h=>?_)
   ·(refine E1 (T1.h.footin _ h) fun o ho=>?_)
    exact absurd (lt9 _ (.tail _ ho)) (Nat.lt_irrefl _)
   ·(refine E1 (T1.b.footin _ h) fun o ho=>?_)
    exact absurd (lt9 _ (.tail _ ho)) (Nat.lt_irrefl _)
   ·(refine E1 (T1.u.foot_in _ h) fun o ho=>?_)
    exact absurd (lt9 _ (.tail _ ho)) (Nat.lt_irrefl _)
  (intro kzQ r3 h3 tk3 l3 F3 N3 zr6;(refine E11 zr6 fun t3 kn3 ab3 EE3 ns3 ls3 cs3 ms3 fh3 fb3 fu3=>G5 fun zo70 T3 S3 UP3 ST3=>?_;try clear zr6;rcases zo70 with rfl);unfold kzQ;clear kzQ)
  have eM:max N' (kx+1)=max N (kx+1):=by omega
  rw [eM] at T3 S3
  repeat walk1
  (refine hret _ _ _ _ ‹_› ‹_› ?_;refine K11 _ kn3 ab3 EE3 ns3 ls3 cs3 ms3 fh3 fb3 fu3 (M5 rfl T3 S3 (UP1.trans UP3) (ST1.tail2.cons2.trans T1.cons.cons ST3)))
end
section
example:True:=by
 k_with "g61"=>fail_if_success k_extra "x61"
 k_with "x60"=>skip
 k_with "bank"=>(k_extra "g61";(exists b473,b474,b475,b476,b477,b478,b130,b479,b480,b100))
 trivial
example:True:=by
 k_with "call ref"=>(k_extra "g61";((k_here;(with_reducible show wpAny _ _ (call (Value.ref 213) _) _ _ _);k_dflt (refine' con_use (find_con _ _ _ _ _ _ _ _ ?kzFO) ?kB ?kF ?kX ?kN ?kT ?kA ?kH ?kf ?kk ?kd ?ku ?hp ?_;(case kzFO=>assumption);(case hp=>refine ⟨by assumption,by first | assumption | omega,by first | assumption | omega⟩);tb_start); intro kzQ _ _ _ _ _ _ hp';obtain ⟨e',_,e2'⟩:=hp';subst e';subst e2';(try unfold kzQ);(try clear kzQ);(try dsimp only))))
 trivial
example:True:=by
 k_with "ktr_rel"=>(k_extra "g61";(first | with_reducible assumption | ((with_reducible refine BAt.cons ?_);ktr_rel) | ((with_reducible refine HAt.cons ?_);ktr_rel) | ((with_reducible refine UAt.cons ?_);ktr_rel)))
 k_with "call ref"=>(k_extra "g61";((k_here;(with_reducible show wpAny _ _ (call (Value.ref 303) _) _ _ _);refine Hold.out ?_)))
 k_with "call builtin:list.pop"=>(k_extra "g61";(refine Hold.out ?_))
 trivial
theorem settle_conF {w:World}(hp b u:Addr) (N:Nat) (kn:List (List Mix × Int)) (ab:Int->Option (List Int)) (wt:List Int) (EE q:Nat) (ns ls:List Int) (cs:List (List Int)) (ms:List (Int × Int)) (fh fb fu:List Addr)
  (S:St N kn ab wt EE q ns ls cs ms) (hN:N<=24) (hq:q<10) :
  Con w 338 [.ref hp] 200 2000 (fun news=>Trio w hp b u (bankK N) kn ab wt N EE ns cs ms fh fb fu news)
   (fun news news' r=>r = .none/\∃ kn' ab' EE' ns' ls' cs' ms' fh' fu',Trio w hp b u (bankK N) kn' ab' [] N EE' ns' cs' ms' fh' fb fu' news'/\St N kn' ab' [] EE' q ns' ls' cs' ms'/\Up ls ls'/\Step3 fh fb fu fh' fb fu' news news'):=by
 rintro mean mg mb dp un gd env outer A₀ base hO L m news s Q E B F X NW T hf hk hd hu TR hret
 refine wpAny_call ?_
 let kzb:List (Str × Value):=[("self",.ref hp)]
 k_extra "c0"
 walk1
 walk1
 refine While_inv (n₀:=wt.length+25 * cnt ls) (fun n m₁ l=>m₁=fm [("self",.ref hp)]/\∃ kn' ab' wt' EE' ns' ls' cs' ms' fh' fu',n=wt'.length+25 * cnt ls'/\Trio w hp b u (bankK N) kn' ab' wt' N EE' ns' cs' ms' fh' fb fu' l/\St N kn' ab' wt' EE' q ns' ls' cs' ms'/\Up ls ls'/\Step3 fh fb fu fh' fb fu' news l) F' N' ⟨by rfl,kn,ab,wt,EE,ns,ls,cs,ms,fh,fu,rfl,TR,S,.rfl,Step3.of fun p hp=>hp⟩ ?_
 (intro n m₁ l h₁ tk₁ F₁ N₁ zr7;obtain ⟨rfl,kn',ab',wt',EE',ns',ls',cs',ms',fh',fu',en,T1,S1,UP1,ST1⟩:=zr7)
 have A1:=T1.h
 (refine E16 A1 fun dh' le' lf' dk' da' lw' kk' n1' n2' n3' n4' ve' vf' vw' kxs' fa' J1=>?_;try clear A1)
 have q1:=J1.inst
 have q2:=J1.dict
 have q3:=J1.waiting
 have iw:=J1.wints
 have hwl:=iw.length
 have hsm:=J1.small
 repeat walk1
 ·refine Hold.done (pop_o (by k_asm) (by k_asm) q3 iw (by omega) (by omega) ?_)
  intro h2 l2 t2 F2 N2 S2 i2
  have f1:=J1.feet
  (refine G9 ?_ f1;try clear f1;intro f1 f2 f3 f4 f5 f6 f7 f8 f9)
  have hnod:=nod7 J1.nod
  (refine G3 ?_ hnod;try clear hnod;intro zo71 zo72 _;obtain ⟨z1,z2,z3,z4,z5,z6⟩:=zo71;obtain ⟨z7,z8,z9,z10,z11⟩:=zo72)
  have hdl:wt'.dropLast.length+1=wt'.length:=by rw [List.length_dropLast];omega
  have J2:=J1.setWaiting S2 i2 (by omega)
  have SP:=S1.perm (last_first (by omega))
  (refine G2 ?_ (SP.pds _ (.head _));intro b1 b2)
  obtain ⟨m,em⟩:∃ m:Nat,wt'.getLastD 0=(m:Int):=⟨(wt'.getLastD 0).toNat,by omega⟩
  rw [em] at SP ⊢
  have T2:Trio w hp b u (bankK N) kn' ab' wt'.dropLast N EE' ns' cs' ms' fh' fb fu' l2:=⟨⟨_,_,_,_,_,_,_,_,_,_,_,_,_,_,_,_,J2⟩,T1.b.move fun p hp hf=>S2.keep p hp fun e=>T1.hb _ f7 (e ▸ hf),T1.u.move fun p hp hf=>S2.keep p hp fun e=>T1.hu _ f7 (e ▸ hf),T1.hb,T1.hu,T1.bu⟩
  have q21:=J2.inst
  have q22:=J2.dict
  clear q1 q2
  repeat walk1
  refine Hold.done ?_
  refine' con_use (look_conF hp b u N kn' ab' wt'.dropLast EE' q ns' ls' cs' ms' fh' fb fu' m _ SP hN hq) ?kB ?kF ?kX ?kN ?kT ?kA ?kH ?kf ?kk ?kd ?ku ?hp ?_
  tb_start
  case hp=>exact T2
  (intro kzQ r3 h3 tk3 l3 F3 N3 zr6;obtain ⟨rfl,kn3,ab3,wt3,EE3,ns3,ls3,cs3,ms3,fh3,fu3,T3,S3,UP3,ST3,MS3,_⟩:=zr6;unfold kzQ;clear kzQ)
  have ST12:Step3 fh fb fu fh' fb fu' news l2:=⟨fun p hp e1 e2 e3=>S2.keep p (ST1.keep p hp e1 e2 e3) (fun e=>ST1.gh.apart ⟨_,hp⟩ e1 (e ▸ f7)),ST1.gh,ST1.gb,ST1.gu,ST1.ih,ST1.ib,ST1.iu⟩
  repeat walk1
  exact WhileStep.intro F3 N3 (n':=wt3.length+25 * cnt ls3) (by omega) ⟨rfl,kn3,ab3,wt3,EE3,ns3,ls3,cs3,ms3,fh3,fu3,rfl,T3,S3,UP1.trans UP3,ST12.trans T2 ST3⟩
 ·have e0:wt'=[]:=List.eq_nil_of_length_eq_zero (by omega)
  subst e0
  repeat walk1
  (refine hret _ _ _ _ ‹_› ‹_› ?_;refine ⟨rfl,kn',ab',EE',ns',ls',cs',ms',fh',fu',T1,S1,UP1,ST1⟩)
end
section
example:True:=by
 k_with "x61"=>skip
 k_with "bank"=>((fail_if_success k_extra "x62");(exists b80))
 k_with "la"=>(fail_if_success k_extra "x62")
 trivial
example:True:=by
 k_with "call ref"=>((fail_if_success k_extra "x62");((k_here;(with_reducible show wpAny _ _ (call (Value.ref 213) _) _ _ _);k_dflt (refine' con_use (find_con _ _ _ _ _ _ _ _ ?kzFO) ?kB ?kF ?kX ?kN ?kT ?kA ?kH ?kf ?kk ?kd ?ku ?hp ?_;(case kzFO=>assumption);(case hp=>refine ⟨by assumption,by first | assumption | omega,by first | assumption | omega⟩);tb_start); intro kzQ _ _ _ _ _ _ hp';obtain ⟨e',_,e2'⟩:=hp';subst e';subst e2';(try unfold kzQ);(try clear kzQ);(try dsimp only))))
 trivial
theorem hmerge_con {w:World}(hp b u:Addr) (kn:List (List Mix × Int)) (ab:Int->Option (List Int)) (wt:List Int) (NN EE:Nat) (footh:List Addr) (ns ls:List Int) (cs:List (List Int)) (ms:List (Int × Int)) (footu:List Addr) (FO:Forest ns ls)
  (i j:Int) (ti tj:Tok) (rs:Addr) (k g:Int) (hk':k=min (ls.getD i.toNat 0) (ls.getD j.toNat 0)) (hg':g=max (ls.getD i.toNat 0) (ls.getD j.toNat 0)) (uk ug:List Int)
  (hsz:k≠g->(cs.getD k.toNat []).length+(cs.getD g.toNat []).length<60) (hms:ms.length<50) (hE:EE<900) (habk:k≠g->ab k=some uk) (habg:k≠g->ab g=some ug) (hkg:k≠g->uk.length+ug.length<60/\wt.length+ug.length<1000) (hdu:∀ a∈footh,a∉footu) :
  Con w 324 [.ref hp,.int i ti,.int j tj,.ref rs] 80 800 (fun news=>HAt w hp b u kn ab wt NN EE footh news/\UAt w u ns cs ms footu news/\(0<=i/\i<ns.length)/\0<=j/\j<ns.length)
   (fun news news' r=>(k=g/\r = .bool false/\HAt w hp b u kn ab wt NN (EE+1) footh news'/\UAt w u ns cs ms footu news'/\Keeps footh news news') ∨
    (k≠g/\r = .bool true/\∃ footh' footu',HAt w hp b u kn (fun j=>if j=k then some (uk++ug) else if j=g then none else ab j) (wt++ug) NN (EE+1) footh' news' /\
     UAt w u (ns.set g.toNat k) (cs.set k.toNat (cs.getD k.toNat []++cs.getD g.toNat [])) (ms++[(k,g)]) footu' news'/\(∀ a∈footh',a∉footu') /\
     (∀ p∈news,p.1∉footh->p.1∉footu->p∈news')/\Grow footh footh' news/\Grow footu footu' news/\(∀ a∈footh,a∈footh')/\∀ a∈footu,a∈footu')):=by
 (intro mean mg mb dp un gd env outer A₀ base hO L m news s Q E B F X N T hf hk hd hu zr26 hret;(refine G4 ?_ zr26;try clear zr26;intro U UU h0 h1))
 have U':=U
 (refine E16 U' fun dh le lf dk da lw kk n1 n2 n3 n4 ve vf vw kxs fa I=>?_;try clear U')
 have m1:=I.inst
 have m2:=I.dict
 refine wpAny_call ?_
 let kzb:List (Str × Value):=[("self",.ref hp),("a",.int i ti),("b",.int j tj),("reason",.ref rs)]
 k_extra "c0"
 k_steps
 refine' con_use (join_con hp b u kn ab wt NN EE footh ns ls cs ms footu FO i j _ _ rs k g hk' hg' uk ug hsz hms hE habk habg hkg hdu) ?kB ?kF ?kX ?kN ?kT ?kA ?kH ?kf ?kk ?kd ?ku ?hp ?_
 tb_start
 case hp=>refine M4 U UU h0 h1
 (intro kzQ r' h' tk' l' F' N' hp';unfold kzQ;clear kzQ)
 rcases hp' with ⟨ekg,er,x1,x2,x3⟩ | ⟨nkg,er,fh,fu,x1,x2,x3,x4,x5,x6,x7,x8⟩
 ·subst er
  k_steps
  (refine hret _ _ _ _ ‹_› ‹_› (.inl ?_);refine M5 ekg rfl x1 x2 x3)
 ·subst er
  k_steps
  (refine hret _ _ _ _ ‹_› ‹_› (.inr ?_);refine ⟨nkg,rfl,fh,fu,x1,x2,x3,x4,x5,x6,x7,x8⟩)
end
section
example:True:=by
 k_with "g63"=>fail_if_success k_extra "x63"
 k_with "x62"=>skip
 k_with "bank"=>(k_extra "g63";(exists b481,b88,b81,b440,b482,b483))
 k_with "la"=>k_extra "g63"
 k_with "lb"=>k_extra "g63"
 k_with "lc"=>k_extra "g63"
 k_with "ld"=>k_extra "g63"
 trivial
example:True:=by
 k_with "call ref"=>(k_extra "g63";((k_here;(with_reducible show wpAny _ _ (call (Value.ref 213) _) _ _ _);k_dflt (refine' con_use (find_con _ _ _ _ _ _ _ _ ?kzFO) ?kB ?kF ?kX ?kN ?kT ?kA ?kH ?kf ?kk ?kd ?ku ?hp ?_;(case kzFO=>assumption);(case hp=>refine M3 ‹_› (by first | assumption | omega) (by first | assumption | omega));tb_start); intro kzQ _ _ _ _ _ _ hp';obtain ⟨e',_,e2'⟩:=hp';subst e';subst e2';(try unfold kzQ);(try clear kzQ);(try dsimp only))))
 trivial
theorem members_con {w:World}(u:Addr) (ns ls:List Int) (cs:List (List Int)) (ms:List (Int × Int)) (foot:List Addr) (a:Int) (ta:Tok) (FO:Forest ns ls) :
  Con w 227 [.ref u,.int a ta] 10 100 (fun news=>UAt w u ns cs ms foot news/\0<=a/\a<ns.length)
   (fun news news' r=>∃ D vs ns' n,r = .ref D/\news'=(D,PySem.W.listOf (List.toArray vs) n)::news/\(∀ p∈news,p.1≠D)/\IntsAre vs ns'/\ns'.Perm (cs.getD (ls.getD a.toNat 0).toNat [])/\ns'.Pairwise (·<=·)):=by
 (intro mean mg mb dp un gd env outer A₀ base hO L m news s Q E B F X N T hf hk hd hu zr26 hret;(refine G3 ?_ zr26;try clear zr26;intro U ha hlt))
 have U':=U
 (refine E14 U' fun du la ll lm nd na nl nm k1 k2 k3 vs as bs=>G2 fun I hfoot=>?_;try clear U')
 have m1:=I.inst
 have m2:=I.dict
 have m3:=I.lots
 (refine G2 ?_ (FO.rng a.toNat (by omega));intro hr0 hr1)
 have hal:as.length=cs.length:=I.lists.1
 have hcl:=I.len
 have hsm:=I.small
 have hx:=ref_at (as:=as) (k:=ls.getD a.toNat 0) (by omega)
 (refine E2 (I.lists.2 (ls.getD a.toNat 0).toNat (by omega)) fun vs2 n2=>G2 fun m4 hi2=>?_)
 have hcm:(cs.getD (ls.getD a.toNat 0).toNat []).length<60:=I.smallc _ (getD_mem (by omega))
 generalize hlad:as.getD (ls.getD a.toNat 0).toNat 0=lad at *
 generalize hcc:cs.getD (ls.getD a.toNat 0).toNat []=cc at *
 refine wpAny_call ?_
 let kzb:List (Str × Value):=[("self",.ref u),("a",.int a ta)]
 k_extra "c0"
 k_steps
 rename ∀ q∈_,_<_=>l9
 (refine hret _ _ _ _ ‹_› ‹_› ?_;refine K4 _ _ _ _ (M6 rfl rfl (fun p hp=>Nat.ne_of_lt (l9 p hp)) ‹_› ‹_› ‹_›))
end
section
example:True:=by
 k_with "g64"=>fail_if_success k_extra "x64"
 k_with "x63"=>skip
 k_with "bank"=>(k_extra "g64";(exists b133,b484,b81,b257,b262))
 k_with "la"=>k_extra "g64"
 k_with "lb"=>k_extra "g64"
 k_with "lc"=>k_extra "g64"
 k_with "ld"=>k_extra "g64"
 trivial
example:True:=by
 k_with "call ref"=>(k_extra "g64";((k_here;(with_reducible show wpAny _ _ (call (Value.ref 213) _) _ _ _);k_dflt (refine' con_use (find_con _ _ _ _ _ _ _ _ ?kzFO) ?kB ?kF ?kX ?kN ?kT ?kA ?kH ?kf ?kk ?kd ?ku ?hp ?_;(case kzFO=>assumption);(case hp=>refine ⟨by assumption,by first | assumption | omega,by first | assumption | omega⟩);tb_start); intro kzQ _ _ _ _ _ _ hp';obtain ⟨e',_,e2'⟩:=hp';subst e';subst e2';(try unfold kzQ);(try clear kzQ);(try dsimp only))))
 trivial
theorem classes_con {w:World}(u:Addr) (ns:List Int) (cs:List (List Int)) (ms:List (Int × Int)) (foot:List Addr) :
  Con w 232 [.ref u] 10 100 (fun news=>UAt w u ns cs ms foot news)
   (fun news news' r=>∃ D vs n,r = .ref D/\news'=(D,PySem.W.listOf (List.toArray vs) n)::news/\(∀ p∈news,p.1≠D)/\IntsAre vs (((List.range ns.length).map fun (i:Nat)=>(i:Int)).filter fun (i:Int)=>ns.getD i.toNat 0 == i)):=by
 intro mean mg mb dp un gd env outer A₀ base hO L m news s Q E B F X N T hf hk hd hu U hret
 (refine E14 U fun du la ll lm nd na nl nm k1 k2 k3 vs as bs=>G2 fun I hfoot=>?_;try clear U)
 have m1:=I.inst
 have m2:=I.dict
 have m3:=I.above
 have hi:=I.vints
 have hsm:=I.small
 refine wpAny_call ?_
 let kzb:List (Str × Value):=[("self",.ref u)]
 k_extra "c1"
 k_steps
 refine Hold.done (compT_range (n:=ns.length) (fun i ys l=>l=(_::news)/\IntsAre ys (((List.range i).map fun (i:Nat)=>(i:Int)).filter fun (i:Int)=>ns.getD i.toNat 0 == i)) rfl (by k_asm) (by k_asm) ‹_› rfl (by omega) ⟨rfl,.nil⟩ ?_ ?_)
 ·(intro i t I oI C oC D m₂ ys l h tk E' hi' zr14 hC hx F1 N1 off;(refine G2 ?_ zr14;try clear zr14;intro zo73 hys;rcases zo73 with rfl))
  k_steps
  ·refine K3 _ _ _ (M6 rfl F1 N1 off trivial ⟨rfl,?_⟩)
   rename _=(i:Int)=>he
   rw [List.range_succ,List.map_append,List.filter_append]
   refine hys.append ?_
   simp only [List.map_cons,List.map_nil,List.filter_cons,List.filter_nil]
   rw [if_pos (by simpa using he)]
   exact .cons _ _ .nil
  ·refine K3 _ _ _ (M6 rfl F1 N1 off trivial ⟨rfl,?_⟩)
   rename _≠(i:Int)=>he
   rw [List.range_succ,List.map_append,List.filter_append]
   simp only [List.map_cons,List.map_nil,List.filter_cons,List.filter_nil]
   rw [if_neg (by simpa using he),List.append_nil]
   exact hys
 ·(intro D ys l h tk zr5 F1 N1 hD;(refine G2 ?_ zr5;try clear zr5;intro zo74 hys;rcases zo74 with rfl))
  k_steps
  rename News hO L _ _=>kN
  refine hret _ _ _ ((D,PySem.W.listOf ys.toArray ys.length)::news) ‹_› (News.sub kN fun p hp=>?_) ⟨D,ys,_,rfl,rfl,fun p hp=>hD p (.tail _ hp),hys⟩
  rcases List.mem_cons.mp hp with e | e
  ·rw [e];exact .head _
  ·exact .tail _ (.tail _ e)
end
section
example:True:=by
 k_with "x64"=>skip
 k_with "bank"=>((fail_if_success k_extra "x65");(exists b485,b171,b148,b257,b489,b486,b487,b488,b236,b238,b158,b243,b226,b159,b490,b250))
 trivial
theorem Con.of {w:World}{f:Addr}{args:List Value}{dd uu:Nat}{pre':Led->Prop}{post':Led->Led->Value->Prop}
  (h:∀ news,pre' news->∃ pre post,Con w f args dd uu pre post/\pre news/\∀ news' r,post news news' r->post' news news' r):Con w f args dd uu pre' post':=by
 intro mean mg mb dp un gd env outer A₀ base hO L m news s Q E B F X N T hf hk hd hu hp hret
 (refine E2 (h news hp) fun pre post=>G3 fun C hp' hi=>?_)
 exact C mean mg mb dp un gd env outer A₀ base hO L m news s Q E B F X N T hf hk hd hu hp' fun r h' tk' news' F' N' p=>hret r h' tk' news' F' N' (hi news' r p)
noncomputable def HS (w:World) (hp:Addr) (N q:Nat) (ls wt:List Int) (foot:List Addr) (l:Led):Prop :=
 ∃ b u kn ab EE ns cs ms fh fb fu,Trio w hp b u (bankK N) kn ab wt N EE ns cs ms fh fb fu l/\St N kn ab wt EE q ns ls cs ms/\foot=fh++(fb++fu)
structure Step1 (f f':List Addr) (l l':Led):Prop where
 keep:∀ p∈l,p.1∉f->p∈l'
 grow:Grow f f' l
 sub:∀ a∈f,a∈f'
theorem Step3.one {fh fb fu fh' fb' fu':List Addr}{l l':Led}(S:Step3 fh fb fu fh' fb' fu' l l'):Step1 (fh++(fb++fu)) (fh'++(fb'++fu')) l l':=by
 refine ⟨fun p hp e=>S.keep p hp (fun h=>e (List.mem_append_left _ h)) (fun h=>e (List.mem_append_right _ (List.mem_append_left _ h))) (fun h=>e (List.mem_append_right _ (List.mem_append_right _ h))),fun a h=>?_,fun a h=>?_⟩
 ·rcases List.mem_append.mp h with h | h
  ·exact (S.gh a h).imp (fun h=>List.mem_append_left _ h) id
  ·rcases List.mem_append.mp h with h | h
   ·exact (S.gb a h).imp (fun h=>List.mem_append_right _ (List.mem_append_left _ h)) id
   ·exact (S.gu a h).imp (fun h=>List.mem_append_right _ (List.mem_append_right _ h)) id
 ·rcases List.mem_append.mp h with h | h
  ·exact List.mem_append_left _ (S.ih a h)
  ·rcases List.mem_append.mp h with h | h
   ·exact List.mem_append_right _ (List.mem_append_left _ (S.ib a h))
   ·exact List.mem_append_right _ (List.mem_append_right _ (S.iu a h))
theorem HS.footin {w:World}{hp:Addr}{N q:Nat}{ls wt:List Int}{foot:List Addr}{l:Led}(H:HS w hp N q ls wt foot l):∀ a∈foot,∃ o,(a,o)∈l:=by
 (refine E11 H fun b u kn ab EE ns cs ms fh fb fu=>G3 fun T S zo75=>?_;try clear H;rcases zo75 with rfl)
 intro a h
 rcases List.mem_append.mp h with h | h
 ·exact T.h.footin a h
 ·rcases List.mem_append.mp h with h | h
  ·exact T.b.footin a h
  ·exact T.u.foot_in a h
theorem HS.move {w:World}{hp:Addr}{N q:Nat}{ls wt:List Int}{foot:List Addr}{l l':Led}(H:HS w hp N q ls wt foot l) (k:∀ p∈l,p.1∈foot->p∈l'):HS w hp N q ls wt foot l':=by
 (refine E11 H fun b u kn ab EE ns cs ms fh fb fu=>G3 fun T S zo76=>?_;try clear H;rcases zo76 with rfl)
 refine K11 b u kn ab EE ns cs ms fh fb fu (M3 (T.move fun p hp h=>k p hp ?_) S rfl)
 rcases h with h | h | h
 ·exact List.mem_append_left _ h
 ·exact List.mem_append_right _ (List.mem_append_left _ h)
 ·exact List.mem_append_right _ (List.mem_append_right _ h)
theorem HS.cons {w:World}{hp:Addr}{N q:Nat}{ls wt:List Int}{foot:List Addr}{l:Led}{p:Addr × Obj}(H:HS w hp N q ls wt foot l):HS w hp N q ls wt foot (p::l):=H.move fun _ h _=>.tail _ h
theorem HS.inst {w:World}{hp:Addr}{N q:Nat}{ls wt:List Int}{foot:List Addr}{l:Led}(H:HS w hp N q ls wt foot l):∃ dh k b u le lf dk da lw n,(hp,instObj 384 dh)∈l/\(dh,dictOf (hDict w k b u le lf dk da lw) n)∈l/\hp∈foot/\dh∈foot:=by
 (refine E11 H fun b u kn ab EE ns cs ms fh fb fu=>G3 fun T S zo77=>?_;try clear H;rcases zo77 with rfl)
 have A:=T.h
 (refine E16 A fun dh' le' lf' dk' da' lw' kk' n1' n2' n3' n4' ve' vf' vw' kxs' fa' J=>?_;try clear A)
 refine K10 _ _ _ _ _ _ _ _ _ _ (M4 J.inst J.dict (List.mem_append_left _ J.feet.1) (List.mem_append_left _ J.feet.2.1))
theorem HS.forest {w:World}{hp:Addr}{N q:Nat}{ls wt:List Int}{foot:List Addr}{l:Led}(H:HS w hp N q ls wt foot l):∃ ns,Forest ns ls/\ls.length=N:=by
 (refine E11 H fun b u kn ab EE ns cs ms fh fb fu=>G3 fun T S zo78=>?_;try clear H;rcases zo78 with rfl)
 refine K1 ns (M2 S.fo S.llen)
theorem HS.closed {w:World}{hp:Addr}{N q:Nat}{ls:List Int}{foot:List Addr}{l:Led}(H:HS w hp N q ls [] foot l):Cl ls:=by
 (refine E11 H fun b u kn ab EE ns cs ms fh fb fu=>G3 fun T S zo79=>?_;try clear H;rcases zo79 with rfl)
 have hl:=S.llen
 exact fun a b ha hb h=>S.settled (by omega) (by omega) h
theorem putH {w:World}(hp:Addr) (N q kx:Nat) (ls:List Int) (foot:List Addr) (hq:q<10) (hkx:kx<24) (hN:N<24) (ta:Addr) (tas:List Addr) :
  Con w 296 [.ref hp,.ref ta] (400+10 * kx) (4000+100 * kx) (fun news=>HS w hp N q ls [] foot news/\Tow kx (ta::tas) news/\∀ x∈ta::tas,x∉foot)
   (fun news news' r=>∃ t ls' foot',r = .int (kx:Int) t/\HS w hp (max N (kx+1)) q ls' [] foot' news'/\Up ls ls'/\Step1 foot foot' news news'):=by
 refine Con.of fun news ⟨H,TW,off⟩=>?_
 (refine E11 H fun b u kn ab EE ns cs ms fh fb fu=>G3 fun T S zo80=>?_;try clear H;rcases zo80 with rfl)
 refine K2 _ _ (M3 (put_conF hp b u q hq kx hkx N kn ab EE ns ls cs ms fh fb fu S hN ta tas) ⟨T,TW,fun x hx=>⟨fun h=>off x hx (List.mem_append_left _ h),fun h=>off x hx (List.mem_append_right _ (List.mem_append_left _ h)),fun h=>off x hx (List.mem_append_right _ (List.mem_append_right _ h))⟩⟩ ?_)
 (intro news' r zr2;(refine E11 zr2 fun t kn' ab' EE' ns' ls' cs' ms' fh' fb' fu'=>G5 fun e T' S' UP ST=>?_;try clear zr2))
 refine K3 t ls' _ (M4 e ⟨_,_,_,_,_,_,_,_,_,_,_,T',S',rfl⟩ UP ST.one)
theorem settleH {w:World}(hp:Addr) (N q:Nat) (ls wt:List Int) (foot:List Addr) (hq:q<10) (hN:N<=24) :
  Con w 338 [.ref hp] 200 2000 (fun news=>HS w hp N q ls wt foot news)
   (fun news news' r=>r = .none/\∃ ls' foot',HS w hp N q ls' [] foot' news'/\Up ls ls'/\Step1 foot foot' news news'):=by
 refine Con.of fun news H=>?_
 (refine E11 H fun b u kn ab EE ns cs ms fh fb fu=>G3 fun T S zo81=>?_;try clear H;rcases zo81 with rfl)
 refine K2 _ _ (M3 (settle_conF hp b u N kn ab wt EE q ns ls cs ms fh fb fu S hN hq) T ?_)
 (intro news' r zr2;obtain ⟨e,kn',ab',EE',ns',ls',cs',ms',fh',fu',T',S',UP,ST⟩:=zr2)
 refine ⟨e,ls',_,⟨_,_,_,_,_,_,_,_,_,_,_,T',S',rfl⟩,UP,ST.one⟩
structure Joined (ls ls':List Int) (i j:Nat):Prop where
 len:ls'.length=ls.length
 keep:∀ a b:Nat,a<ls.length->b<ls.length->ls.getD a 0=ls.getD b 0->ls'.getD a 0=ls'.getD b 0
 sound:∀ R,Cg R->Sub ls R->R i j->Sub ls' R
 one:ls'.getD i 0=ls'.getD j 0
theorem St.told {N:Nat}{kn:List (List Mix × Int)}{ab:Int->Option (List Int)}{pd:List Int}{EE q:Nat}{ns ls:List Int}{cs:List (List Int)}{ms:List (Int × Int)}(S:St N kn ab pd EE q ns ls cs ms) {EE' q':Nat}(h:EE'<=ms.length+q'):St N kn ab pd EE' q' ns ls cs ms :=
 ⟨S.fo,S.lo,S.nlen,S.nd,S.knx,S.abr,S.abn,S.pds,S.pend,S.mcnt,S.pot,h⟩
theorem mergeH {w:World}(hp:Addr) (N q:Nat) (ls wt:List Int) (foot:List Addr) (hq:q<9) (hN:N<=24) (i j:Nat) (ti tj:Tok) (rs:Addr) (hi:i<N) (hj:j<N) :
  Con w 324 [.ref hp,.int (i:Int) ti,.int (j:Int) tj,.ref rs] 80 800 (fun news=>HS w hp N q ls wt foot news)
   (fun news news' r=>r = .bool (!decide (ls.getD i 0=ls.getD j 0))/\∃ ls' wt' foot',HS w hp N (q+1) ls' wt' foot' news'/\Joined ls ls' i j/\Step1 foot foot' news news'):=by
 refine Con.of fun news H=>?_
 (refine E11 H fun b u kn ab EE ns cs ms fh fb fu=>G3 fun T S zo82=>?_;try clear H;rcases zo82 with rfl)
 have hl:=S.llen
 have hsl:=S.nlen
 (refine E4 (S.pick hi hj hN (by omega)) fun k g uk ug=>G10 fun ek eg ak ag s1 s2 s3 s4 s5 s6=>?_)
 have ei:((i:Int)).toNat=i:=by omega
 have ej:((j:Int)).toNat=j:=by omega
 refine K2 _ _ (M3 (hmerge_con hp b u kn ab wt N EE fh ns ls cs ms fu S.fo i j ti tj rs k g (by rw [ei,ej];exact ek) (by rw [ei,ej];exact eg) uk ug (fun _=>s1) s2 s3 (fun _=>ak) (fun _=>ag) (fun _=>⟨s4,s5⟩) T.hu) ⟨T.h,T.u,⟨by omega,by omega⟩,by omega,by omega⟩ ?_)
 have rt:=isRoot_min (isRoot_lab S.fo (i:=i) (by omega)) (isRoot_lab S.fo (i:=j) (by omega))
 rw [← ek,← eg] at rt
 (intro news' r zr2;rcases zr2 with zr2 | zr2;(refine G5 ?_ zr2;try clear zr2;intro ekg er A' U' kp);rotate_left;obtain ⟨nkg,er,fh',fu',A',U',dj,kp,gh,gu,ih,iu⟩:=zr2;rotate_right)
 ·have e:ls.getD i 0=ls.getD j 0:=by
   by_cases e:ls.getD i 0=ls.getD j 0
   ·exact e
   ·exact absurd ekg (s6.mpr e)
  refine ⟨by rw [er,decide_eq_true e];rfl,ls,wt,fh++(fb++fu),⟨b,u,kn,ab,EE+1,ns,cs,ms,fh,fb,fu,⟨A',T.b.move fun p hp hf=>kp p hp fun h=>T.hb _ h hf,U',T.hb,T.hu,T.bu⟩,S.told (by have:=S.ecnt;omega),rfl⟩,⟨rfl,fun _ _ _ _ h=>h,fun _ _ s _=>s,e⟩,⟨fun p hp h=>kp p hp fun h'=>h (List.mem_append_left _ h'),fun _ h=>.inl h,fun _ h=>h⟩⟩
 ·have e:ls.getD i 0≠ls.getD j 0:=s6.mp nkg
  have hkg:k<g:=by omega
  have S':=S.merge rt.1.1 hkg (by have:=rt.2.2.1;omega) rt.1.2.2 rt.2.2.2 ak ag hN
  have e3:(relab k g ls).getD i 0=(relab k g ls).getD j 0:=by
   rw [relab_at (by omega),relab_at (by omega)]
   rcases Int.le_total (ls.getD i 0) (ls.getD j 0) with h | h
   ·rw [if_neg (by omega),if_pos (by omega)];omega
   ·rw [if_pos (by omega),if_neg (by omega)];omega
  have hb':Disj fh' fb:=fun a ha hf=>gh.apart (T.b.footin a hf) (fun h=>T.hb a h hf) ha
  have bu':Disj fb fu':=fun a hf ha=>gu.apart (T.b.footin a hf) (fun h=>T.bu a hf h) ha
  have ST:Step3 fh fb fu fh' fb fu' news news':=⟨fun p hp e1 _ e3=>kp p hp e1 e3,gh,.rfl,gu,ih,fun _ h=>h,iu⟩
  refine ⟨by rw [er,decide_eq_false e];rfl,_,_,_,⟨b,u,_,_,_,_,_,_,fh',fb,fu',⟨A',T.b.move fun p hp hf=>kp p hp (fun h=>T.hb _ h hf) (fun h=>T.bu _ hf h),U',hb',dj,bu'⟩,S'.told (by have:=S.ecnt;rw [List.length_append,List.length_singleton];omega),rfl⟩,⟨relab_len _ _ _,fun a b ha hb h=>relab_eq ha hb h,fun R C s r=>sub_relab2 C s (by omega) (by omega) ek eg r,e3⟩,ST.one⟩
end
section
example:True:=by
 k_with "g66"=>fail_if_success k_extra "x66"
 k_with "x65"=>skip
 k_with "bank"=>(k_extra "g66";(first | decide | exists b148,b485,b257,b85,b47,b491,b80,b49,b92,b81,b94,b104))
 trivial
example:True:=by
 k_with "call ref"=>(k_extra "g66";((k_here;(with_reducible show wpAny _ _ (call (Value.ref 213) _) _ _ _);k_dflt (refine' con_use (find_con _ _ _ _ _ _ _ _ ?kzFO) ?kB ?kF ?kX ?kN ?kT ?kA ?kH ?kf ?kk ?kd ?ku ?hp ?_;(case kzFO=>assumption);(case hp=>refine ⟨by assumption,by first | assumption | omega,by first | assumption | omega⟩);tb_start); intro kzQ _ _ _ _ _ _ hp';obtain ⟨e',_,e2'⟩:=hp';subst e';subst e2';(try unfold kzQ);(try clear kzQ);(try dsimp only))))
 trivial
example:True:=by
 k_with "ktr_rel"=>(k_extra "g66";(first | with_reducible assumption | ((with_reducible refine BAt.cons ?_);ktr_rel) | ((with_reducible refine HAt.cons ?_);ktr_rel) | ((with_reducible refine UAt.cons ?_);ktr_rel)))
 k_with "call ref"=>(k_extra "g66";(first | ((k_here;(with_reducible show wpAny _ _ (call (Value.ref 232) _) _ _ _);refine Hold.out ?_)) | ((k_here;(with_reducible show wpAny _ _ (call (Value.ref 227) _) _ _ _);refine Hold.out ?_)) | ((k_here;(with_reducible show wpAny _ _ (call (Value.ref 93) _) _ _ _);refine Hold.out ?_)) | ((k_here;(with_reducible show wpAny _ _ (call (Value.ref 310) _) _ _ _);k_dflt (refine' con_use (hfind_con _ _ _ _ _ _ _ _ _ _ _ _ _ _ ?kzFO _ _) ?kB ?kF ?kX ?kN ?kT ?kA ?kH ?kf ?kk ?kd ?ku ?hp ?_;(case kzFO=>with_reducible assumption);tb_start;(case hp=>refine M4 (by ktr_rel) (by ktr_rel) (by omega) (by omega))); intro kzQ _ _ _ _ _ _ hp';obtain ⟨e',_,e2'⟩:=hp';subst e';subst e2';(try unfold kzQ);(try clear kzQ);(try dsimp only)))))
 trivial
theorem like_con {w:World}(hp:Addr) (N q:Nat) (ls wt:List Int) (foot:List Addr) (i j:Nat) (ti tj:Tok) (hi:i<N) (hj:j<N) :
  Con w 317 [.ref hp,.int (i:Int) ti,.int (j:Int) tj] 60 600 (fun news=>HS w hp N q ls wt foot news) (fun news news' r=>news'=news/\r = .bool (decide (ls.getD i 0=ls.getD j 0))):=by
 rintro mean mg mb dp un gd env outer A₀ base hO L m news s Q E B F X NW T hf hk hd hu H hret
 (refine E11 H fun b u kn ab EE ns cs ms fh fb fu=>G3 fun TR S zo83=>?_;try clear H;rcases zo83 with rfl)
 have U:=TR.h
 have UU:=TR.u
 have FO:=S.fo
 have hsl:=S.nlen
 have U':=U
 (refine E16 U' fun dh le lf dk da lw kk n1 n2 n3 n4 ve vf vw kxs fa I=>?_;try clear U')
 have m1:=I.inst
 have m2:=I.dict
 clear I
 refine wpAny_call ?_
 let kzb:List (Str × Value):=[("self",.ref hp),("a",.int (i:Int) ti),("b",.int (j:Int) tj)]
 k_extra "c0"
 repeat walk1
 have ei:((i:Int)).toNat=i:=by omega
 have ej:((j:Int)).toNat=j:=by omega
 rw [ei,ej]
 exact hret _ _ _ _ ‹_› ‹_› ⟨rfl,rfl⟩
theorem settled_con {w:World}(hp:Addr) (N q:Nat) (ls:List Int) (foot:List Addr) :
  Con w 345 [.ref hp] 20 200 (fun news=>HS w hp N q ls [] foot news) (fun news news' r=>news'=news/\r = .bool true):=by
 rintro mean mg mb dp un gd env outer A₀ base hO L m news s Q E B F X NW T hf hk hd hu H hret
 (refine E11 H fun b u kn ab EE ns cs ms fh fb fu=>G3 fun TR S zo84=>?_;try clear H;rcases zo84 with rfl)
 have U:=TR.h
 (refine E16 U fun dh le lf dk da lw kk n1 n2 n3 n4 ve vf vw kxs fa I=>?_;try clear U)
 have m1:=I.inst
 have m2:=I.dict
 have m3:=I.waiting
 have hw0:vw=[]:=List.eq_nil_of_length_eq_zero I.wints.length
 subst hw0
 clear I
 refine wpAny_call ?_
 let kzb:List (Str × Value):=[("self",.ref hp)]
 k_extra "c0"
 repeat walk1
 exact hret _ _ _ _ ‹_› ‹_› ⟨rfl,rfl⟩
theorem bsize_con {w:World}(b:Addr) (nks:List (List Mix)) (foot:List Addr) :
  Con w 93 [.ref b] 10 100 (fun news=>BAt w b nks foot news) (fun news news' r=>news'=news/\∃ t,r = .int nks.length t):=by
 rintro mean mg mb dp un gd env outer A₀ base hO L m news s Q E B F X NW T hf hk hd hu U hret
 (refine E16 U fun db ln dn lw ld kk n1 n2 n3 n4 nas xs vw vd ws ds I=>?_;try clear U)
 have m1:=I.inst
 have m2:=I.dict
 have m3:=I.nodes
 have hnl:nas.length=nks.length:=I.tups.1
 have hsm:=I.small.1
 refine wpAny_call ?_
 let kzb:List (Str × Value):=[("self",.ref b)]
 k_extra "c0"
 repeat walk1
 rw [hnl]
 (refine hret _ _ _ _ ‹_› ‹_› ?_;refine ⟨rfl,_,rfl⟩)
theorem hsize_con {w:World}(hp:Addr) (N q:Nat) (ls wt:List Int) (foot:List Addr) :
  Con w 281 [.ref hp] 20 200 (fun news=>HS w hp N q ls wt foot news) (fun news news' r=>news'=news/\∃ t,r = .int N t):=by
 rintro mean mg mb dp un gd env outer A₀ base hO L m news s Q E B F X NW T hf hk hd hu H hret
 (refine E11 H fun b u kn ab EE ns cs ms fh fb fu=>G3 fun TR S zo85=>?_;try clear H;rcases zo85 with rfl)
 have U:=TR.h
 have UB:=TR.b
 (refine E16 U fun dh le lf dk da lw kk n1 n2 n3 n4 ve vf vw kxs fa I=>?_;try clear U)
 have m1:=I.inst
 have m2:=I.dict
 (refine E7 TR.b.inst fun db bk1 bk2 bk3 bk4 bk5 bk6=>G4 fun mb1 mb2 fb1 fb2=>?_)
 clear I
 refine wpAny_call ?_
 let kzb:List (Str × Value):=[("self",.ref hp)]
 k_extra "c0"
 repeat walk1
 refine Hold.done ?_
 refine' con_use (bsize_con b (bankK N) fb) ?kB ?kF ?kX ?kN ?kT ?kA ?kH ?kf ?kk ?kd ?ku ?hp ?_
 tb_start
 case hp=>exact UB
 (intro kzQ r2 h2 tk2 l2 F2 N2 zr6;obtain ⟨rfl,t2,rfl⟩:=zr6;unfold kzQ;clear kzQ)
 repeat walk1
 rw [bankK_len]
 (refine hret _ _ _ _ ‹_› ‹_› ?_;refine ⟨rfl,_,rfl⟩)
noncomputable def rootsL (ls:List Int):List Int:=(nums ls.length).filter fun i=>ls.getD i.toNat 0 == i
theorem hclasses_con {w:World}(hp:Addr) (N q:Nat) (ls wt:List Int) (foot:List Addr) :
  Con w 352 [.ref hp] 40 400 (fun news=>HS w hp N q ls wt foot news) (fun news news' r=>∃ D vs n,r = .ref D/\news'=(D,PySem.W.listOf (List.toArray vs) n)::news/\(∀ p∈news,p.1≠D)/\IntsAre vs (rootsL ls)):=by
 rintro mean mg mb dp un gd env outer A₀ base hO L m news s Q E B F X NW T hf hk hd hu H hret
 (refine E11 H fun b u kn ab EE ns cs ms fh fb fu=>G3 fun TR S zo86=>?_;try clear H;rcases zo86 with rfl)
 have U:=TR.h
 have UU:=TR.u
 (refine E16 U fun dh le lf dk da lw kk n1 n2 n3 n4 ve vf vw kxs fa I=>?_;try clear U)
 have m1:=I.inst
 have m2:=I.dict
 (refine E8 TR.u.inst fun du uk1 uk2 uk3 uk4 uk5 uk6 uk7=>G4 fun mu1 mu2 fu1 fu2=>?_)
 clear I
 refine wpAny_call ?_
 let kzb:List (Str × Value):=[("self",.ref hp)]
 k_extra "c0"
 repeat walk1
 refine Hold.done ?_
 refine' con_use (classes_con u ns cs ms fu) ?kB ?kF ?kX ?kN ?kT ?kA ?kH ?kf ?kk ?kd ?ku ?hp ?_
 tb_start
 case hp=>exact UU
 (intro kzQ r2 h2 tk2 l2 F2 N2 zr6;(refine E3 zr6 fun D vs n9=>G4 fun zo87 zo88 nD iv=>?_;try clear zr6;rcases zo87 with rfl;rcases zo88 with rfl);unfold kzQ;clear kzQ)
 repeat walk1
 (refine hret _ _ _ _ ‹_› ‹_› ?_;refine K3 D vs n9 (M4 rfl rfl nD ?_))
 have e:((List.range ns.length).map fun (i:Nat)=>(i:Int)).filter (fun (i:Int)=>ns.getD i.toNat 0 == i)=rootsL ls:=by
  unfold rootsL
  rw [S.fo.len]
  refine List.filter_congr fun x hx=>?_
  have h1:=mem_nums.mp hx
  have h2:=S.fo.root_iff x.toNat (by omega)
  rw [show ((x.toNat:Nat):Int)=x by omega] at h2
  by_cases h3:ns.getD x.toNat 0=x
  ·rw [h3,h2.mp h3]
  ·have h4:¬ ls.getD x.toNat 0=x:=fun h=>h3 (h2.mpr h)
   rw [beq_eq_false_iff_ne.mpr h3,beq_eq_false_iff_ne.mpr h4]
 rw [← e];exact iv
theorem hmembers_con {w:World}(hp:Addr) (N q:Nat) (ls wt:List Int) (foot:List Addr) (hN:N<60) (c:Int) (tc:Tok) (hc:isRoot ls c) :
  Con w 359 [.ref hp,.int c tc] 80 800 (fun news=>HS w hp N q ls wt foot news) (fun news news' r=>∃ D vs n,r = .ref D/\news'=(D,PySem.W.listOf (List.toArray vs) n)::news/\(∀ p∈news,p.1≠D)/\IntsAre vs (ofLab ls c)):=by
 rintro mean mg mb dp un gd env outer A₀ base hO L m news s Q E B F X NW T hf hk hd hu H hret
 (refine E11 H fun b u kn ab EE ns cs ms fh fb fu=>G3 fun TR S zo89=>?_;try clear H;rcases zo89 with rfl)
 have U:=TR.h
 have UU:=TR.u
 have hl:=S.llen
 have hsl:=S.nlen
 (refine G3 ?_ hc;try clear hc;intro hc1 hc2 hc3)
 (refine E16 U fun dh le lf dk da lw kk n1 n2 n3 n4 ve vf vw kxs fa I=>?_;try clear U)
 have m1:=I.inst
 have m2:=I.dict
 (refine E8 TR.u.inst fun du uk1 uk2 uk3 uk4 uk5 uk6 uk7=>G4 fun mu1 mu2 fu1 fu2=>?_)
 clear I
 refine wpAny_call ?_
 let kzb:List (Str × Value):=[("self",.ref hp),("c",.int c tc)]
 k_extra "c0"
 repeat walk1
 refine Hold.done ?_
 refine' con_use (members_con u ns ls cs ms fu c tc S.fo) ?kB ?kF ?kX ?kN ?kT ?kA ?kH ?kf ?kk ?kd ?ku ?hp ?_
 tb_start
 case hp=>refine M3 UU hc1 (by omega)
 (intro kzQ r2 h2 tk2 l2 F2 N2 zr6;(refine E4 zr6 fun D vs out n9=>G6 fun zo90 zo91 nD iv pv rv=>?_;try clear zr6;rcases zo90 with rfl;rcases zo91 with rfl);unfold kzQ;clear kzQ)
 rw [hc3] at pv
 have e:=members_eq S.lo hc1 hc2 hc3 rv pv
 rw [e] at iv
 repeat walk1
 (refine hret _ _ _ _ ‹_› ‹_› ?_;refine K3 D vs n9 (M4 rfl rfl nD iv))
theorem findH {w:World}(hp:Addr) (N q:Nat) (ls wt:List Int) (foot:List Addr) (i:Nat) (ti:Tok) (hi:i<N) :
  Con w 310 [.ref hp,.int (i:Int) ti] 20 200 (fun news=>HS w hp N q ls wt foot news) (fun news news' r=>news'=news/\∃ t,r = .int (ls.getD i 0) t):=by
 refine Con.of fun news H=>?_
 (refine E11 H fun b u kn ab EE ns cs ms fh fb fu=>G3 fun T S zo92=>?_;try clear H;rcases zo92 with rfl)
 have hl:=S.nlen
 have ei:((i:Int)).toNat=i:=by omega
 refine K2 _ _ (M3 (hfind_con hp b u kn ab wt N EE fh ns ls cs ms fu S.fo i ti) ⟨T.h,T.u,by omega,by omega⟩ ?_)
 (intro news' r zr2;obtain ⟨e,t,e2⟩:=zr2)
 refine ⟨e,t,by rw [e2,ei]⟩
end
section
example:True:=by
 k_with "x66"=>skip
 k_with "bank"=>((fail_if_success k_extra "x67");(exists b257,b498,b148))
 trivial
example:True:=by
 k_with "call ref"=>((fail_if_success k_extra "x67");((k_here;(with_reducible show wpAny _ _ (call (Value.ref 213) _) _ _ _);k_dflt (refine' con_use (find_con _ _ _ _ _ _ _ _ ?kzFO) ?kB ?kF ?kX ?kN ?kT ?kA ?kH ?kf ?kk ?kd ?ku ?hp ?_;(case kzFO=>assumption);(case hp=>refine ⟨by assumption,by first | assumption | omega,by first | assumption | omega⟩);tb_start); intro kzQ _ _ _ _ _ _ hp';obtain ⟨e',_,e2'⟩:=hp';subst e';subst e2';(try unfold kzQ);(try clear kzQ);(try dsimp only))))
 trivial
noncomputable def ndK (ls:List Int) (n:Nat):List Mix:=if n=0 then xK else fK (ls.getD (n - 1) 0)
theorem hnode_con {w:World}(hp:Addr) (N q:Nat) (ls wt:List Int) (foot:List Addr) (i:Nat) (ti:Tok) (hi:i<N) :
  Con w 286 [.ref hp,.int (i:Int) ti] 60 600 (fun news=>HS w hp N q ls wt foot news) (fun news news' r=>∃ D items n9,r = .ref D/\news'=(D,tupOf items n9)::news/\TupIn Challenge.rw_pq0123_01.row.prog w D (ndK ls i) news'/\∀ p∈news,p.1<D):=by
 refine Con.of fun news H=>?_
 (refine E11 H fun b u kn ab EE ns cs ms fh fb fu=>G3 fun T S zo93=>?_;try clear H;rcases zo93 with rfl)
 have hl:=S.nlen
 have ei:((i:Int)).toNat=i:=by omega
 have hb:(bankK N)[((i:Int)).toNat]?=some (nKey (opS i) (kidS i)):=by rw [ei];exact bankK_at hi
 refine K2 _ _ (M3 (node_conF hp b u (bankK N) fb kn ab wt N EE fh ns ls cs ms fu S.fo i ti (opS i) (kidS i) ?_ hb (by omega) ?_) ⟨T.h,T.b,T.u⟩ ?_)
 ·unfold kidS;split <;> simp
 ·intro k hk
  unfold kidS at hk
  split at hk
  ·cases hk
  ·rw [List.mem_singleton] at hk;omega
 ·(intro news' r zr2;(refine E4 zr2 fun D t vs n9=>G4 fun e1 zo94 iv hD=>?_;try clear zr2;rcases zo94 with rfl))
  refine K3 D _ n9 (M4 e1 rfl ?_ hD)
  have h:=tupIn_n (prog:=Challenge.rw_pq0123_01.row.prog) (w:=w) (l:=(D,tupOf (List.toArray (.str (opS i) t::vs)) n9)::news) (.head _) iv
  have e:nKey (opS i) ((kidS i).map fun k=>ls.getD k.toNat 0)=ndK ls i:=by
   unfold ndK opS kidS
   by_cases h0:i=0
   ·simp only [h0,if_true];rfl
   ·simp only [h0,if_false]
    show _=fK _
    unfold nKey fK
    simp
  rw [← e];exact h
end
section
example:True:=by
 k_with "g68"=>fail_if_success k_extra "x68"
 k_with "x67"=>skip
 k_with "bank"=>(k_extra "g68";(exists b499,b262))
 k_with "cuton"=>k_extra "g68"
 trivial
example:True:=by
 k_with "call ref"=>(k_extra "g68";((k_here;(with_reducible show wpAny _ _ (call (Value.ref 213) _) _ _ _);k_dflt (refine' con_use (find_con _ _ _ _ _ _ _ _ ?kzFO) ?kB ?kF ?kX ?kN ?kT ?kA ?kH ?kf ?kk ?kd ?ku ?hp ?_;(case kzFO=>assumption);(case hp=>refine ⟨by assumption,by first | assumption | omega,by first | assumption | omega⟩);tb_start); intro kzQ _ _ _ _ _ _ hp';obtain ⟨e',_,e2'⟩:=hp';subst e';subst e2';(try unfold kzQ);(try clear kzQ);(try dsimp only))))
 k_with "el"=>(k_extra "g68";(skip))
 trivial
example:True:=by
 k_with "ktr_rel"=>(k_extra "g68";(first | with_reducible assumption | ((with_reducible refine HS.cons ?_);ktr_rel)))
 k_with "call type:set"=>(k_extra "g68";(refine Hold.out ?_))
 k_with "call builtin:len"=>(k_extra "g68";(refine Hold.out ?_))
 k_with "call ref"=>(k_extra "g68";(first | ((k_here;(with_reducible show wpAny _ _ (call (Value.ref 286) _) _ _ _);refine Hold.out ?_)) | ((k_here;(with_reducible show wpAny _ _ (call (Value.ref 281) _) _ _ _);k_dflt (refine' con_use (hsize_con _ _ _ _ _ _) ?kB ?kF ?kX ?kN ?kT ?kA ?kH ?kf ?kk ?kd ?ku ?hp ?_;tb_start;(case hp=>ktr_rel)); intro kzQ _ _ _ _ _ _ hp';obtain ⟨e',_,e2'⟩:=hp';subst e';subst e2';(try unfold kzQ);(try clear kzQ);(try dsimp only)))))
 trivial
theorem RefsT.mono {prog:Program}{w:World}{l l':Led}{vs:List Value}{ks:List (List Mix)}(H:RefsT prog w l vs ks) (h:∀ p∈l,p∈l'):RefsT prog w l' vs ks:=by
 induction H with
 | nil=>exact .nil
 | cons e hk _ ih=>exact .cons e (hk.mono fun p hp _=>h p hp) ih
theorem RefsT.cons' {prog:Program}{w:World}{l:Led}{p:Addr × Obj}{vs:List Value}{ks:List (List Mix)}(H:RefsT prog w l vs ks):RefsT prog w (p::l) vs ks:=H.mono fun _ h=>.tail _ h
theorem RefsT.snoc {prog:Program}{w:World}{l:Led}{a:Addr}{k:List Mix}{vs:List Value}{ks:List (List Mix)}(H:RefsT prog w l vs ks) (T:TupIn prog w a k l):RefsT prog w l (vs++[.ref a]) (ks++[k]):=by
 induction H with
 | nil=>exact .cons rfl T .nil
 | cons e hk _ ih=>exact .cons e hk ih
theorem RefsT.at_ {prog:Program}{w:World}{l:Led}{vs:List Value}{ks:List (List Mix)}(H:RefsT prog w l vs ks):∀ (i:Nat) (v:Value),i<ks.length->vs[i]?=some v->∃ x,v = .ref x/\TupIn prog w x (ks.getD i []) l:=by
 induction H with
 | nil=>intro i v hi;exact absurd hi (Nat.not_lt_zero _)
 | @cons v x k vs ks e hk _ ih =>
  intro i v' hi hv
  cases i with
  | zero=>cases hv;refine K1 x (M2 e hk)
  | succ i=>exact ih i v' (by simpa using hi) hv
theorem many_con {w:World}(hp:Addr) (N q:Nat) (ls wt:List Int) (foot:List Addr) (hN:N<60) :
  Con w 369 [.ref hp] 120 1600 (fun news=>HS w hp N q ls wt foot news) (fun news news' r=>(∀ p∈news,p∈news')/\∃ (t:Tok) (ms:List (List Mix)),r = .int ms.length t/\ms.Nodup/\∀ k,k∈ms↔∃ i,i<N/\k=ndK ls i):=by
 rintro mean mg mb dp un gd env outer A₀ base hO L m news s Q E B F X NW T hf hk hd hu H hret
 (refine E10 H.inst fun dh lk lb lu le lf dk da lw ln=>G4 fun m1 m2 f1 f2=>?_)
 refine wpAny_call ?_
 let kzb:List (Str × Value):=[("self",.ref hp)]
 k_extra "c1"
 rename_i oc d1'
 revert l1
 intro lD
 repeat walk1
 refine Hold.done (.inl (comp_range (n:=N) (fun i ys l=>(∀ p∈(L'+1,oc)::news,p∈l)/\RefsT Challenge.rw_pq0123_01.row.prog w l ys ((List.range i).map (ndK ls))) rfl (by k_asm) (by k_asm) ‹_› rfl (by omega) ⟨fun p hp=>hp,.nil⟩ ?_ ?_))
 ·(intro i t I oI C oC D2 m₂ ys l h5 tk5 E' hil zr14 hC hx F5 N5 off;(refine G2 ?_ zr14;try clear zr14;intro kl hys))
  have c1:=kl _ (.head _)
  have m1':=kl _ (.tail _ m1)
  have m2':=kl _ (.tail _ m2)
  have H5:HS w hp N q ls wt foot l:=H.move fun p hp _=>kl p (.tail _ hp)
  clear m1 m2 H
  repeat walk1
  refine Hold.done ?_
  refine' con_use (hnode_con hp N q ls wt foot i t hil) ?kB ?kF ?kX ?kN ?kT ?kA ?kH ?kf ?kk ?kd ?ku ?hp ?_
  tb_start
  case hp=>exact HS.cons (HS.cons (HS.cons H5))
  (intro kzQ r7 h7 tk7 l7 F7 N7 zr6;(refine E3 zr6 fun D7 items n9=>G4 fun zo95 zo96 T7 hD7=>?_;try clear zr6;rcases zo95 with rfl;rcases zo96 with rfl);unfold kzQ;clear kzQ)
  repeat walk1
  have off5:=off.mem
  show LCg.CompEnd _ _ _ _ _ _ _ _ _ _ _ _ _ _
  have T8:TupIn Challenge.rw_pq0123_01.row.prog w D7 (ndK ls i) ((D7,tupOf items n9)::l):=T7.mono fun p hp e=>by
   rcases List.mem_cons.mp hp with rfl | hp
   ·exact .head _
   ·exact absurd e (Nat.ne_of_lt (hD7 p hp))
  refine K3 _ _ ((D7,tupOf items n9)::l) (M7 rfl (by k_asm) (News.sub N7 fun p hp=>?_) (LCg.Off3.of fun p hp=>?_) trivial (fun p hp=>.tail _ (kl p hp)) ?_)
  ·simp only [List.mem_cons] at hp ⊢
   rcases hp with h | h | h | h | h <;> simp [h]
  ·rcases List.mem_cons.mp hp with e | hp
   ·rw [e]
    refine M3 (Nat.ne_of_gt (hD7 _ (.head _))) (Nat.ne_of_gt (hD7 _ (.tail _ (.head _)))) (Nat.ne_of_gt (hD7 _ (.tail _ (.tail _ (.head _)))))
   ·exact off5 p hp
  ·rw [List.range_succ,List.map_append]
   exact RefsT.snoc (hys.cons') T8
 ·(intro D2 ys l h5 tk5 zr5 F5 N5 hD2;(refine G2 ?_ zr5;try clear zr5;intro kl hys))
  have m1':=kl _ (.tail _ m1)
  have m2':=kl _ (.tail _ m2)
  have H5:HS w hp N q ls wt foot l:=H.move fun p hp _=>kl p (.tail _ hp)
  clear m1 m2 H
  repeat walk1
  have hyl:=hys.length
  rw [List.length_map,List.length_range] at hyl
  refine Hold.done (set_led_newT (ns:=(List.range N).map (ndK ls)) (by k_asm) (by k_asm) rfl (by first | ktr_units | skip) (.head _) (by rw [List.length_map,List.length_range];exact hyl) (fun i v h1 h2=>hys.cons'.at_ i v h1 h2) (by rw [List.length_map,List.length_range];exact hN) ?_)
  intro D9 h9 tk9 o9 ms9 F9 N9 hD9 hS9 hm9
  repeat walk1
  refine Hold.done (len_setT (by k_asm) (.head _) hS9 ?_)
  intro t9 tk10
  repeat walk1
  have hN9:ms9.Nodup:=by obtain ⟨_,_,_,_,_,_,_,_,_,q⟩:=hS9;exact q
  (refine hret _ _ _ _ ‹_› ‹_› ?_;refine ⟨fun p hp=>.tail _ (.tail _ (kl p (.tail _ hp))),t9,ms9,rfl,hN9,fun k=>by
   rw [hm9,List.mem_map]
   constructor
   ·(intro zr0;(refine E1 zr0 fun i=>G2 fun hi zo97=>?_;try clear zr0;rcases zo97 with rfl));refine K1 i (M2 (List.mem_range.mp hi) rfl)
   ·(intro zr0;(refine E1 zr0 fun i=>G2 fun hi zo98=>?_;try clear zr0;rcases zo98 with rfl));refine K1 i (M2 (List.mem_range.mpr hi) rfl)⟩)
end
section
example:True:=by
 k_with "g69"=>fail_if_success k_extra "x69"
 k_with "x68"=>skip
 k_with "bank"=>(k_extra "g69";(exists b92,b500,b501,b148,b502,b503))
 k_with "cuton"=>k_extra "g69"
 trivial
example:True:=by
 k_with "call ref"=>(k_extra "g69";((k_here;(with_reducible show wpAny _ _ (call (Value.ref 213) _) _ _ _);k_dflt (refine' con_use (find_con _ _ _ _ _ _ _ _ ?kzFO) ?kB ?kF ?kX ?kN ?kT ?kA ?kH ?kf ?kk ?kd ?ku ?hp ?_;(case kzFO=>assumption);(case hp=>refine ⟨by assumption,by first | assumption | omega,by first | assumption | omega⟩);tb_start); intro kzQ _ _ _ _ _ _ hp';obtain ⟨e',_,e2'⟩:=hp';subst e';subst e2';(try unfold kzQ);(try clear kzQ);(try dsimp only))))
 k_with "el"=>(k_extra "g69";(skip))
 trivial
noncomputable def ConD (w:World) (f:Addr) (args:List Value) (dd uu:Nat) (pre:Led->Prop) (post:Led->Led->Value->Prop):Prop :=
 ∀ (mean:ExcName->Option Value) (mg mb:Str->Option Value) (dp un:Nat) (gd:Option (List Code)) (env:Env) (outer:List Env) (A₀:Around) (base hO:Heap) (L:Addr) (m:Str->Option Value) (news:Led) (s:Shared) (Q E:Value->Shared->Prop),
  Below A₀ base outer hO->Fr hO L s.heap m->(Mine.q.hd.heap_39 w.params).In hO->News hO L s.heap news->Top Mine.q.hd.view_39 (looseW Mine.q.hd.view_39 []) mean mg mb hO->env.frame=some L->env.scope.kind = .function ->
  dp+dd<recursionLimit->un+uu<cLine->pre news ->
  (∀ r h' tk' dr news',Fr hO L h' m->News hO L h' news'->post news news' r->Q r { s with heap:=h',toks:=tk',drawn:=dr }) ->
  wpAny (model Challenge.rw_pq0123_01.row.prog w) (top dp un gd env outer) (call (.ref f) args) Q E s
example:True:=by
 k_with "ktr_rel"=>(k_extra "g69";(first | with_reducible assumption | ((with_reducible refine HS.cons ?_);ktr_rel)))
 k_with "call type:set"=>(k_extra "g69";(refine Hold.out ?_))
 k_with "call builtin:sorted"=>(k_extra "g69";(refine Hold.out ?_))
 k_with "call ref"=>(k_extra "g69";(first | ((k_here;(with_reducible show wpAny _ _ (call (Value.ref 286) _) _ _ _);refine Hold.out ?_)) | ((k_here;(with_reducible show wpAny _ _ (call (Value.ref 359) _) _ _ _);refine Hold.out ?_))))
 trivial
theorem SetTu.cons {prog:Program}{w:World}{l:Led}{p:Addr × Obj}{o:Obj}{ks:List (List Mix)}(H:SetTu prog w l o ks):SetTu prog w (p::l) o ks:=by
 (refine E1 H fun hb=>G2 fun T S=>?_;try clear H)
 refine K1 hb (M2 (fun b o e=>⟨.tail _ (T b o e).1,(T b o e).2⟩) S)
theorem nodes_con {w:World}(hp:Addr) (N q:Nat) (ls wt:List Int) (foot:List Addr) (hN:N<60) (c:Int) (tc:Tok) (hc:isRoot ls c)
  (h2:∀ ms:List (List Mix),ms.Nodup->(∀ k∈ms,∃ i:Nat,(i:Int)∈ofLab ls c/\k=ndK ls i)->ms.length<=2) :
  ConD w 364 [.ref hp,.int c tc] 160 2400 (fun news=>HS w hp N q ls wt foot news) (fun news news' r=>(∀ p∈news,p∈news')/\∃ D vs ks n,r = .ref D/\(D,PySem.W.listOf (List.toArray vs) n)∈news'/\RefsT Challenge.rw_pq0123_01.row.prog w news' vs ks/\ks.Nodup/\ks.Pairwise (fun p q=>ltN p q=true)/\∀ k,k∈ks↔∃ i:Nat,(i:Int)∈ofLab ls c/\k=ndK ls i):=by
 rintro mean mg mb dp un gd env outer A₀ base hO L m news s Q E B F X NW T hf hk hd hu H hret
 have hof:∀ j∈ofLab ls c,∃ j':Nat,j=(j':Int)/\j'<N:=fun j hj=>by
  (refine E1 H.forest fun _=>G2 fun _ hl=>?_)
  have:=mem_nums.mp (List.mem_filter.mp hj).1
  refine K1 j.toNat (M2 (by omega) (by omega))
 have hlen:(ofLab ls c).length<60:=by
  (refine E1 H.forest fun _=>G2 fun _ hl=>?_)
  refine Nat.lt_of_le_of_lt (List.length_filter_le _ _) ?_
  have:(nums ls.length).length=ls.length:=by unfold nums;simp
  omega
 (refine E10 H.inst fun dh lk lb lu le lf dk da lw ln=>G4 fun m1 m2 f1 f2=>?_)
 refine wpAny_call ?_
 let kzb:List (Str × Value):=[("self",.ref hp),("c",.int c tc)]
 k_extra "c1"
 rename_i oc d1'
 revert l1
 intro lD
 repeat walk1
 refine Hold.done ?_
 refine' con_use (hmembers_con hp N q ls wt foot hN c tc hc) ?kB ?kF ?kX ?kN ?kT ?kA ?kH ?kf ?kk ?kd ?ku ?hp ?_
 tb_start
 case hp=>exact HS.cons H
 (intro kzQ r6 h6 tk6 l6 F6 N6 zr6;(refine E3 zr6 fun Dm vm nm=>G4 fun zo99 zo0 hDm im=>?_;try clear zr6;rcases zo99 with rfl;rcases zo0 with rfl);unfold kzQ;clear kzQ)
 have iml:=im.length
 repeat walk1
 refine Hold.done (.inl (comp_list (vs:=vm) (fun i ys l=>(∀ p∈(Dm,PySem.W.listOf (List.toArray vm) nm)::(L'+1,oc)::news,p∈l)/\RefsT Challenge.rw_pq0123_01.row.prog w l ys (((ofLab ls c).take i).map fun (j:Int)=>ndK ls j.toNat)) rfl (by k_asm) (by k_asm) (.head _) (by omega) ⟨fun p hp=>hp,.nil⟩ (fun i ys l h=>h.1 _ (.head _)) ?_ ?_))
 ·(intro i v I oI C oC D2 m₂ ys l h5 tk5 E' hv zr14 hC hx F5 N5 off;(refine G2 ?_ zr14;try clear zr14;intro kl hys))
  (refine E1 (ints_at im hv) fun t=>G2 fun zo1 hil=>?_;rcases zo1 with rfl)
  obtain ⟨j',ej,hj'⟩:=hof _ (getD_mem hil)
  rw [ej] at hx
  have c1:=kl _ (.tail _ (.head _))
  have m1':=kl _ (.tail _ (.tail _ m1))
  have m2':=kl _ (.tail _ (.tail _ m2))
  have H5:HS w hp N q ls wt foot l:=H.move fun p hp _=>kl p (.tail _ (.tail _ hp))
  clear m1 m2 H
  repeat walk1
  refine Hold.done ?_
  refine' con_use (hnode_con hp N q ls wt foot j' t hj') ?kB ?kF ?kX ?kN ?kT ?kA ?kH ?kf ?kk ?kd ?ku ?hp ?_
  tb_start
  case hp=>exact HS.cons (HS.cons (HS.cons H5))
  (intro kzQ r7 h7 tk7 l7 F7 N7 zr6;(refine E3 zr6 fun D7 items n9=>G4 fun zo2 zo3 T7 hD7=>?_;try clear zr6;rcases zo2 with rfl;rcases zo3 with rfl);unfold kzQ;clear kzQ)
  repeat walk1
  have off5:=off.mem
  show LCg.CompEnd _ _ _ _ _ _ _ _ _ _ _ _ _ _
  have T8:TupIn Challenge.rw_pq0123_01.row.prog w D7 (ndK ls j') ((D7,tupOf items n9)::l):=T7.mono fun p hp e=>by
   rcases List.mem_cons.mp hp with rfl | hp
   ·exact .head _
   ·exact absurd e (Nat.ne_of_lt (hD7 p hp))
  refine K3 _ _ ((D7,tupOf items n9)::l) (M7 rfl (by k_asm) (News.sub N7 fun p hp=>?_) (LCg.Off3.of fun p hp=>?_) trivial (fun p hp=>.tail _ (kl p hp)) ?_)
  ·simp only [List.mem_cons] at hp ⊢
   rcases hp with h | h | h | h | h <;> simp [h]
  ·rcases List.mem_cons.mp hp with e | hp
   ·rw [e]
    refine M3 (Nat.ne_of_gt (hD7 _ (.head _))) (Nat.ne_of_gt (hD7 _ (.tail _ (.head _)))) (Nat.ne_of_gt (hD7 _ (.tail _ (.tail _ (.head _)))))
   ·exact off5 p hp
  ·have e3:(ofLab ls c).take (i+1)=(ofLab ls c).take i++[(ofLab ls c).getD i 0]:=by
    rw [List.take_add_one,List.getD_eq_getElem?_getD,List.getElem?_eq_getElem hil];rfl
   rw [e3,List.map_append,ej]
   exact RefsT.snoc (hys.cons') T8
 ·(intro D2 ys l h5 tk5 zr5 F5 N5 hD2;(refine G2 ?_ zr5;try clear zr5;intro kl hys))
  have m1':=kl _ (.tail _ (.tail _ m1))
  have m2':=kl _ (.tail _ (.tail _ m2))
  have H5:HS w hp N q ls wt foot l:=H.move fun p hp _=>kl p (.tail _ (.tail _ hp))
  clear m1 m2 H
  rw [iml,List.take_length] at hys
  have hyl:=hys.length
  rw [List.length_map] at hyl
  repeat walk1
  refine Hold.done (set_led_newT (ns:=(ofLab ls c).map fun (j:Int)=>ndK ls j.toNat) (by k_asm) (by k_asm) rfl (by ktr_units) (.head _) (by rw [List.length_map];exact hyl) (fun i v h1 h2=>hys.cons'.at_ i v h1 h2) (by rw [List.length_map];exact hlen) ?_)
  intro D9 h9 tk9 o9 ms9 F9 N9 hD9 hS9 hm9
  have hN9:ms9.Nodup:=by obtain ⟨_,_,_,_,_,_,_,_,_,q⟩:=hS9;exact q
  have hmm:∀ k,k∈ms9↔∃ i:Nat,(i:Int)∈ofLab ls c/\k=ndK ls i:=fun k=>by
   rw [hm9,List.mem_map]
   constructor
   ·(intro zr0;(refine E1 zr0 fun j=>G2 fun hj zo4=>?_;try clear zr0;rcases zo4 with rfl))
    (refine E1 (hof j hj) fun j'=>G2 fun zo5 _=>?_;rcases zo5 with rfl)
    refine K1 j' (M2 hj (by rw [show ((j':Int)).toNat=j' by omega]))
   ·(intro zr0;(refine E1 zr0 fun i=>G2 fun hi zo6=>?_;try clear zr0;rcases zo6 with rfl))
    refine K1 _ (M2 hi (by rw [show ((i:Int)).toNat=i by omega]))
  repeat walk1
  have nk9:∀ k∈ms9,NK (Str.ofString "f") (Str.ofString "x") k:=fun k hk=>by
   (refine E1 ((hmm k).mp hk) fun i=>G2 fun _ zo7=>?_;rcases zo7 with rfl)
   unfold ndK
   split
   ·exact .inr rfl
   ·exact .inl ⟨_,rfl⟩
  refine Hold.done (sorted_setT (by decide) (by decide) (by decide) (by k_asm) (by k_asm) rfl (.head _) (SetTu.cons hS9) (h2 ms9 hN9 fun k hk=>(hmm k).mp hk) nk9 ?_)
  intro D8 h8 tk8 dr8 vs8 ks8 c8 F8 N8 hD8 R8 p8 s8
  repeat walk1
  (refine hret _ _ _ _ _ ‹_› ‹_› ?_;refine ⟨fun p hp=>.tail _ (.tail _ (.tail _ (kl p (.tail _ (.tail _ hp))))),D8,vs8,ks8,c8,rfl,.head _,RefsT.cons' R8,p8.nodup_iff.mpr hN9,s8,fun k=>by rw [p8.mem_iff];exact hmm k⟩)
end
section
example:True:=by
 k_with "x69"=>skip
 k_with "bank"=>((fail_if_success k_extra "x70");(first | decide | exists b47,b504))
 trivial
example:True:=by
 k_with "storeName"=>((fail_if_success k_extra "x70");((k_here;k_dflt (refine' storeX_L ?kzF ?kzN ?_ ?kza ?kzb;(case kzF=>k_asm);(case kzN=>k_asm);(case kza=>rfl);(case kzb=>rfl);k_whole);intro _ _ _;(try dsimp only);(try k_sweep))))
 k_with "call ref"=>((fail_if_success k_extra "x70");((k_here;(with_reducible show wpAny _ _ (call (Value.ref 213) _) _ _ _);k_dflt (refine' con_use (find_con _ _ _ _ _ _ _ _ ?kzFO) ?kB ?kF ?kX ?kN ?kT ?kA ?kH ?kf ?kk ?kd ?ku ?hp ?_;(case kzFO=>assumption);(case hp=>refine ⟨by assumption,by first | assumption | omega,by first | assumption | omega⟩);tb_start); intro kzQ _ _ _ _ _ _ hp';obtain ⟨e',_,e2'⟩:=hp';subst e';subst e2';(try unfold kzQ);(try clear kzQ);(try dsimp only))))
 trivial
theorem tower_con {w:World}(k:Nat) (hk24:k<40) (tk0:Tok) :
  Con w 402 [.int (k:Int) tk0] 20 400 (fun _=>True) (fun news news' r=>∃ a as,r = .ref a/\Tow k (a::as) news'/\(∀ p∈news,p∈news')/\∀ x∈a::as,∀ p∈news,p.1≠x):=by
 rintro mean mg mb dp un gd env outer A₀ base hO L m news s Q E B F X NW T hf hk hd hu H hret
 refine wpAny_call ?_
 let kzb:List (Str × Value):=[("many",.int (k:Int) tk0)]
 k_extra "c0"
 repeat walk1
 rename_i tx D0 hz lD0 hy F1 N1 h2 tk3 t1 u1 v1 rg F2 N2 kp2
 refine Hold.done ?_
 refine' for_range (n:=k) (fun i m l=>(∃ a as ov,Tow i (a::as) l/\(∀ p∈news,p∈l)/\(∀ x∈a::as,∀ p∈news,p.1≠x)/\m=fun y=>if y=Str.ofString "lap" then ov else if y=Str.ofString "term" then some (.ref a) else List.lookup y [(Str.ofString "many",Value.int (k:Int) tk0)].reverse)) rfl F2 N2 rg rfl (by omega) ⟨D0,[],_,⟨D0,_,_,rfl,.head _⟩,fun p hp=>.tail _ hp,fun x hx p hp=>by
   rw [List.mem_singleton.mp hx];exact Nat.ne_of_lt (lD0 p hp),funext fun y=>by by_cases e:y=Str.ofString "lap";(subst e;rfl);(exact (if_neg e).symm)⟩ ?_ ?_
 ·(intro i ti m1 l h7 tk7 I oI hi zr9 hI F7 N7;(refine E3 zr9 fun a as ov=>G4 fun hT hkp hnw zo8=>?_;try clear zr9;rcases zo8 with rfl))
  (refine E1 (hT.ins a (.head _)) fun oa ma=>?_)
  repeat walk1
  rename_i D9 hA FA NA lD9 hB FB NB
  have eop:opS (i+1)=Str.ofString "f":=if_neg (Nat.succ_ne_zero i)
  refine ForEnd.mk (l':=(D9,tupOf #[Value.str (Str.ofString "f") tk7,Value.ref a] 0)::l) FB (News.sub NB fun p hp=>?_) (fun p hp=>?_) ⟨D9,a::as,some (.int (i:Int) ti),⟨D9,a,as,tk7,0,rfl,?_,hT.move fun p hp _=>.tail _ hp⟩,fun p hp=>.tail _ (hkp p hp),fun x hx p hp=>?_,?_⟩
  ·simp only [List.mem_cons] at hp ⊢
   rcases hp with h | h | h <;> simp [h]
  ·rcases List.mem_cons.mp hp with e | hp
   ·rw [e];exact Nat.ne_of_gt (lD9 _ (.head _))
   ·exact hI p hp
  ·rw [eop];exact .head _
  ·rcases List.mem_cons.mp hx with e | hx
   ·rw [e];exact Nat.ne_of_lt (lD9 _ (.tail _ (hkp p hp)))
   ·exact hnw x hx p hp
  ·funext y
   by_cases e1:y=Str.ofString "lap"
   ·subst e1;rfl
   ·by_cases e2:y=Str.ofString "term"
    ·subst e2;rfl
    ·simp only [if_neg e1,if_neg e2]
 ·(intro m1 l h7 tk7 zr4 F7 N7;(refine E3 zr4 fun a as ov=>G4 fun hT hkp hnw zo9=>?_;try clear zr4;rcases zo9 with rfl))
  (refine E1 (hT.ins a (.head _)) fun oa ma=>?_)
  repeat walk1
  (refine hret _ _ _ _ ‹_› ‹_› ?_;refine K2 a as (M4 rfl hT hkp hnw))
end
section
example:True:=by
 k_with "g71"=>fail_if_success k_extra "x71"
 k_with "x70"=>skip
 k_with "bank"=>(k_extra "g71";(exists b47,b505,b506,b507,b508,b509))
 trivial
example:True:=by
 k_with "call ref"=>(k_extra "g71";((k_here;(with_reducible show wpAny _ _ (call (Value.ref 213) _) _ _ _);k_dflt (refine' con_use (find_con _ _ _ _ _ _ _ _ ?kzFO) ?kB ?kF ?kX ?kN ?kT ?kA ?kH ?kf ?kk ?kd ?ku ?hp ?_;(case kzFO=>assumption);(case hp=>refine ⟨by assumption,by first | assumption | omega,by first | assumption | omega⟩);tb_start); intro kzQ _ _ _ _ _ _ hp';obtain ⟨e',_,e2'⟩:=hp';subst e';subst e2';(try unfold kzQ);(try clear kzQ);(try dsimp only))))
 trivial
noncomputable def wdF (vb vt:Value) (k:Str):Option Value:=if k=Str.ofString "bend" then some vb else if k=Str.ofString "turn" then some vt else none
noncomputable def WdAt (w:World) (W:Addr) (wd:Wd) (l:Led):Prop:=∃ vb vt t2,vt = .int ((match wd with | none=>0 | some (_,t)=>t:Nat):Int) t2/\(match wd with | none=>vb = .none | some (b,_)=>∃ t,vb = .int (b:Int) t)/\DS Challenge.rw_pq0123_01.row.prog w W 2 (wdF vb vt) l
example:True:=by
 k_with "ktr_rel"=>(k_extra "g71";(first | with_reducible assumption | ((with_reducible refine DS.cons ?_);ktr_rel)))
 k_with "subscriptTail"=>(k_extra "g71";((k_here;(with_reducible show wpAny _ _ (subscriptTail _ _ (Value.ref _) (Value.str _ _)) _ _ _);k_dflt (refine' ds_item ?kzN ?kzH ?kzp ?_ ?kzs;(case kzN=>k_asm);(case kzH=>ktr_rel);(case kzp=>exact rfl);(case kzs=>with_unfolding_all rfl));intro _)))
 trivial
theorem home_none {w:World}(W:Addr) (n:Nat) (tn:Tok) (vt:Value) :
  Con w 416 [.ref W,.int (n:Int) tn] 20 200 (fun news=>DS Challenge.rw_pq0123_01.row.prog w W 2 (wdF .none vt) news) (fun news news' r=>news'=news/\∃ t,r = .int (n:Int) t):=by
 rintro mean mg mb dp un gd env outer A₀ base hO L m news s Q E B F X NW T hf hk hd hu H hret
 (refine E1 H.obj fun oW mW=>?_)
 refine wpAny_call ?_
 let kzb:List (Str × Value):=[("world",.ref W),("n",.int (n:Int) tn)]
 k_extra "c0"
 repeat walk1
 (refine hret _ _ _ _ ‹_› ‹_› ?_;refine ⟨rfl,_,rfl⟩)
theorem home_some {w:World}(W:Addr) (n b q:Nat) (tn tb tq:Tok) (hq:0<q) :
  Con w 416 [.ref W,.int (n:Int) tn] 20 200 (fun news=>DS Challenge.rw_pq0123_01.row.prog w W 2 (wdF (.int (b:Int) tb) (.int (q:Int) tq)) news) (fun news news' r=>news'=news/\∃ t,r = .int (homeN (some (b,q)) n:Nat) t):=by
 rintro mean mg mb dp un gd env outer A₀ base hO L m news s Q E B F X NW T hf hk hd hu H hret
 (refine E1 H.obj fun oW mW=>?_)
 refine wpAny_call ?_
 let kzb:List (Str × Value):=[("world",.ref W),("n",.int (n:Int) tn)]
 k_extra "c0"
 repeat walk1
 ·rename (n:Int)<(b:Int)=>hlt
  (refine hret _ _ _ _ ‹_› ‹_› ?_;refine ⟨rfl,tn,?_⟩)
  rw [home_lt (by omega)]
 ·refine isTrue_or_nil ?_
  repeat walk1
  rename ¬ (n:Int)<(b:Int)=>hge
  have hge':¬ n<b:=by omega
  have e1:(homeN (some (b,q)) n:Int)=(b:Int)+((n:Int) - (b:Int)).fmod (q:Int):=by
   rw [home_ge hge',Int.fmod_eq_emod_of_nonneg _ (by omega)]
   have e2:(n:Int) - (b:Int)=((n - b:Nat):Int):=by omega
   rw [e2]
   push_cast
   rfl
  rw [← e1]
  (refine hret _ _ _ _ ‹_› ‹_› ?_;refine ⟨rfl,_,rfl⟩)
theorem home_con {w:World}(W:Addr) (wd:Wd) (hwd:WdOk wd) (n:Nat) (tn:Tok) :
  Con w 416 [.ref W,.int (n:Int) tn] 20 200 (fun news=>WdAt w W wd news) (fun news news' r=>news'=news/\∃ t,r = .int (homeN wd n:Nat) t):=by
 refine Con.of fun news H=>?_
 (refine E3 H fun vb vt t2=>G3 fun e1 e2 D=>?_;try clear H)
 cases wd with
 | none =>
  have e2:vb = .none:=e2
  subst e2
  refine K2 _ _ (M3 (home_none W n tn vt) D (fun news' r h=>h))
 | some p =>
  obtain ⟨b,q⟩:=p
  have e2:∃ t,vb = .int (b:Int) t:=e2
  (refine E1 e2 fun t zo10=>?_;try clear e2;rcases zo10 with rfl)
  have e1:vt = .int (q:Int) t2:=e1
  subst e1
  refine K2 _ _ (M3 (home_some W n b q tn t t2 hwd) D (fun news' r h=>h))
end
section
example:True:=by
 k_with "x71"=>skip
 k_with "bank"=>((fail_if_success k_extra "x72");(first | decide | exists b509,b510,b511,b47))
 trivial
example:True:=by
 k_with "storeName"=>((fail_if_success k_extra "x72");((k_here;k_dflt (refine' storeX_L ?kzF ?kzN ?_ ?kza ?kzb;(case kzF=>k_asm);(case kzN=>k_asm);(case kza=>rfl);(case kzb=>rfl);k_whole);intro _ _ _;(try dsimp only);(try k_sweep))))
 k_with "call ref"=>((fail_if_success k_extra "x72");((k_here;(with_reducible show wpAny _ _ (call (Value.ref 213) _) _ _ _);k_dflt (refine' con_use (find_con _ _ _ _ _ _ _ _ ?kzFO) ?kB ?kF ?kX ?kN ?kT ?kA ?kH ?kf ?kk ?kd ?ku ?hp ?_;(case kzFO=>assumption);(case hp=>refine ⟨by assumption,by first | assumption | omega,by first | assumption | omega⟩);tb_start); intro kzQ _ _ _ _ _ _ hp';obtain ⟨e',_,e2'⟩:=hp';subst e';subst e2';(try unfold kzQ);(try clear kzQ);(try dsimp only))))
 trivial
theorem gcd_con {w:World}(a0 b0:Nat) (ta tb:Tok) :
  Con w 409 [.int (a0:Int) ta,.int (b0:Int) tb] 20 200 (fun _=>True) (fun news news' r=>news'=news/\∃ t,r = .int (Nat.gcd a0 b0:Nat) t):=by
 rintro mean mg mb dp un gd env outer A₀ base hO L m news s Q E B F X NW T hf hk hd hu H hret
 refine wpAny_call ?_
 let kzb:List (Str × Value):=[("a",.int (a0:Int) ta),("b",.int (b0:Int) tb)]
 k_extra "c0"
 walk1
 walk1
 refine While_inv (n₀:=b0) (fun n m₁ l=>l=news/\∃ (x:Nat) (t u:Tok),Nat.gcd x n=Nat.gcd a0 b0/\m₁=fm [("b",.int (n:Int) u),("a",.int (x:Int) t)]) F' N' ⟨rfl,a0,ta,tb,rfl,by rfl⟩ ?_
 (intro n m₁ l h1 tk1 F1 N1 zr7;obtain ⟨rfl,x,t,u,e,rfl⟩:=zr7)
 repeat walk1
 ·rename (n:Int)≠0=>hne
  rename Fr g' L' _ _=>F2
  rename News g' L' _ _=>N2
  have hn:0<n:=by omega
  have em:((x:Int).fmod (n:Int))=((x % n:Nat):Int):=by rw [Int.fmod_eq_emod_of_nonneg _ (by omega)];rfl
  rw [em] at F2 N2
  have eg:Nat.gcd n (x % n)=Nat.gcd a0 b0:=by
   rw [← e,Nat.gcd_comm x n,Nat.gcd_rec n x,Nat.gcd_comm]
  obtain ⟨tq,F3⟩:∃ tq,Fr g' L' _ (fun y=>if y=Str.ofString "a" then some (.int (n:Int) u) else if y=Str.ofString "b" then some (.int ((x % n:Nat):Int) tq) else fm [("b",.int (n:Int) u),("a",.int (x:Int) t)] y):=⟨_,F2⟩
  refine WhileStep.intro F3 (News.sub N2 fun p hp=>.tail _ hp) (n':=x % n) (Nat.mod_lt _ hn) ⟨rfl,n,u,tq,eg,?_⟩
  funext y
  by_cases e1:y=Str.ofString "a"
  ·subst e1;rfl
  ·by_cases e2:y=Str.ofString "b"
   ·subst e2;rfl
   ·show (if y=Str.ofString "a" then _ else if y=Str.ofString "b" then _ else fm _ y)=_
    rw [if_neg e1,if_neg e2]
    simp [fm,List.lookup_cons,beq_eq_false_iff_ne.mpr e1,beq_eq_false_iff_ne.mpr e2]
 ·rename (n:Int)=0=>h0
  have hn:n=0:=by omega
  subst hn
  rw [Nat.gcd_zero_right] at e
  subst e
  dsimp only
  repeat walk1
  (refine hret _ _ _ _ ‹_› ‹_› ?_;refine ⟨rfl,_,rfl⟩)
end
section
example:True:=by
 k_with "g73"=>fail_if_success k_extra "x73"
 k_with "x72"=>skip
 k_with "bank"=>(k_extra "g73";(first | decide | exists b512,b514,b515,b516,b517,b518,b85,b519))
 trivial
example:True:=by
 k_with "call ref"=>(k_extra "g73";((k_here;(with_reducible show wpAny _ _ (call (Value.ref 213) _) _ _ _);k_dflt (refine' con_use (find_con _ _ _ _ _ _ _ _ ?kzFO) ?kB ?kF ?kX ?kN ?kT ?kA ?kH ?kf ?kk ?kd ?ku ?hp ?_;(case kzFO=>assumption);(case hp=>refine ⟨by assumption,by first | assumption | omega,by first | assumption | omega⟩);tb_start); intro kzQ _ _ _ _ _ _ hp';obtain ⟨e',_,e2'⟩:=hp';subst e';subst e2';(try unfold kzQ);(try clear kzQ);(try dsimp only))))
 trivial
example:True:=by
 k_with "ktr_rel"=>(k_extra "g73";(first | with_reducible assumption | (with_reducible exact DS.cons (by ktr_rel))))
 k_with "subscriptTail"=>(k_extra "g73";((k_here;(with_reducible show wpAny _ _ (subscriptTail _ _ (Value.ref _) (Value.str _ _)) _ _ _);k_dflt (refine' ds_item ?kzN ?kzH ?kzp ?_ ?kzs;(case kzN=>k_asm);(case kzH=>ktr_rel);(case kzp=>exact rfl);(case kzs=>with_unfolding_all rfl));intro _)))
 k_with "setItem ref str"=>(k_extra "g73";(refine Hold.out ?_))
 k_with "call ref"=>(k_extra "g73";((k_here;(with_reducible show wpAny _ _ (call (Value.ref 409) _) _ _ _);refine Hold.out ?_)))
 trivial
theorem told_none {w:World}(W:Addr) (i j:Nat) (ti tj:Tok) (t2:Tok) :
  Con w 423 [.ref W,.int (i:Int) ti,.int (j:Int) tj] 60 600 (fun news=>DS Challenge.rw_pq0123_01.row.prog w W 2 (wdF .none (.int 0 t2)) news) (fun news news' r=>(∀ p∈news,p.1≠W->p∈news')/\WdAt w W (toldN none i j) news'):=by
 rintro mean mg mb dp un gd env outer A₀ base hO L m news s Q E B F X NW T hf hk hd hu H hret
 (refine E1 H.obj fun oW mW=>?_)
 refine wpAny_call ?_
 let kzb:List (Str × Value):=[("world",.ref W),("i",.int (i:Int) ti),("j",.int (j:Int) tj)]
 k_extra "c0"
 have elo:(if (j:Int)<(i:Int) then (j:Int) else (i:Int))=((min i j:Nat):Int):=by split <;> omega
 have ehi:(if (j:Int) > (i:Int) then (j:Int) else (i:Int))=((max i j:Nat):Int):=by split <;> omega
 repeat walk1
 ·rename (if (j:Int)<(i:Int) then (j:Int) else (i:Int))=_=>heq
  rw [elo,ehi] at heq
  have hij:i=j:=by omega
  have et:toldN none i j=none:=if_pos hij
  refine hret _ _ _ _ ‹_› ‹_› ⟨fun p hp _=>by first | exact hp | exact .tail _ hp,?_⟩
  rw [et]
  refine K3 _ _ _ (M3 rfl rfl (by first | exact H | exact DS.cons H))
 ·repeat walk1
  rename (if (j:Int)<(i:Int) then (j:Int) else (i:Int))≠_=>hne
  refine Hold.done (ds_set_o (by k_asm) (by k_asm) (DS.cons H) (by omega) rfl ?_)
  intro h5 tk5 o5 l5 F5 N5 S5 mW5 H5
  have kp5:Hold (∀ p∈news,p.1≠W->p∈l5):=fun p hp e=>S5.keep p (.tail _ hp) e
  clear S5 H mW
  repeat walk1
  rw [elo,ehi] at hne
  have hij:i≠j:=by omega
  have eg:((if (j:Int) > (i:Int) then (j:Int) else (i:Int)) - if (j:Int)<(i:Int) then (j:Int) else (i:Int))=((max i j - min i j:Nat):Int):=by rw [ehi,elo];omega
  rw [eg]
  refine Hold.done ?_
  refine' con_use (gcd_con (max i j - min i j) 0 _ t2) ?kB ?kF ?kX ?kN ?kT ?kA ?kH ?kf ?kk ?kd ?ku ?hp ?_
  tb_start
  case hp=>trivial
  (intro kzQ r6 h6 tk6 l6 F6 N6 zr6;obtain ⟨rfl,t6,rfl⟩:=zr6;unfold kzQ;clear kzQ)
  repeat walk1
  refine Hold.done (ds_set_o (by k_asm) (by k_asm) H5 (by omega) rfl ?_)
  intro h7 tk7 o7 l7 F7 N7 S7 mW7 H7
  repeat walk1
  have et:toldN none i j=some (min i j,max i j - min i j):=if_neg hij
  refine hret _ _ _ _ ‹_› ‹_› ⟨fun p hp e=>S7.keep p (kp5.out p hp e) e,?_⟩
  rw [et]
  rw [elo,Nat.gcd_zero_right] at H7
  refine K3 (.int ((min i j:Nat):Int) (if (j:Int)<(i:Int) then tj else ti)) _ t6 (M3 rfl ⟨_,rfl⟩ (H7.congr fun k=>?_))
  unfold wdF
  by_cases e1:k=Str.ofString "turn"
  ·subst e1;rfl
  ·by_cases e2:k=Str.ofString "bend"
   ·subst e2;rfl
   ·simp only [if_neg e1,if_neg e2]
end
section
example:True:=by
 k_with "g74"=>fail_if_success k_extra "x74"
 k_with "x73"=>skip
 k_with "bank"=>(k_extra "g74";(first | decide | exists b514,b515,b85,b519,b520,b521,b518,b516,b517,b512))
 trivial
example:True:=by
 k_with "call ref"=>(k_extra "g74";((k_here;(with_reducible show wpAny _ _ (call (Value.ref 213) _) _ _ _);k_dflt (refine' con_use (find_con _ _ _ _ _ _ _ _ ?kzFO) ?kB ?kF ?kX ?kN ?kT ?kA ?kH ?kf ?kk ?kd ?ku ?hp ?_;(case kzFO=>assumption);(case hp=>refine ⟨by assumption,by first | assumption | omega,by first | assumption | omega⟩);tb_start); intro kzQ _ _ _ _ _ _ hp';obtain ⟨e',_,e2'⟩:=hp';subst e';subst e2';(try unfold kzQ);(try clear kzQ);(try dsimp only))))
 trivial
example:True:=by
 k_with "ktr_rel"=>(k_extra "g74";(first | with_reducible assumption | (with_reducible exact DS.cons (by ktr_rel))))
 k_with "subscriptTail"=>(k_extra "g74";((k_here;(with_reducible show wpAny _ _ (subscriptTail _ _ (Value.ref _) (Value.str _ _)) _ _ _);k_dflt (refine' ds_item ?kzN ?kzH ?kzp ?_ ?kzs;(case kzN=>k_asm);(case kzH=>ktr_rel);(case kzp=>exact rfl);(case kzs=>with_unfolding_all rfl));intro _)))
 k_with "setItem ref str"=>(k_extra "g74";(refine Hold.out ?_))
 k_with "call ref"=>(k_extra "g74";((k_here;(with_reducible show wpAny _ _ (call (Value.ref 409) _) _ _ _);refine Hold.out ?_)))
 trivial
theorem told_some {w:World}(W:Addr) (i j b q:Nat) (ti tj:Tok) (tb t2:Tok) :
  Con w 423 [.ref W,.int (i:Int) ti,.int (j:Int) tj] 60 600 (fun news=>DS Challenge.rw_pq0123_01.row.prog w W 2 (wdF (.int (b:Int) tb) (.int (q:Int) t2)) news) (fun news news' r=>(∀ p∈news,p.1≠W->p∈news')/\WdAt w W (toldN (some (b,q)) i j) news'):=by
 rintro mean mg mb dp un gd env outer A₀ base hO L m news s Q E B F X NW T hf hk hd hu H hret
 (refine E1 H.obj fun oW mW=>?_)
 refine wpAny_call ?_
 let kzb:List (Str × Value):=[("world",.ref W),("i",.int (i:Int) ti),("j",.int (j:Int) tj)]
 k_extra "c0"
 have elo:(if (j:Int)<(i:Int) then (j:Int) else (i:Int))=((min i j:Nat):Int):=by split <;> omega
 have ehi:(if (j:Int) > (i:Int) then (j:Int) else (i:Int))=((max i j:Nat):Int):=by split <;> omega
 repeat walk1
 ·rename (if (j:Int)<(i:Int) then (j:Int) else (i:Int))=_=>heq
  rw [elo,ehi] at heq
  have hij:i=j:=by omega
  have et:toldN (some (b,q)) i j=some (b,q):=if_pos hij
  refine hret _ _ _ _ ‹_› ‹_› ⟨fun p hp _=>by first | exact hp | exact .tail _ hp,?_⟩
  rw [et]
  refine K3 _ _ _ (M3 rfl ⟨_,rfl⟩ (by first | exact H | exact DS.cons H))
 ·repeat walk1
  rename (if (j:Int)<(i:Int) then (j:Int) else (i:Int))≠_=>hne
  refine Hold.done (ds_set_o (by k_asm) (by k_asm) (DS.cons H) (by omega) rfl ?_)
  intro h5 tk5 o5 l5 F5 N5 S5 mW5 H5
  have kp5:Hold (∀ p∈news,p.1≠W->p∈l5):=fun p hp e=>S5.keep p (.tail _ hp) e
  clear S5 H mW
  repeat walk1
  rw [elo,ehi] at hne
  have hij:i≠j:=by omega
  have eg:((if (j:Int) > (i:Int) then (j:Int) else (i:Int)) - if (j:Int)<(i:Int) then (j:Int) else (i:Int))=((max i j - min i j:Nat):Int):=by rw [ehi,elo];omega
  rw [eg]
  refine Hold.done ?_
  refine' con_use (gcd_con (max i j - min i j) q _ t2) ?kB ?kF ?kX ?kN ?kT ?kA ?kH ?kf ?kk ?kd ?ku ?hp ?_
  tb_start
  case hp=>trivial
  (intro kzQ r6 h6 tk6 l6 F6 N6 zr6;obtain ⟨rfl,t6,rfl⟩:=zr6;unfold kzQ;clear kzQ)
  repeat walk1
  refine Hold.done (ds_set_o (by k_asm) (by k_asm) H5 (by omega) rfl ?_)
  intro h7 tk7 o7 l7 F7 N7 S7 mW7 H7
  repeat walk1
  have et:toldN (some (b,q)) i j=some (min b (min i j),Nat.gcd (max i j - min i j) q):=if_neg hij
  refine hret _ _ _ _ ‹_› ‹_› ⟨fun p hp e=>S7.keep p (kp5.out p hp e) e,?_⟩
  rw [et]
  rw [elo] at H7
  have emb:(if ((min i j:Nat):Int)<(b:Int) then ((min i j:Nat):Int) else (b:Int))=((min b (min i j):Nat):Int):=by split <;> omega
  rw [emb] at H7
  refine K3 (.int ((min b (min i j):Nat):Int) (if ((min i j:Nat):Int)<(b:Int) then if (j:Int)<(i:Int) then tj else ti else tb)) _ t6 (M3 rfl ⟨_,rfl⟩ (H7.congr fun k=>?_))
  unfold wdF
  by_cases e1:k=Str.ofString "turn"
  ·subst e1;rfl
  ·by_cases e2:k=Str.ofString "bend"
   ·subst e2;rfl
   ·simp only [if_neg e1,if_neg e2]
theorem told_con {w:World}(W:Addr) (wd:Wd) (i j:Nat) (ti tj:Tok) :
  Con w 423 [.ref W,.int (i:Int) ti,.int (j:Int) tj] 60 600 (fun news=>WdAt w W wd news) (fun news news' r=>(∀ p∈news,p.1≠W->p∈news')/\WdAt w W (toldN wd i j) news'):=by
 refine Con.of fun news H=>?_
 (refine E3 H fun vb vt t2=>G3 fun e1 e2 D=>?_;try clear H)
 cases wd with
 | none =>
  have e2:vb = .none:=e2
  have e1:vt = .int 0 t2:=e1
  subst e2;subst e1
  refine K2 _ _ (M3 (told_none W i j ti tj t2) D (fun news' r h=>h))
 | some p =>
  obtain ⟨b,q⟩:=p
  have e2:∃ t,vb = .int (b:Int) t:=e2
  (refine E1 e2 fun t zo11=>?_;try clear e2;rcases zo11 with rfl)
  have e1:vt = .int (q:Int) t2:=e1
  subst e1
  refine K2 _ _ (M3 (told_some W i j b q ti tj t t2) D (fun news' r h=>h))
end
section
example:True:=by
 k_with "g75"=>fail_if_success k_extra "x75"
 k_with "x74"=>skip
 k_with "bank"=>(k_extra "g75";(first | decide | exists b522,b47,b52,b507,b523,b524,b525,b506))
 trivial
example:True:=by
 k_with "call ref"=>(k_extra "g75";((k_here;(with_reducible show wpAny _ _ (call (Value.ref 213) _) _ _ _);k_dflt (refine' con_use (find_con _ _ _ _ _ _ _ _ ?kzFO) ?kB ?kF ?kX ?kN ?kT ?kA ?kH ?kf ?kk ?kd ?ku ?hp ?_;(case kzFO=>assumption);(case hp=>refine ⟨by assumption,by first | assumption | omega,by first | assumption | omega⟩);tb_start); intro kzQ _ _ _ _ _ _ hp';obtain ⟨e',_,e2'⟩:=hp';subst e';subst e2';(try unfold kzQ);(try clear kzQ);(try dsimp only))))
 trivial
noncomputable def fdF (vc va:Value) (k:Str):Option Value:=if k=Str.ofString "cells" then some vc else if k=Str.ofString "at" then some va else none
structure FeedAt (w:World) (fe C:Addr) (at_:Nat) (vs:List Value) (cells:List Int) (n:Nat) (ta:Tok) (l:Led):Prop where
 d:DS Challenge.rw_pq0123_01.row.prog w fe 2 (fdF (.ref C) (.int (at_:Int) ta)) l
 mc:(C,PySem.W.listOf vs.toArray n)∈l
 hi:IntsAre vs cells
 ne:C≠fe
 len:cells.length<=24
example:True:=by
 k_with "ktr_rel"=>(k_extra "g75";(first | with_reducible assumption | (with_reducible exact DS.cons (by ktr_rel))))
 k_with "subscriptTail"=>(k_extra "g75";((k_here;(with_reducible show wpAny _ _ (subscriptTail _ _ (Value.ref _) (Value.str _ _)) _ _ _);k_dflt (refine' ds_item ?kzN ?kzH ?kzp ?_ ?kzs;(case kzN=>k_asm);(case kzH=>ktr_rel);(case kzp=>exact rfl);(case kzs=>with_unfolding_all rfl));intro _)))
 k_with "setItem ref str"=>(k_extra "g75";(refine Hold.out ?_))
 trivial
theorem draw_con {w:World}(fe C:Addr) (at_:Nat) (vs:List Value) (cells:List Int) (n:Nat) (ta:Tok) (wide:Nat) (tw:Tok) (hw:0<wide) :
  Con w 395 [.ref fe,.int (wide:Int) tw] 20 200 (fun news=>FeedAt w fe C at_ vs cells n ta news) (fun news news' r=>∃ (v:Nat) (t t':Tok),v<wide/\r = .int (v:Int) t/\(∀ p∈news,p.1≠fe->p∈news')/\FeedAt w fe C (at_+1) vs cells n t' news'):=by
 rintro mean mg mb dp un gd env outer A₀ base hO L m news s Q E B F X NW T hf hk hd hu I hret
 have H:=I.d
 have mc:=I.mc
 have hi:=I.hi
 have hlen:=I.len
 have hil:=hi.length
 (refine E1 H.obj fun oW mW=>?_)
 refine wpAny_call ?_
 let kzb:List (Str × Value):=[("feed",.ref fe),("wide",.int (wide:Int) tw)]
 k_extra "c0"
 repeat walk1
 refine Hold.done (ds_set_o (by k_asm) (by k_asm) H (by omega) rfl ?_)
 intro h5 tk5 o5 l5 F5 N5 S5 mW5 H5
 have mc5:=S5.keep _ mc I.ne
 have kp5:Hold (∀ p∈news,p.1≠fe->p∈l5):=fun p hp e=>S5.keep p hp e
 obtain ⟨tq,H6⟩:∃ tq,DS Challenge.rw_pq0123_01.row.prog w fe 2 (fun j=>if j=Str.ofString "at" then some (.int ((at_:Int)+1) tq) else fdF (.ref C) (.int (at_:Int) ta) j) l5:=⟨_,H5⟩
 have I5:Hold (FeedAt w fe C (at_+1) vs cells n tq l5):=⟨H6.congr fun k=>by
  unfold fdF
  by_cases e1:k=Str.ofString "at"
  ·subst e1;rfl
  ·simp only [if_neg e1],mc5,hi,I.ne,hlen⟩
 clear S5 H mW mc H6
 repeat walk1
 ·(refine hret _ _ _ _ ‹_› ‹_› ?_;refine K3 0 _ tq (M4 hw rfl kp5.out I5.out))
 ·repeat walk1
  have g1:0<=(cells.getD (((at_:Int)+1 - 1).toNat) 0).fmod (wide:Int):=Int.fmod_nonneg_of_pos _ (by omega)
  have g2:(cells.getD (((at_:Int)+1 - 1).toNat) 0).fmod (wide:Int)<wide:=Int.fmod_lt_of_pos _ (by omega)
  obtain ⟨v,hv⟩:∃ v:Nat,(cells.getD (((at_:Int)+1 - 1).toNat) 0).fmod (wide:Int)=v:=⟨_,(Int.toNat_of_nonneg g1).symm⟩
  rw [hv]
  rw [hv] at g2
  (refine hret _ _ _ _ ‹_› ‹_› ?_;refine K3 v _ tq (M4 (by omega) rfl kp5.out I5.out))
end
section
example:True:=by
 k_with "g76"=>fail_if_success k_extra "x76"
 k_with "x75"=>skip
 k_with "bank"=>(k_extra "g76";(first | decide | exists b148,b526,b137,b87,b83,b527,b528,b530,b532,b70,b533,b85,b86,b257,b486,b255,b72))
 k_with "cuton"=>k_extra "g76"
 trivial
example:True:=by
 k_with "call ref"=>(k_extra "g76";((k_here;(with_reducible show wpAny _ _ (call (Value.ref 213) _) _ _ _);k_dflt (refine' con_use (find_con _ _ _ _ _ _ _ _ ?kzFO) ?kB ?kF ?kX ?kN ?kT ?kA ?kH ?kf ?kk ?kd ?ku ?hp ?_;(case kzFO=>assumption);(case hp=>refine ⟨by assumption,by first | assumption | omega,by first | assumption | omega⟩);tb_start); intro kzQ _ _ _ _ _ _ hp';obtain ⟨e',_,e2'⟩:=hp';subst e';subst e2';(try unfold kzQ);(try clear kzQ);(try dsimp only))))
 trivial
theorem dh_get_none {prog:Program}{w:World}{A:Around}{E:Value->Shared->Prop}{s:Shared}{hO:Heap}{L d a:Addr}{news:Led}{k:List Mix}{xs:Ents}{dflt:Value}{Q:Value->Shared->Prop}(hu:A.units+1<cLine) (N:News hO L s.heap news) (H:DH prog w d xs news) (T:TupIn prog w a k news) (hk:atKey xs k=none) (h:∀ tk,Q dflt { s with toks:=tk }) :
  wpAny (model prog w) A (call (.builtin "dict.get") [.ref d,.ref a,dflt]) Q E s:=dh_get2 hu N H T fun tk=>by rw [hk];exact h tk
theorem dh_get_some {prog:Program}{w:World}{A:Around}{E:Value->Shared->Prop}{s:Shared}{hO:Heap}{L d a:Addr}{news:Led}{k:List Mix}{xs:Ents}{dflt:Value}{p:Addr × Value}{Q:Value->Shared->Prop}(hu:A.units+1<cLine) (N:News hO L s.heap news) (H:DH prog w d xs news) (T:TupIn prog w a k news) (hk:atKey xs k=some p) (h:∀ tk,Q p.2 { s with toks:=tk }) :
  wpAny (model prog w) A (call (.builtin "dict.get") [.ref d,.ref a,dflt]) Q E s:=dh_get2 hu N H T fun tk=>by rw [hk];exact h tk
example:True:=by
 k_with "ktr_rel"=>(k_extra "g76";(first | with_reducible assumption | (with_reducible exact DH.cons (by ktr_rel)) | ((with_reducible refine BAt.cons ?_);ktr_rel) | ((with_reducible refine HAt.cons ?_);ktr_rel) | ((with_reducible refine UAt.cons ?_);ktr_rel)))
 k_with "call ref"=>(k_extra "g76";((k_here;(with_reducible show wpAny _ _ (call (Value.ref 310) _) _ _ _);k_dflt (refine' con_use (hfind_con _ _ _ _ _ _ _ _ _ _ _ _ _ _ ?kzFO _ _) ?kB ?kF ?kX ?kN ?kT ?kA ?kH ?kf ?kk ?kd ?ku ?hp ?_;(case kzFO=>with_reducible assumption);tb_start;(case hp=>refine M4 (by ktr_rel) (by ktr_rel) (by omega) (by omega))); intro kzQ _ _ _ _ _ _ hp';obtain ⟨e',_,e2'⟩:=hp';subst e';subst e2';(try unfold kzQ);(try clear kzQ);(try dsimp only))))
 k_with "binaryOp Add ref ref"=>(k_extra "g76";((k_here;(with_reducible show wpAny _ _ (binaryOp _ (Value.ref _) (Value.ref _)) _ _ _);refine Hold.out ?_)))
 k_with "call builtin:dict.get"=>(k_extra "g76";(refine Hold.out ?_))
 trivial
theorem seek_con {w:World}(hp b u:Addr) (N:Nat) (kn:List (List Mix × Int)) (ab:Int->Option (List Int)) (wt:List Int) (EE q:Nat) (ns ls:List Int) (cs:List (List Int)) (ms:List (Int × Int)) (fh fb fu:List Addr) (S:St N kn ab wt EE q ns ls cs ms)
  (x:Str) (tx:Tok) (kt:Addr) (vks:List Value) (ks:List Int) (nt:Nat) (hik:IntsAre vks ks) (hk10:ks.length<100) (hkr:∀ k∈ks,0<=k/\k<N) :
  Con w 374 [.ref hp,.str x tx,.ref kt] 60 600 (fun news=>Trio w hp b u (bankK N) kn ab wt N EE ns cs ms fh fb fu news/\(kt,tupOf vks.toArray nt)∈news)
   (fun news news' r=>(∀ p∈news,p∈news')/\((∃ (n:Nat) (t:Tok),n<N/\(nKey x (ks.map fun k=>ls.getD k.toNat 0),(n:Int))∈kn/\r = .int (ls.getD n 0) t)∨((∀ p∈kn,p.1≠nKey x (ks.map fun k=>ls.getD k.toNat 0))/\∃ t,r = .int (-1) t))):=by
 (intro mean mg mb dp un gd env outer A₀ base hO L m news s Q E B F X NW T hf hk hd hu zr26 hret;(refine G2 ?_ zr26;try clear zr26;intro TR mkt))
 have U:=TR.h
 have UU:=TR.u
 have FO:=S.fo
 have hsl:=S.nlen
 have U':=U
 (refine E16 U' fun dh le lf dk da lw kk n1 n2 n3 n4 ve vf vw kxs fa I=>?_;try clear U')
 have m1:=I.inst
 have m2:=I.dict
 have hDH:=I.known
 have hKN:=I.knis
 clear I
 refine wpAny_call ?_
 let kzb:List (Str × Value):=[("self",.ref hp),("op",.str x tx),("classes",.ref kt)]
 k_extra "c1"
 rename_i oc d1'
 revert l1
 intro lD
 repeat walk1
 refine Hold.done (comp_tup_ints (fun k=>ls.getD k.toNat 0) rfl (by k_asm) (by k_asm) (by k_mem) hik (by omega) ?_ ?_)
 ·intro j t I oI C oC D m₂ ys h tk E' hj hC hx F3 N3 off
  have hj2:=hkr j hj
  repeat walk1
  refine ⟨_,_,_,rfl,by k_asm,by k_asm,off,trivial,rfl,_,rfl⟩
 intro D3 ys3 h3 tk3 hys3 F3 N3 nD3
 have hys3l:=hys3.length
 rw [List.length_map] at hys3l
 repeat walk1
 refine Hold.done (tup_addG (by k_asm) (by k_asm) (by k_mem) (by k_mem) (by simp) (by show (1:Nat)<5000;omega) (by omega) ?_)
 intro D h1 l1 n9 F1 N1 mD kp1 bk1 hD
 have TD:TupIn Challenge.rw_pq0123_01.row.prog w D (nKey x (ks.map fun k=>ls.getD k.toNat 0)) l1:=tupIn_n mD hys3
 have kq:Hold (∀ p∈news,p∈l1):=fun p hp=>kp1 _ (.tail _ (.tail _ (.tail _ (.tail _ hp))))
 have c1:(L'+1,oc)∈l1:=kp1 _ (.tail _ (.tail _ (.tail _ (.head _))))
 clear kp1 bk1 hD
 have H1:DH Challenge.rw_pq0123_01.row.prog w dk kxs l1:=hDH.move fun p hp _=>kq.out p hp
 have U1:=U.move (l':=l1) fun p hp _=>kq.out p hp
 have UU1:=UU.move (l':=l1) fun p hp _=>kq.out p hp
 have m1:=kq.out _ m1
 have m2:=kq.out _ m2
 repeat walk1
 rcases hat:atKey kxs (nKey x (ks.map fun k=>ls.getD k.toNat 0)) with _ | p
 ·have hno:=kn_none hKN hat
  refine Hold.done (dh_get_none (by ktr_units) (by k_asm) H1 TD hat ?_)
  intro tk5
  repeat walk1
  exact hret _ _ _ _ ‹_› ‹_› ⟨kq,.inr ⟨hno,_,rfl⟩⟩
 ·(refine E2 (kn_of_at hKN hat) fun n' t'=>G2 fun e2 hkn=>?_)
  (refine E1 (S.knx _ hkn) fun m'=>G3 fun hm1 hm2 hm3=>?_)
  have hm2:n'=m':=hm2
  subst hm2
  have hn2:(m':Int)<ns.length:=by omega
  refine Hold.done (dh_get_some (by ktr_units) (by k_asm) H1 TD hat ?_)
  intro tk5
  rw [e2]
  repeat walk1
  rw [show ((m':Int)).toNat=m' by omega]
  exact hret _ _ _ _ ‹_› ‹_› ⟨kq,.inl ⟨m',_,hm1,hkn,rfl⟩⟩
theorem seekFH {w:World}(hp:Addr) (N q:Nat) (ls:List Int) (foot:List Addr) (tx:Tok) (kt:Addr) (c:Int) (tc:Tok) (nt:Nat) (hc:isRoot ls c) :
  Con w 374 [.ref hp,.str (Str.ofString "f") tx,.ref kt] 60 600 (fun news=>HS w hp N q ls [] foot news/\(kt,tupOf (List.toArray [.int c tc]) nt)∈news)
   (fun news news' r=>(∀ p∈news,p∈news')/\((∃ (m:Nat) (t:Tok),m+1<N/\ls.getD m 0=c/\r = .int (ls.getD (m+1) 0) t)∨((∀ m:Nat,m+1<N->ls.getD m 0≠c)/\∃ t,r = .int (-1) t))):=by
 refine Con.of fun news ⟨H,hm⟩=>?_
 (refine E11 H fun b u kn ab EE ns cs ms fh fb fu=>G3 fun T S zo12=>?_;try clear H;rcases zo12 with rfl)
 have hl:=S.llen
 have e:nKey (Str.ofString "f") ([c].map fun k=>ls.getD k.toNat 0)=fK c:=by
  rw [List.map_cons,List.map_nil,hc.2.2];rfl
 refine K2 _ _ (M3 (seek_con hp b u N kn ab [] EE q ns ls cs ms fh fb fu S (Str.ofString "f") tx kt [.int c tc] [c] nt (.cons _ _ .nil) (by show (1:Nat)<100;omega) (fun k hk=>?_)) ⟨T,hm⟩ ?_)
 ·rw [List.mem_singleton.mp hk]
  exact ⟨hc.1,by have:=hc.2.1;omega⟩
 ·(intro news' r zr2;(refine G2 ?_ zr2;try clear zr2;intro kp h))
  rw [e] at h
  refine ⟨kp,?_⟩
  rcases h with ⟨n,t,hn,hk,er⟩ | ⟨hno,t,er⟩
  ·(refine E1 (S.knx _ hk) fun m=>G3 fun h1 h2 h3=>?_)
   have h2:(n:Int)=m:=h2
   have e2:m=n:=by omega
   subst e2
   unfold KeyFor at h3
   by_cases h0:m=0
   ·rw [if_pos h0] at h3
    exact absurd h3.symm (xK_ne_fK _)
   ·rw [if_neg h0] at h3
    (refine E1 h3 fun d=>G3 fun d1 d2 d3=>?_;try clear h3)
    have e3:=fK_inj d2
    refine .inl ⟨m - 1,t,by omega,?_,by rw [show m - 1+1=m by omega];exact er⟩
    rw [← d3]
    have:=hc.2.2
    rw [e3,show ((d:Int)).toNat=d by omega] at this
    rw [e3];exact this
  ·refine .inr ⟨fun m hm e3=>?_,t,er⟩
   rcases S.pend (m+1) hm with h | ⟨n',_,h2,_⟩
   ·cases h
   ·refine hno _ h2 ?_
    unfold keyOf
    rw [if_neg (by omega),Nat.add_sub_cancel,e3]
theorem seekXH {w:World}(hp:Addr) (N q:Nat) (ls:List Int) (foot:List Addr) (tx:Tok) (kt:Addr) (nt:Nat) (hN:0<N) :
  Con w 374 [.ref hp,.str (Str.ofString "x") tx,.ref kt] 60 600 (fun news=>HS w hp N q ls [] foot news/\(kt,tupOf (List.toArray []) nt)∈news)
   (fun news news' r=>(∀ p∈news,p∈news')/\∃ t,r = .int 0 t):=by
 refine Con.of fun news ⟨H,hm⟩=>?_
 (refine E11 H fun b u kn ab EE ns cs ms fh fb fu=>G3 fun T S zo13=>?_;try clear H;rcases zo13 with rfl)
 have hl:=S.llen
 refine K2 _ _ (M3 (seek_con hp b u N kn ab [] EE q ns ls cs ms fh fb fu S (Str.ofString "x") tx kt [] [] nt .nil (by show (0:Nat)<100;omega) (fun k hk=>by cases hk)) ⟨T,hm⟩ ?_)
 (intro news' r zr2;(refine G2 ?_ zr2;try clear zr2;intro kp h))
 refine ⟨kp,?_⟩
 rcases h with ⟨n,t,hn,hk,er⟩ | ⟨hno,t,er⟩
 ·(refine E1 (S.knx _ hk) fun m=>G3 fun h1 h2 h3=>?_)
  have h2:(n:Int)=m:=h2
  have e2:m=n:=by omega
  subst e2
  unfold KeyFor at h3
  by_cases h0:m=0
  ·subst h0
   have:=S.fo.rng 0 (by have:=S.nlen;omega)
   exact ⟨t,by rw [er,show ls.getD 0 0=0 by omega]⟩
  ·rw [if_neg h0] at h3
   (refine E1 h3 fun d=>G3 fun _ d2 _=>?_;try clear h3)
   exact absurd d2 (xK_ne_fK _)
 ·rcases S.pend 0 hN with h | ⟨n',_,h2,_⟩
  ·cases h
  ·exact absurd rfl (hno _ h2)
theorem seekGH {w:World}(hp:Addr) (N q:Nat) (ls:List Int) (foot:List Addr) (tx:Tok) (kt:Addr) (tc:Tok) (nt:Nat) (hN:0<N) :
  Con w 374 [.ref hp,.str (Str.ofString "g") tx,.ref kt] 60 600 (fun news=>HS w hp N q ls [] foot news/\(kt,tupOf (List.toArray [.int 0 tc]) nt)∈news)
   (fun news news' r=>(∀ p∈news,p∈news')/\∃ t,r = .int (-1) t):=by
 refine Con.of fun news ⟨H,hm⟩=>?_
 (refine E11 H fun b u kn ab EE ns cs ms fh fb fu=>G3 fun T S zo14=>?_;try clear H;rcases zo14 with rfl)
 refine K2 _ _ (M3 (seek_con hp b u N kn ab [] EE q ns ls cs ms fh fb fu S (Str.ofString "g") tx kt [.int 0 tc] [0] nt (.cons _ _ .nil) (by show (1:Nat)<100;omega) (fun k hk=>?_)) ⟨T,hm⟩ ?_)
 ·rw [List.mem_singleton.mp hk];omega
 ·(intro news' r zr2;(refine G2 ?_ zr2;try clear zr2;intro kp h))
  refine ⟨kp,?_⟩
  rcases h with ⟨n,t,hn,hk,er⟩ | ⟨hno,t,er⟩
  ·(refine E1 (S.knx _ hk) fun m=>G3 fun h1 h2 h3=>?_)
   exfalso
   have ne1:Str.ofString "g"≠Str.ofString "x":=by decide +kernel
   have ne2:Str.ofString "g"≠Str.ofString "f":=by decide +kernel
   unfold KeyFor at h3
   by_cases h0:m=0
   ·rw [if_pos h0] at h3
    exact ne1 (Sum.inl.inj (List.cons.inj h3).1)
   ·rw [if_neg h0] at h3
    (refine E1 h3 fun d=>G3 fun _ d2 _=>?_;try clear h3)
    exact ne2 (Sum.inl.inj (List.cons.inj d2).1)
  ·exact ⟨t,er⟩
end
section
set_option tactic.hygienic false
example:True:=by
 k_with "x76"=>skip
 k_with "bank"=>((fail_if_success k_extra "x77");(first | decide | exists b548,b537,b539,b540,b541,b542,b543,b544,b546,b547,b549,b550,b551,b552,b553,b554,b555,b556,b557,b530,b139,b558,b149,b559,b560,b561,b562,b563,b506,b564))
 trivial
theorem mod_pred_pos {x t:Nat}(ht:0<t) (h:0<x % t):(x - 1) % t=x % t - 1:=by
 have h1:=Nat.div_add_mod x t
 have h2:=Nat.mod_lt x ht
 have e:x - 1=t * (x / t)+(x % t - 1):=by omega
 rw [e,Nat.mul_add_mod,Nat.mod_eq_of_lt (by omega)]
theorem mod_pred_zero {x t:Nat}(ht:0<t) (hx:0<x) (h:x % t=0):(x - 1) % t=t - 1:=by
 have h1:=Nat.div_add_mod x t
 have h3:0<x / t:=by
  rcases Nat.eq_zero_or_pos (x / t) with e | e
  ·rw [e,Nat.mul_zero] at h1;omega
  ·exact e
 obtain ⟨m,hm⟩:∃ m,x / t=m+1:=⟨x / t - 1,by omega⟩
 have h4:t * (m+1)=t * m+t:=Nat.mul_succ t m
 rw [hm] at h1
 have e:x - 1=t * m+(t - 1):=by omega
 rw [e,Nat.mul_add_mod,Nat.mod_eq_of_lt (by omega)]
theorem cls_two {ls:List Int}{wd:Wd}(hw:WdOk wd) (hls:∀ n:Nat,n<ls.length->ls.getD n 0=(homeN wd n:Nat)) {c:Nat}(hc:c<ls.length) :
  ∃ k1 k2,∀ i:Nat,(i:Int)∈ofLab ls c->ndK ls i=k1∨ndK ls i=k2:=by
 have hm:∀ i:Nat,(i:Int)∈ofLab ls c->i<ls.length/\homeN wd i=c:=fun i hi=>by
  (refine G2 ?_ (mem_ofLab.mp hi);intro zo15 h2;obtain ⟨_,h1⟩:=zo15)
  have h3:i<ls.length:=by omega
  rw [show ((i:Int)).toNat=i by omega,hls i h3] at h2
  exact ⟨h3,by omega⟩
 cases wd with
 | none=>refine K2 (ndK ls c) [] (fun i hi=>.inl (by rw [show i=c from (hm i hi).2]))
 | some p =>
  obtain ⟨b,t⟩:=p
  have ht:0<t:=hw
  refine K2 (ndK ls c) (fK ((b+t - 1:Nat):Int)) (fun i hi=>?_)
  (refine G2 ?_ (hm i hi);intro hi1 hi2)
  by_cases hib:i<b
  ·rw [home_lt hib] at hi2
   exact .inl (by rw [hi2])
  ·rw [home_ge hib] at hi2
   by_cases hic:i=c
   ·exact .inl (by rw [hic])
   ·have hlt:=Nat.mod_lt (i - b) ht
    have hge:t<=i - b:=by
     rcases Nat.lt_or_ge (i - b) t with h | h
     ·rw [Nat.mod_eq_of_lt h] at hi2;omega
     ·exact h
    have hni:ndK ls i=fK ((homeN (some (b,t)) (i - 1):Nat):Int):=by
     unfold ndK
     rw [if_neg (by omega),hls (i - 1) (by omega)]
    rw [hni,home_ge (by omega)]
    have e1:i - 1 - b=i - b - 1:=by omega
    rw [e1]
    rcases Nat.eq_zero_or_pos ((i - b) % t) with h0 | h0
    ·refine .inr ?_
     rw [mod_pred_zero ht (by omega) h0]
     congr 2
     omega
    ·refine .inl ?_
     rw [mod_pred_pos ht h0]
     unfold ndK
     rw [if_neg (by omega),hls (c - 1) (by omega),home_ge (by omega),Nat.mod_eq_of_lt (show c - 1 - b<t by omega)]
     congr 2
     omega
theorem cls_len {ls:List Int}{wd:Wd}(hw:WdOk wd) (hls:∀ n:Nat,n<ls.length->ls.getD n 0=(homeN wd n:Nat)) {c:Nat}(hc:c<ls.length) (ms:List (List Mix)) (hN:ms.Nodup) (h:∀ k∈ms,∃ i:Nat,(i:Int)∈ofLab ls c/\k=ndK ls i):ms.length<=2:=by
 (refine E2 (cls_two hw hls hc) fun k1 k2 hk=>?_)
 exact nodup_lenT (ns:=[k1,k2]) hN fun k hk'=>by
  (refine E1 (h k hk') fun i=>G2 fun hi zo16=>?_;rcases zo16 with rfl)
  rcases hk i hi with e | e <;> rw [e] <;> simp
theorem many_len {ls:List Int}{N:Nat}(hN:0<N) {ms:List (List Mix)}{ns:List Int}(h1:ms.Nodup) (h2:∀ k,k∈ms↔∃ i,i<N/\k=ndK ls i) (h3:ns.Nodup) (h4:∀ j,j∈ns↔∃ n:Nat,n+1<N/\j=ls.getD n 0):ms.length=1+ns.length:=by
 have hmem:∀ k,k∈ms↔k∈xK::ns.map fK:=fun k=>by
  rw [h2,List.mem_cons,List.mem_map]
  constructor
  ·(intro zr0;(refine E1 zr0 fun i=>G2 fun hi zo17=>?_;try clear zr0;rcases zo17 with rfl))
   unfold ndK
   by_cases h0:i=0
   ·exact .inl (if_pos h0)
   ·rw [if_neg h0]
    exact .inr ⟨_,(h4 _).mpr ⟨i - 1,by omega,rfl⟩,rfl⟩
  ·(intro zr0;rcases zr0 with zr0 | zr0;rcases zr0 with rfl;rotate_left;(refine E1 zr0 fun j=>G2 fun hj zo18=>?_;try clear zr0;rcases zo18 with rfl);rotate_right)
   ·refine K1 0 (M2 hN rfl)
   ·(refine E1 ((h4 j).mp hj) fun n=>G2 fun hn zo19=>?_;rcases zo19 with rfl)
    refine K1 (n+1) (M2 hn ?_)
    unfold ndK
    rw [if_neg (Nat.succ_ne_zero n)];rfl
 have hnd:(xK::ns.map fK).Nodup:=by
  rw [List.nodup_cons]
  refine ⟨fun h=>?_,List.pairwise_map.mpr (List.Pairwise.imp (fun {a b} h e=>h (fK_inj e)) h3)⟩
  (refine E1 (List.mem_map.mp h) fun j=>G2 fun _ e=>?_)
  simp [xK,fK] at e
 have a1:=nodup_lenT h1 fun k hk=>(hmem k).mp hk
 have a2:=nodup_lenT hnd fun k hk=>(hmem k).mpr hk
 simp only [List.length_cons,List.length_map] at a1 a2
 omega
theorem sorted_uniq {α:Type}{R:α->α->Prop}(has:∀ a b,R a b->¬ R b a):∀ {l1 l2:List α},l1.Pairwise R->l2.Pairwise R->(∀ k,k∈l1↔k∈l2)->l1=l2
 | [],[],_,_,_=>rfl
 | [],b::l2,_,_,h=>absurd ((h b).mpr List.mem_cons_self) List.not_mem_nil
 | a::l1,[],_,_,h=>absurd ((h a).mp List.mem_cons_self) List.not_mem_nil
 | a::l1,b::l2,p1,p2,h=>by
  rw [List.pairwise_cons] at p1 p2
  have hab:a=b:=by
   rcases List.mem_cons.mp ((h a).mp List.mem_cons_self) with e | h1
   ·exact e
   ·rcases List.mem_cons.mp ((h b).mpr List.mem_cons_self) with e | h2
    ·exact e.symm
    ·exact absurd (p2.1 a h1) (has _ _ (p1.1 b h2))
  subst hab
  have e:=sorted_uniq has p1.2 p2.2 fun k=>by
   constructor
   ·intro hk
    rcases List.mem_cons.mp ((h k).mp (List.mem_cons_of_mem _ hk)) with e | h1
    ·exact absurd (e ▸ p1.1 k hk) fun r=>has _ _ r r
    ·exact h1
   ·intro hk
    rcases List.mem_cons.mp ((h k).mpr (List.mem_cons_of_mem _ hk)) with e | h1
    ·exact absurd (e ▸ p2.1 k hk) fun r=>has _ _ r r
    ·exact h1
  rw [e]
theorem ltN_asym:∀ a b:List Mix,ltN a b=true->¬ ltN b a=true:=by
 intro a b h1 h2
 unfold ltN at h1 h2
 cases ha:numK a with
 | none=>rw [ha] at h1;cases h1
 | some i =>
  rw [ha] at h1 h2
  cases hb:numK b with
  | none=>rw [hb] at h2;cases h2
  | some j =>
   rw [hb] at h1 h2
   exact Int.lt_irrefl _ (Int.lt_trans (of_decide_eq_true h1) (of_decide_eq_true h2))
theorem nodes_due {ls:List Int}{N:Nat}(hN:N=ls.length) {c:Nat}(hc:c<N) {ks:List (List Mix)}{ns:List Int}(h1:ks.Pairwise (fun p q=>ltN p q=true)) (h2:∀ k,k∈ks↔∃ i:Nat,(i:Int)∈ofLab ls c/\k=ndK ls i)
  (h3:ns.Pairwise (· < ·)) (h4:∀ d,d∈ns↔∃ n:Nat,n+1<N/\d=ls.getD n 0/\ls.getD (n+1) 0=c) (h0:ls.getD 0 0=0):ks=ns.map fK++(if c=0 then [xK] else []):=by
 refine sorted_uniq ltN_asym h1 ?_ fun k=>?_
 ·rw [List.pairwise_append]
  refine M3 (List.pairwise_map.mpr (List.Pairwise.imp (fun {a b} h=>?_) h3)) ?_ (fun a ha b hb=>?_)
  ·exact decide_eq_true h
  ·split <;> simp
  ·split at hb
   ·(refine E1 (List.mem_map.mp ha) fun d=>G2 fun _ zo20=>?_;rcases zo20 with rfl)
    rw [List.mem_singleton] at hb
    subst hb
    rfl
   ·cases hb
 ·rw [h2,List.mem_append,List.mem_map]
  constructor
  ·(intro zr0;(refine E1 zr0 fun i=>G2 fun hi zo21=>?_;try clear zr0;rcases zo21 with rfl))
   (refine G2 ?_ (mem_ofLab.mp hi);intro zo22 hi2;obtain ⟨_,hi1⟩:=zo22)
   rw [show ((i:Int)).toNat=i by omega] at hi2
   by_cases e0:i=0
   ·subst e0
    rw [h0] at hi2
    refine .inr ?_
    rw [if_pos (by omega)]
    exact List.mem_singleton.mpr rfl
   ·refine .inl ⟨_,(h4 _).mpr ⟨i - 1,by omega,rfl,?_⟩,?_⟩
    ·rw [show i - 1+1=i by omega];exact hi2
    ·unfold ndK;rw [if_neg e0]
  ·(intro zr0;rcases zr0 with zr0 | h;(refine E1 zr0 fun d=>G2 fun hd zo23=>?_;try clear zr0;rcases zo23 with rfl))
   ·(refine E1 ((h4 d).mp hd) fun n=>G3 fun hn zo24 e=>?_;rcases zo24 with rfl)
    refine K1 (n+1) (M2 (mem_ofLab.mpr ⟨⟨by omega,by omega⟩,?_⟩) ?_)
    ·rw [show (((n+1:Nat):Int)).toNat=n+1 by omega];exact e
    ·unfold ndK;rw [if_neg (Nat.succ_ne_zero n)];rfl
   ·split at h
    ·rename_i e
     rw [List.mem_singleton] at h
     refine K1 0 (M2 (mem_ofLab.mpr ⟨⟨by omega,by omega⟩,?_⟩) h)
     rw [show (((0:Nat):Int)).toNat=0 from rfl,h0,e];rfl
    ·cases h
theorem asc_of {l:List Int}(h:l.Pairwise (·<=·)) (hn:l.Nodup):l.Pairwise (· < ·) :=
 List.Pairwise.imp (fun {a b} q=>by (refine G2 ?_ q;try clear q;intro q1 q2);omega) (List.Pairwise.and h hn)
end
section
set_option tactic.hygienic false
example:True:=by
 k_with "x77"=>skip
 k_with "bank"=>((fail_if_success k_extra "x78");(exists b566,b565,b139,b123,b567,b568,b368,b569,b570,b571,b572,b573,b88,b148,b574))
 trivial
theorem nums_pl (n:Nat):(nums n).Pairwise (· < ·):=asc_of (nums_le n) (nums_nodup n)
theorem getD_of_mem {l:List Int}{j:Int}(h:j∈l):∃ n,n<l.length/\j=l.getD n 0:=by
 obtain ⟨i,hi,e⟩:=List.getElem_of_mem h
 refine K1 i (M2 hi (by rw [List.getD_eq_getElem?_getD,List.getElem?_eq_getElem hi];exact e.symm))
theorem mem_of_getD {l:List Int}{n:Nat}(h:n<l.length):l.getD n 0∈l:=by
 rw [List.getD_eq_getElem?_getD,List.getElem?_eq_getElem h]
 exact List.getElem_mem h
section
variable {ls:List Int}{wd:Wd}{top:Nat}
theorem home_root (hll:ls.length=top+1) (hls:∀ n:Nat,n<top+1->ls.getD n 0=(homeN wd n:Nat)) {c:Int}(hc:c∈ls):∃ c':Nat,c=c'/\c'<top+1/\homeN wd c'=c'/\isRoot ls c:=by
 (refine E1 (getD_of_mem hc) fun n=>G2 fun hn e=>?_)
 rw [hll] at hn
 rw [hls n hn] at e
 have h1:=home_le wd n
 have h2:=home_home wd n
 refine K1 (homeN wd n) (M4 e (by omega) h2 ?_)
 subst e
 refine M3 (by omega) (by rw [hll];omega) ?_
 rw [show ((homeN wd n:Nat):Int).toNat=homeN wd n by omega,hls _ (by omega),h2]
theorem kept_roots (hll:ls.length=top+1) (hls:∀ n:Nat,n<top+1->ls.getD n 0=(homeN wd n:Nat)) {ks:List Int}(h1:ks.Pairwise (· < ·)) (h2:∀ j,j∈ks↔j∈ls):rootsL ls=ks:=by
 refine sorted_uniq (R:=(· < ·)) (fun a b h q=>by omega) ((nums_pl _).sublist List.filter_sublist) h1 fun j=>?_
 rw [h2,rootsL,List.mem_filter,mem_nums,beq_iff_eq]
 constructor
 ·(intro zr0;(refine G2 ?_ zr0;try clear zr0;intro zo25 h5;obtain ⟨h3,h4⟩:=zo25))
  rw [← h5]
  exact mem_of_getD (by omega)
 ·intro hj
  (refine E1 (home_root hll hls hj) fun c'=>G4 fun zo26 h3 h4 h5=>?_;rcases zo26 with rfl)
  exact ⟨⟨h5.1,h5.2.1⟩,h5.2.2⟩
theorem mem_lesser (hll:ls.length=top+1) {ks:List Int}(h:∀ j,j∈ks↔j∈ls.take top):∀ j,j∈ks↔∃ n:Nat,n+1<top+1/\j=ls.getD n 0:=fun j=>by
 rw [h]
 constructor
 ·intro hj
  (refine E1 (getD_of_mem hj) fun n=>G2 fun hn e=>?_)
  rw [List.length_take] at hn
  refine K1 n (M2 (by omega) ?_)
  rw [e,List.getD_eq_getElem?_getD,List.getD_eq_getElem?_getD,List.getElem?_take_of_lt (by omega)]
 ·(intro zr0;(refine E1 zr0 fun n=>G2 fun hn zo27=>?_;try clear zr0;rcases zo27 with rfl))
  have h1:n<(ls.take top).length:=by rw [List.length_take];omega
  have:=mem_of_getD h1
  rwa [List.getD_eq_getElem?_getD,List.getElem?_take_of_lt (by omega),← List.getD_eq_getElem?_getD] at this
theorem next_home (hls:∀ n:Nat,n<top+1->ls.getD n 0=(homeN wd n:Nat)) {m c':Nat}(hm:m+1<top+1) (h:ls.getD m 0=(c':Int)):ls.getD (m+1) 0=(homeN wd (c'+1):Nat):=by
 rw [hls m (by omega)] at h
 rw [hls _ hm,home_succ,show homeN wd m=c' by omega]
theorem due_mem (hll:ls.length=top+1) (hls:∀ n:Nat,n<top+1->ls.getD n 0=(homeN wd n:Nat)) {ks:List Int}(h:∀ j,j∈ks↔∃ n:Nat,n+1<top+1/\j=ls.getD n 0) (c:Nat) :
  ∀ d,d∈ks.filter (fun (x:Int)=>decide (homeN wd (x.toNat+1)=c))↔∃ n:Nat,n+1<top+1/\d=ls.getD n 0/\ls.getD (n+1) 0=(c:Int):=fun d=>by
 rw [List.mem_filter,h,decide_eq_true_eq]
 constructor
 ·(intro zr0;(refine G2 ?_ zr0;try clear zr0;intro zo28 e2;obtain ⟨n,hn,e⟩:=zo28))
  refine K1 n (M3 hn e ?_)
  rw [hls n (by omega)] at e
  rw [next_home hls hn (hls n (by omega))]
  rw [e,show ((homeN wd n:Nat):Int).toNat=homeN wd n by omega] at e2
  rw [e2]
 ·(intro zr0;(refine E1 zr0 fun n=>G3 fun hn e e2=>?_;try clear zr0))
  refine ⟨⟨n,hn,e⟩,?_⟩
  rw [hls n (by omega)] at e
  rw [next_home hls hn (hls n (by omega))] at e2
  rw [e,show ((homeN wd n:Nat):Int).toNat=homeN wd n by omega]
  omega
theorem right_nodes (hll:ls.length=top+1) (hls:∀ n:Nat,n<top+1->ls.getD n 0=(homeN wd n:Nat)) {ks:List Int}(h:∀ j,j∈ks↔∃ n:Nat,n+1<top+1/\j=ls.getD n 0) (ha:ks.Pairwise (· < ·)) {c:Nat}(hc:c<top+1) {kk:List (List Mix)}
  (h1:kk.Pairwise (fun p q=>ltN p q=true)) (h2:∀ k,k∈kk↔∃ i:Nat,(i:Int)∈ofLab ls c/\k=ndK ls i) :
  kk=(ks.filter (fun (x:Int)=>decide (homeN wd (x.toNat+1)=c))).map fK++(if c=0 then [xK] else []) :=
 nodes_due (N:=top+1) hll.symm hc h1 h2 (ha.sublist List.filter_sublist) (due_mem hll hls h c) (by rw [hls 0 (by omega)];have:=home_le wd 0;omega)
theorem ok_keys (ns:List Int) (c:Nat):∀ k∈ns.map fK++(if c=0 then [xK] else []),∀ a∈k,mixOk a=true:=by
 intro k hk a ha
 rcases List.mem_append.mp hk with h | h
 ·(refine E1 (List.mem_map.mp h) fun d=>G2 fun _ zo29=>?_;rcases zo29 with rfl)
  simp only [fK,List.mem_cons,List.not_mem_nil,or_false] at ha
  rcases ha with rfl | rfl
  ·show PyData.strOk (Str.ofString "f")=true
   decide +kernel
  ·rfl
 ·split at h
  ·rw [List.mem_singleton] at h
   subst h
   simp only [xK,List.mem_cons,List.not_mem_nil,or_false] at ha
   subst ha
   show PyData.strOk (Str.ofString "x")=true
   decide +kernel
  ·exact absurd h List.not_mem_nil
end
end
section
example:True:=by
 k_with "g79"=>fail_if_success k_extra "x79"
 k_with "x78"=>skip
 k_with "bank"=>(k_extra "g79";(first | decide | exists b591,b148,b589,b584,b586,b593,b595,b597,b606,b585,b587,b588,b446,b590,b592,b594,b596,b598,b599,b600,b601,b602,b510,b603,b566,b604,b605,b139,b607,b608,b609,b444,b610,b611,b257,b612))
 k_with "cuton"=>k_extra "g79"
 trivial
example:True:=by
 k_with "call ref"=>(k_extra "g79";((k_here;(with_reducible show wpAny _ _ (call (Value.ref 213) _) _ _ _);k_dflt (refine' con_use (find_con _ _ _ _ _ _ _ _ ?kzFO) ?kB ?kF ?kX ?kN ?kT ?kA ?kH ?kf ?kk ?kd ?ku ?hp ?_;(case kzFO=>assumption);(case hp=>refine ⟨by assumption,by first | assumption | omega,by first | assumption | omega⟩);tb_start); intro kzQ _ _ _ _ _ _ hp';obtain ⟨e',_,e2'⟩:=hp';subst e';subst e2';(try unfold kzQ);(try clear kzQ);(try dsimp only))))
 trivial
example:True:=by
 k_with "ktr_rel"=>(k_extra "g79";(first | with_reducible assumption | (with_reducible exact DS.cons (by ktr_rel)) | (with_reducible exact HS.cons (by ktr_rel))))
 k_with "call ref"=>(k_extra "g79";((k_here;refine Hold.out ?_)))
 k_with "storeName"=>(k_extra "g79";((k_here;k_dflt (refine' cell_set ?kzF ?kzN ?kzc ?kzm ?kzd ?_ ?kza ?kzb;(case kza=>rfl);(case kzb=>rfl);(case kzF=>k_asm);(case kzN=>k_asm);(case kzc=>rfl);(case kzm=>k_mem);(case kzd=>k_asm);k_whole);intro _ _ _ _ _ _ _;(try k_sweep))))
 k_with "call type:range"=>(k_extra "g79";((k_here;refine Hold.out ?_)))
 k_with "compareOp NotEq ref ref"=>(k_extra "g79";((k_here;refine Hold.out ?_)))
 k_with "call builtin:sorted"=>(k_extra "g79";((k_here;refine Hold.out ?_)))
 k_with "subscriptTail Name Slice ref ref"=>(k_extra "g79";((k_here;refine Hold.out ?_)))
 k_with "exec For"=>(k_extra "g79";((k_here;refine Hold.out ?_)))
 k_with "pyIter ref"=>(k_extra "g79";(((with_reducible show wpAny _ _ (pyIter (Value.ref _)) (fun it s₂=>LoopAtD _ _ _ _ _ _ _ _ it s₂) _ _);refine Hold.out ?_)))
 k_with "subscriptTail Name Name ref int"=>(k_extra "g79";((k_here;(with_reducible show wpAny _ _ (subscriptTail _ _ (Value.ref _) (Value.int _ _)) _ _ _);refine Hold.out ?_)))
 k_with "CompEnd"=>(k_extra "g79";(refine Hold.out ?_))
 k_with "binaryOp Add ref ref"=>(k_extra "g79";((k_here;refine Hold.out ?_)))
 k_with "eval IfExp"=>(k_extra "g79";((k_here;refine Hold.out ?_)))
 k_with "ForEndD"=>(k_extra "g79";(refine Hold.out ?_))
 k_with "compareOp In int ref"=>(k_extra "g79";((k_here;refine Hold.out ?_)))
 trivial
theorem WdAt.move {w:World}{W:Addr}{wd:Wd}{l l':Led}(H:WdAt w W wd l) (h:∀ p∈l,p.1=W->p∈l'):WdAt w W wd l':=by
 (refine E3 H fun vb vt t2=>G3 fun e1 e2 D=>?_;try clear H)
 refine K3 vb vt t2 (M3 e1 e2 (D.move h))
theorem WdAt.cons {w:World}{W:Addr}{wd:Wd}{l:Led}{p:Addr × Obj}(H:WdAt w W wd l):WdAt w W wd (p::l):=H.move fun _ h _=>.tail _ h
set_option cleanup.letToHave false in
theorem conD_use {w:World}{f:Addr}{args:List Value}{dd uu:Nat}{pre:Led->Prop}{post:Led->Led->Value->Prop}(C:ConD w f args dd uu pre post)
  {mean:ExcName->Option Value}{mg mb:Str->Option Value}{A A₀:Around}{env:Env}{outer:List Env}{base hO:Heap}{L:Addr}{m:Str->Option Value}{news:Led}{s:Shared}{Q E:Value->Shared->Prop}
  (B:Below A₀ base outer hO) (F:Fr hO L s.heap m) (X:(Mine.q.hd.heap_39 w.params).In hO) (N:News hO L s.heap news) (T:Top Mine.q.hd.view_39 (looseW Mine.q.hd.view_39 []) mean mg mb hO)
  (hA:A.frames=some (env::outer)) (hh:A.handled=none) (hf:env.frame=some L) (hk:env.scope.kind = .function)
  (hd:A.depth+dd<recursionLimit) (hu:A.units+uu<cLine) (hp:pre news)
  (ret:let kQ:=Q;∀ r h' tk' dr news',Fr hO L h' m->News hO L h' news'->post news news' r->kQ r { s with heap:=h',toks:=tk',drawn:=dr }) :
  wpAny (model Challenge.rw_pq0123_01.row.prog w) A (call (.ref f) args) Q E s:=by
 obtain ⟨hd',dp,fr,gd,un⟩:=A
 cases hA;cases hh
 exact C mean mg mb dp un gd env outer A₀ base hO L m news s Q E B F X N T hf hk hd hu hp ret
noncomputable def JoinAt (hO:Heap) (L:Addr) (m:Str->Option Value) (s:Shared) (P:Value->Led->Prop) (v:Value) (s':Shared):Prop:=∃ h tk l,s' = { s with heap:=h,toks:=tk }/\Fr hO L h m/\News hO L h l/\P v l
example:True:=by
 k_with "JoinAt"=>(k_extra "g79";(refine Hold.out ?_))
 trivial
theorem eval_join {prog:Program}{w:World}{A:Around}{E:Value->Shared->Prop}{s:Shared}{hO:Heap}{L:Addr}{m:Str->Option Value}{e:PySem.Expr}{env:Env}{Q:Value->Shared->Prop}(P:Value->Led->Prop) (F:Fr hO L s.heap m)
  (h2:∀ v h tk l,Fr hO L h m->News hO L h l->P v l->Q v { s with heap:=h,toks:=tk })
  (h1:wpAny (model prog w) A (eval e env) (JoinAt hO L m s P) E s):wpAny (model prog w) A (eval e env) Q E s:=by
 refine wpAny_mono h1 (fun v s' hq=>?_) fun _ _ e=>e
 (refine E3 hq fun h tk l=>G4 fun zo30 F' N' p=>?_;try clear hq;rcases zo30 with rfl)
 exact h2 v h tk l F' N' p
theorem RefsT.append {prog:Program}{w:World}{l:Led}{vs vs2:List Value}{ks ks2:List (List Mix)}(H:RefsT prog w l vs ks) (H2:RefsT prog w l vs2 ks2):RefsT prog w l (vs++vs2) (ks++ks2):=by
 induction H with
 | nil=>exact H2
 | cons e hk _ ih=>exact .cons e hk ih
theorem right_con {w:World}(hp W:Addr) (top q:Nat) (ls:List Int) (foot:List Addr) (wd:Wd) (hwd:WdOk wd) (htop:top<24) (h0:0<top) (hls:∀ n:Nat,n<top+1->ls.getD n 0=(homeN wd n:Nat)) (tt:Tok) :
  ConD w 428 [.ref hp,.ref W,.int (top:Int) tt] 300 4000 (fun news=>HS w hp (top+1) q ls [] foot news/\WdAt w W wd news) (fun news news' r=>r = .bool true/\∀ p∈news,p∈news'):=by
 (intro mean mg mb dp un gd env outer A₀ base hO L m news s Q E B F X NW T hf hk hd hu zr26 hret;(refine G2 ?_ zr26;try clear zr26;intro H HW))
 (refine E1 H.forest fun ns=>G2 fun fo hll=>?_)
 (refine E10 H.inst fun dh lk lb lu le lf dk da lw ln=>G4 fun m1 m2 f1 f2=>?_)
 refine wpAny_call ?_
 let kzb:List (Str × Value):=[("heap",.ref hp),("world",.ref W),("top",.int (top:Int) tt)]
 k_extra "c1"
 rename_i oC oO oW oH dC dO dW dH
 have q1:=ltn (l1 _ m1)
 have q2:=ltn (l1 _ m2)
 dsimp only at q1 q2
 have H1:HS w hp (top+1) q ls [] foot ((L'+1+1+1+1,oC)::(L'+1+1+1,oO)::(L'+1+1,oW)::(L'+1,oH)::news):=HS.cons (HS.cons (HS.cons (HS.cons H)))
 have W1:WdAt w W wd ((L'+1+1+1+1,oC)::(L'+1+1+1,oO)::(L'+1+1,oW)::(L'+1,oH)::news):=HW.cons.cons.cons.cons
 repeat walk1
 refine Hold.done (range_led (by k_asm) (by k_asm) ?_)
 intro R0 hR0 tkR0 tR0 uR0 vR0 FR0 NR0 dR0
 repeat walk1
 refine Hold.done (.inl (comp_range (n:=top+1) (fun i ys l=>l=(R0,rangeObj ((top:Int)+1) tR0 uR0 vR0)::(L'+1+1+1+1,oC)::(L'+1+1+1,oO)::(L'+1+1,oW)::(L'+1,oH)::news/\IntsAre ys ((nums i).map fun (x:Int)=>ls.getD x.toNat 0)) rfl (by k_asm) (by k_asm) (isRange_of (by k_asm) (.head _)) (by omega) (by omega) ⟨rfl,.nil⟩ ?_ ?_))
 ·(intro i t I oI C oc D2 m₂ ys l h tk E' hil zr14 hC hx F3 N3 off;(refine G2 ?_ zr14;try clear zr14;intro zo31 hys;rcases zo31 with rfl))
  repeat walk1
  refine Hold.done ?_
  refine' con_use (home_con W wd hwd i t) ?kB ?kF ?kX ?kN ?kT ?kA ?kH ?kf ?kk ?kd ?ku ?hp ?_
  tb_start
  case hp=>exact W1.cons.cons.cons.cons
  (intro kzQ r5 h5 tk5 l5 F5 N5 zr6;obtain ⟨rfl,t5,rfl⟩:=zr6;unfold kzQ;clear kzQ)
  refine K3 _ _ _ (M7 rfl (by k_asm) (by k_asm) off trivial rfl ?_)
  rw [nums_succ,List.map_append]
  refine hys.append ?_
  simp only [List.map_cons,List.map_nil]
  rw [show ((i:Int)).toNat=i by omega,hls i hil]
  exact .cons _ _ .nil
 ·(intro D2 ys l h tk zr5 F3 N3 hD2;(refine G2 ?_ zr5;try clear zr5;intro el hys))
  subst el
  rw [← hll,nums_map ls] at hys
  repeat walk1
  rename_i hA' oO' lA' FA NA SA dA
  obtain ⟨lA,eA⟩:∃ l,l=lA':=⟨_,rfl⟩
  have hlt:∀ p∈news,p.1≠L'+1+1+1:=fun p hp=>by
   have:=ltn (l1 p hp)
   refine nen ?_
   omega
  have keepA:Hold (∀ p∈news,p∈lA'):=Hold.done fun p hp=>SA.keep p (.tail _ (.tail _ (.tail _ (.tail _ (.tail _ (.tail _ hp)))))) (hlt p hp)
  have mcH:(L'+1,oH)∈lA':=SA.keep _ (.tail _ (.tail _ (.tail _ (.tail _ (.tail _ (.head _)))))) (nen (by show @Ne Nat (L'+1) (L'+1+1+1);omega))
  have mcW:(L'+1+1,oW)∈lA':=SA.keep _ (.tail _ (.tail _ (.tail _ (.tail _ (.head _))))) (nen (by show @Ne Nat (L'+1+1) (L'+1+1+1);omega))
  have mcO:(L'+1+1+1,oO')∈lA':=SA.self _ (.tail _ (.tail _ (.tail _ (.head _))))
  have mcC:(L'+1+1+1+1,oC)∈lA':=SA.keep _ (.tail _ (.tail _ (.head _))) (nen (by show @Ne Nat (L'+1+1+1+1) (L'+1+1+1);omega))
  have mD2:(D2,PySem.W.listOf ys.toArray ys.length)∈lA':=SA.keep _ (.head _) (Ne.symm (hD2 _ (.tail _ (.tail _ (.head _)))))
  have HA:HS w hp (top+1) q ls [] foot lA':=H.move fun p hp _=>keepA p hp
  have WA:WdAt w W wd lA':=HW.move fun p hp _=>keepA p hp
  have nD2:D2≠L'+1+1+1+1:=Ne.symm (hD2 _ (.tail _ (.head _)))
  have mA1:=keepA _ m1
  have mA2:=keepA _ m2
  have m1':Hold ((hp,instObj 384 dh)∈news):=m1
  have m2':Hold (_∈news):=m2
  clear SA H1 W1 m1 m2 hlt eA
  refine Hold.done ?_
  refine' con_use (hsize_con hp (top+1) q ls [] foot) ?kB ?kF ?kX ?kN ?kT ?kA ?kH ?kf ?kk ?kd ?ku ?hp ?_
  tb_start
  case hp=>exact HA
  (intro kzQ r5 h5 tk5 l5 F5 N5 zr6;obtain ⟨el5,t5,rfl⟩:=zr6;unfold kzQ;clear kzQ)
  subst el5
  repeat walk1
  ·exfalso
   omega
  repeat walk1
  refine Hold.done ?_
  refine' con_use (settled_con hp (top+1) q ls foot) ?kB ?kF ?kX ?kN ?kT ?kA ?kH ?kf ?kk ?kd ?ku ?hp ?_
  tb_start
  case hp=>exact HA
  (intro kzQ r6 h6 tk6 l6 F6 N6 zr6;(refine G2 ?_ zr6;try clear zr6;intro el6 zo32;rcases zo32 with rfl);unfold kzQ;clear kzQ)
  subst el6
  repeat walk1
  refine Hold.done (range_led (by k_asm) (by k_asm) ?_)
  intro R1 hR1 tkR1 tR1 uR1 vR1 FR1 NR1 dR1
  repeat walk1
  refine Hold.done (.inl (comp_range (n:=top+1) (fun i ys l=>l=(R1,rangeObj ((top:Int)+1) tR1 uR1 vR1)::l6/\IntsAre ys ((nums i).map fun (x:Int)=>ls.getD x.toNat 0)) rfl (by k_asm) (by k_asm) (isRange_of (by k_asm) (.head _)) (by omega) (by omega) ⟨rfl,.nil⟩ ?_ ?_))
  ·(intro i t I oI C oc D3 m₂ ys3 l h tk E' hil zr14 hC hx F3 N3 off;(refine G2 ?_ zr14;try clear zr14;intro el hys3))
   subst el
   repeat walk1
   refine Hold.done ?_
   refine' con_use (findH hp (top+1) q ls [] foot i t hil) ?kB ?kF ?kX ?kN ?kT ?kA ?kH ?kf ?kk ?kd ?ku ?hp ?_
   tb_start
   case hp=>exact HA.cons.cons.cons.cons
   (intro kzQ r5 h5 tk5 l5 F5 N5 zr6;obtain ⟨rfl,t5,rfl⟩:=zr6;unfold kzQ;clear kzQ)
   refine K3 _ _ _ (M7 rfl (by k_asm) (by k_asm) off trivial rfl ?_)
   rw [nums_succ,List.map_append]
   refine hys3.append ?_
   simp only [List.map_cons,List.map_nil]
   rw [show ((i:Int)).toNat=i by omega]
   exact .cons _ _ .nil
  (intro D3 ys3 l h tk zr5 F3 N3 hD3;(refine G2 ?_ zr5;try clear zr5;intro el hys3))
  subst el
  rw [← hll,nums_map ls] at hys3
  repeat walk1
  refine Hold.done (ne_ints_led (by k_asm) (.head _) (.tail _ (.tail _ mD2)) hys3 hys (by ktr_units) rfl ?_)
  repeat walk1
  rename_i D4 h4 tk4 oS ms4 F4 N4 lt4 hS4 hms4 hml4
  refine Hold.done (sorted_set_led (by k_asm) (by k_asm) rfl (.head _) hS4 (by omega) ?_)
  intro D5 h5' tk5' vs5 ks5 c5 F5' N5' lt5 hi5 pm5 sr5
  repeat walk1
  have lk5:ks5.length<25:=by
   rw [pm5.length_eq]
   omega
  have nd5:ks5.Nodup:=pm5.nodup_iff.mpr (by obtain ⟨_,_,_,_,_,_,_,_,q⟩:=hS4;exact q)
  have as5:=asc_of sr5 nd5
  have mem5:∀ j,j∈ks5↔j∈ls:=fun j=>(pm5.mem_iff).trans (hms4 j)
  have kr5:=kept_roots hll hls as5 mem5
  refine Hold.done ?_
  refine' con_use (hclasses_con hp (top+1) q ls [] foot) ?kB ?kF ?kX ?kN ?kT ?kA ?kH ?kf ?kk ?kd ?ku ?hp ?_
  tb_start
  case hp=>exact HA.cons.cons.cons.cons
  (intro kzQ r8 h8 tk8 l8 F8 N8 zr6;(refine E3 zr6 fun D8 vs8 n8=>G4 fun zo33 zo34 hD8 hi8=>?_;try clear zr6;rcases zo33 with rfl;rcases zo34 with rfl);unfold kzQ;clear kzQ)
  repeat walk1
  refine Hold.done (ne_ints_led (by k_asm) (.head _) (.tail _ (.head _)) hi8 hi5 (by ktr_units) kr5 ?_)
  repeat walk1
  refine Hold.done (list_slice_to (by k_asm) (by k_asm) (is_listN (by k_asm) (.tail _ (.tail _ (.tail _ (.tail _ (.tail _ mD2)))))) (by have:=hys.length;omega) ?_)
  intro D9 h9 F9 N9 lt9
  repeat walk1
  refine set_led_new (by k_asm) (by k_asm) rfl (.head _) (ints_take hys top) (by rw [List.length_take];omega) ?_
  intro D10 h10 tk10 oS2 ms10 F10 N10 lt10 hS10 hms10 hml10
  repeat walk1
  refine Hold.done (sorted_set_led (by k_asm) (by k_asm) rfl (.head _) hS10 (by rw [List.length_take] at hml10;omega) ?_)
  intro D11 h11 tk11 vs11 ks11 c11 F11 N11 lt11 hi11 pm11 sr11
  have lk11:ks11.length<24:=by
   rw [pm11.length_eq]
   rw [List.length_take] at hml10
   omega
  have nd11:ks11.Nodup:=pm11.nodup_iff.mpr (by obtain ⟨_,_,_,_,_,_,_,_,q⟩:=hS10;exact q)
  have as11:=asc_of sr11 nd11
  have mem11:=mem_lesser hll fun j=>(pm11.mem_iff).trans (hms10 j)
  have nD5:D5≠L'+1+1+1+1:=Ne.symm (Nat.ne_of_lt (lt5 _ (.tail _ (.tail _ (.tail _ mcC)))))
  have nD11:D11≠L'+1+1+1+1:=Ne.symm (Nat.ne_of_lt (lt11 _ (.tail _ (.tail _ (.tail _ (.tail _ (.tail _ (.tail _ (.tail _ mcC)))))))))
  obtain ⟨lB,kB,NB⟩:∃ l,(∀ p∈_,p∈l)/\News g' L' h11 l:=⟨_,fun _ h=>h,N11⟩
  have up6:Hold (∀ p∈l6,p∈lB):=Hold.done fun p hp=>kB p (.tail _ (.tail _ (.tail _ (.tail _ (.tail _ (.tail _ (.tail _ (.tail _ hp))))))))
  have keepB:Hold (∀ p∈news,p∈lB):=Hold.done fun p hp=>up6 p (keepA p hp)
  have bH:=up6 _ mcH
  have bW:=up6 _ mcW
  have bO:=up6 _ mcO
  have bC:=up6 _ mcC
  have bD2:=up6 _ mD2
  have bD5:=kB _ (.tail _ (.tail _ (.tail _ (.tail _ (.head _)))))
  have bD11:=kB _ (.head _)
  have bA1:=up6 _ mA1
  have bA2:=up6 _ mA2
  have HB:HS w hp (top+1) q ls [] foot lB:=HA.move fun p hp _=>up6 p hp
  have WB:WdAt w W wd lB:=WA.move fun p hp _=>up6 p hp
  (try clear up6);(try clear keepA);(try clear mcH);(try clear mcW);(try clear mcO);(try clear mcC);(try clear mD2);(try clear mA1);(try clear mA2);(try clear HA);(try clear WA);(try clear kB);(try clear N11);(try clear lt11);(try clear lt10);(try clear lt9);(try clear lt5);(try clear lt4);(try clear N10);(try clear N9);(try clear N4);(try clear N5');(try clear hD8);(try clear hS10);(try clear hS4);(try clear pm11);(try clear pm5);(try clear hms10);(try clear hms4);(try clear hD3);(try clear hD2);(try clear N8);(try clear dR1);(try clear NR1);(try clear NA);(try clear FA)
  repeat walk1
  refine Hold.done ?_
  refine' con_use (many_con hp (top+1) q ls [] foot (by omega)) ?kB ?kF ?kX ?kN ?kT ?kA ?kH ?kf ?kk ?kd ?ku ?hp ?_
  tb_start
  case hp=>exact HB
  (intro kzQ r12 h12 tk12 lC F12 N12 zr6;obtain ⟨upC,t12,ms12,rfl,nd12,mm12⟩:=zr6;unfold kzQ;clear kzQ)
  have hmany:=many_len (ls:=ls) (N:=top+1) (by omega) nd12 mm12 nd11 mem11
  have keepC:Hold (∀ p∈news,p∈lC):=Hold.done fun p hp=>upC p (keepB p hp)
  have gH:=upC _ bH
  have gW:=upC _ bW
  have gO:=upC _ bO
  have gC:=upC _ bC
  have gD2:=upC _ bD2
  have gD5:=upC _ bD5
  have gD11:=upC _ bD11
  have gA1:=upC _ bA1
  have gA2:=upC _ bA2
  have HC:HS w hp (top+1) q ls [] foot lC:=HB.move fun p hp _=>upC p hp
  have WC:WdAt w W wd lC:=WB.move fun p hp _=>upC p hp
  have hl11:=hi11.length
  clear upC keepB bH bW bO bC bD2 bD5 bD11 bA1 bA2 HB WB nd12 mm12
  repeat walk1
  ·exfalso
   omega
  repeat walk1
  refine Hold.done (For_D ?_)
  repeat walk1
  refine Hold.done (for_list_cell2 (cA:=L'+1+1+1+1) (Str.ofString "due") (Str.ofString "next_home") (fun i l=>Hold (∀ p∈lC,p.1≠L'+1+1+1+1->p∈l)/\∃ oc v₀,(L'+1+1+1+1,oc)∈l/\oc.data = .cell v₀) rfl rfl rfl rfl (by k_asm) (by k_asm) gD5 ⟨Hold.done fun p hp _=>hp,_,_,gC,dC⟩ (fun i l h=>h.1 _ gD5 nD5) (fun i l h=>h.2) ?_ ?_)
  ·(intro i v o1 o2 lT l' hT tkT drT I oI oc hv zr13 offT ST dT FT NT;obtain ⟨upT,oc0,v0,mc0,dc0⟩:=zr13)
   have upT':Hold (∀ p∈lC,p.1≠L'+1+1+1+1->p∈l'):=Hold.done fun p hp hn=>ST.keep p (upT p hp hn) hn
   (refine E1 (ints_at hi5 hv) fun tc=>G2 fun zo35 hil=>?_;rcases zo35 with rfl)
   have hck:ks5.getD i 0∈ls:=(mem5 _).mp (getD_mem hil)
   (refine E1 (home_root hll hls hck) fun c=>G4 fun ec hcN hcc hcr=>?_)
   rw [ec] at dT hv hcr
   have tC:(L'+1+1+1+1,oc)∈l':=ST.self _ mc0
   have tH:=upT' _ gH (nen (by show @Ne Nat (L'+1) (L'+1+1+1+1);omega))
   have tW:=upT' _ gW (nen (by show @Ne Nat (L'+1+1) (L'+1+1+1+1);omega))
   have tO:=upT' _ gO (nen (by show @Ne Nat (L'+1+1+1) (L'+1+1+1+1);omega))
   have tD2:=upT' _ gD2 nD2
   have tD11:=upT' _ gD11 nD11
   have hltC:∀ p∈news,p.1≠L'+1+1+1+1:=fun p hp=>by
    have:=ltn (l1 p hp)
    refine nen ?_
    omega
   have keepT:Hold (∀ p∈news,p∈l'):=Hold.done fun p hp=>upT' p (keepC p hp) (hltC p hp)
   have tA1:=upT' _ gA1 (hltC _ m1')
   have tA2:=upT' _ gA2 (hltC _ m2')
   have HT:HS w hp (top+1) q ls [] foot l':=H.move fun p hp _=>keepT p hp
   have WT:WdAt w W wd l':=HW.move fun p hp _=>keepT p hp
   repeat walk1
   refine Hold.done ?_
   refine' con_use (hmembers_con hp (top+1) q ls [] foot (by omega) c tc hcr) ?kB ?kF ?kX ?kN ?kT ?kA ?kH ?kf ?kk ?kd ?ku ?hp ?_
   tb_start
   case hp=>exact HT.cons
   (intro kzQ r13 h13 tk13 l13 F13 N13 zr6;(refine E3 zr6 fun D13 vs13 n13=>G4 fun zo36 zo37 hD13 hi13=>?_;try clear zr6;rcases zo36 with rfl;rcases zo37 with rfl);unfold kzQ;clear kzQ)
   repeat walk1
   refine Hold.done (range_led (by k_asm) (by k_asm) ?_)
   intro R2 hR2 tkR2 tR2 uR2 vR2 FR2 NR2 dR2
   repeat walk1
   refine Hold.done (compT_range (n:=top+1) (fun i ys l=>l=(R2,rangeObj ((top:Int)+1) tR2 uR2 vR2)::(D13,PySem.W.listOf vs13.toArray n13)::(I,oI)::l'/\IntsAre ys ((nums i).filter fun (x:Int)=>ls.getD x.toNat 0 == (c:Int))) rfl (by k_asm) (by k_asm) (isRange_of (by k_asm) (.head _)) (by omega) (by omega) ⟨rfl,.nil⟩ ?_ ?_)
   ·(intro j tj I2 oI2 C2 oc2 D3' m₂ ysj l h tk E' hjl zr14 hC hx F3 N3 off;(refine G2 ?_ zr14;try clear zr14;intro el hysj))
    subst el
    repeat walk1
    have hlsj:ys[((j:Int)).toNat]?=some (ys.getD j .none):=by
     rw [show ((j:Int)).toNat=j by omega,List.getD_eq_getElem?_getD,List.getElem?_eq_getElem (by have:=hys.length;omega)];rfl
    (refine E1 (ints_at hys (show ys[j]?=some (ys.getD j .none) by rw [show ((j:Int)).toNat=j by omega] at hlsj;exact hlsj)) fun tj2=>G2 fun ej2 _=>?_)
    rw [ej2] at hlsj
    refine Hold.done (item_ref (by k_asm) (.tail _ (.tail _ (.tail _ (.tail _ (.tail _ (.tail _ tD2)))))) (by omega) hlsj (by omega) ?_)
    repeat walk1
    ·have hq:ls.getD j 0=(c:Int):=by assumption
     refine Hold.done ⟨_,_,_,rfl,by k_asm,by k_asm,off,trivial,rfl,?_⟩
     rw [nums_succ,List.filter_append]
     refine hysj.append ?_
     rw [List.filter_cons_of_pos (by rw [show ((j:Int)).toNat=j by omega,hq];exact beq_self_eq_true _),List.filter_nil]
     exact .cons _ _ .nil
    ·have hq:¬ ls.getD j 0=(c:Int):=by assumption
     refine Hold.done ⟨_,_,_,rfl,by k_asm,by k_asm,off,trivial,rfl,?_⟩
     rw [nums_succ,List.filter_append,List.filter_cons_of_neg (by rw [show ((j:Int)).toNat=j by omega,beq_iff_eq];exact hq),List.filter_nil,List.append_nil]
     exact hysj
   (intro D14 ys14 l14 h14 tk14 zr5 F14 N14 hD14;(refine G2 ?_ zr5;try clear zr5;intro el14 hi14))
   subst el14
   repeat walk1
   refine Hold.done (ne_ints_led (by k_asm) (.tail _ (.tail _ (.head _))) (.head _) hi13 hi14 (by ktr_units) (by unfold ofLab;rw [hll]) ?_)
   obtain ⟨lE,kE,NE⟩:∃ l,(∀ p∈_,p∈l)/\News g' L' h14 l:=⟨_,fun _ h=>h,N14⟩
   have upE:Hold (∀ p∈l',p∈lE):=Hold.done fun p hp=>kE p (.tail _ (.tail _ (.tail _ (.tail _ hp))))
   have upE':Hold (∀ p∈lC,p.1≠L'+1+1+1+1->p∈lE):=Hold.done fun p hp hn=>upE p (upT' p hp hn)
   have eI:(I,oI)∈lE:=kE _ (.tail _ (.tail _ (.tail _ (.head _))))
   have eC:=upE _ tC
   have eH:=upE _ tH
   have eW:=upE _ tW
   have eD11:=upE _ tD11
   have eA1:=upE _ tA1
   have eA2:=upE _ tA2
   have HE:HS w hp (top+1) q ls [] foot lE:=HT.move fun p hp _=>upE p hp
   have WE:WdAt w W wd lE:=WT.move fun p hp _=>upE p hp
   have offC:Hold (∀ p∈lC,p.1≠L'+1+1+1+1->p.1≠I):=Hold.done fun p hp hn=>offT p (upT p hp hn)
   have offc:Hold (L'+1+1+1+1≠I):=Hold.done (offT _ mc0)
   clear kE upE upT' tC tH tW tO tD2 tD11 tA1 tA2 HT WT NT hD14 N14 NR2 N13 hD13 dR2 keepT mc0 upT ST offT
   repeat walk1
   refine Hold.done (compT_listA (fun i ys l=>Hold (∀ p∈lE,p∈l)/\RefsT Challenge.rw_pq0123_01.row.prog w l ys (((ks11.take i).filter fun (x:Int)=>decide (homeN wd (x.toNat+1)=c)).map fK)) rfl (by k_asm) (by k_asm) eD11 (by omega) ⟨Hold.done fun p hp=>hp,.nil⟩ (fun i ys l h=>h.1 _ eD11) ?_ ?_)
   ·(intro j v I2 oI2 C2 oc2 D3' m₂ ysj l h tk E' hvj zr14 hC hx F3 N3 off;(refine G2 ?_ zr14;try clear zr14;intro kl hysj))
    (refine E1 (ints_at hi11 hvj) fun td=>G2 fun zo38 hjl=>?_;rcases zo38 with rfl)
    obtain ⟨n,hn,en⟩:=(mem11 _).mp (getD_mem hjl)
    rw [hls n (by omega)] at en
    have hd24:=home_le wd n
    have hfe:∀ P:Int->Bool,((ks11.take (j+1)).filter P)=(ks11.take j).filter P++(if P (homeN wd n:Nat) then [((homeN wd n:Nat):Int)] else []):=fun P=>by
     have e3:ks11.take (j+1)=ks11.take j++[ks11.getD j 0]:=by
      rw [List.take_add_one,List.getD_eq_getElem?_getD,List.getElem?_eq_getElem hjl];rfl
     rw [e3,List.filter_append,en]
     by_cases hP:P (homeN wd n:Nat)=true
     ·rw [List.filter_cons_of_pos hP,List.filter_nil,if_pos hP]
     ·rw [List.filter_cons_of_neg hP,List.filter_nil,if_neg hP]
    rw [en] at hx
    have zW:=kl _ eW
    have zC:=kl _ eC
    have Wl:WdAt w W wd l:=WE.move fun p hp _=>kl p hp
    repeat walk1
    refine Hold.done ?_
    rw [show ((homeN wd n:Nat):Int)+1=((homeN wd n+1:Nat):Int) by omega]
    refine' con_use (home_con W wd hwd (homeN wd n+1) _) ?kB ?kF ?kX ?kN ?kT ?kA ?kH ?kf ?kk ?kd ?ku ?hp ?_
    tb_start
    case hp=>exact Wl.cons.cons.cons
    (intro kzQ r15 h15 tk15 l15 F15 N15 zr6;obtain ⟨el15,t15,rfl⟩:=zr6;unfold kzQ;clear kzQ)
    subst el15
    repeat walk1
    ·rename_i hq DT hT2 FT2 NT2 ltT
     have T8:TupIn Challenge.rw_pq0123_01.row.prog w DT (fK (homeN wd n:Nat)) ((DT,tupOf #[Value.str (Str.ofString "f") tk15,Value.int (homeN wd n:Nat) td] 0)::l):=tupIn_si (.head _)
     have off5:=off.mem
     refine Hold.done ⟨_,_,(DT,tupOf #[Value.str (Str.ofString "f") tk15,Value.int (homeN wd n:Nat) td] 0)::l,rfl,by k_asm,News.sub NT2 fun p hp=>?_,LCg.Off3.of fun p hp=>?_,trivial,Hold.done fun p hp=>.tail _ (kl p hp),?_⟩
     ·simp only [List.mem_cons] at hp ⊢
      rcases hp with h | h | h | h | h <;> simp [h]
     ·rcases List.mem_cons.mp hp with e | hp
      ·rw [e]
       refine M3 (Nat.ne_of_gt (ltT _ (.head _))) (Nat.ne_of_gt (ltT _ (.tail _ (.head _)))) (Nat.ne_of_gt (ltT _ (.tail _ (.tail _ (.head _)))))
      ·exact off5 p hp
     ·rw [hfe,List.map_append,if_pos (by rw [show ((homeN wd n:Nat):Int).toNat=homeN wd n by omega];exact decide_eq_true (by omega))]
      exact RefsT.snoc (hysj.cons') T8
    ·rename_i hq
     refine Hold.done ⟨_,_,_,rfl,by k_asm,by k_asm,off,trivial,kl,?_⟩
     rw [hfe,if_neg (by rw [show ((homeN wd n:Nat):Int).toNat=homeN wd n by omega,decide_eq_true_eq];omega),List.append_nil]
     exact hysj
   (intro D15 ys15 l15 h15 tk15 zr5 F15 N15 hD15;(refine G2 ?_ zr5;try clear zr5;intro kl15 hys15))
   rw [hl11,List.take_length] at hys15
   obtain ⟨lF,kF,NF⟩:∃ l,(∀ p∈_,p∈l)/\News g' L' h15 l:=⟨_,fun _ h=>h,N15⟩
   have upF:Hold (∀ p∈lE,p∈lF):=Hold.done fun p hp=>kF p (.tail _ (kl15 p hp))
   have fD15:=kF _ (.head _)
   have RF:RefsT Challenge.rw_pq0123_01.row.prog w lF ys15 ((ks11.filter fun (x:Int)=>decide (homeN wd (x.toNat+1)=c)).map fK):=hys15.mono fun p hp=>kF p (.tail _ hp)
   have fI:=upF _ eI
   have fC:=upF _ eC
   have fH:=upF _ eH
   have fW:=upF _ eW
   have fD11:=upF _ eD11
   have fA1:=upF _ eA1
   have fA2:=upF _ eA2
   have HF:HS w hp (top+1) q ls [] foot lF:=HE.move fun p hp _=>upF p hp
   have WF:WdAt w W wd lF:=WE.move fun p hp _=>upF p hp
   have upF':Hold (∀ p∈lC,p.1≠L'+1+1+1+1->p∈lF):=Hold.done fun p hp hn=>upF p (upE' p hp hn)
   clear kF upF upE' eC eH eW eI eD11 eA1 eA2 HE WE N15 hD15 hys15 kl15 NE
   repeat walk1
   refine Hold.done ?_
   refine' conD_use (nodes_con hp (top+1) q ls [] foot (by omega) c tc hcr (fun ms hN h=>cls_len hwd (by rw [hll];exact hls) (by omega) ms hN h)) ?kB ?kF ?kX ?kN ?kT ?kA ?kH ?kf ?kk ?kd ?ku ?hp ?_
   tb_start
   case hp=>exact HF
   (intro kzQ r16 h16 tk16 dr16 lG F16 N16 zr7;obtain ⟨up16,D16,vs16,ks16,n16,rfl,m16,R16,nd16,pw16,mm16⟩:=zr7;unfold kzQ;clear kzQ)
   have hkeys:=right_nodes hll hls mem11 as11 hcN pw16 mm16
   have okk:=ok_keys (ks11.filter (fun (x:Int)=>decide (homeN wd (x.toNat+1)=c))) c
   rw [hkeys] at R16
   have upG':Hold (∀ p∈lC,p.1≠L'+1+1+1+1->p∈lG):=Hold.done fun p hp hn=>up16 p (upF' p hp hn)
   have gI:=up16 _ fI
   have gC':=up16 _ fC
   have gH':=up16 _ fH
   have gW':=up16 _ fW
   have gD11':=up16 _ fD11
   have gD15:=up16 _ fD15
   have gA1':=up16 _ fA1
   have gA2':=up16 _ fA2
   have RG:=RF.mono up16
   have HG:HS w hp (top+1) q ls [] foot lG:=HF.move fun p hp _=>up16 p hp
   have WG:WdAt w W wd lG:=WF.move fun p hp _=>up16 p hp
   clear up16 upF' fI fC fH fW fD11 fD15 fA1 fA2 RF HF WF NF mm16 pw16 nd16 hkeys
   repeat walk1
   refine Hold.done (eval_join (fun v l=>Hold (∀ p∈lG,p∈l)/\∃ D vs2 n2,v = .ref D/\(D,PySem.W.listOf (List.toArray vs2) n2)∈l/\RefsT Challenge.rw_pq0123_01.row.prog w l vs2 (if c=0 then [xK] else [])/\vs2.length<10) F16 ?_ ?_)
   ·(intro v h17 tk17 lH FH NH zr6;obtain ⟨upH,D17,vs17,n17,rfl,m17,R17,lv17⟩:=zr6)
    have hlys:=RG.length
    rw [List.length_map] at hlys
    have hfl:=List.length_filter_le (fun (x:Int)=>decide (homeN wd (x.toNat+1)=c)) ks11
    repeat walk1
    refine Hold.done (list_add (by k_asm) (by k_asm) (upH _ gD15) m17 (by omega) (by omega) ?_)
    intro D18 h18 F18 N18 lt18
    repeat walk1
    refine Hold.done (ne_refs_led (by k_asm) (.tail _ (upH _ m16)) (.head _) ((R16.mono upH).cons') (RefsT.cons' (RefsT.append (RG.mono upH) R17)) (by ktr_units) okk ?_)
    obtain ⟨lK,kK,NK⟩:∃ l,(∀ p∈_,p∈l)/\News g' L' h18 l:=⟨_,fun _ h=>h,N18⟩
    have upK:Hold (∀ p∈lG,p∈lK):=Hold.done fun p hp=>kK p (.tail _ (upH p hp))
    have kI:=upK _ gI
    have kC:=upK _ gC'
    have kHh:=upK _ gH'
    have kW:=upK _ gW'
    have kD11:=upK _ gD11'
    have kA1:=upK _ gA1'
    have kA2:=upK _ gA2'
    have HK:HS w hp (top+1) q ls [] foot lK:=HG.move fun p hp _=>upK p hp
    have WK:WdAt w W wd lK:=WG.move fun p hp _=>upK p hp
    have upK':Hold (∀ p∈lC,p.1≠L'+1+1+1+1->p∈lK):=Hold.done fun p hp hn=>upK p (upG' p hp hn)
    clear kK upK upG' gC' gH' gW' gI gD11' gA1' gA2' HG WG N18 lt18 R17 R16 RG m17 m16 upH NH F16 N16 okk FH
    repeat walk1
    refine Hold.done ?_
    rw [show (c:Int)+1=((c+1:Nat):Int) by omega]
    refine' con_use (home_con W wd hwd (c+1) _) ?kB ?kF ?kX ?kN ?kT ?kA ?kH ?kf ?kk ?kd ?ku ?hp ?_
    tb_start
    case hp=>exact WK
    (intro kzQ r19 h19 tk19 l19 F19 N19 zr6;obtain ⟨el19,t19,rfl⟩:=zr6;unfold kzQ;clear kzQ)
    subst el19
    repeat walk1
    rename_i DT hT3 FT3 NT3 ltT
    refine Hold.done ?_
    refine' con_use (seekFH hp (top+1) q ls foot _ DT c tc 0 hcr) ?kB ?kF ?kX ?kN ?kT ?kA ?kH ?kf ?kk ?kd ?ku ?hp ?_
    tb_start
    case hp=>exact ⟨HK.cons,.head _⟩
    (intro kzQ r20 h20 tk20 l20 F20 N20 zr6;(refine G2 ?_ zr6;try clear zr6;intro up20 hr20);unfold kzQ;clear kzQ)
    have upL:Hold (∀ p∈l19,p∈l20):=Hold.done fun p hp=>up20 p (.tail _ hp)
    obtain ⟨zv,ezv⟩:∃ z:Int,z=if (c:Int)∈ks11 then ((homeN wd (c+1):Nat):Int) else -1:=⟨_,rfl⟩
    obtain ⟨t20,e20⟩:∃ t,r20 = .int zv t:=by
     rcases hr20 with ⟨n,t,hn,e1,rfl⟩ | ⟨hn,t,rfl⟩
     ·rw [if_pos ((mem11 _).mpr ⟨n,hn,e1.symm⟩)] at ezv
      rw [next_home hls hn e1,← ezv]
      exact ⟨t,rfl⟩
     ·rw [if_neg (fun h=>by (refine E1 ((mem11 _).mp h) fun n=>G2 fun h1 h2=>?_);exact hn n h1 h2.symm)] at ezv
      rw [ezv]
      exact ⟨t,rfl⟩
    subst e20
    clear hr20 up20 NT3 ltT FT3
    have vC:=upL _ kC
    have vD11:=upL _ kD11
    have vI:=upL _ kI
    have upV:Hold (∀ p∈lC,p.1≠L'+1+1+1+1->p∈l20):=Hold.done fun p hp hn=>upL p (upK' p hp hn)
    clear upL upK' kC kD11 kI kHh kW kA1 kA2 HK WK N19
    repeat walk1
    refine Hold.done (eval_join (fun v l=>Hold (∀ p∈l20,p∈l)/\∃ t,v = .int zv t) F20 ?_ ?_)
    ·(intro v h21 tk21 l21 F21 N21 zr6;obtain ⟨up21,t21,rfl⟩:=zr6)
     repeat walk1
     ·rename ¬ (zv=zv)=>hne
      exact absurd rfl hne
     ·repeat walk1
      refine Hold.done (ForEndD.mkS (l':=l21) (by k_asm) (by k_asm) (fun p hp=>by rw [List.mem_singleton.mp hp];exact up21 _ vI) rfl (fun l'' k=>⟨⟨Hold.done fun p hp hn=>k p (up21 p (upV p hp hn)) (fun q hq=>by rw [List.mem_singleton.mp hq];exact offC p hp hn),_,_,k _ (up21 _ vC) (fun q hq=>by rw [List.mem_singleton.mp hq];exact offc),dT⟩,_,_,over2_twice _ _ _ _ _ _ _⟩))
    ·refine IfExp_ ?_
     repeat walk1
     refine Hold.done (in_list_led (by k_asm) vD11 hi11 ?_)
     repeat walk1
     ·refine Hold.done ⟨_,_,_,rfl,by k_asm,by k_asm,Hold.done fun p hp=>hp,?_⟩
      rw [ezv,if_pos ‹_›]
      exact ⟨_,rfl⟩
     ·repeat walk1
      refine Hold.done ⟨_,_,_,rfl,by k_asm,by k_asm,Hold.done fun p hp=>hp,?_⟩
      rw [ezv,if_neg ‹_›]
      exact ⟨_,rfl⟩
   ·refine IfExp_ ?_
    repeat walk1
    ·refine Hold.done ⟨_,_,_,rfl,by k_asm,by k_asm,Hold.done fun p hp=>.tail _ (.tail _ hp),_,_,_,rfl,.head _,?_,by simp⟩
     rw [if_pos (by omega)]
     exact .cons rfl (tupIn_s (.tail _ (.head _))) .nil
    ·repeat walk1
     refine Hold.done ⟨_,_,_,rfl,by k_asm,by k_asm,Hold.done fun p hp=>.tail _ hp,_,[],_,rfl,.head _,?_,by simp⟩
     rw [if_neg (by omega)]
     exact .nil
  ·(intro o1 o2 lZ hZ tkZ drZ zr6 FZ NZ;(refine G2 ?_ zr6;try clear zr6;intro upZ _))
   have hltC:∀ p∈news,p.1≠L'+1+1+1+1:=fun p hp=>by
    have:=ltn (l1 p hp)
    refine nen ?_
    omega
   have keepZ:Hold (∀ p∈news,p∈lZ):=Hold.done fun p hp=>upZ p (keepC p hp) (hltC p hp)
   have zH:=upZ _ gH (nen (by show @Ne Nat (L'+1) (L'+1+1+1+1);omega))
   have zA1:=keepZ _ m1'
   have zA2:=keepZ _ m2'
   have HZ:HS w hp (top+1) q ls [] foot lZ:=H.move fun p hp _=>keepZ p hp
   clear hltC upZ keepC
   repeat walk1
   rename_i T1 hT1 FT1 NT1 lt1
   refine Hold.done ?_
   refine' con_use (seekXH hp (top+1) q ls foot _ T1 0 (by omega)) ?kB ?kF ?kX ?kN ?kT ?kA ?kH ?kf ?kk ?kd ?ku ?hp ?_
   tb_start
   case hp=>exact ⟨HZ.cons,.head _⟩
   (intro kzQ r30 h30 tk30 l30 F30 N30 zr6;obtain ⟨up30,t30,rfl⟩:=zr6;unfold kzQ;clear kzQ)
   have up31:Hold (∀ p∈lZ,p∈l30):=Hold.done fun p hp=>up30 p (.tail _ hp)
   have yH:=up31 _ zH
   have yA1:=up31 _ zA1
   have yA2:=up31 _ zA2
   have HY:HS w hp (top+1) q ls [] foot l30:=HZ.move fun p hp _=>up31 p hp
   clear zH zA1 zA2 HZ up30 NT1 FT1
   repeat walk1
   rename_i T2 hT2 FT2 NT2 lt2
   refine Hold.done ?_
   refine' con_use (seekGH hp (top+1) q ls foot _ T2 (tk30+1+1) 0 (by omega)) ?kB ?kF ?kX ?kN ?kT ?kA ?kH ?kf ?kk ?kd ?ku ?hp ?_
   tb_start
   case hp=>exact ⟨HY.cons,.head _⟩
   (intro kzQ r32 h32 tk32 l32 F32 N32 zr6;obtain ⟨up32,t32,rfl⟩:=zr6;unfold kzQ;clear kzQ)
   iterate 5 walk1
   exact hret _ _ _ _ _ ‹_› ‹_› ⟨rfl,fun p hp=>up32 p (.tail _ (up31 p (keepZ p hp)))⟩
end
section
example:True:=by
 k_with "x79"=>skip
 k_with "bank"=>((fail_if_success k_extra "x80");(exists b79,b171))
 trivial
theorem Sound.join {ls ls':List Int}{wd:Wd}{ps:List (Nat × Nat)}(S:Sound ls wd ps) (hw:WdOk wd) {i j:Nat}(hi:i<ls.length) (hj:j<ls.length) (J:Joined ls ls' i j):Sound ls' (toldN wd i j) (ps++[(i,j)]) :=
 ⟨J.sound _ (ar_cg _) (fun a b ha hb h=>told_more hw i j (S.sub a b ha hb h)) (told_pair i j),by rw [List.foldl_append,← S.eq];rfl,fun p hp=>by
  have hl:=J.len
  rcases List.mem_append.mp hp with hp | hp
  ·(refine G3 ?_ (S.pr p hp);intro h1 h2 h3)
   refine M3 (by omega) (by omega) (J.keep _ _ h1 h2 h3)
  ·rw [List.mem_singleton.mp hp]
   refine M3 (by show i<_;omega) (by show j<_;omega) J.one⟩
theorem ConD.of {w:World}{f:Addr}{args:List Value}{dd uu:Nat}{pre':Led->Prop}{post':Led->Led->Value->Prop}
  (h:∀ news,pre' news->∃ pre post,ConD w f args dd uu pre post/\pre news/\∀ news' r,post news news' r->post' news news' r):ConD w f args dd uu pre' post':=by
 intro mean mg mb dp un gd env outer A₀ base hO L m news s Q E B F X N T hf hk hd hu hp hret
 (refine E2 (h news hp) fun pre post=>G3 fun C hp' hi=>?_)
 exact C mean mg mb dp un gd env outer A₀ base hO L m news s Q E B F X N T hf hk hd hu hp' fun r h' tk' dr news' F' N' p=>hret r h' tk' dr news' F' N' (hi news' r p)
theorem FeedAt.move {w:World}{fe C:Addr}{at_:Nat}{vs:List Value}{cells:List Int}{n:Nat}{ta:Tok}{l l':Led}(H:FeedAt w fe C at_ vs cells n ta l) (k:∀ p∈l,p.1=fe∨p.1=C->p∈l'):FeedAt w fe C at_ vs cells n ta l' :=
 ⟨H.d.move fun p hp e=>k p hp (.inl e),k _ H.mc (.inr rfl),H.hi,H.ne,H.len⟩
structure LawS (w:World) (fe C hp W:Addr) (oth:Led) (N q:Nat) (ls wt:List Int) (wd:Wd) (foot:List Addr) (l:Led):Prop where
 hs:HS w hp N q ls wt foot l
 fd:∃ at_ vs cells n ta,FeedAt w fe C at_ vs cells n ta l
 wa:WdAt w W wd l
 ok:WdOk wd
 ot:∀ p∈oth,p∈l/\p.1∉foot/\p.1≠fe/\p.1≠W/\p.1≠C
 nfe:fe∉foot
 nW:W∉foot
 nC:C∉foot
 n1:fe≠W
 n2:C≠W
section
variable {w:World}{fe C hp W:Addr}{oth:Led}{N q:Nat}{ls wt:List Int}{wd:Wd}{foot:List Addr}{l l':Led}
theorem LawS.feObj (H:LawS w fe C hp W oth N q ls wt wd foot l):∃ o,(fe,o)∈l:=by
 (refine E5 H.fd fun at_ vs cells n ta h=>?_)
 exact h.d.obj
theorem LawS.wObj (H:LawS w fe C hp W oth N q ls wt wd foot l):∃ o,(W,o)∈l:=by
 (refine E3 H.wa fun vb vt t2=>G3 fun e1 e2 D=>?_)
 exact D.obj
theorem LawS.cObj (H:LawS w fe C hp W oth N q ls wt wd foot l):∃ o,(C,o)∈l:=by
 (refine E5 H.fd fun at_ vs cells n ta h=>?_)
 exact ⟨_,h.mc⟩
theorem LawS.move {own:Led}(H:LawS w fe C hp W (own++oth) N q ls wt wd foot l) (k:∀ p∈l,(∀ q∈own,p.1≠q.1)->p∈l') (hne:∀ p∈oth,∀ q∈own,p.1≠q.1):LawS w fe C hp W oth N q ls wt wd foot l':=by
 have ho:∀ q∈own,q.1∉foot/\q.1≠fe/\q.1≠W/\q.1≠C:=fun q hq=>(H.ot q (List.mem_append_left _ hq)).2
 (refine E5 H.fd fun at_ vs cells n ta fd=>?_)
 refine ⟨H.hs.move fun p hp hf=>k p hp fun q hq e=>(ho q hq).1 (e ▸ hf),⟨at_,vs,cells,n,ta,fd.move fun p hp e=>k p hp fun q hq e'=>?_⟩,H.wa.move fun p hp e=>k p hp fun q hq e'=>(ho q hq).2.2.1 (e'.symm.trans e),H.ok,fun p hp=>?_,H.nfe,H.nW,H.nC,H.n1,H.n2⟩
 ·rcases e with e | e
  ·exact (ho q hq).2.1 (e'.symm.trans e)
  ·exact (ho q hq).2.2.2 (e'.symm.trans e)
 ·have z:=H.ot p (List.mem_append_right _ hp)
  exact ⟨k p z.1 fun q hq=>hne p hp q hq,z.2⟩
theorem LawS.grow (H:LawS w fe C hp W oth N q ls wt wd foot l) (k:∀ p∈l,p∈l'):LawS w fe C hp W oth N q ls wt wd foot l' :=
 LawS.move (own:=[]) H (fun p hp _=>k p hp) fun _ _ _ h=>absurd h List.not_mem_nil
theorem LawS.cons {p:Addr × Obj}(H:LawS w fe C hp W oth N q ls wt wd foot l):LawS w fe C hp W oth N q ls wt wd foot (p::l):=H.grow fun _ h=>.tail _ h
theorem LawS.add {p:Addr × Obj}(H:LawS w fe C hp W oth N q ls wt wd foot l) (hn:∀ q∈l,q.1≠p.1):LawS w fe C hp W (p::oth) N q ls wt wd foot (p::l):=by
 have H':=H.cons (p:=p)
 refine ⟨H'.hs,H'.fd,H'.wa,H.ok,fun q hq=>?_,H.nfe,H.nW,H.nC,H.n1,H.n2⟩
 rcases List.mem_cons.mp hq with rfl | hq
 ·refine M5 (.head _) (fun h=>?_) ?_ ?_ ?_
  ·(refine E1 (H.hs.footin _ h) fun o ho=>?_)
   exact hn _ ho rfl
  ·(refine E1 H.feObj fun o ho=>?_)
   exact fun e=>hn _ ho e.symm
  ·(refine E1 H.wObj fun o ho=>?_)
   exact fun e=>hn _ ho e.symm
  ·(refine E1 H.cObj fun o ho=>?_)
   exact fun e=>hn _ ho e.symm
 ·exact H'.ot q hq
theorem LawS.sub {oth':Led}(H:LawS w fe C hp W oth N q ls wt wd foot l) (k:∀ p∈oth',p∈oth):LawS w fe C hp W oth' N q ls wt wd foot l :=
 ⟨H.hs,H.fd,H.wa,H.ok,fun p hp=>H.ot p (k p hp),H.nfe,H.nW,H.nC,H.n1,H.n2⟩
theorem LawS.step {N' q':Nat}{ls' wt':List Int}{foot':List Addr}(H:LawS w fe C hp W oth N q ls wt wd foot l) (H':HS w hp N' q' ls' wt' foot' l') (S:Step1 foot foot' l l'):LawS w fe C hp W oth N' q' ls' wt' wd foot' l':=by
 have k:∀ a,(∃ o,(a,o)∈l)->a∉foot->a∉foot':=fun a ha h=>S.grow.apart ha h
 (refine E5 H.fd fun at_ vs cells n ta fd=>?_)
 refine ⟨H',⟨at_,vs,cells,n,ta,fd.move fun p hp e=>S.keep p hp ?_⟩,H.wa.move fun p hp e=>S.keep p hp (e ▸ H.nW),H.ok,fun p hp=>?_,k _ H.feObj H.nfe,k _ H.wObj H.nW,k _ H.cObj H.nC,H.n1,H.n2⟩
 ·rcases e with e | e
  ·exact e ▸ H.nfe
  ·exact e ▸ H.nC
 ·(refine G3 ?_ (H.ot p hp);intro h1 h2 h3)
  refine M3 (S.keep p h1 h2) (k _ ⟨_,h1⟩ h2) h3
theorem LawS.put {a:Addr}{o o':Obj}(H:LawS w fe C hp W ((a,o)::oth) N q ls wt wd foot l) (k:∀ p∈l,p.1≠a->p∈l') (hm:(a,o')∈l') (hne:∀ p∈oth,p.1≠a):LawS w fe C hp W ((a,o')::oth) N q ls wt wd foot l':=by
 have H':=LawS.move (own:=[(a,o)]) (l':=l') H (fun p hp h=>k p hp (h _ (.head _))) fun p hp q hq=>by rw [List.mem_singleton.mp hq];exact hne p hp
 refine ⟨H'.hs,H'.fd,H'.wa,H'.ok,fun p hp=>?_,H.nfe,H.nW,H.nC,H.n1,H.n2⟩
 rcases List.mem_cons.mp hp with rfl | hp
 ·exact ⟨hm,(H.ot _ (.head _)).2⟩
 ·exact H'.ot p hp
theorem LawS.all (H:LawS w fe C hp W oth N q ls wt wd foot l):∃ ns,Forest ns ls/\ls.length=N:=H.hs.forest
theorem drawL (wide:Nat) (tw:Tok) (hw:0<wide):Con w 395 [.ref fe,.int (wide:Int) tw] 20 200 (fun news=>LawS w fe C hp W oth N q ls wt wd foot news) (fun news news' r=>∃ (v:Nat) (t:Tok),v<wide/\r = .int (v:Int) t/\LawS w fe C hp W oth N q ls wt wd foot news'):=by
 refine Con.of fun news H=>?_
 (refine E5 H.fd fun at_ vs cells n ta fd=>?_)
 refine K2 _ _ (M3 (draw_con fe C at_ vs cells n ta wide tw hw) fd ?_)
 (intro news' r zr2;(refine E3 zr2 fun v t t'=>G4 fun hv e k fd'=>?_;try clear zr2))
 refine ⟨v,t,hv,e,H.hs.move fun p hp hf=>k p hp fun e=>H.nfe (e ▸ hf),⟨_,_,_,_,_,fd'⟩,H.wa.move fun p hp e=>k p hp fun e'=>H.n1 (e'.symm.trans e),H.ok,fun p hp=>?_,H.nfe,H.nW,H.nC,H.n1,H.n2⟩
 have z:=H.ot p hp
 exact ⟨k p z.1 z.2.2.1,z.2⟩
theorem toldL (i j:Nat) (ti tj:Tok):Con w 423 [.ref W,.int (i:Int) ti,.int (j:Int) tj] 60 600 (fun news=>LawS w fe C hp W oth N q ls wt wd foot news) (fun news news' r=>LawS w fe C hp W oth N q ls wt (toldN wd i j) foot news'):=by
 refine Con.of fun news H=>?_
 (refine E5 H.fd fun at_ vs cells n ta fd=>?_)
 refine K2 _ _ (M3 (told_con W wd i j ti tj) H.wa ?_)
 (intro news' r zr2;(refine G2 ?_ zr2;try clear zr2;intro k wa'))
 refine ⟨H.hs.move fun p hp hf=>k p hp fun e=>H.nW (e ▸ hf),⟨_,_,_,_,_,fd.move fun p hp e=>k p hp fun e'=>?_⟩,wa',told_ok H.ok i j,fun p hp=>?_,H.nfe,H.nW,H.nC,H.n1,H.n2⟩
 ·rcases e with e | e
  ·exact H.n1 (e.symm.trans e')
  ·exact H.n2 (e.symm.trans e')
 ·have z:=H.ot p hp
  exact ⟨k p z.1 z.2.2.2.1,z.2⟩
theorem mergeL (hq:q<9) (hN:N<=24) (i j:Nat) (ti tj:Tok) (rs:Addr) (hi:i<N) (hj:j<N) :
  Con w 324 [.ref hp,.int (i:Int) ti,.int (j:Int) tj,.ref rs] 80 800 (fun news=>LawS w fe C hp W oth N q ls wt wd foot news)
   (fun news news' r=>r = .bool (!decide (ls.getD i 0=ls.getD j 0))/\∃ ls' wt' foot',Joined ls ls' i j/\LawS w fe C hp W oth N (q+1) ls' wt' wd foot' news'):=by
 refine Con.of fun news H=>⟨_,_,mergeH hp N q ls wt foot hq hN i j ti tj rs hi hj,H.hs,?_⟩
 (intro news' r zr2;obtain ⟨e,ls',wt',foot',H',J,S⟩:=zr2)
 refine ⟨e,ls',wt',foot',J,H.step H' S⟩
theorem settleL (hq:q<10) (hN:N<=24):Con w 338 [.ref hp] 200 2000 (fun news=>LawS w fe C hp W oth N q ls wt wd foot news)
   (fun news news' r=>r = .none/\∃ ls' foot',Up ls ls'/\LawS w fe C hp W oth N q ls' [] wd foot' news'):=by
 refine Con.of fun news H=>⟨_,_,settleH hp N q ls wt foot hq hN,H.hs,?_⟩
 (intro news' r zr2;obtain ⟨e,ls',foot',H',U,S⟩:=zr2)
 refine ⟨e,ls',foot',U,H.step H' S⟩
theorem putL (hq:q<10) (kx:Nat) (hkx:kx<24) (hN:N<24) (ta:Addr) (tas:List Addr) :
  Con w 296 [.ref hp,.ref ta] (400+10 * kx) (4000+100 * kx) (fun news=>∃ news0,LawS w fe C hp W oth N q ls [] wd foot news0/\(∀ p∈news0,p∈news)/\Tow kx (ta::tas) news/\∀ x∈ta::tas,∀ p∈news0,p.1≠x)
   (fun news news' r=>∃ t ls' foot',r = .int (kx:Int) t/\Up ls ls'/\LawS w fe C hp W oth (max N (kx+1)) q ls' [] wd foot' news'):=by
 refine Con.of fun news ⟨news0,H,k,TW,off⟩=>?_
 have H1:=H.grow k
 refine K2 _ _ (M3 (putH hp N q kx ls foot hq hkx hN ta tas) ⟨H1.hs,TW,fun x hx hf=>?_⟩ ?_)
 ·(refine E1 (H.hs.footin x hf) fun o ho=>?_)
  exact off x hx _ ho rfl
 ·(intro news' r zr2;(refine E3 zr2 fun t ls' foot'=>G4 fun e H' U S=>?_;try clear zr2))
  refine K3 t ls' foot' (M3 e U (H1.step H' S))
theorem rightL (top:Nat) (htop:top<24) (h0:0<top) (hls:∀ n:Nat,n<top+1->ls.getD n 0=(homeN wd n:Nat)) (hok:WdOk wd) (tt:Tok) :
  ConD w 428 [.ref hp,.ref W,.int (top:Int) tt] 300 4000 (fun news=>LawS w fe C hp W oth (top+1) q ls [] wd foot news) (fun news news' r=>r = .bool true/\LawS w fe C hp W oth (top+1) q ls [] wd foot news'):=by
 refine ConD.of fun news H=>⟨_,_,right_con hp W top q ls foot wd hok htop h0 hls tt,⟨H.hs,H.wa⟩,?_⟩
 (intro news' r zr2;(refine G2 ?_ zr2;try clear zr2;intro e k))
 exact ⟨e,H.grow k⟩
end
theorem st_zero:St 0 [] (fun _=>none) [] 0 0 [] [] [] [] :=
 ⟨forest_nil,lots_nil,rfl,List.nodup_nil,fun _ h=>absurd h List.not_mem_nil,fun r h=>absurd h.1 (Int.not_le.mpr (Int.lt_of_lt_of_le h.2.1 (Int.le_refl _))),fun _ _=>rfl,fun _ h=>absurd h List.not_mem_nil,fun n h=>absurd h (Nat.not_lt_zero n),rfl,Nat.le_refl _,Nat.le_refl _⟩
end
section
example:True:=by
 k_with "g81"=>fail_if_success k_extra "x81"
 k_with "x80"=>skip
 k_with "bank"=>(k_extra "g81";(first | decide | exists b614,b613,b615,b616))
 k_with "la"=>k_extra "g81"
 k_with "lb"=>k_extra "g81"
 k_with "lc"=>k_extra "g81"
 trivial
example:True:=by
 k_with "call ref"=>(k_extra "g81";((k_here;(with_reducible show wpAny _ _ (call (Value.ref 213) _) _ _ _);k_dflt (refine' con_use (find_con _ _ _ _ _ _ _ _ ?kzFO) ?kB ?kF ?kX ?kN ?kT ?kA ?kH ?kf ?kk ?kd ?ku ?hp ?_;(case kzFO=>assumption);(case hp=>refine ⟨by assumption,by first | assumption | omega,by first | assumption | omega⟩);tb_start); intro kzQ _ _ _ _ _ _ hp';obtain ⟨e',_,e2'⟩:=hp';subst e';subst e2';(try unfold kzQ);(try clear kzQ);(try dsimp only))))
 k_with "setAttr ref"=>(k_extra "g81";((k_here;k_dflt (refine' set_attr_o ?kzk1 ?kzk2 ?kzk3 ?kzmx ?kzmd ?kzk6 ?kzk7 ?kzk8 ?kzk9 ?kzk10 ?kzk11 ?kzk13 ?_;(case kzk1=>k_asm);(case kzk2=>k_asm);(case kzk3=>k_asm);(case kzmx=>k_mem);(case kzmd=>k_mem);(case kzk6=>k_is);(case kzk7=>k_is);(case kzk8=>k_is);(case kzk9=>k_is);(case kzk10=>k_get);(case kzk11=>(intro _;k_put));(case kzk13=>(intro _;exact Nat.le_of_ble_eq_true rfl));k_whole);intro _ _ _ _ _ _ _;(try dsimp only);(try k_sweep))))
 k_with "eval Dict nil nil"=>(k_extra "g81";((k_here;k_dflt (refine' dh_new ?kzk1 ?kzk2 (TopRead.nolimit (by k_asm)) ?_;(case kzk1=>k_asm);(case kzk2=>k_asm);k_whole);intro _ _ _ _ _ _ _ _ _;(try k_sweep))))
 trivial
noncomputable def k4 (a b c d:Tok):Nat->Tok
 | 0=>a
 | 1=>b
 | 2=>c
 | _=>d
theorem bnew_con {w:World} :
  Con w 174 [] 20 200 (fun _=>True) (fun news news' r=>∃ b foot,r = .ref b/\BAt w b [] foot news'/\(∀ p∈news,p∈news')/\∀ a∈foot,∀ p∈news,p.1≠a):=by
 intro mean mg mb dp un gd env outer A₀ base hO L m news s Q E B F X N T hf hk hd hu _ hret
 refine' call_cls ?k1 ?k2 ?k3 ?k4 ?k5 ?k6 ?_
 (case k1=>k_asm);(case k2=>k_asm);(case k3=>k_asm);(case k4=>k_is);(case k5=>k_is);(case k6=>k_is);k_whole
 intro x d h1 F1 N1 l1 l2
 have g1:=ltn l2
 have g2:x≠d:=Nat.ne_of_gt g1
 let kzb:List (Str × Value):=[("self",.ref x)]
 k_extra "c0"
 k_steps
 rename_i ln ha lt1 tq0 tr0 hb lb S1 dn hc od lt2 lo di dd tq1 tr1 hd' lc S2 lw he lt3 tq2 tr2 hf' le S3 ld hg lt4 tq3 tr3 hi' lf F2 N2 S4 kF kN Tc kX
 have b1:=ltn (lt1 _ (.head _))
 dsimp only at b1
 have mln:(ln,PySem.W.listOf #[] 0)∈lb:=S1.keep _ (.head _) (nen (by show @Ne Nat ln d;omega))
 have b3:=ltn (lt2 _ mln)
 dsimp only at b3
 have mln2:(ln,PySem.W.listOf #[] 0)∈lc:=S2.keep _ (.tail _ mln) (nen (by show @Ne Nat ln d;omega))
 have ndn:dn≠d:=nen (by show @Ne Nat dn d;omega)
 have ddc:DH Challenge.rw_pq0123_01.row.prog w dn [] lc:=dd.setTo S2 ndn (fun a h=>absurd h List.not_mem_nil)
 have b4:=ltn (lt3 _ (S2.keep _ (.head _) ndn))
 dsimp only at b4
 have mlw:(lw,PySem.W.listOf #[] 0)∈le:=S3.keep _ (.head _) (nen (by show @Ne Nat lw d;omega))
 have b5:=ltn (lt4 _ mlw)
 dsimp only at b5
 have mln3:(ln,PySem.W.listOf #[] 0)∈le:=S3.keep _ (.tail _ mln2) (nen (by show @Ne Nat ln d;omega))
 have dde:DH Challenge.rw_pq0123_01.row.prog w dn [] le:=(ddc.cons).setTo S3 ndn (fun a h=>absurd h List.not_mem_nil)
 have mlnf:(ln,PySem.W.listOf #[] 0)∈lf:=S4.keep _ (.tail _ mln3) (nen (by show @Ne Nat ln d;omega))
 have ddf:DH Challenge.rw_pq0123_01.row.prog w dn [] lf:=(dde.cons).setTo S4 ndn (fun a h=>absurd h List.not_mem_nil)
 have mlwf:(lw,PySem.W.listOf #[] 0)∈lf:=S4.keep _ (.tail _ mlw) (nen (by show @Ne Nat lw d;omega))
 have mldf:(ld,PySem.W.listOf #[] 0)∈lf:=S4.keep _ (.head _) (nen (by show @Ne Nat ld d;omega))
 have ne:∀ p∈news,p.1≠d:=fun p hp=>Nat.ne_of_lt (l1 p hp)
 have mx:(x,instObj 174 d)∈lf:=S4.keep _ (.tail _ (S3.keep _ (.tail _ (S2.keep _ (.tail _ (S1.keep _ (.tail _ (.head _)) g2)) g2)) g2)) g2
 have md:(d,dictOf _ _)∈lf:=S4.self _ (.tail _ (S3.self _ (.tail _ (S2.self _ (.tail _ (S1.self _ (.tail _ (.tail _ (.head _)))))))))
 (refine E1 ddf.obj fun odf mdn=>?_)
 have hA:Asc x [ln,dn,lw,ld]:=.cons b1 (.cons b3 (.cons b4 (.cons b5 .nil)))
 (refine hret _ _ _ _ kF kN ?_;refine K2 x [x,d,ln,dn,lw,ld] (M4 rfl ⟨d,ln,dn,lw,ld,k4 _ _ _ _,_,0,0,0,[],[],[],[],[],[],⟨mx,md,mlnf,⟨rfl,fun i h=>absurd h (Nat.not_lt_zero _)⟩,ddf,⟨rfl,fun i h=>absurd h (Nat.not_lt_zero _)⟩,mlwf,.nil,mldf,.nil,rfl,rfl,⟨by show 0<60;omega,fun i h=>absurd h (Nat.not_lt_zero _),fun i h=>absurd h (Nat.not_lt_zero _)⟩,?_,?_,?_,?_⟩⟩ (fun p hp=>S4.keep p (.tail _ (S3.keep p (.tail _ (S2.keep p (.tail _ (S1.keep p (.tail _ (.tail _ (.tail _ hp))) (ne p hp))) (ne p hp))) (ne p hp))) (ne p hp)) (fun a ha p hp=>?_)))
 ·exact nod_up g1 hA
 ·intro a ha
  rcases ha with h | h <;> exact absurd h List.not_mem_nil
 ·refine M8 (by simp) (by simp) (by simp) (by simp) (by simp) (by simp) (fun a h=>absurd h List.not_mem_nil) (fun a h=>absurd h List.not_mem_nil)
 ·exact all_cons ⟨_,mx⟩ (all_cons ⟨_,md⟩ (all_cons ⟨_,mlnf⟩ (all_cons ⟨_,mdn⟩ (all_cons ⟨_,mlwf⟩ (all_cons ⟨_,mldf⟩ all_nil)))))
 ·exact Nat.ne_of_lt (Nat.lt_of_lt_of_le (l1 p hp) (low_up g1 hA a ha))
end
section
example:True:=by
 k_with "g82"=>fail_if_success k_extra "x82"
 k_with "x81"=>skip
 k_with "bank"=>(k_extra "g82";(first | decide | exists b615,b614,b613))
 k_with "la"=>k_extra "g82"
 k_with "lb"=>k_extra "g82"
 k_with "lc"=>k_extra "g82"
 trivial
example:True:=by
 k_with "call ref"=>(k_extra "g82";((k_here;(with_reducible show wpAny _ _ (call (Value.ref 213) _) _ _ _);k_dflt (refine' con_use (find_con _ _ _ _ _ _ _ _ ?kzFO) ?kB ?kF ?kX ?kN ?kT ?kA ?kH ?kf ?kk ?kd ?ku ?hp ?_;(case kzFO=>assumption);(case hp=>refine ⟨by assumption,by first | assumption | omega,by first | assumption | omega⟩);tb_start); intro kzQ _ _ _ _ _ _ hp';obtain ⟨e',_,e2'⟩:=hp';subst e';subst e2';(try unfold kzQ);(try clear kzQ);(try dsimp only))))
 k_with "setAttr ref"=>(k_extra "g82";((k_here;k_dflt (refine' set_attr_o ?kzk1 ?kzk2 ?kzk3 ?kzmx ?kzmd ?kzk6 ?kzk7 ?kzk8 ?kzk9 ?kzk10 ?kzk11 ?kzk13 ?_;(case kzk1=>k_asm);(case kzk2=>k_asm);(case kzk3=>k_asm);(case kzmx=>k_mem);(case kzmd=>k_mem);(case kzk6=>k_is);(case kzk7=>k_is);(case kzk8=>k_is);(case kzk9=>k_is);(case kzk10=>k_get);(case kzk11=>(intro _;k_put));(case kzk13=>(intro _;exact Nat.le_of_ble_eq_true rfl));k_whole);intro _ _ _ _ _ _ _;(try dsimp only);(try k_sweep))))
 trivial
theorem unew_con {w:World} :
  Con w 256 [] 20 200 (fun _=>True) (fun news news' r=>∃ u foot,r = .ref u/\UAt w u [] [] [] foot news'/\(∀ p∈news,p∈news')/\∀ a∈foot,∀ p∈news,p.1≠a):=by
 intro mean mg mb dp un gd env outer A₀ base hO L m news s Q E B F X N T hf hk hd hu _ hret
 refine' call_cls ?k1 ?k2 ?k3 ?k4 ?k5 ?k6 ?_
 (case k1=>k_asm);(case k2=>k_asm);(case k3=>k_asm);(case k4=>k_is);(case k5=>k_is);(case k6=>k_is);k_whole
 intro x d h1 F1 N1 l1 l2
 have g1:=ltn l2
 have g2:x≠d:=Nat.ne_of_gt g1
 let kzb:List (Str × Value):=[("self",.ref x)]
 k_extra "c0"
 k_steps
 rename_i la ha lt1 tq0 tr0 hb lb S1 ll hc lt2 tq1 tr1 hd' lc S2 lm he lt3 tq2 tr2 hf' ld F2 N2 S3 kF kN Tc kX
 have b1:=ltn (lt1 _ (.head _))
 dsimp only at b1
 have mla:(la,PySem.W.listOf #[] 0)∈lb:=S1.keep _ (.head _) (nen (by show @Ne Nat la d;omega))
 have b3:=ltn (lt2 _ mla)
 dsimp only at b3
 have mll:(ll,PySem.W.listOf #[] 0)∈lc:=S2.keep _ (.head _) (nen (by show @Ne Nat ll d;omega))
 have b4:=ltn (lt3 _ mll)
 dsimp only at b4
 have mlm:(lm,PySem.W.listOf #[] 0)∈ld:=S3.keep _ (.head _) (nen (by show @Ne Nat lm d;omega))
 have hA:Asc x [la,ll,lm]:=.cons b1 (.cons b3 (.cons b4 .nil))
 have ne:∀ p∈news,p.1≠d:=fun p hp=>Nat.ne_of_lt (l1 p hp)
 have md:(d,dictOf _ _)∈ld:=S3.self _ (.tail _ (S2.self _ (.tail _ (S1.self _ (.tail _ (.tail _ (.head _)))))))
 (refine hret _ _ _ _ kF kN ?_;refine K2 x (x::d::la::ll::lm::([]++[])) (M4 rfl ⟨d,la,ll,lm,_,0,0,0,_,_,_,[],[],[],⟨?_,S3.keep _ (.tail _ (S2.keep _ (.tail _ (S1.keep _ (.tail _ (.head _)) g2)) g2)) g2,md,S3.keep _ (.tail _ (S2.keep _ (.tail _ mla) (nen (by show @Ne Nat la d;omega)))) (nen (by show @Ne Nat la d;omega)),.nil,S3.keep _ (.tail _ mll) (nen (by show @Ne Nat ll d;omega)),⟨rfl,fun i h=>absurd h (Nat.not_lt_zero _)⟩,mlm,⟨rfl,fun i h=>absurd h (Nat.not_lt_zero _)⟩,rfl,by show 0<60;omega,by show 0<60;omega,fun c h=>absurd h List.not_mem_nil⟩,rfl⟩ (fun p hp=>S3.keep p (.tail _ (S2.keep p (.tail _ (S1.keep p (.tail _ (.tail _ (.tail _ hp))) (ne p hp))) (ne p hp))) (ne p hp)) (fun a ha p hp=>?_)))
 ·exact nod_up g1 hA
 ·exact Nat.ne_of_lt (Nat.lt_of_lt_of_le (l1 p hp) (low_up g1 hA a ha))
end
section
example:True:=by
 k_with "g83"=>fail_if_success k_extra "x83"
 k_with "x82"=>skip
 k_with "bank"=>(k_extra "g83";(first | decide | exists b617,b615,b613,b614,b616))
 k_with "la"=>k_extra "g83"
 k_with "lb"=>k_extra "g83"
 k_with "lc"=>k_extra "g83"
 trivial
example:True:=by
 k_with "call ref"=>(k_extra "g83";(first | ((k_here;(with_reducible show wpAny _ _ (call (Value.ref 174) _) _ _ _);k_dflt (refine' con_use (bnew_con) ?kB ?kF ?kX ?kN ?kT ?kA ?kH ?kf ?kk ?kd ?ku ?hp ?_;(case hp=>trivial);tb_start);intro kzQ _ _ _ _ _ _ hp';(refine E2 hp' fun _ _=>G4 fun e' _ _ _=>?_;try clear hp');subst e';(try unfold kzQ);(try clear kzQ);(try dsimp only))) | ((k_here;(with_reducible show wpAny _ _ (call (Value.ref 256) _) _ _ _);k_dflt (refine' con_use (unew_con) ?kB ?kF ?kX ?kN ?kT ?kA ?kH ?kf ?kk ?kd ?ku ?hp ?_;(case hp=>trivial);tb_start);intro kzQ _ _ _ _ _ _ hp';(refine E2 hp' fun _ _=>G4 fun e' _ _ _=>?_;try clear hp');subst e';(try unfold kzQ);(try clear kzQ);(try dsimp only))) | ((k_here;(with_reducible show wpAny _ _ (call (Value.ref 213) _) _ _ _);k_dflt (refine' con_use (find_con _ _ _ _ _ _ _ _ ?kzFO) ?kB ?kF ?kX ?kN ?kT ?kA ?kH ?kf ?kk ?kd ?ku ?hp ?_;(case kzFO=>assumption);(case hp=>refine ⟨by assumption,by first | assumption | omega,by first | assumption | omega⟩);tb_start); intro kzQ _ _ _ _ _ _ hp';obtain ⟨e',_,e2'⟩:=hp';subst e';subst e2';(try unfold kzQ);(try clear kzQ);(try dsimp only)))))
 k_with "setAttr ref"=>(k_extra "g83";((k_here;k_dflt (refine' set_attr_o ?kzk1 ?kzk2 ?kzk3 ?kzmx ?kzmd ?kzk6 ?kzk7 ?kzk8 ?kzk9 ?kzk10 ?kzk11 ?kzk13 ?_;(case kzk1=>k_asm);(case kzk2=>k_asm);(case kzk3=>k_asm);(case kzmx=>k_mem);(case kzmd=>k_mem);(case kzk6=>k_is);(case kzk7=>k_is);(case kzk8=>k_is);(case kzk9=>k_is);(case kzk10=>k_get);(case kzk11=>(intro _;k_put));(case kzk13=>(intro _;exact Nat.le_of_ble_eq_true rfl));k_whole);intro _ _ _ _ _ _ _;(try dsimp only);(try k_sweep))))
 k_with "eval Dict nil nil"=>(k_extra "g83";((k_here;k_dflt (refine' dh_new ?kzk1 ?kzk2 (TopRead.nolimit (by k_asm)) ?_;(case kzk1=>k_asm);(case kzk2=>k_asm);k_whole);intro _ _ _ _ _ _ _ _ _;(try k_sweep))))
 k_with "k_mem"=>(k_extra "g83";(first | with_reducible assumption | ktr_member | (refine' SetTo.it ?kys ?kya;(case kys=>with_reducible assumption);(case kya=>k_mem)) | (refine' SetTo.mem ?kys ?kya ?kyb;(case kys=>with_reducible assumption);(case kyb=>first | with_reducible assumption | exact Ne.symm (by with_reducible assumption) | (refine nen ?_;omega));(case kya=>k_mem)) | exact List.Mem.head _ | (refine' List.mem_cons_of_mem _ ?_;k_mem) | (refine' kp_use ?kys ?kya;(case kys=>with_reducible assumption);(case kya=>k_mem))))
 trivial
noncomputable def k7 (a b c d e f g:Tok):Nat->Tok
 | 0=>a
 | 1=>b
 | 2=>c
 | 3=>d
 | 4=>e
 | 5=>f
 | _=>g
theorem hnew_con {w:World} :
  Con w 384 [] 60 600 (fun _=>True) (fun news news' r=>∃ hp b u fh fb fu,r = .ref hp/\Trio w hp b u [] [] (fun _=>none) [] 0 0 [] [] [] fh fb fu news'/\(∀ p∈news,p∈news')/\∀ a,(a∈fh∨a∈fb∨a∈fu)->∀ p∈news,p.1≠a):=by
 intro mean mg mb dp un gd env outer A₀ base hO L m news s Q E B F X N T hf hk hd hu _ hret
 refine' call_cls ?k1 ?k2 ?k3 ?k4 ?k5 ?k6 ?_
 (case k1=>k_asm);(case k2=>k_asm);(case k3=>k_asm);(case k4=>k_is);(case k5=>k_is);(case k6=>k_is);k_whole
 intro x d h1 F1 N1 l1 l2
 have g1:=ltn l2
 have g2:x≠d:=Nat.ne_of_gt g1
 let kzb:List (Str × Value):=[("self",.ref x)]
 k_extra "c0"
 k_steps
 rename_i ha tkb a1 bb fb BB kp1 nf1 tq0 tr0 hb a2 S1 hc tkd a3 uu fu UU kp2 nf2 tq1 tr1 hd' a4 S2 le he l3 tq2 tr2 hf' a5 S3 lf hg l4 tq3 tr3 hi' a6 S4 dk hj ok l5 lo1 di1 dd1 tq4 tr4 hk' a7 S5 da hl oa l6 lo2 di2 dd2 tq5 tr5 hm a8 S6 lw hn l7 tq6 tr6 ho a9 F2 N2 S7 kF kN Tc kX
 have u7:∀ p∈a8,p.1≠d->p∈a9:=fun p hp e=>S7.keep p (.tail _ hp) e
 have u6:∀ p∈a7,p.1≠d->p∈a9:=fun p hp e=>u7 p (S6.keep p (.tail _ hp) e) e
 have u5:∀ p∈a6,p.1≠d->p∈a9:=fun p hp e=>u6 p (S5.keep p (.tail _ hp) e) e
 have u4:∀ p∈a5,p.1≠d->p∈a9:=fun p hp e=>u5 p (S4.keep p (.tail _ hp) e) e
 have u3:∀ p∈a4,p.1≠d->p∈a9:=fun p hp e=>u4 p (S3.keep p (.tail _ hp) e) e
 have u2:∀ p∈a3,p.1≠d->p∈a9:=fun p hp e=>u3 p (S2.keep p hp e) e
 have u1:∀ p∈a2,p.1≠d->p∈a9:=fun p hp e=>u2 p (kp2 p hp) e
 have u0:∀ p∈a1,p.1≠d->p∈a9:=fun p hp e=>u1 p (S1.keep p hp e) e
 have ne:∀ p∈news,p.1≠d:=fun p hp=>Nat.ne_of_lt (l1 p hp)
 have md1:(d,dictOf [] 0)∈a1:=kp1 _ (.tail _ (.head _))
 have mx1:(x,instObj 384 d)∈a1:=kp1 _ (.head _)
 have md4:=S2.self _ (kp2 _ (S1.self _ md1))
 have mx2:(x,instObj 384 d)∈a2:=S1.keep _ mx1 g2
 have mx4:(x,instObj 384 d)∈a4:=S2.keep _ (kp2 _ mx2) g2
 have q1:=ltn (l3 _ mx4)
 dsimp only at q1
 have nle:le≠d:=nen (by show @Ne Nat le d;omega)
 have m5:(le,PySem.W.listOf #[] 0)∈a5:=S3.keep _ (.head _) nle
 have q2:=ltn (l4 _ m5)
 dsimp only at q2
 have nlf:lf≠d:=nen (by show @Ne Nat lf d;omega)
 have m6:(lf,PySem.W.listOf #[] 0)∈a6:=S4.keep _ (.head _) nlf
 have q3:=ltn (l5 _ m6)
 dsimp only at q3
 have ndk:dk≠d:=nen (by show @Ne Nat dk d;omega)
 have dd7:DH Challenge.rw_pq0123_01.row.prog w dk [] a7:=dd1.setTo S5 ndk (fun a h=>absurd h List.not_mem_nil)
 (refine E1 dd7.obj fun od7 mdk7=>?_)
 have q4:=ltn (l6 _ mdk7)
 dsimp only at q4
 have nda:da≠d:=nen (by show @Ne Nat da d;omega)
 have dd8:DH Challenge.rw_pq0123_01.row.prog w dk [] a8:=(dd7.cons).setTo S6 ndk (fun a h=>absurd h List.not_mem_nil)
 have di7:DI Challenge.rw_pq0123_01.row.prog w da 0 (fun _=>none) ((da,oa)::a7):=⟨lo2,oa,[],.head _,di2,Nat.le_refl _,fun k=>rfl⟩
 have di8:=di7.setTo S6 nda
 (refine E1 di8.obj fun oa8 mda8=>?_)
 have q5:=ltn (l7 _ mda8)
 dsimp only at q5
 have nlw:lw≠d:=nen (by show @Ne Nat lw d;omega)
 have dd9:DH Challenge.rw_pq0123_01.row.prog w dk [] a9:=(dd8.cons).setTo S7 ndk (fun a h=>absurd h List.not_mem_nil)
 have di9:=(DI.cons (p:=(lw,PySem.W.listOf #[] 0)) di8).setTo S7 nda
 have mlw:(lw,PySem.W.listOf #[] 0)∈a9:=S7.keep _ (.head _) nlw
 have mle:=u4 _ m5 nle
 have mlf:=u5 _ m6 nlf
 have mx9:=u1 _ mx2 g2
 have md9:(d,dictOf _ _)∈a9:=S7.self _ (.tail _ (S6.self _ (.tail _ (S5.self _ (.tail _ (S4.self _ (.tail _ (S3.self _ (.tail _ md4)))))))))
 (refine E1 dd9.obj fun odk mdk=>?_)
 (refine E1 di9.obj fun oda mda=>?_)
 have hB:Asc le [lf,dk,da,lw]:=.cons q2 (.cons q3 (.cons q4 (.cons q5 .nil)))
 have hA:Asc x [le,lf,dk,da,lw]:=.cons q1 hB
 have fbd:∀ a∈fb,a≠d/\a≠x/\@LT.lt Nat _ a le:=fun a h=>by
  have h1:d≠a:=nf1 a h _ (.tail _ (.head _))
  have h2:x≠a:=nf1 a h _ (.head _)
  (refine E1 (BB.footin a h) fun o ho=>?_)
  refine M3 h1.symm h2.symm (l3 _ (S2.keep _ (kp2 _ (S1.keep _ ho h1.symm)) h1.symm))
 have fud:∀ a∈fu,a≠d/\a≠x/\@LT.lt Nat _ a le:=fun a h=>by
  have h1:d≠a:=nf2 a h _ (S1.self _ md1)
  have h2:x≠a:=nf2 a h _ mx2
  (refine E1 (UU.foot_in a h) fun o ho=>?_)
  refine M3 h1.symm h2.symm (l3 _ (S2.keep _ ho h1.symm))
 have far:∀ a,(a≠d/\a≠x/\@LT.lt Nat _ a le)->∀ c∈[x,d,le,lf,dk,da,lw],c≠a:=fun a h c hc e=>by
  exact all_cons (P:=fun c=>c≠a) (Ne.symm h.2.1) (all_cons (Ne.symm h.1) (all_cons (Nat.ne_of_gt h.2.2) fun c hc=>Nat.ne_of_gt (Nat.lt_trans h.2.2 (Asc.low hB c hc)))) c hc e
 (refine hret _ _ _ _ kF kN ?_;refine K6 x bb uu [x,d,le,lf,dk,da,lw] fb fu (M4 rfl ⟨⟨d,le,lf,dk,da,lw,k7 _ _ _ _ _ _ _,_,0,0,0,[],[],[],[],fun _=>none,⟨mx9,md9,mle,Nat.le_refl _,mlf,Nat.le_refl _,dd9,⟨rfl,fun i h=>absurd h (Nat.not_lt_zero _)⟩,di9,fun j=>.inl ⟨rfl,rfl⟩,(fun i j a h=>nomatch h),mlw,.nil,⟨by omega,by omega,by show 0<1000;omega,by show 0<1000;omega⟩,?_,(fun j a h=>nomatch h),fun a h=>absurd h List.not_mem_nil,?_,?_⟩⟩,BB.move fun p hp hf=>u0 p hp (fbd _ hf).1,UU.move fun p hp hf=>u2 p hp (fud _ hf).1,fun a h1 h2=>far a (fbd a h2) a h1 rfl,fun a h1 h2=>far a (fud a h2) a h1 rfl,fun a h1 h2=>?_⟩ (fun p hp=>u0 p (kp1 p (.tail _ (.tail _ hp))) (ne p hp)) (fun a ha p hp=>?_)))
 ·exact nod_up g1 hA
 ·refine M9 (by simp) (by simp) (by simp) (by simp) (by simp) (by simp) (by simp) (fun a h=>absurd h List.not_mem_nil) (fun j a h=>nomatch h)
 ·exact all_cons ⟨_,mx9⟩ (all_cons ⟨_,md9⟩ (all_cons ⟨_,mle⟩ (all_cons ⟨_,mlf⟩ (all_cons ⟨_,mdk⟩ (all_cons ⟨_,mda⟩ (all_cons ⟨_,mlw⟩ all_nil))))))
 ·(refine E1 (BB.footin a h1) fun o ho=>?_)
  exact nf2 a h2 _ (S1.keep _ ho (fbd a h1).1) rfl
 ·rcases ha with ha | ha | ha
  ·exact Nat.ne_of_lt (Nat.lt_of_lt_of_le (l1 p hp) (low_up g1 hA a ha))
  ·exact nf1 a ha p (.tail _ (.tail _ hp))
  ·exact nf2 a ha p (S1.keep p (kp1 p (.tail _ (.tail _ hp))) (ne p hp))
end
section
example:True:=by
 k_with "g84"=>fail_if_success k_extra "x84"
 k_with "x83"=>skip
 k_with "bank"=>(k_extra "g84";(first | decide | exists b619,b622,b627,b621,b624,b638,b640,b591,b620,b34,b127,b623,b625,b626,b628,b630,b631,b632,b633,b634,b635,b636,b637,b639,b642,b643,b644,b646,b647,b648,b649,b650,b651,b652,b653,b656,b657,b658,b659,b660,b257,b661,b662,b54,b664,b665))
 k_with "cuton"=>k_extra "g84"
 trivial
example:True:=by
 k_with "ktr_room"=>(k_extra "g84";(((try unfold kzA);(try simp only [depth_under_make,depth_under_kw,depth_in1,depth_deeper,depth_caller]);(try dsimp only);first | exact room_up2 (by with_reducible assumption) rfl | exact room_up (by with_reducible assumption) rfl | exact room_0 (by with_reducible assumption) rfl | omega | decide | (unfold recursionLimit;omega))))
 k_with "ktr_units"=>(k_extra "g84";(((try unfold kzA);(try simp only [units_in1,units_deeper,Around.mark_units,units_caller,units_under_make]);(try dsimp only);first | exact room_up2 (by with_reducible assumption) rfl | exact room_up (by with_reducible assumption) rfl | exact room_0 (by with_reducible assumption) rfl | omega | decide | (unfold cLine;omega))))
 k_with "call ref"=>(k_extra "g84";((k_here;(with_reducible show wpAny _ _ (call (Value.ref 213) _) _ _ _);k_dflt (refine' con_use (find_con _ _ _ _ _ _ _ _ ?kzFO) ?kB ?kF ?kX ?kN ?kT ?kA ?kH ?kf ?kk ?kd ?ku ?hp ?_;(case kzFO=>assumption);(case hp=>refine ⟨by assumption,by first | assumption | omega,by first | assumption | omega⟩);tb_start); intro kzQ _ _ _ _ _ _ hp';obtain ⟨e',_,e2'⟩:=hp';subst e';subst e2';(try unfold kzQ);(try clear kzQ);(try dsimp only))))
 trivial
example:True:=by
 k_with "call ref"=>(k_extra "g84";((k_here;refine Hold.out ?_)))
 k_with "storeName"=>(k_extra "g84";((k_here;k_dflt (refine' cell_set ?kzF ?kzN ?kzc ?kzm ?kzd ?_ ?kza ?kzb;(case kza=>rfl);(case kzb=>rfl);(case kzF=>k_asm);(case kzN=>k_asm);(case kzc=>rfl);(case kzm=>k_mem);(case kzd=>k_asm);k_whole);intro _ _ _ _ _ _ _;(try k_sweep))))
 k_with "subscriptTail Name Slice ref ref"=>(k_extra "g84";((k_here;refine Hold.out ?_)))
 k_with "exec For Tuple Call"=>(k_extra "g84";((k_here;refine Hold.out ?_)))
 k_with "exec For Name Tuple cons nil"=>(k_extra "g84";((k_here;(rename Fr _ _ _ _=>lF');k_dflt ((with_unfolding_all refine' For_invVF lF' ?kzk1 ?kzk2 ?_);(case kzk1=>exact rfl);(case kzk2=>exact rfl));k_whole)))
 k_with "ForEnd"=>(k_extra "g84";(refine Hold.out ?_))
 k_with "pyIter ref"=>(k_extra "g84";(((with_reducible show wpAny _ _ (pyIter (Value.ref _)) (fun it s₂=>LoopAtD _ _ _ _ _ _ _ _ it s₂) _ _);refine Hold.out ?_)))
 k_with "CompEnd"=>(k_extra "g84";(refine Hold.out ?_))
 k_with "ForEndD"=>(k_extra "g84";(refine Hold.out ?_))
 k_with "JoinAt"=>(k_extra "g84";(refine Hold.out ?_))
 k_with "exec Assign cons ListComp"=>(k_extra "g84";((k_here;k_dflt (refine LCg.Assign_ListComp_U (F₀:=by k_asm) (by rfl) (by with_unfolding_all rfl) (by with_unfolding_all rfl) (by decide) (by rfl) (by decide) (by rfl) (by rfl) (by rfl) ?_))))
 k_with "eval Dict"=>(k_extra "g84";((k_here;refine Hold.out ?_)))
 k_with "call type:enumerate"=>(k_extra "g84";((k_here;refine Hold.out ?_)))
 k_with "call type:range"=>(k_extra "g84";((k_here;refine Hold.out ?_)))
 trivial
theorem hide {P:Prop}(h:∀ G:Prop,(P->G)->G):P:=h P id
noncomputable def PairsIn (ys:List Value) (ps:List (Nat × Nat)) (pl:Led):Prop :=
 ys.length=ps.length/\∀ (i:Nat) v,ys[i]?=some v->∃ a n t1 t2,v = .ref a/\(a,tupOf #[.int ((ps.getD i (0,0)).1:Nat) t1,.int ((ps.getD i (0,0)).2:Nat) t2] n)∈pl
theorem PairsIn.snoc {ys:List Value}{ps:List (Nat × Nat)}{pl pl':Led}{a:Addr}{x y n:Nat}{t1 t2:Tok}(H:PairsIn ys ps pl) (k:∀ p∈pl,p∈pl') (hm:(a,tupOf #[.int (x:Nat) t1,.int (y:Nat) t2] n)∈pl'):PairsIn (ys++[.ref a]) (ps++[(x,y)]) pl':=by
 (refine G2 ?_ H;try clear H;intro hl h)
 refine ⟨by simp [hl],fun i v hv=>?_⟩
 by_cases hi:i<ys.length
 ·rw [List.getElem?_append_left hi] at hv
  (refine E4 (h i v hv) fun a n t1 t2=>G2 fun e h1=>?_)
  refine K4 a n t1 t2 (M2 e ?_)
  rw [List.getD_eq_getElem?_getD,List.getElem?_append_left (by omega),← List.getD_eq_getElem?_getD]
  exact k _ h1
 ·have hi2:i=ys.length:=by
   have:=(List.getElem?_eq_some_iff.mp hv).1
   rw [List.length_append,List.length_singleton] at this
   omega
  subst hi2
  rw [List.getElem?_append_right (Nat.le_refl _),Nat.sub_self] at hv
  refine K4 a n t1 t2 (M2 ((Option.some.inj hv).symm) ?_)
  rw [List.getD_eq_getElem?_getD,hl,List.getElem?_append_right (Nat.le_refl _),Nat.sub_self]
  exact hm
theorem bool_odd {a b:Int}(h:((!decide (a=b)) != (a != b))=true):False:=by
 by_cases hxy:a=b
 ·rw [decide_eq_true hxy,hxy] at h
  simp at h
 ·rw [decide_eq_false hxy] at h
  simp [hxy] at h
noncomputable abbrev rangeObj2 (a b:Int) (t u v:Tok):Obj:={ cls:=.type "range",dict:=none,data:=.fields #[.int a t,.int b u,.int 1 v],slots:=#[] }
theorem range_led2 {prog:Program}{w:World}{A:Around}{E:Value->Shared->Prop}{s:Shared}{hO:Heap}{L:Addr}{m:Str->Option Value}{news:Led}{a b:Int}{t u:Tok}{Q:Value->Shared->Prop}(F:Fr hO L s.heap m) (N:News hO L s.heap news)
  (h:∀ D h' tk v₁,Fr hO L h' m->News hO L h' ((D,rangeObj2 a b t u v₁)::news)->(∀ p∈news,p.1<D)->Q (.ref D) { s with heap:=h',toks:=tk }) :
  wpAny (model prog w) A (call (.type "range") [.int a t,.int b u]) Q E s :=
 call_range_2 (h _ _ _ _ (F.push _) (News.push F N _ rfl) fun p hp=>Heap.lt_size (N p hp).1)
theorem isRange_of2 {hO h:Heap}{L D:Addr}{news:Led}{a b:Int}{t u v:Tok}(N:News hO L h news) (hm:(D,rangeObj2 a b t u v)∈news):IsRange h D a b 1 t u v:=(N _ hm).1
theorem law_walk:Challenge.rw_pq0123_01.Holds:=Mine.q.hd (by
 k_go0
 all_goals try k_fold
 (refine a_let ?_;intro kzA)
 (refine e_let ?_;intro kzE)
 k_steps
 (try dsimp only [PyProof.Rows.Top.heap] at *)
 rename IntsAre _ _=>hi
 rename PySem.Heap.IsList _ _ _=>hl
 rename ¬ _<_=>hlen
 rename News _ _ _ _=>N0
 rename Fr _ _ _ _=>F0
 rename (PySem.Obj.data _=_)=>dR
 revert dR
 rename (PySem.Obj.data _=_)=>dL
 intro dR
 refine hide fun G kG=>?_
 obtain ⟨oT,oE,vT,vE,N1,dT,dE⟩:∃ (o2 o1:Obj) (v2 v1:Option Value),News _ _ _ [(_,o2),(_,o1)]/\o2.data = .cell v2/\o1.data = .cell v1:=⟨_,_,_,_,N0,by first | exact dL | exact dR,by first | exact dL | exact dR⟩
 have hlv:=hi.length
 refine kG ?_
 clear kG G N0 dL dR
 (try (rename CellsAre _ _ _=>X0;clear X0))
 refine Hold.done (ds_two (by decide) (by k_asm) (by k_asm) (TopRead.nolimit (by k_asm)) ?_)
 intro fe hF tkF oF FF NF ltF
 repeat walk1
 refine Hold.done (list_slice_to (k:=24) (by k_asm) (by k_asm) (PySem.Heap.IsList.at hl fun o e=>FF.keep _ o e) (by omega) ?_)
 intro C hC FC NC ltC
 intro tkC
 iterate 1 walk1
 refine K1 _ (M4 (by k_asm) (by k_asm) (.tail _ (.head _)) ?_)
 intro hG tkG lG oG FG NG SG DG
 rename World=>w
 rename Shared=>s1
 have cE:(s1.heap.objs.size+1,oE)∈lG:=SG.keep _ (.tail _ (.tail _ (.tail _ (.head _)))) (Nat.ne_of_lt (ltF _ (.tail _ (.head _))))
 have cT:(s1.heap.objs.size+1+1,oT)∈lG:=SG.keep _ (.tail _ (.tail _ (.head _))) (Nat.ne_of_lt (ltF _ (.head _)))
 have mCG:=SG.keep _ (.head _) (Ne.symm (Nat.ne_of_lt (ltC _ (.head _))))
 have FD0:∃ vs cells n ta,FeedAt w fe C 0 vs cells n ta lG:=⟨_,_,_,_,DG,mCG,ints_take hi 24,Ne.symm (Nat.ne_of_lt (ltC _ (.head _))),by rw [List.length_take];omega⟩
 (refine E4 FD0 fun vs0 cells0 n0 ta0 FD=>?_;try clear FD0)
 have nE:fe≠s1.heap.objs.size+1:=Ne.symm (Nat.ne_of_lt (ltF _ (.tail _ (.head _))))
 have nT:fe≠s1.heap.objs.size+1+1:=Ne.symm (Nat.ne_of_lt (ltF _ (.head _)))
 have nCE:C≠s1.heap.objs.size+1:=Ne.symm (Nat.ne_of_lt (ltC _ (.tail _ (.tail _ (.head _)))))
 have nCT:C≠s1.heap.objs.size+1+1:=Ne.symm (Nat.ne_of_lt (ltC _ (.tail _ (.head _))))
 clear SG DG mCG ltF ltC NC FC NF FF N1 hi hl hlv hlen
 have nTE:(s1.heap.objs.size+1+1:Addr)≠s1.heap.objs.size+1:=nen (by show @Ne Nat (s1.heap.objs.size+1+1) (s1.heap.objs.size+1);omega)
 repeat walk1
 refine Hold.done ?_
 refine' con_use (hnew_con) ?kB ?kF ?kX ?kN ?kT ?kA ?kH ?kf ?kk ?kd ?ku ?hp ?_
 tb_start
 case hp=>trivial
 (intro kzQ r3 h3 tk3 l3 F3 N3 zr6;(refine E6 zr6 fun hp b u fh fb fu=>G4 fun zo39 T0 kpH nH=>?_;try clear zr6;rcases zo39 with rfl);unfold kzQ;clear kzQ)
 obtain ⟨m0,F3m⟩:∃ m0,Fr _ _ h3 m0:=⟨_,F3⟩
 clear F3 FG F0 NG
 have cE3:=kpH _ cE
 have cT3:=kpH _ cT
 have FD3:=FD.move (l':=l3) fun p hp _=>kpH p hp
 obtain ⟨foot,efoot⟩:∃ foot,foot=fh++(fb++fu):=⟨_,rfl⟩
 have nf:∀ a∈foot,∀ p∈lG,p.1≠a:=fun a ha=>by
  rw [efoot] at ha
  rcases List.mem_append.mp ha with h | h
  ·exact nH a (.inl h)
  ·rcases List.mem_append.mp h with h | h
   ·exact nH a (.inr (.inl h))
   ·exact nH a (.inr (.inr h))
 have H3:HS w hp 0 0 [] [] foot l3:=⟨_,_,_,_,_,_,_,_,_,_,_,T0,st_zero,efoot⟩
 have eo:∃ v,oE.data = .cell v:=⟨_,dE⟩
 clear kpH nH T0
 repeat walk1
 rename_i DT hT0 ltT0 hS0' hS1' oE4 l4 S4 d4 h4 F4 N4
 have up4:Hold (∀ p∈l3,p.1≠s1.heap.objs.size+1->p∈l4):=Hold.done fun p hp e=>S4.keep p (.tail _ hp) e
 have cE4:(s1.heap.objs.size+1,oE4)∈l4:=S4.self _ (.tail _ cE3)
 have cT4:(s1.heap.objs.size+1+1,oT)∈l4:=up4 _ cT3 (nTE)
 have FD4:=FD3.move (l':=l4) fun p hp e=>up4 p hp (by rcases e with e | e <;> rw [e] <;> assumption)
 have H4:HS w hp 0 0 [] [] foot l4:=H3.move fun p hp hf=>up4 p hp fun e=>nf _ hf _ cE e.symm
 (refine E1 FD.d.obj fun of mf=>?_)
 have nfe:fe∉foot:=fun h=>nf _ h _ mf rfl
 have nfC:C∉foot:=fun h=>nf _ h _ FD.mc rfl
 have nfE:s1.heap.objs.size+1∉foot:=fun h=>nf _ h _ cE rfl
 have nfT:s1.heap.objs.size+1+1∉foot:=fun h=>nf _ h _ cT rfl
 clear S4 up4 cE3 cT3 FD3 H3 ltT0 cE cT FD mf nf
 refine Hold.done ?_
 refine' con_use (draw_con fe C 0 vs0 cells0 n0 ta0 14 _ (by omega)) ?kB ?kF ?kX ?kN ?kT ?kA ?kH ?kf ?kk ?kd ?ku ?hp ?_
 tb_start
 case hp=>exact FD4
 (intro kzQ r5 h5 tk5 l5 F5 N5 zr6;(refine E3 zr6 fun v5 t5 t5'=>G4 fun hv5 zo40 k5 FD5=>?_;try clear zr6;rcases zo40 with rfl);unfold kzQ;clear kzQ)
 have cE5:=k5 _ cE4 nE.symm
 have cT5:=k5 _ cT4 nT.symm
 have H5:HS w hp 0 0 [] [] foot l5:=H4.move fun p hp hf=>k5 p hp fun e=>nfe (e ▸ hf)
 clear k5 cE4 cT4 FD4 H4 N4
 obtain ⟨top,etop,htop1,htop2⟩:∃ top:Nat,(4:Int)+(v5:Nat)=top/\4<=top/\top<=17:=⟨4+v5,by omega,by omega,by omega⟩
 repeat walk1
 rw [etop]
 refine Hold.done (ds_two (by decide) (by k_asm) (by k_asm) (TopRead.nolimit (by k_asm)) ?_)
 intro W hW tkW oW FW NW ltW
 iterate 1 walk1
 intro tkW2
 iterate 1 walk1
 refine K1 _ (M4 (by k_asm) (by k_asm) (.head _) ?_)
 intro h6 tk6 l6 oW6 F6 N6 S6 DW
 have nW:∀ p∈l5,p.1≠W:=fun p hp=>Nat.ne_of_lt (ltW p hp)
 have up6:Hold (∀ p∈l5,p∈l6):=Hold.done fun p hp=>S6.keep p (.tail _ hp) (nW p hp)
 (refine E1 FD5.d.obj fun of5 mf5=>?_)
 have L6:LawS w fe C hp W [(s1.heap.objs.size+1+1,oT),(s1.heap.objs.size+1,oE4)] 0 0 [] [] none foot l6:=by
  refine ⟨H5.move fun p hp _=>up6 p hp,⟨_,_,_,_,_,FD5.move fun p hp _=>up6 p hp⟩,⟨_,_,_,rfl,rfl,DW⟩,trivial,fun p hp=>?_,nfe,fun h=>?_,nfC,nW _ mf5,nW _ FD5.mc⟩
  ·rcases List.mem_cons.mp hp with rfl | hp
   ·refine M5 (up6 _ cT5) nfT (Ne.symm nT) (nW _ cT5) (Ne.symm nCT)
   ·rw [List.mem_singleton.mp hp]
    refine M5 (up6 _ cE5) nfE (Ne.symm nE) (nW _ cE5) (Ne.symm nCE)
  ·(refine E1 (H5.footin _ h) fun o ho=>?_)
   exact nW _ ho rfl
 have cT6:=up6 _ cT5
 have cE6:=(L6.ot _ (.tail _ (.head _))).1
 have nWT:=nW _ cT5
 clear DW S6 up6 nW H5 FD5 cT5 cE5 mf5
 iterate 12 walk1
 rename_i DT7 hT7 ltT7 hS7 hS7' oT7 l7 S7 d7 h7 F7 N7
 have L7:LawS w fe C hp W [(s1.heap.objs.size+1+1,oT7),(s1.heap.objs.size+1,oE4)] 0 0 [] [] none foot l7:=L6.put (fun p hp e=>S7.keep p (.tail _ hp) e) (S7.self _ (.tail _ cT6)) fun p hp=>by
  rw [List.mem_singleton.mp hp]
  exact nTE.symm
 have cT7:=(L7.ot _ (.head _)).1
 have cE7:=(L7.ot _ (.tail _ (.head _))).1
 clear S7 L6 cT6 cE6 ltT7 nWT nE nT nCE nCT nfe nfC nfE nfT
 repeat walk1
 refine Hold.done ?_
 refine' con_use (drawL 4 _ (by omega)) ?kB ?kF ?kX ?kN ?kT ?kA ?kH ?kf ?kk ?kd ?ku ?hp ?_
 tb_start
 case hp=>exact L7
 (intro kzQ r8 h8 tk8 l8 F8 N8 zr6;(refine E2 zr6 fun v8 t8=>G3 fun hv8 zo41 L8=>?_;try clear zr6;rcases zo41 with rfl);unfold kzQ;clear kzQ)
 have cT8:=(L8.ot _ (.head _)).1
 have cE8:=(L8.ot _ (.tail _ (.head _))).1
 clear L7 cT7 cE7 N7 F7
 obtain ⟨np,enp,hnp1,hnp2⟩:∃ np:Nat,(1:Int)+(v8:Nat)=np/\1<=np/\np<=4:=⟨1+v8,by omega,by omega,by omega⟩
 repeat walk1
 rw [enp]
 refine Hold.done (range_led (by k_asm) (by k_asm) ?_)
 intro R hR tkR tR uR vR FR NR dR
 obtain ⟨O0,L80,kT,kE⟩:∃ O0:Led,LawS w fe C hp W O0 0 0 [] [] none foot l8/\(s1.heap.objs.size+1+1,oT7)∈O0/\(s1.heap.objs.size+1,oE4)∈O0:=⟨_,L8,.head _,.tail _ (.head _)⟩
 have LR:=L80.cons (p:=(R,rangeObj (np:Int) tR uR vR))
 clear L8 L80 cT8 cE8 N8 F8 dR
 repeat walk1
 refine Hold.done (comp_rangeA (n:=np) (fun i ys l=>∃ pl ps,PairsIn ys ps pl/\ps.length=i/\(∀ p∈ps,p.1<top+1/\p.2<top+1)/\LawS w fe C hp W (pl++O0) 0 0 [] [] none foot l) rfl (by k_asm) (by k_asm) (isRange_of (by k_asm) (.head _)) rfl (by omega) ⟨[],[],⟨rfl,fun i v h=>by simp at h⟩,rfl,fun p hp=>absurd hp List.not_mem_nil,LR⟩ ?_ ?_)
 ·(intro i t I oI C2 oC2 D2 m₂ ys l h tk E' hil zr14 hC hx FI NI off ne;(refine E2 zr14 fun pl ps=>G4 fun hps hpl hlt LI=>?_;try clear zr14))
  have off5:=off.mem
  have LI3:=((LI.add (p:=(D2,LCg.lst ys)) fun q hq=>(off5 q hq).2.2).add (p:=(C2,oC2)) fun q hq=>by
   rcases List.mem_cons.mp hq with rfl | hq
   ·exact Ne.symm ne.2.2
   ·exact (off5 q hq).2.1).add (p:=(I,oI)) fun q hq=>by
   rcases List.mem_cons.mp hq with rfl | hq
   ·exact Ne.symm ne.1
   ·rcases List.mem_cons.mp hq with rfl | hq
    ·exact Ne.symm ne.2.1
    ·exact (off5 q hq).1
  have iT:=(LI3.ot _ (.tail _ (.tail _ (.tail _ (List.mem_append_right _ kT))))).1
  have iE:=(LI3.ot _ (.tail _ (.tail _ (.tail _ (List.mem_append_right _ kE))))).1
  repeat walk1
  refine Hold.done ?_
  rw [show (top:Int)+1=((top+1:Nat):Int) by omega]
  refine' con_use (drawL (top+1) _ (by omega)) ?kB ?kF ?kX ?kN ?kT ?kA ?kH ?kf ?kk ?kd ?ku ?hp ?_
  tb_start
  case hp=>exact LI3
  (intro kzQ r9 h9 tk9 l9 F9 N9 zr6;(refine E2 zr6 fun v9 t9=>G3 fun hv9 zo42 L9=>?_;try clear zr6;rcases zo42 with rfl);unfold kzQ;clear kzQ)
  have jT:=(L9.ot _ (.tail _ (.tail _ (.tail _ (List.mem_append_right _ kT))))).1
  have jE:=(L9.ot _ (.tail _ (.tail _ (.tail _ (List.mem_append_right _ kE))))).1
  clear LI3 iT iE NI FI
  repeat walk1
  refine Hold.done ?_
  rw [show (top:Int)+1=((top+1:Nat):Int) by omega]
  refine' con_use (drawL (top+1) _ (by omega)) ?kB ?kF ?kX ?kN ?kT ?kA ?kH ?kf ?kk ?kd ?ku ?hp ?_
  tb_start
  case hp=>exact L9
  (intro kzQ r10 h10 tk10 l10 F10 N10 zr6;(refine E2 zr6 fun v10 t10=>G3 fun hv10 zo43 L10=>?_;try clear zr6;rcases zo43 with rfl);unfold kzQ;clear kzQ)
  clear L9 jT jE N9 F9
  repeat walk1
  rename_i P hP FP NP ltP
  have LP:=L10.add (p:=(P,tupOf #[Value.int (v9:Nat) t9,Value.int (v10:Nat) t10] 0)) fun q hq=>Nat.ne_of_lt (ltP q hq)
  have LPs:LawS w fe C hp W ([(I,oI),(C2,oC2),(D2,LCg.lst ys)]++(((P,tupOf #[Value.int (v9:Nat) t9,Value.int (v10:Nat) t10] 0)::pl)++O0)) 0 0 [] [] none foot _:=LP.sub fun p hp=>by
   simp only [List.cons_append,List.nil_append,List.mem_cons] at hp ⊢
   rcases hp with h | h | h | h | h <;> simp [h]
  refine Hold.done (CompEnd.mkS (l':=(P,tupOf #[Value.int (v9:Nat) t9,Value.int (v10:Nat) t10] 0)::l10) (by k_asm) (by k_asm) ((LP.ot _ (.tail _ (.head _))).1) ((LP.ot _ (.tail _ (.tail _ (.head _)))).1) ((LP.ot _ (.tail _ (.tail _ (.tail _ (.head _))))).1) fun l'' k=>⟨_,_,hps.snoc (a:=P) (fun p hp=>.tail _ hp) (.head _),by simp [hpl],fun p hp=>?_,LPs.move (fun p hp h=>k p hp (h _ (.head _)) (h _ (.tail _ (.head _))) (h _ (.tail _ (.tail _ (.head _))))) fun p hp q hq=>?_⟩)
  ·rcases List.mem_append.mp hp with h | h
   ·exact hlt p h
   ·rw [List.mem_singleton.mp h];exact ⟨hv9,hv10⟩
  ·have hq10:q∈l10:=(L10.ot q (by
    simp only [List.mem_cons,List.not_mem_nil,or_false] at hq ⊢
    rcases hq with h | h | h <;> simp [h])).1
   rcases List.mem_cons.mp hp with rfl | hp
   ·exact Ne.symm (Nat.ne_of_lt (ltP _ hq10))
   ·have z:=off5 p (LI.ot p hp).1
    simp only [List.mem_cons,List.not_mem_nil,or_false] at hq
    rcases hq with h | h | h <;> rw [h]
    ·exact z.1
    ·exact z.2.1
    ·exact z.2.2
 (intro Dp ysp l11 h11 tk11 zr5 F11 N11 hDp;(refine E2 zr5 fun pl ps=>G4 fun hps hpl hlt L11=>?_;try clear zr5))
 have L12:=L11.add (p:=(Dp,PySem.W.listOf ysp.toArray ysp.length)) hDp
 have aT:=(L12.ot _ (.tail _ (List.mem_append_right _ kT))).1
 have aE:=(L12.ot _ (.tail _ (List.mem_append_right _ kE))).1
 clear L11 LR FR NR
 repeat walk1
 refine Hold.done ?_
 refine' con_use (drawL top _ (by omega)) ?kB ?kF ?kX ?kN ?kT ?kA ?kH ?kf ?kk ?kd ?ku ?hp ?_
 tb_start
 case hp=>exact L12
 (intro kzQ r13 h13 tk13 l13 F13 N13 zr6;(refine E2 zr6 fun v13 t13=>G3 fun hv13 zo44 L13=>?_;try clear zr6;rcases zo44 with rfl);unfold kzQ;clear kzQ)
 have bT:=(L13.ot _ (.tail _ (List.mem_append_right _ kT))).1
 have bE:=(L13.ot _ (.tail _ (List.mem_append_right _ kE))).1
 (try clear L12);(try clear aT);(try clear aE);(try clear N11);(try clear F11)
 repeat walk1
 rename_i TT hTT FTT NTT ltTT
 have L14:=L13.add (p:=(TT,tupOf #[Value.int (v13:Nat) t13,Value.int (top:Nat) tk5] 0)) fun q hq=>Nat.ne_of_lt (ltTT q hq)
 (try clear L13);(try clear bT);(try clear bE);(try clear N13);(try clear F13);(try clear ltTT)
 obtain ⟨OT,L15,mTT,mDp,mpl,mcT,mcE⟩:∃ OT:Led,LawS w fe C hp W OT 0 0 [] [] none foot _/\(TT,tupOf #[Value.int (v13:Nat) t13,Value.int (top:Nat) tk5] 0)∈OT/\(Dp,PySem.W.listOf ysp.toArray ysp.length)∈OT/\(∀ p∈pl,p∈OT)/\(s1.heap.objs.size+1+1,oT7)∈OT/\(s1.heap.objs.size+1,oE4)∈OT:=⟨_,L14,.head _,.tail _ (.head _),fun p hp=>.tail _ (.tail _ (List.mem_append_left _ hp)),.tail _ (.tail _ (List.mem_append_right _ kT)),.tail _ (.tail _ (List.mem_append_right _ kE))⟩
 refine Hold.done (for_tup_J (vs:=[Value.int (v13:Nat) t13,Value.int (top:Nat) tk5]) (fun i l=>∃ ls foot',Sound ls none []/\LawS w fe C hp W OT (if i=0 then 0 else if i=1 then v13+1 else top+1) 0 ls [] none foot' l) rfl (by k_asm) (by k_asm) (.head _) ⟨_,_,Sound.zero,L15⟩ (fun i l h=>by (refine E2 h ?_;try clear h;intro ls foot';refine G2 ?_;intro _ h);exact (h.ot _ mTT).1) ?_ ?_)
 ·(intro i v l h tk I oI hv zr8 hI FI NI;(refine E2 zr8 fun ls foot'=>G2 fun SO LI=>?_;try clear zr8))
  obtain ⟨k,tk',rfl,hk24,hkN⟩:∃ (k:Nat) (t:Tok),v = .int (k:Int) t/\k<24/\max (if i=0 then 0 else if i=1 then v13+1 else top+1) (k+1)=(if i+1=0 then 0 else if i+1=1 then v13+1 else top+1):=by
   rcases i with _ | _ | i
   ·refine K2 v13 t13 (M3 (by simpa using hv.symm) (by omega) (by simp))
   ·refine K2 top tk5 (M3 (by simpa using hv.symm) (by omega) (by simp;omega))
   ·simp at hv
  have LI1:=LI.add (p:=(I,oI)) hI
  (refine E10 LI1.hs.inst fun dh lk lb lu le lf dk da lw ln=>G4 fun m1 m2 f1 f2=>?_)
  repeat walk1
  refine Hold.done ?_
  refine' con_use (tower_con k (by omega) tk') ?kB ?kF ?kX ?kN ?kT ?kA ?kH ?kf ?kk ?kd ?ku ?hp ?_
  tb_start
  case hp=>trivial
  (intro kzQ r20 h20 tk20 l20 F20 N20 zr6;(refine E2 zr6 fun ta tas=>G4 fun zo45 TW up20 off20=>?_;try clear zr6;rcases zo45 with rfl);unfold kzQ;clear kzQ)
  repeat walk1
  have hNf:(if i=0 then 0 else if i=1 then v13+1 else top+1)<24:=by
   split
   ·omega
   ·split <;> omega
  refine Hold.done ?_
  refine' con_use (putL (q:=0) (by omega) k hk24 hNf ta tas) ?kB ?kF ?kX ?kN ?kT ?kA ?kH ?kf ?kk ?kd ?ku ?hp ?_
  tb_start
  case hp=>refine K1 _ (M4 LI1 up20 TW off20)
  (intro kzQ r21 h21 tk21 l21 F21 N21 zr6;(refine E3 zr6 fun t21 ls' foot2=>G3 fun zo46 U21 L21=>?_;try clear zr6;rcases zo46 with rfl);unfold kzQ;clear kzQ)
  rw [hkN] at L21
  repeat walk1
  ·rename ¬ (_=_)=>hne
   exact absurd rfl hne
  ·repeat walk1
   refine Hold.done (ForEnd.mkS (by k_asm) (by k_asm) ((L21.ot _ (.head _)).1) fun l'' kk=>⟨⟨_,_,SO.up U21,LawS.move (own:=[(I,oI)]) L21 (fun p hp h=>kk p hp (h _ (.head _))) fun p hp q hq=>?_⟩,rfl⟩)
   rw [List.mem_singleton.mp hq]
   exact hI p (LI.ot p hp).1
 (intro ov l22 h22 tk22 zr4 F22 N22;(refine E2 zr4 fun ls foot'=>G2 fun SO LX0=>?_;try clear zr4))
 have LX:LawS w fe C hp W OT (top+1) 0 ls [] none foot' l22:=LX0
 have xD:=(LX.ot _ mDp).1
 (try clear L15);(try clear LX0);(try clear NTT);(try clear FTT)
 repeat walk1
 refine Hold.done (For_D ?_)
 repeat walk1
 refine Hold.done (call_enum_D (by k_asm) (by k_asm) xD ?_)
 intro h23 e it oi F23 N23 hit23 nei off23
 have LY:=LX.cons (p:=(it,oi)) |>.cons (p:=(e,enumO it 0 .none))
 (try clear xD);(try clear N22);(try clear F22)
 repeat walk1
 refine Hold.done (for_enum_D1 (Str.ofString "are_two") (vs:=ysp) (k:=ysp.length) (fun i l=>∃ ls wt wd foot',Sound ls wd (ps.take i)/\LawS w fe C hp W OT (top+1) i ls wt wd foot' l) rfl rfl rfl rfl rfl (by k_asm) (by k_asm) hit23 nei off23 ⟨_,_,_,_,SO,LX⟩ (fun i l h=>by (refine E4 h ?_;try clear h;intro _ _ _ _;refine G2 ?_;intro _ h);exact (h.ot _ mDp).1) (fun i v l hv h=>?_) ?_ ?_)
 ·(refine E4 h ?_;try clear h;intro _ _ _ _;refine G2 ?_;intro _ h)
  (refine E4 (hps.2 i v hv) fun a n t1 t2=>G2 fun ea hm=>?_)
  refine K4 a _ _ n (M2 ea ((h.ot _ (mpl _ hm)).1))
 ·(intro i a v0 v1 n t oa oj oi' ok l h tk dr oe oi2 hv hma zr18 offI FI NI;(refine E4 zr18 fun ls wt wd foot'=>G2 fun SI LI=>?_;try clear zr18))
  (refine E4 (hps.2 i _ hv) fun a' n' t1 t2=>G2 fun ea hm=>?_)
  obtain rfl:a=a':=by simpa using ea
  have hma':=(LI.ot _ (mpl _ hm)).1
  have eo:=Option.some.inj ((NI _ (.tail _ (.tail _ hma))).1.symm.trans (NI _ (.tail _ (.tail _ hma'))).1)
  have hil:i<ps.length:=by
   have:=(List.getElem?_eq_some_iff.mp hv).1
   have:=hps.1
   omega
  obtain ⟨x,y,exy,hx,hy,htk⟩:∃ x y:Nat,ps.getD i (0,0)=(x,y)/\x<top+1/\y<top+1/\ps.take (i+1)=ps.take i++[(x,y)]:=by
   have hg:ps[i]?=some (ps.getD i (0,0)):=by rw [List.getD_eq_getElem?_getD,List.getElem?_eq_getElem hil];rfl
   have:=hlt _ (List.mem_of_getElem? hg)
   refine K2 _ _ (M4 rfl this.1 this.2 (by rw [List.take_add_one,hg];rfl))
  rw [exy] at eo
  have ed:(Data.seq #[v0,v1] n:Data)=Data.seq #[Value.int (x:Nat) t1,Value.int (y:Nat) t2] n':=congrArg Obj.data eo
  injection ed with ed1 ed2
  obtain ⟨rfl,rfl⟩:v0=Value.int (x:Nat) t1/\v1=Value.int (y:Nat) t2:=by simpa using ed1
  have LI2:=(LI.add (p:=(it,oi2)) fun q hq=>(offI q hq).2).add (p:=(e,oe)) fun q hq=>by
   rcases List.mem_cons.mp hq with rfl | hq
   ·exact Ne.symm nei
   ·exact (offI q hq).1
  (refine E10 LI2.hs.inst fun dh lk lb lu le lf dk da lw ln=>G4 fun m1 m2 f1 f2=>?_)
  have hlN:ls.length=top+1:=by (refine E1 LI2.all fun _=>G2 fun _ h=>?_);exact h
  have hi10:i<4:=by omega
  repeat walk1
  refine Hold.done ?_
  refine' con_use (findH hp (top+1) i ls wt foot' x t1 hx) ?kB ?kF ?kX ?kN ?kT ?kA ?kH ?kf ?kk ?kd ?ku ?hp ?_
  tb_start
  case hp=>exact LI2.hs
  (intro kzQ r24 h24 tk24 l24 F24 N24 zr6;obtain ⟨el24,t24,rfl⟩:=zr6;unfold kzQ;clear kzQ)
  subst el24
  (try clear NI);(try clear FI)
  repeat walk1
  refine Hold.done ?_
  refine' con_use (findH hp (top+1) i ls wt foot' y t2 hy) ?kB ?kF ?kX ?kN ?kT ?kA ?kH ?kf ?kk ?kd ?ku ?hp ?_
  tb_start
  case hp=>exact LI2.hs
  (intro kzQ r25 h25 tk25 l25 F25 N25 zr6;obtain ⟨el25,t25,rfl⟩:=zr6;unfold kzQ;clear kzQ)
  subst el25
  (try clear N24);(try clear F24)
  repeat walk1
  rename_i DM hM FM NM ltM
  refine Hold.done ?_
  refine' con_use (mergeL (N:=top+1) (q:=i) (by omega) (by omega) x y t1 t2 DM hx hy) ?kB ?kF ?kX ?kN ?kT ?kA ?kH ?kf ?kk ?kd ?ku ?hp ?_
  tb_start
  case hp=>exact LI2.cons
  (intro kzQ r26 h26 tk26 l26 F26 N26 zr6;obtain ⟨rfl,ls2,wt2,foot2,J2,L26⟩:=zr6;unfold kzQ;clear kzQ)
  have SJ:=SI.join LI.ok (by omega) (by omega) J2
  have hl2:=J2.len
  have j1:=J2.one
  (try clear m1);(try clear m2);(try clear NM);(try clear FM);(try clear N25);(try clear F25);(try clear ltM)
  (refine E10 L26.hs.inst fun dh2 lk2 lb2 lu2 le2 lf2 dk2 da2 lw2 ln2=>G4 fun n1 n2 _ _=>?_)
  repeat walk1
  ·exact (bool_odd ‹_›).elim
  repeat walk1
  refine Hold.done ?_
  refine' con_use (like_con hp (top+1) (i+1) ls2 wt2 foot2 x y t1 t2 hx hy) ?kB ?kF ?kX ?kN ?kT ?kA ?kH ?kf ?kk ?kd ?ku ?hp ?_
  tb_start
  case hp=>exact L26.hs
  (intro kzQ r27 h27 tk27 l27 F27 N27 zr6;(refine G2 ?_ zr6;try clear zr6;intro el27 zo47;rcases zo47 with rfl);unfold kzQ;clear kzQ)
  subst el27
  rw [decide_eq_true j1]
  (try clear N26);(try clear F26)
  repeat walk1
  refine Hold.done ?_
  refine' con_use (toldL x y t1 t2) ?kB ?kF ?kX ?kN ?kT ?kA ?kH ?kf ?kk ?kd ?ku ?hp ?_
  tb_start
  case hp=>exact L26
  (intro kzQ r28 h28 tk28 l28 F28 N28 L28;unfold kzQ;clear kzQ)
  have uT:=(L28.ot _ (.tail _ (.tail _ mcT))).1
  have uE:=(L28.ot _ (.tail _ (.tail _ mcE))).1
  (try clear N27);(try clear F27);(try clear n1);(try clear n2);(try clear L26)
  repeat walk1
  have fin:Hold (∀ (l':Led) (ls' wt':List Int) (wd':Wd) (f':List Addr),LawS w fe C hp W ((e,oe)::(it,oi2)::OT) (top+1) (i+1) ls' wt' wd' f' l'->Sound ls' wd' (ps.take i++[(x,y)]) ->
    ∀ l'':Led,(∀ p∈l',(∀ q∈[(e,oe),(it,oi2)],p.1≠q.1)->p∈l'')->∃ ls wt wd foot',Sound ls wd (ps.take (i+1))/\LawS w fe C hp W OT (top+1) (i+1) ls wt wd foot' l''):=Hold.done fun l' ls' wt' wd' f' H S l'' k =>
   ⟨_,_,_,_,htk ▸ S,LawS.move (own:=[(e,oe),(it,oi2)]) H k fun p hp q hq=>by
    have z:=offI p (LI.ot p hp).1
    rcases List.mem_cons.mp hq with rfl | hq
    ·exact z.1
    ·rw [List.mem_singleton.mp hq];exact z.2⟩
  refine Hold.done ?_
  refine' con_use (drawL 2 _ (by omega)) ?kB ?kF ?kX ?kN ?kT ?kA ?kH ?kf ?kk ?kd ?ku ?hp ?_
  tb_start
  case hp=>exact L28
  (intro kzQ r29 h29 tk29 l29 F29 N29 zr6;(refine E2 zr6 fun v29 t29=>G3 fun hv29 zo48 L29=>?_;try clear zr6;rcases zo48 with rfl);unfold kzQ;clear kzQ)
  have wT:=(L29.ot _ (.tail _ (.tail _ mcT))).1
  have wE:=(L29.ot _ (.tail _ (.tail _ mcE))).1
  (refine E10 L29.hs.inst fun dh3 lk3 lb3 lu3 le3 lf3 dk3 da3 lw3 ln3=>G4 fun p1 p2 _ _=>?_)
  (try clear N28);(try clear F28);(try clear uT);(try clear uE);(try clear L28);(try clear LI2)
  repeat walk1
  ·refine Hold.done ?_
   refine' con_use (settleL (N:=top+1) (q:=i+1) (by omega) (by omega)) ?kB ?kF ?kX ?kN ?kT ?kA ?kH ?kf ?kk ?kd ?ku ?hp ?_
   tb_start
   case hp=>exact L29
   (intro kzQ r30 h30 tk30 l30 F30 N30 zr6;obtain ⟨rfl,ls3,foot3,U30,L30⟩:=zr6;unfold kzQ;clear kzQ)
   have SU:=SJ.up U30
   (refine E1 L30.all fun ns3=>G2 fun fo3 hl3=>?_)
   have hls3:=SU.homes fo3 L30.hs.closed
   rw [hl3] at hls3
   have zT:=(L30.ot _ (.tail _ (.tail _ mcT))).1
   (try clear N29);(try clear F29);(try clear wT);(try clear wE);(try clear p1);(try clear p2);(try clear L29)
   repeat walk1
   refine Hold.done ?_
   refine' conD_use (rightL top (by omega) (by omega) hls3 L30.ok _) ?kB ?kF ?kX ?kN ?kT ?kA ?kH ?kf ?kk ?kd ?ku ?hp ?_
   tb_start
   case hp=>exact L30
   (intro kzQ r31 h31 tk31 dr31 l31 F31 N31 zr7;(refine G2 ?_ zr7;try clear zr7;intro zo49 L31;rcases zo49 with rfl);unfold kzQ;clear kzQ)
   (try clear N30);(try clear F30);(try clear L30);(try clear zT)
   repeat walk1
   refine Hold.done (ForEndD.mkS (l':=l31) (by k_asm) (by k_asm) (fun p hp=>?_) rfl (fun l'' k=>⟨fin.out _ _ _ _ _ L31 SU l'' k,_,_,_,_,over4_twice _ _ _ _ _ _ _ _ _ _ _ _ _⟩))
   rcases List.mem_cons.mp hp with rfl | hp
   ·exact (L31.ot _ (.head _)).1
   ·rw [List.mem_singleton.mp hp]
    exact (L31.ot _ (.tail _ (.head _))).1
  ·repeat walk1
   refine Hold.done (ForEndD.mkS (l':=l29) (by k_asm) (by k_asm) (fun p hp=>?_) rfl (fun l'' k=>⟨fin.out _ _ _ _ _ L29 SJ l'' k,_,_,_,_,over4_twice _ _ _ _ _ _ _ _ _ _ _ _ _⟩))
   rcases List.mem_cons.mp hp with rfl | hp
   ·exact (L29.ot _ (.head _)).1
   ·rw [List.mem_singleton.mp hp]
    exact (L29.ot _ (.tail _ (.head _))).1
 (intro oa oj oi' ok l40 h40 tk40 dr40 zr8 F40 N40;(refine E4 zr8 fun ls4 wt4 wd4 foot4=>G2 fun SD LD=>?_;try clear zr8))
 have hyn:ysp.length=np:=hps.1.trans hpl
 rw [hyn] at LD
 (refine E10 LD.hs.inst fun dh4 lk4 lb4 lu4 le4 lf4 dk4 da4 lw4 ln4=>G4 fun o1 o2 _ _=>?_)
 (try clear LX);(try clear LY);(try clear SO);(try clear N23);(try clear F23);(try clear off23)
 repeat walk1
 refine Hold.done ?_
 refine' con_use (settleL (N:=top+1) (q:=np) (by omega) (by omega)) ?kB ?kF ?kX ?kN ?kT ?kA ?kH ?kf ?kk ?kd ?ku ?hp ?_
 tb_start
 case hp=>exact LD
 (intro kzQ r41 h41 tk41 l41 F41 N41 zr6;obtain ⟨rfl,ls5,foot5,U41,L41⟩:=zr6;unfold kzQ;clear kzQ)
 have S41:=SD.up U41
 (refine E1 L41.all fun ns5=>G2 fun fo5 hl5=>?_)
 have hls5:=S41.homes fo5 L41.hs.closed
 rw [hl5] at hls5
 have yT:=(L41.ot _ mcT).1
 (try clear N40);(try clear F40);(try clear LD);(try clear o1);(try clear o2)
 repeat walk1
 refine Hold.done ?_
 refine' conD_use (rightL top (by omega) (by omega) hls5 L41.ok _) ?kB ?kF ?kX ?kN ?kT ?kA ?kH ?kf ?kk ?kd ?ku ?hp ?_
 tb_start
 case hp=>exact L41
 (intro kzQ r42 h42 tk42 dr42 l42 F42 N42 zr7;(refine G2 ?_ zr7;try clear zr7;intro zo50 L42;rcases zo50 with rfl);unfold kzQ;clear kzQ)
 have xT:=(L42.ot _ mcT).1
 (try clear N41);(try clear F41);(try clear L41);(try clear yT)
 repeat walk1
 refine Hold.done (range_led2 (by k_asm) (by k_asm) ?_)
 intro R3 hR3 tkR3 vR3 FR3 NR3 dR3
 have LR3:=L42.cons (p:=(R3,rangeObj2 ((top:Int)+1) ((top:Int)+4) (tk42+1) (tk42+1+1+1) vR3))
 (try clear L42);(try clear N42);(try clear F42);(try clear xT);(try clear dR3)
 repeat walk1
 refine Hold.done (for_range_J (n:=3) (fun i l=>∃ ls foot',Sound ls wd4 (ps.take ysp.length)/\LawS w fe C hp W OT (top+1+i) np ls [] wd4 foot' l) rfl (by k_asm) (by k_asm) (isRange_of2 (by k_asm) (.head _)) (by omega) (by omega) (by omega) (by omega) ⟨_,_,S41,LR3⟩ ?_ ?_)
 ·(intro i t l h tk I oI hi3 zr8 hI FI NI;(refine E2 zr8 fun ls6 foot6=>G2 fun S6 LI=>?_;try clear zr8))
  have LI1:=LI.add (p:=(I,oI)) hI
  (refine E10 LI1.hs.inst fun dh5 lk5 lb5 lu5 le5 lf5 dk5 da5 lw5 ln5=>G4 fun q1 q2 _ _=>?_)
  rw [show (top:Int)+1+(i:Int)=((top+1+i:Nat):Int) by omega] at FI
  repeat walk1
  refine Hold.done ?_
  refine' con_use (tower_con (top+1+i) (by omega) t) ?kB ?kF ?kX ?kN ?kT ?kA ?kH ?kf ?kk ?kd ?ku ?hp ?_
  tb_start
  case hp=>trivial
  (intro kzQ r50 h50 tk50 l50 F50 N50 zr6;(refine E2 zr6 fun ta tas=>G4 fun zo51 TW up50 off50=>?_;try clear zr6;rcases zo51 with rfl);unfold kzQ;clear kzQ)
  repeat walk1
  refine Hold.done ?_
  refine' con_use (putL (N:=top+1+i) (q:=np) (by omega) (top+1+i) (by omega) (by omega) ta tas) ?kB ?kF ?kX ?kN ?kT ?kA ?kH ?kf ?kk ?kd ?ku ?hp ?_
  tb_start
  case hp=>refine K1 _ (M4 LI1 up50 TW off50)
  (intro kzQ r51 h51 tk51 l51 F51 N51 zr6;(refine E3 zr6 fun t51 ls7 foot7=>G3 fun zo52 U51 L51=>?_;try clear zr6;rcases zo52 with rfl);unfold kzQ;clear kzQ)
  rw [show max (top+1+i) (top+1+i+1)=top+1+(i+1) by omega] at L51
  (refine E10 L51.hs.inst fun dh6 lk6 lb6 lu6 le6 lf6 dk6 da6 lw6 ln6=>G4 fun s1' s2' _ _=>?_)
  have S7:=S6.up U51
  (refine E1 L51.all fun ns7=>G2 fun fo7 hl7=>?_)
  have hls7:=S7.homes fo7 L51.hs.closed
  rw [hl7] at hls7
  (try clear q1);(try clear q2);(try clear N50);(try clear F50);(try clear up50);(try clear off50);(try clear NI);(try clear FI)
  repeat walk1
  ·rename ¬ (_=_)=>hne
   exact absurd rfl hne
  repeat walk1
  refine Hold.done ?_
  refine' con_use (findH hp (top+1+(i+1)) np ls7 [] foot7 (top+1+i) t (by omega)) ?kB ?kF ?kX ?kN ?kT ?kA ?kH ?kf ?kk ?kd ?ku ?hp ?_
  tb_start
  case hp=>exact L51.hs
  (intro kzQ r52 h52 tk52 l52 F52 N52 zr6;obtain ⟨el52,t52,rfl⟩:=zr6;unfold kzQ;clear kzQ)
  subst el52
  rw [hls7 (top+1+i) (by omega)]
  (try clear N51);(try clear F51)
  repeat walk1
  refine Hold.done ?_
  refine' con_use (home_con W wd4 L51.ok (top+1+i) t) ?kB ?kF ?kX ?kN ?kT ?kA ?kH ?kf ?kk ?kd ?ku ?hp ?_
  tb_start
  case hp=>exact L51.wa
  (intro kzQ r53 h53 tk53 l53 F53 N53 zr6;obtain ⟨el53,t53,rfl⟩:=zr6;unfold kzQ;clear kzQ)
  subst el53
  (try clear N52);(try clear F52)
  repeat walk1
  ·rename ¬ (_=_)=>hne
   exact absurd rfl hne
  ·repeat walk1
   refine Hold.done (ForEnd.mkS (by k_asm) (by k_asm) ((L51.ot _ (.head _)).1) fun l'' kk=>⟨⟨_,_,S7,LawS.move (own:=[(I,oI)]) L51 (fun p hp h=>kk p hp (h _ (.head _))) fun p hp q hq=>?_⟩,by rw [show (top:Int)+1+(i:Int)=((top+1+i:Nat):Int) by omega]⟩)
   rw [List.mem_singleton.mp hq]
   exact hI p (LI.ot p hp).1
 (intro ov2 l60 h60 tk60 zr4 F60 N60;(refine E2 zr4 fun ls8 foot8=>G2 fun S8 L60=>?_;try clear zr4))
 rw [show top+1+3=top+3+1 by omega] at L60
 (refine E1 L60.all fun ns8=>G2 fun fo8 hl8=>?_)
 have hls8:=S8.homes fo8 L60.hs.closed
 rw [hl8] at hls8
 have vT:=(L60.ot _ mcT).1
 (try clear LR3);(try clear NR3);(try clear FR3)
 repeat walk1
 refine Hold.done ?_
 rw [show (top:Int)+3=((top+3:Nat):Int) by omega]
 refine' conD_use (rightL (top+3) (by omega) (by omega) hls8 L60.ok _) ?kB ?kF ?kX ?kN ?kT ?kA ?kH ?kf ?kk ?kd ?ku ?hp ?_
 tb_start
 case hp=>exact L60
 (intro kzQ r61 h61 tk61 dr61 l61 F61 N61 zr7;(refine G2 ?_ zr7;try clear zr7;intro zo53 L61;rcases zo53 with rfl);unfold kzQ;clear kzQ)
 (try k_extra "KAt")
 (try dsimp only)
 first | kc_close | wrow_close | (dsimp only;kc_close) | (dsimp only;wrow_close))
end
end Mine.Internal
theorem PySem.Challenge.cw_pq0123_01_holds : PySem.Challenge.rw_pq0123_01.Holds := by
 exact Mine.Internal.law_walk
