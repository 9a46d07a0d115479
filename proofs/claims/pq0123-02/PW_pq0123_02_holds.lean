import PyProof.Rows.All
import Wide.All
import OpenK.AllK
import Wide.FinOn
import Lean
import PySem.Challenge.RW_pq0123_02
set_option Elab.async false
set_option maxRecDepth 100000
set_option maxHeartbeats 40000000
set_option linter.unusedVariables false
set_option linter.unusedSimpArgs false
set_option compiler.extract_closed false
open PySem PySem.W PyProof.Rows
namespace Mine.q
theorem tw12115144566349399080 : True := trivial
theorem tw18187737390836354633 : True := trivial
theorem tw12305343887095020173 : True := trivial
theorem tw14805963950069943710 : True := trivial
theorem tw12250531439591622113 : True := trivial
theorem tw483981327074951913 : True := trivial
theorem tw13514582128731401645 : True := trivial
theorem tw1799705842941076145 : True := trivial
theorem tw16727574185308515685 : True := trivial
theorem tw2533673549294140399 : True := trivial
theorem tw15582835422776872422 : True := trivial
theorem tw2191928897007622863 : True := trivial
theorem tw12422514995264272999 : True := trivial
theorem tw5936168102712986118 : True := trivial
theorem tw12377957372761816352 : True := trivial
theorem tw12086839464917250165 : True := trivial
theorem tw13045802506141202701 : True := trivial
theorem tw10200868969212655581 : True := trivial
theorem tw7518762084861933813 : True := trivial
theorem tw12183921060984758762 : True := trivial
theorem tw16344714210649795871 : True := trivial
theorem tw6220214328709753957 : True := trivial
theorem tw3474273666468345679 : True := trivial
theorem tw5051439977470167801 : True := trivial
theorem tw7533321664768422834 : True := trivial
theorem tw15690820638394209863 : True := trivial
theorem tw17349345924594848331 : True := trivial
theorem tw14181221548716460321 : True := trivial
theorem tw6955306144784619807 : True := trivial
theorem tw13709528037543511328 : True := trivial
theorem tw1494508534601399787 : True := trivial
theorem tw16993783269673894544 : True := trivial
theorem tw7204247046125130124 : True := trivial
theorem tw3994852674145086156 : True := trivial
theorem tw8965952332336241457 : True := trivial
theorem tw12052842347803674900 : True := trivial
theorem tw9104217840995514727 : True := trivial
theorem tw3165132038719602367 : True := trivial
theorem tw5364328236296569291 : True := trivial
theorem tw15632614329187297877 : True := trivial
theorem tw11760847942449759352 : True := trivial
theorem tw12307002666408681168 : True := trivial
theorem tw5562890229139429097 : True := trivial
theorem tw5502309823404079471 : True := trivial
theorem tw16804110874160413905 : True := trivial
theorem tw11588568888390758854 : True := trivial
theorem tw9297675016599890659 : True := trivial
theorem tw9150049327772109936 : True := trivial
theorem tw6250604203346684182 : True := trivial
theorem tw3803397736697126219 : True := trivial
theorem tw3556262798606542150 : True := trivial
theorem tw10868816296445827700 : True := trivial
theorem tw8955776820415905680 : True := trivial
theorem tw16697155721294040788 : True := trivial
theorem tw18283012324295347719 : True := trivial
theorem tw16259720454271987944 : True := trivial
theorem tw16619041563306886240 : True := trivial
theorem tw7796633690302827443 : True := trivial
theorem tw2369116516433345385 : True := trivial
theorem tw2376887255945160587 : True := trivial
theorem tw15689669257207230829 : True := trivial
theorem tw1430525916313397074 : True := trivial
theorem tw15898470114719526400 : True := trivial
theorem tw12798965279889468974 : True := trivial
theorem tw6828565123391309991 : True := trivial
theorem tw14778678421304150578 : True := trivial
theorem tw15042993259210909370 : True := trivial
theorem tw2974926000232192984 : True := trivial
theorem tw6227491462453941329 : True := trivial
theorem tw17342920279076562410 : True := trivial
theorem tw2856258797774404971 : True := trivial
theorem tw8640696802160543136 : True := trivial
theorem tw13644372635826079137 : True := trivial
theorem tw14478025589360513208 : True := trivial
theorem tw8315036007477457678 : True := trivial
theorem tw3497316943456483132 : True := trivial
theorem tw16022682354479884414 : True := trivial
theorem tw9146258874175374536 : True := trivial
theorem tw6826931281640082025 : True := trivial
theorem tw8645276146907015041 : True := trivial
theorem tw12351957127508048940 : True := trivial
theorem tw16117934749941386736 : True := trivial
theorem tw5582427124108389205 : True := trivial
theorem tw13897821705401593083 : True := trivial
theorem tw10546460971273362245 : True := trivial
theorem tw17294252682871692408 : True := trivial
theorem tw3308525200858058014 : True := trivial
theorem tw15300221498567630238 : True := trivial
theorem tw1661592176476358526 : True := trivial
theorem tw18430292304218744876 : True := trivial
theorem tw12347908946445826058 : True := trivial
theorem tw4452546182764356098 : True := trivial
theorem tw7486761870901278193 : True := trivial
theorem tw3502383934944983821 : True := trivial
theorem tw2150757713499626797 : True := trivial
theorem tw8932544348725160260 : True := trivial
theorem tw4741254889840470040 : True := trivial
theorem tw7908388007416832086 : True := trivial
theorem tw9177412961176454580 : True := trivial
theorem tw8375226416073586395 : True := trivial
theorem tw26804988764361286 : True := trivial
theorem tw17321612406280568570 : True := trivial
theorem tw5511643254339252286 : True := trivial
theorem tw14682094307972271556 : True := trivial
theorem tw5469152790442221495 : True := trivial
theorem tw16248061300630039944 : True := trivial
theorem tw15926561638123590211 : True := trivial
theorem tw17849846718688516539 : True := trivial
theorem tw3142923786531004108 : True := trivial
theorem tw10529125628172548817 : True := trivial
theorem tw16434631050152960685 : True := trivial
theorem tw18042765609298722714 : True := trivial
theorem tw6002196465495999224 : True := trivial
theorem tw1600861104481858121 : True := trivial
theorem tw18201786660413254352 : True := trivial
theorem tw6415557014362820347 : True := trivial
theorem tw5899736629340245839 : True := trivial
theorem tw13893423213098395984 : True := trivial
theorem tw18174287512261806493 : True := trivial
theorem tw6105424242599162153 : True := trivial
theorem tw16353812910844431120 : True := trivial
theorem tw2087709478109686136 : True := trivial
theorem tw15712945918200184819 : True := trivial
theorem tw15972502403010686893 : True := trivial
theorem tw9140877765437711555 : True := trivial
theorem tw7408709250931010344 : True := trivial
theorem tw17689004356018255324 : True := trivial
theorem tw4604100213078895661 : True := trivial
theorem tw14383514516645895713 : True := trivial
theorem tw9984309697098459298 : True := trivial
theorem tw11903473940817855805 : True := trivial
theorem tw10646102352598802168 : True := trivial
theorem tw5014935783927824771 : True := trivial
theorem tw14015020190974041085 : True := trivial
theorem tw3191205135467418983 : True := trivial
theorem tw13891143786349725139 : True := trivial
theorem tw15882284106978654949 : True := trivial
theorem tw2690342029926063478 : True := trivial
theorem tw15064579839801668230 : True := trivial
theorem tw12770316633325492529 : True := trivial
theorem tw13469451666158874959 : True := trivial
theorem tw9405813217282592262 : True := trivial
theorem tw4327375501481878680 : True := trivial
theorem tw1702884512200061678 : True := trivial
theorem tw794939146398009072 : True := trivial
theorem tw7977141523548068166 : True := trivial
theorem tw11490391463762528507 : True := trivial
theorem tw12650777916357213733 : True := trivial
theorem tw5580320117997627126 : True := trivial
theorem tw639834335526834968 : True := trivial
theorem tw8185837522578527786 : True := trivial
theorem tw18280149626877737911 : True := trivial
theorem tw10941436177251371636 : True := trivial
theorem tw1674235205941856664 : True := trivial
theorem tw8695084194057253241 : True := trivial
theorem tw17918188324275332427 : True := trivial
theorem tw10682680657249568571 : True := trivial
theorem tw8048356767016800135 : True := trivial
theorem tw16812310456595651249 : True := trivial
theorem tw12460990585610012307 : True := trivial
theorem tw132948793492182750 : True := trivial
theorem tw15250797278595932822 : True := trivial
theorem tw17610773450415187194 : True := trivial
theorem tw6790025389899388048 : True := trivial
theorem tw16946495513754070944 : True := trivial
theorem tw3703802277620196955 : True := trivial
theorem tw14132416179197436142 : True := trivial
theorem tw6130976445284652682 : True := trivial
theorem tw7482555895871595569 : True := trivial
theorem tw15113351331345296704 : True := trivial
theorem tw9912968076875597596 : True := trivial
theorem tw10746397711349825652 : True := trivial
theorem tw15370720851511837439 : True := trivial
theorem tw9100676269805705645 : True := trivial
theorem tw5698672264997585670 : True := trivial
theorem tw17600395875721736834 : True := trivial
theorem tw116631258056118933 : True := trivial
theorem tw7711561926973405614 : True := trivial
theorem tw12888731380905284805 : True := trivial
theorem tw2403413082219456172 : True := trivial
theorem tw7090541823273122776 : True := trivial
theorem tw16389023452948396223 : True := trivial
theorem tw694253412167655561 : True := trivial
theorem tw13010232219662478686 : True := trivial
theorem tw6130231139003903033 : True := trivial
theorem tw11389690376733398311 : True := trivial
theorem tw4680256983716039955 : True := trivial
theorem tw1690887914032494306 : True := trivial
theorem tw9484652940683647875 : True := trivial
theorem tw11642581663288040941 : True := trivial
theorem tw17279974662371401248 : True := trivial
theorem tw3153629992678408821 : True := trivial
theorem tw4425302734268397893 : True := trivial
theorem tw10253862437034082839 : True := trivial
theorem tw6682214405228200058 : True := trivial
theorem tw13199273545977004125 : True := trivial
theorem tw10725617493714230806 : True := trivial
theorem tw2568898940037640070 : True := trivial
theorem tw11647490624055763490 : True := trivial
theorem tw9025998402770430905 : True := trivial
theorem tw1535573558762676957 : True := trivial
theorem tw14871801149585583727 : True := trivial
theorem tw3646295048623657157 : True := trivial
theorem tw5282781568374902621 : True := trivial
theorem tw5495796752160072539 : True := trivial
theorem tw13276423959334287793 : True := trivial
theorem tw5096626959321934258 : True := trivial
theorem tw5803175376051811361 : True := trivial
theorem tw4918954995091325049 : True := trivial
theorem tw4159326040953525868 : True := trivial
theorem tw4623750849258994702 : True := trivial
theorem tw2048329770905360361 : True := trivial
theorem tw4801849008663120830 : True := trivial
theorem tw8778890576660516659 : True := trivial
theorem tw6065403035230204640 : True := trivial
theorem tw17760589981610881048 : True := trivial
theorem tw229492324768701180 : True := trivial
theorem tw843589865478644627 : True := trivial
theorem tw10976254623683002045 : True := trivial
theorem tw10786560635498318460 : True := trivial
theorem tw15837174740831013665 : True := trivial
theorem tw17020264246228618439 : True := trivial
theorem tw13232582430481541816 : True := trivial
theorem tw12375276135902620954 : True := trivial
theorem tw3772197675238363586 : True := trivial
theorem tw4301847815003940886 : True := trivial
theorem tw14016969738205474660 : True := trivial
theorem tw10710589263265133546 : True := trivial
theorem tw7397209690859900643 : True := trivial
theorem tw5552482064397308332 : True := trivial
theorem tw8233665428745286942 : True := trivial
theorem tw1194314393698348827 : True := trivial
theorem tw1810911501938771045 : True := trivial
theorem tw3197760218925595618 : True := trivial
theorem tw11529908652190150453 : True := trivial
theorem tw14874559026937267838 : True := trivial
theorem tw3509529729256775842 : True := trivial
theorem tw9709600392525807732 : True := trivial
theorem tw15815273706906588877 : True := trivial
theorem tw5988748837910162256 : True := trivial
theorem tw7426113567576524625 : True := trivial
theorem tw4414365119343480850 : True := trivial
theorem tw12560854623322009917 : True := trivial
theorem tw7785681920193204361 : True := trivial
theorem tw13768720029395160742 : True := trivial
theorem tw4055095592542267331 : True := trivial
theorem tw13682352745117742379 : True := trivial
theorem tw15586169161051389016 : True := trivial
theorem tw12176328189256394751 : True := trivial
theorem tw7482363198503516909 : True := trivial
theorem tw14784240144755510497 : True := trivial
theorem tw13150321403607393796 : True := trivial
theorem tw2762423179193585581 : True := trivial
theorem tw687568507699731894 : True := trivial
theorem tw16824178145479139676 : True := trivial
theorem tw14976703232122713368 : True := trivial
theorem tw8929341325905351787 : True := trivial
theorem tw1486372174712896792 : True := trivial
theorem tw8627793694518662601 : True := trivial
theorem tw13069719394826276020 : True := trivial
theorem tw9527763090461702849 : True := trivial
theorem tw2335187234029949848 : True := trivial
theorem tw13647071160798476371 : True := trivial
theorem tw802683247015380620 : True := trivial
theorem tw8230900210288749036 : True := trivial
theorem tw10604553244674416984 : True := trivial
theorem tw17136628196656295144 : True := trivial
theorem tw12130553947118150723 : True := trivial
theorem tw3720581278689922367 : True := trivial
theorem tw5347209036113702158 : True := trivial
theorem tw4842004017363353616 : True := trivial
theorem tw6849764930014299066 : True := trivial
theorem tw11153291272562379809 : True := trivial
theorem tw5785529005519791167 : True := trivial
theorem tw7390463672477246024 : True := trivial
theorem tw5021297503971422509 : True := trivial
theorem tw674907603847305735 : True := trivial
theorem tw16280342291344196086 : True := trivial
theorem tw15733698889596455063 : True := trivial
theorem tw10921001526847954331 : True := trivial
theorem tw6415297719759030408 : True := trivial
theorem tw12527266013816214469 : True := trivial
theorem tw241032860394553881 : True := trivial
theorem tw17245304080069983126 : True := trivial
theorem tw13955069204314600291 : True := trivial
theorem tw17556712455342050156 : True := trivial
theorem tw13721879283934798655 : True := trivial
theorem tw2910436409912996950 : True := trivial
theorem tw16149531844037687667 : True := trivial
theorem tw16701636685185433012 : True := trivial
theorem tw3071827696127027983 : True := trivial
theorem tw10147184750984161994 : True := trivial
theorem tw1270570666665772086 : True := trivial
theorem tw7599118095403422313 : True := trivial
theorem tw9251019850959324944 : True := trivial
theorem tw5784286204283867364 : True := trivial
theorem tw15090008478526235420 : True := trivial
theorem tw11283689821610423491 : True := trivial
theorem tw5313323403844142250 : True := trivial
theorem tw16849660701026123519 : True := trivial
theorem tw17696365283097769451 : True := trivial
theorem tw12663353076483463821 : True := trivial
theorem tw11360905329676074019 : True := trivial
theorem tw17698004682328058664 : True := trivial
theorem tw14525355163799176766 : True := trivial
theorem tw14043006442312776987 : True := trivial
theorem tw12845369952115558759 : True := trivial
theorem tw14275967561047667545 : True := trivial
theorem tw3453798473133720781 : True := trivial
theorem tw9693439778107148169 : True := trivial
theorem tw16759543732244104717 : True := trivial
theorem tw17583668679669886669 : True := trivial
theorem tw13091180429678704560 : True := trivial
theorem tw4476376357130544541 : True := trivial
theorem tw10446260419103492392 : True := trivial
theorem tw5981059333189502260 : True := trivial
theorem tw244979524890017307 : True := trivial
theorem tw17663638515640438160 : True := trivial
theorem tw15525341670767188713 : True := trivial
theorem tw13080835131220086444 : True := trivial
theorem tw8937683373591325368 : True := trivial
theorem tw3175138035198105398 : True := trivial
theorem tw17431998126514188529 : True := trivial
theorem tw13177902008099841922 : True := trivial
theorem tw18085427992441481869 : True := trivial
theorem tw4720353309870679064 : True := trivial
theorem tw944235644243935183 : True := trivial
theorem tw15567620897547715589 : True := trivial
theorem tw10579601812204979302 : True := trivial
theorem tw5397865827223446682 : True := trivial
theorem tw14977897316316018732 : True := trivial
theorem tw1640120696566772085 : True := trivial
theorem tw1130020213560443777 : True := trivial
theorem tw7392178406049214570 : True := trivial
theorem tw16107201872498332552 : True := trivial
theorem tw9339589090976570777 : True := trivial
theorem tw3141527914388097400 : True := trivial
theorem tw1629798118632997864 : True := trivial
theorem tw16673483925001886419 : True := trivial
theorem tw14519892247524697898 : True := trivial
theorem tw11550618205412489875 : True := trivial
theorem tw13572295319409381364 : True := trivial
theorem tw7245192532492041517 : True := trivial
theorem tw11385596346639519172 : True := trivial
theorem tw16775602425318156842 : True := trivial
theorem tw15397818201199715359 : True := trivial
theorem tw7642482495960530870 : True := trivial
theorem tw11121086405717952371 : True := trivial
theorem tw7907888528999104597 : True := trivial
theorem tw5856969892618906322 : True := trivial
theorem tw8771802057575654959 : True := trivial
theorem tw12623457454243662031 : True := trivial
theorem tw15746343231169013071 : True := trivial
theorem tw14479834702548679304 : True := trivial
theorem tw358007723476776765 : True := trivial
theorem tw335754783178944982 : True := trivial
theorem tw8436445189956664324 : True := trivial
theorem tw3640876793418561344 : True := trivial
theorem tw12040775170097251986 : True := trivial
theorem tw11397487249696023321 : True := trivial
theorem tw14802746729103225806 : True := trivial
theorem tw11643701366248064435 : True := trivial
theorem tw9231774963085192731 : True := trivial
theorem tw19355613249995473 : True := trivial
theorem tw5112051155539391328 : True := trivial
theorem tw14746195969619031995 : True := trivial
theorem tw599547642691284169 : True := trivial
theorem tw6119966412462586039 : True := trivial
theorem tw16471652425409583439 : True := trivial
theorem tw7879399731443649641 : True := trivial
theorem tw7610032418604769299 : True := trivial
theorem tw13218468931176147148 : True := trivial
theorem tw16864605727962445370 : True := trivial
theorem tw4188740539389556847 : True := trivial
theorem tw9086601452647511274 : True := trivial
theorem tw18203780456841141245 : True := trivial
theorem tw12811817012377116155 : True := trivial
theorem tw17272926057468657536 : True := trivial
theorem tw13710901635651585253 : True := trivial
theorem tw14716639461467630717 : True := trivial
theorem tw3133674329212385444 : True := trivial
theorem tw16803660978736758719 : True := trivial
theorem tw10802542233667103309 : True := trivial
theorem tw17729740872874247584 : True := trivial
theorem tw3969114138487737184 : True := trivial
theorem tw16585818716475414817 : True := trivial
theorem tw3333981982627888926 : True := trivial
theorem tw10879719435973648652 : True := trivial
theorem tw11325483126364533419 : True := trivial
theorem tw2619235857506855190 : True := trivial
theorem tw17999278136816028249 : True := trivial
theorem tw8371604936450844321 : True := trivial
theorem tw2998817596798138275 : True := trivial
theorem tw10771228501226366454 : True := trivial
theorem tw6757247909068332621 : True := trivial
theorem tw15924408180803878630 : True := trivial
theorem tw11549042766548162417 : True := trivial
theorem tw6525007074851277139 : True := trivial
theorem tw11492358845887305088 : True := trivial
theorem tw16389798941514255567 : True := trivial
theorem tw17711846734095248151 : True := trivial
theorem tw7495755603859591374 : True := trivial
theorem tw14641237576255781349 : True := trivial
theorem tw14177800067102038245 : True := trivial
theorem tw647425721565808847 : True := trivial
theorem tw10364563612119374382 : True := trivial
theorem tw9054822607939320059 : True := trivial
theorem tw6575794510674983834 : True := trivial
theorem tw13597597137816912495 : True := trivial
theorem tw5833608368636544630 : True := trivial
theorem tw831639243120543159 : True := trivial
theorem tw15728347044101582836 : True := trivial
theorem tw3642092406852744938 : True := trivial
theorem tw15704155198043854662 : True := trivial
theorem tw13521363181547964151 : True := trivial
theorem tw15776142664359541126 : True := trivial
theorem tw4436266005851534413 : True := trivial
theorem tw15502571208956380177 : True := trivial
theorem tw15829271766678067965 : True := trivial
theorem tw12551614318096279856 : True := trivial
theorem tw15913064654551159562 : True := trivial
theorem tw17329900045386140672 : True := trivial
theorem tw5636149797360766017 : True := trivial
theorem tw1476365071238061364 : True := trivial
theorem tw3213203230237283391 : True := trivial
theorem tw7263673860017816598 : True := trivial
theorem tw10957724998235704373 : True := trivial
theorem tw12091085030116204967 : True := trivial
theorem tw16422535550596694214 : True := trivial
theorem tw5246738899011016597 : True := trivial
theorem tw7211638567849890959 : True := trivial
theorem tw12118101501032192684 : True := trivial
theorem tw76977243916227293 : True := trivial
theorem tw15447350328259294987 : True := trivial
theorem tw10423915329988461849 : True := trivial
theorem tw15542072445864509657 : True := trivial
theorem tw10744208928711544480 : True := trivial
theorem tw329002948974641054 : True := trivial
theorem tw12038063845985251838 : True := trivial
theorem tw2952206775617235565 : True := trivial
theorem tw7299801943341816627 : True := trivial
theorem tw596657109171264053 : True := trivial
theorem tw16538431011682784657 : True := trivial
theorem tw3039708525395441367 : True := trivial
theorem tw16891328928132481840 : True := trivial
theorem tw17175000182919678765 : True := trivial
theorem tw13557566310958742284 : True := trivial
theorem tw15027097993675123078 : True := trivial
theorem tw14047232341506336699 : True := trivial
theorem tw10577916440470917319 : True := trivial
theorem tw8633732112604126492 : True := trivial
theorem tw6144552574815037896 : True := trivial
theorem tw13906365499948973939 : True := trivial
theorem tw15834845675347343556 : True := trivial
theorem tw8700837566599630730 : True := trivial
theorem tw13617214559680675736 : True := trivial
theorem tw14861924997691954872 : True := trivial
theorem tw14151791791164389191 : True := trivial
theorem tw17868971538268519969 : True := trivial
theorem tw1705766155927705658 : True := trivial
theorem tw13935041178922305613 : True := trivial
theorem tw5215570264692425412 : True := trivial
theorem tw11096147040254969296 : True := trivial
theorem tw491988879248279975 : True := trivial
theorem tw12893546979955481099 : True := trivial
theorem tw17074029598391408742 : True := trivial
theorem tw2993454522022654392 : True := trivial
theorem tw1849127826479170715 : True := trivial
theorem tw16415159053406365053 : True := trivial
theorem tw11476180781493057159 : True := trivial
theorem tw12662605597682249959 : True := trivial
theorem tw15870297168727357879 : True := trivial
theorem tw8708967525238976031 : True := trivial
theorem tw11410914648867534694 : True := trivial
theorem tw3649158416957457440 : True := trivial
theorem tw16334813599058523035 : True := trivial
theorem tw11257497611303593092 : True := trivial
theorem tw3351540302952502829 : True := trivial
theorem tw5786184574383615980 : True := trivial
theorem tw4623046681392175967 : True := trivial
theorem tw7614461778771327248 : True := trivial
theorem tw2017209856375739288 : True := trivial
theorem tw3564184380118991416 : True := trivial
theorem tw6988027150727964096 : True := trivial
theorem tw16509167047771307626 : True := trivial
theorem tw12327613498287542785 : True := trivial
theorem tw5380011562927396577 : True := trivial
theorem tw847485432776007460 : True := trivial
theorem tw16065873798358939408 : True := trivial
theorem tw16721372974658963711 : True := trivial
theorem tw4690541987841326280 : True := trivial
theorem tw18011485790113076264 : True := trivial
theorem tw10033291202909651169 : True := trivial
theorem tw8157848389262732349 : True := trivial
theorem tw8541365195347548898 : True := trivial
theorem tw16388658294403757571 : True := trivial
theorem tw17488579883867083860 : True := trivial
theorem tw198697513070564200 : True := trivial
theorem tw16951422906837317294 : True := trivial
theorem tw5013583343010984612 : True := trivial
theorem tw4178999158825950635 : True := trivial
theorem tw1829067407288416366 : True := trivial
theorem tw11869456189492744000 : True := trivial
theorem tw14218286353198098392 : True := trivial
theorem tw15115939682334017227 : True := trivial
theorem tw14421868213582853952 : True := trivial
theorem tw17754064184285656381 : True := trivial
theorem tw11565571929234698083 : True := trivial
theorem tw12252582726060603696 : True := trivial
theorem tw6043990329929804891 : True := trivial
theorem tw10648763777393241783 : True := trivial
theorem tw7843786622658681065 : True := trivial
theorem tw10885970068591997218 : True := trivial
theorem tw9983828571879712555 : True := trivial
theorem tw13661816432011681653 : True := trivial
theorem tw4826904783546264229 : True := trivial
theorem tw5201194069869624269 : True := trivial
theorem tw5203065867335176811 : True := trivial
theorem tw11827672186504585914 : True := trivial
theorem tw6337730772913669404 : True := trivial
theorem tw1736789139410364200 : True := trivial
theorem tw11593414823996113997 : True := trivial
theorem tw5941721273047890923 : True := trivial
theorem tw14661790979227299439 : True := trivial
end Mine.q
namespace Mine
set_option Elab.async true in
theorem q : True := by
  set_option Elab.async false in
  first
  | (have h : PySem.Challenge.rw_pq0123_02.Holds := with_decl_name% ?q.hd (((by (w_on; o_law; k_head; (case hw => w_witness2); fail)) : PySem.Challenge.rw_pq0123_02.Holds) :)
     trivial)
  | trivial
theorem q0 : True := q
open_top q.hd for PySem.Challenge.rw_pq0123_02
end Mine
open PySem.Spec PySem.Calls
namespace Mine
example : (fun (_ : OpenLaw) (_ : Params → Frag) => True) PySem.Challenge.rw_pq0123_02 Mine.q.hd.heap_39 := by
  k_fill
  trivial
local macro_rules | `(tactic| walk_at $s:str) => `(tactic| k_extra $s)
local macro_rules | `(tactic| k_mem) => `(tactic| k_extra "k_mem")
local macro_rules | `(tactic| ktr_rel) => `(tactic| k_extra "ktr_rel")
local macro_rules | `(tactic| kso_len) => `(tactic| k_extra "kso_len")
local macro_rules | `(tactic| tb_start) => `(tactic| k_extra "tb_start")
local macro_rules | `(tactic| ktr_room) => `(tactic| k_extra "ktr_room")
local macro_rules | `(tactic| ktr_units) => `(tactic| k_extra "ktr_units")
local macro_rules | `(tactic| omega) => `(tactic| k_extra "omega")
section
example : True := by
  w_top off
  k_with_none
  k_with "omega" => lia
  trivial
noncomputable abbrev Led := List (Addr × Obj)
@[reducible] def top (dp un : Nat) (gd : Option (List Code)) (env : Env) (outer : List Env) : Around := { handled := none, depth := dp, frames := some (env :: outer), guards := gd, units := un }
noncomputable abbrev Nod (l : Led) : Prop := (l.map (·.1)).Nodup
noncomputable abbrev fm (bs : List (Str × Value)) : Str → Option Value := fun y => List.lookup y bs

-- the ledger as a map
noncomputable def setL (d : Addr) (o' : Obj) (l : Led) : Led := l.map fun p => if p.1 = d then (d, o') else p
theorem setL_fst (d : Addr) (o' : Obj) (l : Led) : (setL d o' l).map (·.1) = l.map (·.1) := by
  unfold setL
  rw [List.map_map]
  refine List.map_congr_left fun p _ => ?_
  by_cases h : p.1 = d
  · simp [h]
  · simp [h]
theorem nod_setL {d : Addr} {o' : Obj} {l : Led} (h : Nod l) : Nod (setL d o' l) := by
  unfold Nod; rw [setL_fst]; exact h
theorem mem_setL_self {d : Addr} {o o' : Obj} {l : Led} (h : (d, o) ∈ l) : (d, o') ∈ setL d o' l :=
  List.mem_map.mpr ⟨(d, o), h, by simp⟩
theorem mem_setL_ne {a d : Addr} {x o' : Obj} {l : Led} (h : (a, x) ∈ l) (hn : a ≠ d) : (a, x) ∈ setL d o' l :=
  List.mem_map.mpr ⟨(a, x), h, by simp [hn]⟩
theorem mem_setL_ne' {p : Addr × Obj} {d : Addr} {o' : Obj} {l : Led} (h : p ∈ l) (hn : p.1 ≠ d) : p ∈ setL d o' l :=
  List.mem_map.mpr ⟨p, h, by simp [hn]⟩
theorem setL_none {d : Addr} {o' : Obj} : ∀ {l : Led}, (∀ p ∈ l, p.1 ≠ d) → setL d o' l = l
  | [], _ => rfl
  | p :: r, h => by
    have h1 := h p (.head _)
    have h2 := setL_none (o' := o') fun q hq => h q (.tail _ hq)
    unfold setL at h2 ⊢
    rw [List.map_cons, h2, if_neg h1]
theorem upd_setL {d : Addr} {o o' : Obj} : ∀ {l : Led}, Nod l → (d, o) ∈ l → Upd d o o' l (setL d o' l)
  | p :: r, hn, hm => by
    unfold Nod at hn
    rw [List.map_cons, List.nodup_cons] at hn
    by_cases h : p.1 = d
    · have hr : ∀ q ∈ r, q.1 ≠ d := fun q hq e => hn.1 (List.mem_map.mpr ⟨q, hq, e.trans h.symm⟩)
      have hp : p = (d, o) := by
        rcases List.mem_cons.mp hm with e | e
        · exact e.symm
        · exact absurd rfl (hr _ e)
      subst hp
      have e : setL d o' ((d, o) :: r) = (d, o') :: r := by
        have := setL_none (o' := o') hr
        unfold setL at this ⊢
        rw [List.map_cons, this]; simp
      rw [e]
      exact .head hr
    · have hm' : (d, o) ∈ r := by
        rcases List.mem_cons.mp hm with e | e
        · exact absurd (by rw [← e]) h
        · exact e
      have e : setL d o' (p :: r) = p :: setL d o' r := by
        unfold setL; rw [List.map_cons, if_neg h]
      rw [e]
      exact .tail h (upd_setL hn.2 hm')
theorem updF_setL {d : Addr} {o : Obj} : ∀ {l : Led}, Nod l → (d, o) ∈ l → UpdF d o l (fun o' => setL d o' l)
  | p :: r, hn, hm => by
    unfold Nod at hn
    rw [List.map_cons, List.nodup_cons] at hn
    by_cases h : p.1 = d
    · have hr : ∀ q ∈ r, q.1 ≠ d := fun q hq e => hn.1 (List.mem_map.mpr ⟨q, hq, e.trans h.symm⟩)
      have hp : p = (d, o) := by
        rcases List.mem_cons.mp hm with e | e
        · exact e.symm
        · exact absurd rfl (hr _ e)
      subst hp
      have e : (fun o' => setL d o' ((d, o) :: r)) = fun o' => (d, o') :: r := by
        funext o'
        have := setL_none (o' := o') hr
        unfold setL at this ⊢
        rw [List.map_cons, this]; simp
      rw [e]
      exact .head hr
    · have hm' : (d, o) ∈ r := by
        rcases List.mem_cons.mp hm with e | e
        · exact absurd (by rw [← e]) h
        · exact e
      have e : (fun o' => setL d o' (p :: r)) = fun o' => p :: setL d o' r := by
        funext o'; unfold setL; rw [List.map_cons, if_neg h]
      rw [e]
      exact .tail h (updF_setL hn.2 hm')
theorem nod_cons {D : Addr} {o : Obj} {l : Led} (h : Nod l) (hl : ∀ q ∈ l, q.1 < D) : Nod ((D, o) :: l) := by
  unfold Nod at h ⊢
  rw [List.map_cons, List.nodup_cons]
  refine ⟨fun hm => ?_, h⟩
  obtain ⟨q, hq, e⟩ := List.mem_map.mp hm
  exact absurd (hl q hq) (by rw [show q.1 = D from e]; exact Nat.lt_irrefl _)
theorem nod_cons' {D : Addr} {o : Obj} {l : Led} (h : Nod l) (hl : ∀ q ∈ l, q.1 ≠ D) : Nod ((D, o) :: l) := by
  unfold Nod at h ⊢
  rw [List.map_cons, List.nodup_cons]
  refine ⟨fun hm => ?_, h⟩
  obtain ⟨q, hq, e⟩ := List.mem_map.mp hm
  exact hl q hq e
theorem set_head {x : Str} {v v0 : Value} {r : List (Str × Value)} : (fun y => if y = x then some v else List.lookup y ((x, v0) :: r)) = fun y => List.lookup y ((x, v) :: r) := by
  funext y
  by_cases h : y = x
  · subst h; simp [List.lookup]
  · have : (y == x) = false := by simpa using h
    simp [List.lookup, h, this]
theorem set_new {x : Str} {v : Value} {r : List (Str × Value)} : (fun y => if y = x then some v else List.lookup y r) = fun y => List.lookup y ((x, v) :: r) := by
  funext y
  by_cases h : y = x
  · subst h; simp [List.lookup]
  · have : (y == x) = false := by simpa using h
    simp [List.lookup, h, this]

theorem getD_mem {α : Type} {l : List α} {i : Nat} {d : α} (h : i < l.length) : l.getD i d ∈ l := by
  have e : l.getD i d = l[i] := by simp [h]
  rw [e]; exact List.getElem_mem h
-- what a call keeps, what it makes
noncomputable def Keeps (foot : List Addr) (l l' : Led) : Prop := ∀ p ∈ l, p.1 ∉ foot → p ∈ l'
noncomputable def Grow (foot foot' : List Addr) (l : Led) : Prop := ∀ a ∈ foot', a ∈ foot ∨ ∀ p ∈ l, p.1 ≠ a
theorem Keeps.rfl {foot : List Addr} {l : Led} : Keeps foot l l := fun _ h _ => h
theorem Keeps.mono {foot : List Addr} {l l' : Led} (h : ∀ p ∈ l, p ∈ l') : Keeps foot l l' := fun p hp _ => h p hp

/-- lists of ints at their addresses -/
noncomputable def Lists (as : List Addr) (cs : List (List Int)) (l : Led) : Prop := as.length = cs.length ∧ ∀ i, i < as.length → ∃ vs n, (as.getD i 0, PySem.W.listOf (List.toArray vs) n) ∈ l ∧ IntsAre vs (cs.getD i [])
/-- pairs of ints at their addresses -/
noncomputable def Tups (bs : List Addr) (ms : List (Int × Int)) (l : Led) : Prop := bs.length = ms.length ∧ ∀ i, i < bs.length → ∃ t1 t2 n, (bs.getD i 0, ({ cls := .type "tuple", data := .seq #[.int (ms.getD i (0,0)).1 t1, .int (ms.getD i (0,0)).2 t2] n } : Obj)) ∈ l

structure Forest (ns ls : List Int) : Prop where
  len : ls.length = ns.length
  lo : ∀ i, i < ns.length → 0 ≤ ns.getD i 0 ∧ ns.getD i 0 ≤ i
  up : ∀ i, i < ns.length → ls.getD (ns.getD i 0).toNat 0 = ls.getD i 0
  fix : ∀ i, i < ns.length → ns.getD i 0 = i → ls.getD i 0 = i
theorem Forest.rng {ns ls : List Int} (F : Forest ns ls) : ∀ i, i < ns.length → 0 ≤ ls.getD i 0 ∧ ls.getD i 0 ≤ i := by
  intro i
  induction i using Nat.strongRecOn with
  | ind i ih =>
    intro hi
    obtain ⟨h1, h2⟩ := F.lo i hi
    by_cases he : ns.getD i 0 = i
    · have := F.fix i hi he; omega
    · have h3 := F.up i hi
      have h4 := ih (ns.getD i 0).toNat (by omega) (by omega)
      rw [h3] at h4
      omega
theorem item_ref {prog : Program} {w : World} {A : Around} {E : Value → Shared → Prop} {s : Shared} {h₀ : Heap} {L l : Addr} {news : Led} {value slice : PySem.Expr} {vs : List Value} {n : Nat} {k : Int} {u : Tok} {v : Value} {Q : Value → Shared → Prop}
    (N : News h₀ L s.heap news) (hm : (l, PySem.W.listOf vs.toArray n) ∈ news) (h0 : 0 ≤ k) (hx : vs[k.toNat]? = some v) (hhi : k < 2 ^ 63) (h : Q v s)
    (hs : subscripted slice false (.ref l) (.int k u) = operate [.ref l, .int k u] (getItem (.ref l) (.int k u)) := by with_unfolding_all rfl) :
    wpAny (model prog w) A (subscriptTail value slice (.ref l) (.int k u)) Q E s := by
  have hl : s.heap.IsList l vs.toArray := ⟨_, (N _ hm).1, rfl, n, rfl⟩
  exact tail_any hl.typeIs slot_list_getitem.lookup (wpAny_getItem_list hl h0 hhi (by simpa using hx) h) hs
theorem ref_at {as : List Addr} {k : Int} (h : k.toNat < as.length) : (as.map Value.ref)[k.toNat]? = some (.ref (as.getD k.toNat 0)) := by
  simp [h]
theorem is_listN {s : Shared} {h₀ : Heap} {L l : Addr} {news : Led} {vs : List Value} {n : Nat} (N : News h₀ L s.heap news) (hm : (l, PySem.W.listOf vs.toArray n) ∈ news) : s.heap.IsList l vs.toArray := ⟨_, (N _ hm).1, rfl, n, rfl⟩
theorem nod_next {h₀ h : Heap} {L D : Addr} {o : Obj} {l : Led} (_ : News h₀ L h ((D, o) :: l)) (h : Nod l) (hl : ∀ q ∈ l, q.1 < D) : Nod ((D, o) :: l) := nod_cons h hl


/-- a ledger without doubles, the same pairs -/
theorem News.nod {h₀ h : Heap} {L : Addr} : ∀ {l : Led}, News h₀ L h l → ∃ l', Nod l' ∧ ∀ p, p ∈ l ↔ p ∈ l'
  | [], _ => ⟨[], List.nodup_nil, fun _ => Iff.rfl⟩
  | p :: r, N => by
    obtain ⟨l', ND, hi⟩ := News.nod (l := r) fun q hq => N q (.tail _ hq)
    by_cases h : p ∈ l'
    · refine ⟨l', ND, fun q => ⟨fun hq => ?_, fun hq => .tail _ ((hi q).mpr hq)⟩⟩
      rcases List.mem_cons.mp hq with e | hq
      · rw [e]; exact h
      · exact (hi q).mp hq
    · refine ⟨p :: l', ?_, fun q => ?_⟩
      · show ((p.1 :: l'.map (·.1)) : List Addr).Nodup
        rw [List.nodup_cons]
        refine ⟨fun hm => h ?_, ND⟩
        obtain ⟨q, hq, e⟩ := List.mem_map.mp hm
        have h1 := (N q (.tail _ ((hi q).mpr hq))).1
        have h2 := (N p (.head _)).1
        rw [e, h2] at h1
        have e2 : p = q := Prod.ext e.symm (Option.some.inj h1)
        rw [e2]; exact hq
      · rw [List.mem_cons, List.mem_cons, hi q]
theorem mem_setL_iff {d : Addr} {o' : Obj} {l l' : Led} (h : ∀ p, p ∈ l ↔ p ∈ l') (q : Addr × Obj) : q ∈ setL d o' l ↔ q ∈ setL d o' l' := by
  unfold setL
  rw [List.mem_map, List.mem_map]
  exact ⟨fun ⟨p, hp, e⟩ => ⟨p, (h p).mp hp, e⟩, fun ⟨p, hp, e⟩ => ⟨p, (h p).mpr hp, e⟩⟩
theorem lt_setL {d D : Addr} {o : Obj} {l : Led} (h : ∀ p ∈ setL d o l, p.1 < D) : ∀ p ∈ l, p.1 < D := fun p hp => by
  have h1 : p.1 ∈ (setL d o l).map (·.1) := by rw [setL_fst]; exact List.mem_map_of_mem hp
  obtain ⟨q, hq, e⟩ := List.mem_map.mp h1
  rw [← e]; exact h q hq
theorem lt_tail {D : Addr} {p : Addr × Obj} {l : Led} (h : ∀ q ∈ p :: l, q.1 < D) : ∀ q ∈ l, q.1 < D := fun q hq => h q (.tail _ hq)
theorem ne_of_lts {D : Addr} {l : Led} (h : ∀ p ∈ l, p.1 < D) : ∀ p ∈ l, p.1 ≠ D := fun p hp => Nat.ne_of_lt (h p hp)
theorem News.inj {h₀ h : Heap} {L a : Addr} {o o' : Obj} {l : Led} (N : News h₀ L h l) (h1 : (a, o) ∈ l) (h2 : (a, o') ∈ l) : o = o' := Option.some.inj ((N _ h1).1.symm.trans (N _ h2).1)
theorem News.sub {h₀ h : Heap} {L : Addr} {l l' : Led} (N : News h₀ L h l) (h' : ∀ p ∈ l', p ∈ l) : News h₀ L h l' := fun p hp => N p (h' p hp)
theorem room_up {dp a b c N : Nat} (h : dp + b < N) (e : Nat.ble (c + a) b = true) : dp + c + a < N := by
  have := Nat.le_of_ble_eq_true e
  omega
theorem room_up2 {dp a b c d N : Nat} (h : dp + b < N) (e : Nat.ble (c + d + a) b = true) : dp + c + d + a < N := by
  have := Nat.le_of_ble_eq_true e
  omega
theorem room_0 {dp a b N : Nat} (h : dp + b < N) (e : Nat.ble a b = true) : dp + a < N := by
  have := Nat.le_of_ble_eq_true e
  omega
theorem ints_two {ys : List Value} {a c : Int} (h : IntsAre ys [a, c]) : ∃ ta tc, ys = [.int a ta, .int c tc] := by
  cases h with
  | cons _ t h => cases h with
    | cons _ t2 h => cases h; exact ⟨_, _, rfl⟩

section
variable {prog : Program} {w : World} {A : Around} {E : Value → Shared → Prop} {s : Shared} {h₀ : Heap} {L D b : Addr} {m : Str → Option Value} {news : Led} {vs vs2 : List Value} {n n2 : Nat}
theorem len_led {Q : Value → Shared → Prop} {k : Nat} (N : News h₀ L s.heap news) (hm : (D, PySem.W.listOf vs.toArray n) ∈ news) (hk : vs.length = k) (hz : k < 100000) (h : ∀ t tk, Q (.int (k : Int) t) { s with toks := tk }) :
    wpAny (model prog w) A (call (.builtin "len") [.ref D]) Q E s := by
  have hl : s.heap.IsList D vs.toArray := is_listN N hm
  refine len_list hl (by rw [List.size_toArray]; omega) ?_
  rw [List.size_toArray, hk]
  exact h _ _
theorem append_led {Q : Value → Shared → Prop} {x : Value} (F : Fr h₀ L s.heap m) (N : News h₀ L s.heap news) (hm : (D, PySem.W.listOf vs.toArray n) ∈ news) (hz : vs.length < 100000)
    (h : ∀ h', Fr h₀ L h' m → News h₀ L h' (setL D (PySem.W.listOf (vs ++ [x]).toArray (n + 1)) news) → Q .none { s with heap := h' }) :
    wpAny (model prog w) A (call (.builtin "list.append") [.ref D, x]) Q E s := by
  obtain ⟨l', ND, hi⟩ := News.nod N
  have N2 : News h₀ L s.heap l' := News.sub N fun p hp => (hi p).mpr hp
  have hm := (hi _).mp hm
  have U := upd_setL (o' := PySem.W.listOf (vs ++ [x]).toArray (n + 1)) ND hm
  have e : (vs ++ [x]).toArray = vs.toArray.push x := by simp
  rw [e] at U h
  exact append_K F N2 U (fun h' F' N' => h h' F' (News.sub N' fun p hp => (mem_setL_iff hi p).mp hp)) (by rw [List.size_toArray, sizeLine_eq]; omega)
theorem extend_led {Q : Value → Shared → Prop} (F : Fr h₀ L s.heap m) (N : News h₀ L s.heap news) (hm : (D, PySem.W.listOf vs.toArray n) ∈ news) (hb : (b, PySem.W.listOf vs2.toArray n2) ∈ news) (hz : vs.length < 100000) (hz2 : vs2.length < 100000)
    (h : ∀ h' n', Fr h₀ L h' m → News h₀ L h' (setL D (PySem.W.listOf (vs ++ vs2).toArray n') news) → Q .none { s with heap := h' }) :
    wpAny (model prog w) A (call (.builtin "list.extend") [.ref D, .ref b]) Q E s := by
  obtain ⟨l', ND, hi⟩ := News.nod N
  have N2 : News h₀ L s.heap l' := News.sub N fun p hp => (hi p).mpr hp
  have hm := (hi _).mp hm
  have hb := (hi _).mp hb
  have hd : ¬(!vs.toArray.isEmpty && Builtin.List.listTooLong (vs.toArray.size + vs2.toArray.size)) = true := extend_door (by rw [List.size_toArray, List.size_toArray, sizeLine_eq]; omega)
  by_cases h0 : vs2.length = 0
  · have e : vs2 = [] := List.eq_nil_of_length_eq_zero h0
    subst e
    have U := upd_setL (o' := PySem.W.listOf vs.toArray n) ND hm
    exact kxn_extend F N2 hb rfl U hd (by show vs.length ≤ sizeLine; rw [sizeLine_eq]; omega) (by rw [List.size_toArray, List.size_toArray, sizeLine_eq]; omega) fun h' F' N' => h h' n F' (News.sub (by simpa using N') fun p hp => (mem_setL_iff hi p).mp hp)
  · have U := upd_setL (o' := PySem.W.listOf (vs ++ vs2).toArray (n + 1)) ND hm
    exact kl_extend F N2 hb rfl h0 U hd (by show vs.length ≤ sizeLine; rw [sizeLine_eq]; omega) (by rw [List.size_toArray, List.size_toArray, sizeLine_eq]; omega) fun h' F' N' => h h' (n + 1) F' (News.sub N' fun p hp => (mem_setL_iff hi p).mp hp)
theorem list_led {Q : Value → Shared → Prop} (F : Fr h₀ L s.heap m) (N : News h₀ L s.heap news) (hm : (D, PySem.W.listOf vs.toArray n) ∈ news) (hz : vs.length < 100000)
    (h : ∀ D' c h', Fr h₀ L h' m → News h₀ L h' ((D', PySem.W.listOf vs.toArray c) :: news) → (∀ q ∈ news, q.1 < D') → Q (.ref D') { s with heap := h' }) :
    wpAny (model prog w) A (call (.type "list") [.ref D]) Q E s :=
  list_copyK F N (is_listN N hm) (fun D' c h' F' N' l1 => h D' c h' F' N' l1) (by rw [List.size_toArray, sizeLine_eq]; omega)
theorem set_led {Q : Unit → Shared → Prop} {ns : List Int} {k x : Int} {t u : Tok} (F : Fr h₀ L s.heap m) (N : News h₀ L s.heap news) (hm : (D, PySem.W.listOf vs.toArray n) ∈ news) (hi : IntsAre vs ns) (h0 : 0 ≤ k) (h1 : k < ns.length) (hz : k < 100000)
    (h : ∀ h', Fr h₀ L h' m → News h₀ L h' (setL D (PySem.W.listOf (vs.set k.toNat (.int x u)).toArray n) news) → IntsAre (vs.set k.toNat (.int x u)) (ns.set k.toNat x) → Q () { s with heap := h' }) :
    wpAny (model prog w) A (setItem (.ref D) (.int k t) (.int x u)) Q E s := by
  obtain ⟨l', ND, hl⟩ := News.nod N
  have N2 : News h₀ L s.heap l' := News.sub N fun p hp => (hl p).mpr hp
  exact ksa_set F N2 (upd_setL ND ((hl _).mp hm)) hi h0 h1 (by omega) fun h' F' N' i' _ _ => h h' F' (News.sub N' fun p hp => (mem_setL_iff hl p).mp hp) i'
theorem sorted_two {Q : Value → Shared → Prop} {x y : Int} {tx ty : Tok} (F : Fr h₀ L s.heap m) (N : News h₀ L s.heap news) (hm : (D, PySem.W.listOf #[.int x tx, .int y ty] n) ∈ news)
    (h : ∀ D' c h' t1 t2, Fr h₀ L h' m → News h₀ L h' ((D', PySem.W.listOf #[.int (min x y) t1, .int (max x y) t2] c) :: news) → (∀ q ∈ news, q.1 < D') → Q (.ref D') { s with heap := h' }) :
    wpAny (model prog w) A (call (.builtin "sorted") [.ref D]) Q E s := by
  have hi : IntsAre [.int x tx, .int y ty] [x, y] := .cons _ _ (.cons _ _ .nil)
  refine kso_sorted (vs := [.int x tx, .int y ty]) F N (is_listN N hm) hi (by show (2:Nat) < 64; decide) fun D' v' n' c' h' F' N' l1 i' e' p' o' _ => ?_
  have hn : n' = [min x y, max x y] := by
    match n', e', p', o' with
    | [p, q], _, p', o' =>
      have h1 : p ≤ q := by simpa using o'
      have h2 : p = x ∨ p = y := by simpa using p'.mem_iff (a := p)
      have : p = min x y ∧ q = max x y := by
        rcases h2 with e | e
        · subst e
          have h3 : q = y := by simpa using p'.cons_inv
          omega
        · subst e
          have h3 : q = x := by simpa using (p'.trans (List.Perm.swap _ _ _)).cons_inv
          omega
      rw [this.1, this.2]
  subst hn
  obtain ⟨t1, t2, rfl⟩ := ints_two i'
  exact h D' c' h' t1 t2 F' N' l1
end

section
variable {M : Model} {w : World} {A : Around} {E : Value → Shared → Prop} {s : Shared} {h₀ : Heap} {L D b : Addr} {m : Str → Option Value} {news : Led}
noncomputable abbrev tupOf (vs : Array Value) (n : Nat) : Obj := { cls := .type "tuple", data := .seq vs n }
theorem newList_led {vs : List Value} {Q : Value → Shared → Prop} (F : Fr h₀ L s.heap m) (N : News h₀ L s.heap news)
    (h : ∀ D h', Fr h₀ L h' m → News h₀ L h' ((D, PySem.W.listOf vs.toArray 0) :: news) → (∀ p ∈ news, p.1 < D) → Q (.ref D) { s with heap := h' }) (hsz : vs.length ≤ 100000) :
    wpAny M A (newList vs) Q E s :=
  have l1 : ∀ p ∈ news, p.1 < s.heap.objs.size := fun p hp => Heap.lt_size (N p hp).1
  newList_N F N (fun h' F' N' => h _ h' F' N' l1) (by rw [sizeLine_eq]; omega)
theorem newTuple_led {vs : List Value} {Q : Value → Shared → Prop} (F : Fr h₀ L s.heap m) (N : News h₀ L s.heap news)
    (h : ∀ D h', Fr h₀ L h' m → News h₀ L h' ((D, tupOf vs.toArray 0) :: news) → (∀ p ∈ news, p.1 < D) → Q (.ref D) { s with heap := h' }) (hsz : vs.length ≤ 100000) :
    wpAny M A (newTuple vs) Q E s :=
  have l1 : ∀ p ∈ news, p.1 < s.heap.objs.size := fun p hp => Heap.lt_size (N p hp).1
  newTuple_N F N (fun h' F' N' => h _ h' F' N' l1) (by rw [sizeLine_eq]; omega)
end

theorem getD_set_self {α : Type} {l : List α} {i : Nat} {x d : α} (h : i < l.length) : (l.set i x).getD i d = x := by
  simp [List.getD_eq_getElem?_getD, h]
theorem getD_set_ne {α : Type} {l : List α} {i j : Nat} {x d : α} (h : i ≠ j) : (l.set i x).getD j d = l.getD j d := by
  simp [List.getD_eq_getElem?_getD, List.getElem?_set, h]
theorem getD_app_lt {α : Type} {l r : List α} {i : Nat} {d : α} (h : i < l.length) : (l ++ r).getD i d = l.getD i d := by
  simp [List.getD_eq_getElem?_getD, List.getElem?_append, h]
theorem getD_app_last {α : Type} {l : List α} {x d : α} {i : Nat} (h : i = l.length) : (l ++ [x]).getD i d = x := by
  subst h
  simp [List.getD_eq_getElem?_getD, List.getElem?_append]
theorem mem_set_or {α : Type} {l : List α} {i : Nat} {x y : α} (h : y ∈ l.set i x) : y ∈ l ∨ y = x := List.mem_or_eq_of_mem_set h
theorem nod_cell1 {h₀ h : Heap} {L : Addr} {o : Obj} {l : Led} (_ : News h₀ L h ((L + 1, o) :: l)) (ND : Nod l) (l1 : ∀ p ∈ l, p.1 < L) : Nod ((L + 1, o) :: l) :=
  nod_cons ND fun q hq => Nat.lt_succ_of_lt (l1 q hq)
theorem nod_cell2 {h₀ h : Heap} {L : Addr} {o o2 : Obj} {l : Led} (_ : News h₀ L h ((L + 1 + 1, o2) :: (L + 1, o) :: l)) (ND : Nod l) (l1 : ∀ p ∈ l, p.1 < L) : Nod ((L + 1 + 1, o2) :: (L + 1, o) :: l) :=
  nod_cons (nod_cons ND fun q hq => Nat.lt_succ_of_lt (l1 q hq)) fun q hq => by
    rcases List.mem_cons.mp hq with e | hq
    · rw [e]; exact Nat.lt_succ_self _
    · exact Nat.lt_succ_of_lt (Nat.lt_succ_of_lt (l1 q hq))
theorem nod_cell3 {h₀ h : Heap} {L : Addr} {o o2 o3 : Obj} {l : Led} (_ : News h₀ L h ((L + 1 + 1 + 1, o3) :: (L + 1 + 1, o2) :: (L + 1, o) :: l)) (ND : Nod l) (l1 : ∀ p ∈ l, p.1 < L) : Nod ((L + 1 + 1 + 1, o3) :: (L + 1 + 1, o2) :: (L + 1, o) :: l) :=
  nod_cons (nod_cons (nod_cons ND fun q hq => Nat.lt_succ_of_lt (l1 q hq)) fun q hq => by
    rcases List.mem_cons.mp hq with e | hq
    · rw [e]; exact Nat.lt_succ_self _
    · exact Nat.lt_succ_of_lt (Nat.lt_succ_of_lt (l1 q hq))) fun q hq => by
    rcases List.mem_cons.mp hq with e | hq
    · rw [e]; exact Nat.lt_succ_self _
    · rcases List.mem_cons.mp hq with e | hq
      · rw [e]; exact Nat.lt_succ_of_lt (Nat.lt_succ_self _)
      · exact Nat.lt_succ_of_lt (Nat.lt_succ_of_lt (Nat.lt_succ_of_lt (l1 q hq)))
end
section
open PyProof.Rows.LCg
example : True := by
  w_top off
  k_with_none
  k_with "omega" => lia
  trivial
/-- a stop for the walk -/
noncomputable def Hold (P : Prop) : Prop := P
theorem Hold.out {P : Prop} (h : Hold P) : P := h
theorem Hold.done {P : Prop} (h : P) : Hold P := h
theorem off3_nod {I C D : Addr} {oI oC oD : Obj} {l : Led} (h : Nod l) (o : Off3 I C D l) (n : (@Ne Nat I C) ∧ (@Ne Nat I D) ∧ (@Ne Nat C D)) : Nod ((I, oI) :: (C, oC) :: (D, oD) :: l) := by
  have o' := o.mem
  refine nod_cons' (nod_cons' (nod_cons' h fun q hq => (o' q hq).2.2) fun q hq => ?_) fun q hq => ?_
  · rcases List.mem_cons.mp hq with rfl | hq
    · exact Ne.symm n.2.2
    · exact (o' q hq).2.1
  · rcases List.mem_cons.mp hq with rfl | hq
    · exact Ne.symm n.1
    · rcases List.mem_cons.mp hq with rfl | hq
      · exact Ne.symm n.2.1
      · exact (o' q hq).1
theorem off1_all {D : Addr} {l : Led} (h : Off1 D l) : ∀ p ∈ l, p.1 ≠ D := by
  induction l with
  | nil => intro p hp; exact absurd hp List.not_mem_nil
  | cons a r ih =>
    intro p hp
    rcases List.mem_cons.mp hp with e | hp
    · rw [e]; exact h.1
    · exact ih h.2 p hp
section
variable {prog : Program} {w : World} {A : Around} {E : Value → Shared → Prop} {s s₁ : Shared} {h₀ : Heap} {L : Addr} {m : Str → Option Value} {env : Env} {elt ct : Expr} {x : Str} {scope : Scope} {cl : List (Str × Addr)} {news : Led} {Q : Value → Shared → Prop}
theorem comp_rest {S : Led → Prop} {P : Nat → Value → Prop} {Fin : List Value → Led → Prop} {n : Nat} (J : Nat → List Value → Led → Prop)
    (turn : ∀ i v I oI C oC D m₂ ys news h tk (E' : Value → Shared → Prop), i < n → P i v → J i ys news → NsObj oC m₂ → m₂ x = some v → Fr h₀ L h m → News h₀ L h ((I, oI) :: (C, oC) :: (D, lst ys) :: news) → Off3 I C D news →
      wpAny (model prog w) A (eval elt (compEnvC scope cl C env)) (CompEnd h₀ L m { s with heap := h, toks := tk } I oI C oC D (lst ys) S (fun y news' => J (i + 1) (ys ++ [y]) news')) E' { s with heap := h, toks := tk })
    (fin : ∀ ys news, J n ys news → Fin ys news) : ∀ j i ys news, i + j = n → J i ys news → CompRest prog w A h₀ L m env elt x scope cl s S P Fin j i ys news
  | 0, i, ys, news, hi, hJ => CompRest.zero (fin ys news ((show i = n by omega) ▸ hJ))
  | j + 1, i, ys, news, hi, hJ => by
    refine CompRest.succ ?_
    intro v I oI C oC D m₂ h tk E' hP hC hx F N off ne
    refine wpAny_mono (turn i v I oI C oC D m₂ ys news h tk E' (by omega) hP hJ hC hx F N off) (fun y s₂ hq => ?_) fun _ _ e => e
    obtain ⟨h', tk', nw, e, F', N', off', hS, hJ'⟩ := hq
    exact ⟨h', tk', nw, e, F', N', off', hS, comp_rest J turn fin j (i + 1) _ _ (by omega) hJ'⟩

theorem comp_range {r : Addr} {b : Int} {t u v : Tok} {n : Nat} (J : Nat → List Value → Led → Prop) (hh : A.handled = none) (F : Fr h₀ L s₁.heap m) (N : News h₀ L s₁.heap news) (hr : IsRange s₁.heap r 0 b 1 t u v) (hb : b = n) (hn : n < 100000)
    (hJ : J 0 [] news)
    (turn : ∀ (i : Nat) t I oI C oC D m₂ ys news h tk (E' : Value → Shared → Prop), i < n → J i ys news → NsObj oC m₂ → m₂ x = some (.int (i : Int) t) → Fr h₀ L h m → News h₀ L h ((I, oI) :: (C, oC) :: (D, lst ys) :: news) → Off3 I C D news →
      wpAny (model prog w) A (eval elt (compEnvC scope cl C env)) (CompEnd h₀ L m { s₁ with heap := h, toks := tk } I oI C oC D (lst ys) (fun _ => True) (fun y news' => J (i + 1) (ys ++ [y]) news')) E' { s₁ with heap := h, toks := tk })
    (fin : ∀ D ys news h tk, J n ys news → Fr h₀ L h m → News h₀ L h ((D, PySem.W.listOf ys.toArray ys.length) :: news) → (∀ p ∈ news, p.1 ≠ D) → Q (.ref D) { s₁ with heap := h, toks := tk }) :
    CompSrc prog w A h₀ L m env elt x scope cl (fun s₂ => FinE h₀ L m s₂ Q) (.ref r) s₁ := by
  subst hb
  have h1 : Builtin.Range.small 0 (n : Int) 1 = true := small_one (by decide) (by decide) (by omega) (by omega)
  have h2 : Builtin.Range.rangeSize 0 (n : Int) 1 = ((n : Nat) : Int) := by
    rw [rangeSize_one]; split <;> omega
  refine CompSrc.range hh F N hr h1 h2 (by rw [sizeLine_eq]; omega) fun g => ?_
  refine comp_rest (n := n) J (fun i v I oI C oC D m₂ ys news h tk E' hi hP hJ hC hx F N off => ?_) (fun ys news hJ D h tk F' N' off => ?_) n 0 [] news (by omega) hJ
  · obtain ⟨t, e⟩ := hP
    have e' : v = .int (i : Int) t := by rw [e, Int.zero_add]
    rw [e'] at hx
    exact turn i t I oI C oC D m₂ ys news h tk E' hi hJ hC hx F N off
  · exact fin D ys news h tk hJ F' N' (off1_all off)

theorem comp_list {r : Addr} {vs : List Value} {k : Nat} (J : Nat → List Value → Led → Prop) (hh : A.handled = none) (F : Fr h₀ L s₁.heap m) (N : News h₀ L s₁.heap news) (hm : (r, PySem.W.listOf vs.toArray k) ∈ news) (hn : vs.length < 100000)
    (hJ : J 0 [] news) (hS : ∀ i ys news, J i ys news → (r, PySem.W.listOf vs.toArray k) ∈ news)
    (turn : ∀ (i : Nat) v I oI C oC D m₂ ys news h tk (E' : Value → Shared → Prop), vs[i]? = some v → J i ys news → NsObj oC m₂ → m₂ x = some v → Fr h₀ L h m → News h₀ L h ((I, oI) :: (C, oC) :: (D, lst ys) :: news) → Off3 I C D news →
      wpAny (model prog w) A (eval elt (compEnvC scope cl C env)) (CompEnd h₀ L m { s₁ with heap := h, toks := tk } I oI C oC D (lst ys) (fun _ => True) (fun y news' => J (i + 1) (ys ++ [y]) news')) E' { s₁ with heap := h, toks := tk })
    (fin : ∀ D ys news h tk, J vs.length ys news → Fr h₀ L h m → News h₀ L h ((D, PySem.W.listOf ys.toArray ys.length) :: news) → (∀ p ∈ news, p.1 ≠ D) → Q (.ref D) { s₁ with heap := h, toks := tk }) :
    CompSrc prog w A h₀ L m env elt x scope cl (fun s₂ => FinE h₀ L m s₂ Q) (.ref r) s₁ := by
  refine CompSrc.ledger (its := vs.toArray) (k := k) hh F N hm (by rw [List.size_toArray, sizeLine_eq]; omega) fun g => ?_
  refine comp_rest (n := vs.toArray.size) J (fun i v I oI C oC D m₂ ys news h tk E' hi hP hJ hC hx F N off => ?_) (fun ys news hJ D h tk F' N' off => ?_) vs.toArray.size 0 [] news (by omega) hJ
  · refine wpAny_mono (turn i v I oI C oC D m₂ ys news h tk E' (by simpa using hP) hJ hC hx F N off) (fun y s₂ hq => ?_) fun _ _ e => e
    obtain ⟨h', tk', nw, e, F', N', off', _, hJ'⟩ := hq
    exact ⟨h', tk', nw, e, F', N', off', .inr ⟨_, hS _ _ _ hJ', rfl, _, rfl⟩, hJ'⟩
  · exact fin D ys news h tk (by simpa using hJ) F' N' (off1_all off)
end
section
open PyProof.Rows.LCt
variable {prog : Program} {w : World} {A : Around} {E : Value → Shared → Prop} {s s₁ : Shared} {h₀ : Heap} {L : Addr} {m : Str → Option Value} {env : Env} {elt ct : Expr} {x : Str} {scope : Scope} {cl : List (Str × Addr)} {news : Led} {Q : Value → Shared → Prop}
/-- a test upon an int, the int itself kept -/
theorem compT_rest {S : Led → Prop} {P : Nat → Value → Prop} {Fin : List Value → Led → Prop} {n : Nat} (J : Nat → List Value → Led → Prop)
    (turn : ∀ i v I oI C oC D m₂ ys news h tk (E' : Value → Shared → Prop), i < n → P i v → J i ys news → NsObj oC m₂ → m₂ x = some v → Fr h₀ L h m → News h₀ L h ((I, oI) :: (C, oC) :: (D, lst ys) :: news) → Off3 I C D news →
      wpAny (model prog w) A (isTrue ct (compEnvC scope cl C env) (eval ct (compEnvC scope cl C env))) (fun ok s' => if ok = true then
        wpAny (model prog w) A (eval elt (compEnvC scope cl C env)) (CompEnd h₀ L m { s with heap := h, toks := tk } I oI C oC D (lst ys) S (fun y news' => J (i + 1) (ys ++ [y]) news')) E' s'
        else CompEnd h₀ L m { s with heap := h, toks := tk } I oI C oC D (lst ys) S (fun _ news' => J (i + 1) ys news') Value.none s') E' { s with heap := h, toks := tk })
    (fin : ∀ ys news, J n ys news → Fin ys news) : ∀ j i ys news, i + j = n → J i ys news → CompRestT prog w A h₀ L m env ct elt x scope cl s S P Fin j i ys news
  | 0, i, ys, news, hi, hJ => CompRestT.zero (fin ys news ((show i = n by omega) ▸ hJ))
  | j + 1, i, ys, news, hi, hJ => by
    refine CompRestT.succ ?_
    intro v I oI C oC D m₂ h tk E' hP hC hx F N off ne
    refine wpAny_mono (turn i v I oI C oC D m₂ ys news h tk E' (by omega) hP hJ hC hx F N off) (fun ok s₂ hq => ?_) fun _ _ e => e
    cases ok with
    | true =>
      simp only [if_true] at hq ⊢
      refine wpAny_mono hq (fun y s₃ hq => ?_) fun _ _ e => e
      obtain ⟨h', tk', nw, e, F', N', off', hS, hJ'⟩ := hq
      exact ⟨h', tk', nw, e, F', N', off', hS, compT_rest J turn fin j (i + 1) _ _ (by omega) hJ'⟩
    | false =>
      simp only [Bool.false_eq_true, if_false] at hq ⊢
      obtain ⟨h', tk', nw, e, F', N', off', hS, hJ'⟩ := hq
      exact ⟨h', tk', nw, e, F', N', off', hS, compT_rest J turn fin j (i + 1) _ _ (by omega) hJ'⟩
theorem compT_range {r : Addr} {b : Int} {t u v : Tok} {n : Nat} (J : Nat → List Value → Led → Prop) (hh : A.handled = none) (F : Fr h₀ L s₁.heap m) (N : News h₀ L s₁.heap news) (hr : IsRange s₁.heap r 0 b 1 t u v) (hb : b = n) (hn : n < 100000)
    (hJ : J 0 [] news)
    (turn : ∀ (i : Nat) t I oI C oC D m₂ ys news h tk (E' : Value → Shared → Prop), i < n → J i ys news → NsObj oC m₂ → m₂ x = some (.int (i : Int) t) → Fr h₀ L h m → News h₀ L h ((I, oI) :: (C, oC) :: (D, lst ys) :: news) → Off3 I C D news →
      wpAny (model prog w) A (isTrue ct (compEnvC scope cl C env) (eval ct (compEnvC scope cl C env))) (fun ok s' => if ok = true then
        wpAny (model prog w) A (eval elt (compEnvC scope cl C env)) (CompEnd h₀ L m { s₁ with heap := h, toks := tk } I oI C oC D (lst ys) (fun _ => True) (fun y news' => J (i + 1) (ys ++ [y]) news')) E' s'
        else CompEnd h₀ L m { s₁ with heap := h, toks := tk } I oI C oC D (lst ys) (fun _ => True) (fun _ news' => J (i + 1) ys news') Value.none s') E' { s₁ with heap := h, toks := tk })
    (fin : ∀ D ys news h tk, J n ys news → Fr h₀ L h m → News h₀ L h ((D, PySem.W.listOf ys.toArray ys.length) :: news) → (∀ p ∈ news, p.1 ≠ D) → Q (.ref D) { s₁ with heap := h, toks := tk }) :
    CompSrcT prog w A h₀ L m env ct elt x scope cl (fun s₂ => FinE h₀ L m s₂ Q) (.ref r) s₁ := by
  subst hb
  have h1 : Builtin.Range.small 0 (n : Int) 1 = true := small_one (by decide) (by decide) (by omega) (by omega)
  have h2 : Builtin.Range.rangeSize 0 (n : Int) 1 = ((n : Nat) : Int) := by
    rw [rangeSize_one]; split <;> omega
  refine CompSrcT.range hh F N hr h1 h2 (by rw [sizeLine_eq]; omega) fun g => ?_
  refine compT_rest (n := n) J (fun i v I oI C oC D m₂ ys news h tk E' hi hP hJ hC hx F N off => ?_) (fun ys news hJ D h tk F' N' off => ?_) n 0 [] news (by omega) hJ
  · obtain ⟨t, e⟩ := hP
    have e' : v = .int (i : Int) t := by rw [e, Int.zero_add]
    rw [e'] at hx
    exact turn i t I oI C oC D m₂ ys news h tk E' hi hJ hC hx F N off
  · exact fin D ys news h tk hJ F' N' (off1_all off)
end
end
section
example : True := by
  w_top off
  k_with_none
  k_with "omega" => lia
  trivial
noncomputable abbrev Mix := Str ⊕ Int
section
variable {prog : Program} {w : World} {A : Around} {E : Value → Shared → Prop} {s : Shared}
theorem eqBool_mix {u v : Value} {Q : Bool → Shared → Prop} (h1 : (u == v) = false) (h2 : ∀ a t, u ≠ .float a t) (h : wpAny (model prog w) A (richCompare .Eq u v) (fun r s' => r = .bool false ∧ Q false s') E s) :
    wpAny (model prog w) A (PySem.eqBool u v) Q E s := by
  unfold PySem.eqBool
  try with_reducible refine wpAny_holding ?_
  rw [h1]
  simp only [Bool.false_eq_true, if_false]
  have fin : wpAny (model prog w) A (richCompare .Eq u v >>= truthOfDropped) Q E s :=
    wpAny_bind (wpAny_mono h (fun r s' hr => by obtain ⟨rfl, hq⟩ := hr; exact wpAny_truthy_bool hq) fun _ _ e => e)
  cases u <;> first | exact fin | exact absurd rfl (h2 _ _)
end
noncomputable def mixIs : Mix → Value → Bool
  | .inl x, v => Value.isStrOf x v
  | .inr i, v => Value.isInt i v
noncomputable def mixKind (prog : Program) (w : World) : PySem.KeyKind prog w Mix where
  is := mixIs
  hash := fun k => match k with | .inl x => hashStr w x | .inr i => hashInt i
  inj := fun v a b ha hb => by
    cases a <;> cases b <;> simp only [mixIs] at ha hb
    · rw [Value.isStrOf_inj _ _ _ ha hb]
    · obtain ⟨t, rfl⟩ := Value.isStrOf_shape ha
      simp [Value.isInt] at hb
    · obtain ⟨t, rfl⟩ := Value.isInt_shape ha
      simp [Value.isStrOf] at hb
    · rw [Value.isInt_inj _ _ _ ha hb]
  byValue := fun k v h => by
    cases k <;> simp only [mixIs] at h
    · obtain ⟨t, rfl⟩ := Value.isStrOf_shape h; rfl
    · obtain ⟨t, rfl⟩ := Value.isInt_shape h; rfl
  pyHash := fun {A E s k v Q} hv h => by
    cases k <;> simp only [mixIs] at hv
    · obtain ⟨t, rfl⟩ := Value.isStrOf_shape hv; exact wpAny_pyHash_str h
    · obtain ⟨t, rfl⟩ := Value.isInt_shape hv; exact wpAny_pyHash_int h
  eqBool := fun {A E s a b u v Q} hu hv h => by
    cases a <;> cases b <;> simp only [mixIs] at hu hv
    · obtain ⟨t, rfl⟩ := Value.isStrOf_shape hu
      obtain ⟨t', rfl⟩ := Value.isStrOf_shape hv
      exact wpAny_eqBool_str (by simpa using h)
    · obtain ⟨t, rfl⟩ := Value.isStrOf_shape hu
      obtain ⟨t', rfl⟩ := Value.isInt_shape hv
      exact eqBool_mix rfl (fun _ _ e => nomatch e) (EqMixed.eq_str_int ⟨rfl, by simpa using h⟩)
    · obtain ⟨t, rfl⟩ := Value.isInt_shape hu
      obtain ⟨t', rfl⟩ := Value.isStrOf_shape hv
      exact eqBool_mix rfl (fun _ _ e => nomatch e) (EqMixed.eq_int_str ⟨rfl, by simpa using h⟩)
    · obtain ⟨t, rfl⟩ := Value.isInt_shape hu
      obtain ⟨t', rfl⟩ := Value.isInt_shape hv
      refine wpAny_eqBool_int ?_
      simp only [Sum.inr.injEq] at h
      exact h
  «strs» := fun k x t v h => by
    cases k <;> simp only [mixIs] at h
    · obtain ⟨u, hu⟩ := Value.isStrOf_shape h
      injection hu with hx
      subst hx
      cases v <;> rfl
    · simp [Value.isInt] at h

noncomputable abbrev tupK (prog : Program) (w : World) : HeapKind prog w (List Mix) := tupleKind (mixKind prog w)
/-- a tuple of texts and ints in the ledger -/
noncomputable def TupIn (prog : Program) (w : World) (a : Addr) (k : List Mix) (l : Led) : Prop := ∃ items n, (a, tupOf items n) ∈ l ∧ ItemsAre (mixKind prog w) k items.toList
theorem TupIn.key {prog : Program} {w : World} {a : Addr} {k : List Mix} {l : Led} {h₀ h : Heap} {L : Addr} (T : TupIn prog w a k l) (N : News h₀ L h l) : (tupK prog w).is h k a := by
  obtain ⟨items, n, hm, hi⟩ := T
  exact ⟨_, items, n, (N _ hm).1, rfl, rfl, hi⟩
theorem TupIn.mono {prog : Program} {w : World} {a : Addr} {k : List Mix} {l l' : Led} (T : TupIn prog w a k l) (h : ∀ p ∈ l, p.1 = a → p ∈ l') : TupIn prog w a k l' := by
  obtain ⟨items, n, hm, hi⟩ := T
  exact ⟨items, n, h _ hm rfl, hi⟩

noncomputable abbrev Ents := List (List Mix × Addr × Value)
/-- a dict keyed by tuples -/
noncomputable def DH (prog : Program) (w : World) (d : Addr) (xs : Ents) (l : Led) : Prop :=
  (d == sysModules) = false ∧ ∃ o es ep, (d, o) ∈ l ∧ o.ExactDict ∧ o.data = .dict es ep ∧ es.toList = xs.map (entryOfKey (tupK prog w)) ∧ (xs.map (·.1)).Nodup ∧ ∀ x ∈ xs, TupIn prog w x.2.1 x.1 l
noncomputable def entAddrs (xs : Ents) : List Addr := xs.map fun x => x.2.1
theorem DH.move {prog : Program} {w : World} {d : Addr} {xs : Ents} {l l' : Led} (H : DH prog w d xs l) (h : ∀ p ∈ l, (p.1 = d ∨ p.1 ∈ entAddrs xs) → p ∈ l') : DH prog w d xs l' := by
  obtain ⟨a, o, es, ep, hm, b, c, e, f, g⟩ := H
  exact ⟨a, o, es, ep, h _ hm (.inl rfl), b, c, e, f, fun x hx => (g x hx).mono fun p hp e => h p hp (.inr (e ▸ List.mem_map_of_mem hx))⟩
theorem DH.of {prog : Program} {w : World} {d : Addr} {xs : Ents} {l : Led} {h₀ h : Heap} {L : Addr} (H : DH prog w d xs l) (N : News h₀ L h l) : h.DictOfH (tupK prog w) d xs := by
  obtain ⟨a, o, es, ep, hm, b, c, e, f, g⟩ := H
  exact ⟨o, es, ep, (N _ hm).1, b, c, e, fun x hx => (g x hx).key N, f⟩
theorem DH.obj {prog : Program} {w : World} {d : Addr} {xs : Ents} {l : Led} (H : DH prog w d xs l) : ∃ o, (d, o) ∈ l := let ⟨_, o, _, _, hm, _⟩ := H; ⟨o, hm⟩
section
variable {prog : Program} {w : World} {A : Around} {E : Value → Shared → Prop} {s : Shared} {h₀ : Heap} {L d a : Addr} {m : Str → Option Value} {news : Led} {k : List Mix} {xs : Ents}
theorem DH.after {h' : Heap} {xs' : Ents} (H : DH prog w d xs news) (N : News h₀ L s.heap news) (F : Fr h₀ L s.heap m) (hm : h'.DictOfH (tupK prog w) d xs') (hs : Heap.SameBut d s.heap h') (hx : ∀ x ∈ xs', TupIn prog w x.2.1 x.1 news) :
    ∃ o', Fr h₀ L h' m ∧ News h₀ L h' (setL d o' news) ∧ DH prog w d xs' (setL d o' news) := by
  obtain ⟨lo, o, es, ep, hm0, b, c, e, f, g⟩ := H
  obtain ⟨o', es', ep', ho', b', c', e', g', f'⟩ := hm
  have z := N _ hm0
  refine ⟨o', F.change hs z.2.1 z.2.2, N.replace hs ho', lo, o', es', ep', mem_setL_self hm0, b', c', e', f', fun x hx' => (hx x hx').mono fun p hp e => mem_setL_ne' hp fun q => ?_⟩
  obtain ⟨items, n, hmx, _⟩ := hx x hx'
  have h1 := (N _ hmx).1
  rw [← e, q] at h1
  have h2 : tupOf items n = o := Option.some.inj (h1.symm.trans z.1)
  rw [← h2] at c
  cases c
theorem dh_in {Q : Value → Shared → Prop} (hu : A.units + 1 < cLine) (N : News h₀ L s.heap news) (H : DH prog w d xs news) (T : TupIn prog w a k news) (h : ∀ tk, Q (.bool (atKey xs k).isSome) { s with toks := tk }) :
    wpAny (model prog w) A (compareOp .In (.ref a) (.ref d)) Q E s := wpAny_in_heap (knd := tupK prog w) (tupleKind_room_in1 hu) (T.key N) H.1 (H.of N) (h _)
theorem dh_item {Q : Value → Shared → Prop} {value slice : Expr} {p : Addr × Value} (hu : A.units + 1 < cLine) (N : News h₀ L s.heap news) (H : DH prog w d xs news) (T : TupIn prog w a k news) (hp : atKey xs k = some p) (h : ∀ tk, Q p.2 { s with toks := tk })
    (hs : subscripted slice false (.ref d) (.ref a) = operate [.ref d, .ref a] (getItem (.ref d) (.ref a)) := by with_unfolding_all rfl) :
    wpAny (model prog w) A (subscriptTail value slice (.ref d) (.ref a)) Q E s :=
  tail_any (H.of N).typeIs slot_dict_getitem.lookup (wpAny_getItem_heap (knd := tupK prog w) (tupleKind_room_in1 hu) (T.key N) (H.of N) hp (h _)) hs
theorem dh_get2 {Q : Value → Shared → Prop} {dflt : Value} (hu : A.units + 1 < cLine) (N : News h₀ L s.heap news) (H : DH prog w d xs news) (T : TupIn prog w a k news) (h : ∀ tk, Q (((atKey xs k).map (·.2)).getD dflt) { s with toks := tk }) :
    wpAny (model prog w) A (call (.builtin "dict.get") [.ref d, .ref a, dflt]) Q E s :=
  call_meetsIn PySem.F.slot_dict_get (H.of N).typeIs PySem.F.entry_dict_get (PySem.F.args_dict_get_3 _ _ _) (meetsH_dict_get_default (tupK prog w) d a H.1 dflt) ⟨tupleKind_room_in1 hu, k, xs, T.key N, H.of N, h _⟩
theorem dh_set {Q : Unit → Shared → Prop} {v : Value} (hu : A.units + 1 < cLine) (F : Fr h₀ L s.heap m) (N : News h₀ L s.heap news) (H : DH prog w d xs news) (T : TupIn prog w a k news) (hz : xs.length < 100000)
    (h : ∀ h' tk o', Fr h₀ L h' m → News h₀ L h' (setL d o' news) → DH prog w d (storedH xs k a v) (setL d o' news) → Q () { s with heap := h', toks := tk }) :
    wpAny (model prog w) A (setItem (.ref d) (.ref a) v) Q E s := by
  refine wpAny_setItem_heap (knd := tupK prog w) (tupleKind_room_in1 hu) (T.key N) (H.of N) (fun h' hm hs => ?_) (by rw [sizeLine_eq]; omega)
  obtain ⟨o', F', N', H'⟩ := H.after N F hm hs fun x hx => by
    obtain ⟨_, _, _, _, _, _, _, _, _, g⟩ := H
    unfold storedH at hx
    split at hx
    · obtain ⟨y, hy, rfl⟩ := List.mem_map.mp hx
      unfold putAt
      split
      · exact g y hy
      · exact g y hy
    · rcases List.mem_append.mp hx with hx | hx
      · exact g x hx
      · rw [List.mem_singleton.mp hx]; exact T
  exact h h' _ o' F' N' H'

theorem dictSetDefault_heap {dflt : Value} {Q : Value → Shared → Prop} (hu : A.units < cLine) (hkey : (tupK prog w).is s.heap k a) (hm : s.heap.DictOfH (tupK prog w) d xs) (hsz : xs.length < 100000)
    (h1 : ∀ p, atKey xs k = some p → ∀ tk, Q p.2 { s with toks := tk })
    (h2 : atKey xs k = none → ∀ h', h'.DictOfH (tupK prog w) d (xs ++ [(k, a, dflt)]) → Heap.SameBut d s.heap h' → ∀ tk, Q dflt { s with heap := h', toks := tk }) :
    wpAny (model prog w) A (dictSetDefault d (.ref a) dflt) Q E s := by
  obtain ⟨o, es, ep, ho, hc, hd, he, his, hn⟩ := hm
  unfold dictSetDefault
  try with_reducible refine wpAny_holding ?_
  refine wpAny_bind ((tupK prog w).pyHash hu hkey ?_)
  refine wpAny_bind (wpAny_dictFind_heap (knd := tupK prog w) (s := { s with toks := s.toks + (tupK prog w).draws k }) hu hkey ho hd he his hn ?_ ?_)
  · intro hno
    have hnot : k ∉ xs.map (·.1) := not_mem_keys_of_get hno
    refine wpAny_bind (wpAny_rule (wpAny_bind (wpAny_updateDictKeys (hz := by have e := size_of_entries he; rw [sizeLine_eq]; omega) (s := { s with toks := s.toks + (tupK prog w).draws k }) ho hd (wpAny_pure (h2 (atKey_none_of_get hno) _ ⟨_, _, ep + 1, Heap.get?_update_self _ ho (Obj.isFreed_of_dict (Obj.data_mapDictKeys hd _)),
      hc.mapDictKeys _, Obj.data_mapDictKeys hd _, ?_, ?_, ?_⟩ (Heap.SameBut.update ..) _)))))
    · simp [he, entryOfKey]
    · intro x hx
      rcases List.mem_append.mp hx with hx | hx
      · exact (tupK prog w).keeps (his x hx) ho hd (Heap.SameBut.update ..)
      · simp only [List.mem_singleton] at hx
        subst hx
        exact (tupK prog w).keeps hkey ho hd (Heap.SameBut.update ..)
    · rw [List.map_append, List.nodup_append]
      refine ⟨hn, by simp, ?_⟩
      intro x hx y hy
      simp only [List.map_cons, List.map_nil, List.mem_singleton] at hy
      subst hy
      exact fun e => hnot (e ▸ hx)
  · intro j p hj
    refine wpAny_bind (wpAny_dictEntries (s := { s with toks := s.toks + (tupK prog w).draws k }) ho hd ?_)
    have e1 : es[j]? = some (entryOfKey (tupK prog w) (k, p)) := by
      rw [entry_at he j, hj]; rfl
    rw [e1]
    exact wpAny_bind (wpAny_rule (wpAny_pure (h1 p (atKey_of_get hn hj) _)))
theorem dh_setdefault {dflt : Value} {Q : Value → Shared → Prop} (hu : A.units + 1 < cLine) (F : Fr h₀ L s.heap m) (N : News h₀ L s.heap news) (H : DH prog w d xs news) (T : TupIn prog w a k news) (hz : xs.length < 100000)
    (hargs : argsOk "dict.setdefault" ⟨[.ref d, .ref a, dflt], []⟩)
    (h1 : ∀ p, atKey xs k = some p → ∀ tk, Q p.2 { s with toks := tk })
    (h2 : atKey xs k = none → ∀ h' tk o', Fr h₀ L h' m → News h₀ L h' (setL d o' news) → DH prog w d (xs ++ [(k, a, dflt)]) (setL d o' news) → Q dflt { s with heap := h', toks := tk }) :
    wpAny (model prog w) A (call (.builtin "dict.setdefault") [.ref d, .ref a, dflt]) Q E s := by
  have M : MeetsIn prog w (Builtin.«dict.setdefault» ⟨[.ref d, .ref a, dflt], []⟩) (fun A R s => A.units + 1 < cLine ∧ (tupK prog w).is s.heap k a ∧ s.heap.DictOfH (tupK prog w) d xs ∧
      (∀ p, atKey xs k = some p → ∀ tk, R (.ok (.ret p.2)) { s with toks := tk }) ∧
      (atKey xs k = none → ∀ h', h'.DictOfH (tupK prog w) d (xs ++ [(k, a, dflt)]) → Heap.SameBut d s.heap h' → ∀ tk, R (.ok (.ret dflt)) { s with heap := h', toks := tk })) :=
    .of_wp fun A R s ⟨hu, hk, hm, h1, h2⟩ => by
      unfold Builtin.«dict.setdefault»
      refine wpAny_bind ?_
      unfold Builtin.Dict.keyAndDefault
      refine wpAny_bind (wpAny_notOrdered_dict hm.typeIs ?_)
      show wpAny _ _ (pure (d, Value.ref a, some dflt)) _ _ s
      refine wpAny_pure ?_
      show wpAny _ _ (if (d == sysModules) = true then _ else (dictSetDefault d (.ref a) dflt >>= _)) _ _ s
      rw [if_neg (by rw [H.1]; exact Bool.false_ne_true)]
      exact wpAny_bind (dictSetDefault_heap hu hk hm hz (fun p hp tk => wpAny_pure ⟨p.2, rfl, h1 p hp tk⟩) fun hn h' hm' hs' tk => wpAny_pure ⟨dflt, rfl, h2 hn h' hm' hs' tk⟩)
  refine call_meetsIn PySem.F.slot_dict_setdefault (H.of N).typeIs PySem.F.entry_dict_setdefault hargs M ⟨hu, T.key N, H.of N, h1, fun hn h' hm hs tk => ?_⟩
  obtain ⟨o', F', N', H'⟩ := H.after N F hm hs fun x hx => by
    obtain ⟨_, _, _, _, _, _, _, _, _, g⟩ := H
    rcases List.mem_append.mp hx with hx | hx
    · exact g x hx
    · rw [List.mem_singleton.mp hx]; exact T
  exact h2 hn h' tk o' F' N' H'
theorem dh_new {Q : Value → Shared → Prop} {env : Env} {pos : Pos} (F : Fr h₀ L s.heap m) (N : News h₀ L s.heap news) (hbig : h₀.NoLimit)
    (h : ∀ d h' o, Fr h₀ L h' m → News h₀ L h' ((d, o) :: news) → (∀ p ∈ news, p.1 < d) → (d == sysModules) = false → o.IsDictOf (PySem.intKind prog w) [] → DH prog w d [] ((d, o) :: news) → Q (.ref d) { s with heap := h' }) :
    wpAny (model prog w) A (eval (.Dict [] [] pos) env) Q E s := by
  refine newDict_K F N hbig fun d h' o F' N' l1 lo hs' fs' hi' fi' => h d h' o F' N' l1 lo hi' ?_
  obtain ⟨es, ep, hc, hd, _, hp, _⟩ := hi'
  have he : es.toList = [] := List.length_eq_zero_iff.mp hp.length
  exact ⟨lo, o, es, ep, .head _, hc, hd, by rw [he]; rfl, List.nodup_nil, fun x hx => absurd hx List.not_mem_nil⟩
end
end
section
example : True := by
  w_top off
  k_with_none
  k_with "omega" => lia
  trivial
section
variable {K : Type} [DecidableEq K]
theorem valueAt_cons (x : K × Value) (r : List (K × Value)) (k : K) : valueAt (x :: r) k = if x.1 = k then some x.2 else valueAt r k := by
  unfold valueAt
  rw [List.find?_cons]
  by_cases h : x.1 = k <;> simp [h]
theorem valueAt_append (l r : List (K × Value)) (k : K) : valueAt (l ++ r) k = (valueAt l k).or (valueAt r k) := by
  induction l with
  | nil => simp [valueAt]
  | cons x l ih =>
    rw [List.cons_append, valueAt_cons, valueAt_cons, ih]
    by_cases h : x.1 = k <;> simp [h]
theorem valueAt_none {kvs : List (K × Value)} {k : K} (h : valueAt kvs k = none) : (kvs.any fun kv => kv.1 = k) = false := by
  induction kvs with
  | nil => rfl
  | cons x l ih =>
    rw [valueAt_cons] at h
    by_cases hx : x.1 = k
    · simp [hx] at h
    · simp only [hx, if_false] at h
      rw [List.any_cons, ih h]; simp [hx]
theorem valueAt_some {kvs : List (K × Value)} {k : K} {v : Value} (h : valueAt kvs k = some v) : (kvs.any fun kv => kv.1 = k) = true := by
  induction kvs with
  | nil => simp [valueAt] at h
  | cons x l ih =>
    rw [valueAt_cons] at h
    by_cases hx : x.1 = k
    · simp [hx]
    · simp only [hx, if_false] at h
      rw [List.any_cons, ih h]; simp
theorem valueAt_put (kvs : List (K × Value)) (k : K) (v : Value) (j : K) : valueAt (kvs.map (fun kv => if kv.1 = k then (kv.1, v) else kv)) j = if j = k then (if (valueAt kvs j).isSome then some v else none) else valueAt kvs j := by
  induction kvs with
  | nil => simp [valueAt]
  | cons x l ih =>
    rw [List.map_cons, valueAt_cons, valueAt_cons, ih]
    by_cases hx : x.1 = k
    · by_cases hj : j = k
      · subst hj; simp [hx]
      · have : ¬ k = j := fun e => hj e.symm
        simp [hx, hj, this]
    · by_cases hj : j = k
      · subst hj; simp [hx]
      · simp [hx, hj]
theorem valueAt_stored (kvs : List (K × Value)) (k : K) (v : Value) (j : K) : valueAt (stored kvs k v) j = if j = k then some v else valueAt kvs j := by
  unfold stored
  cases h : valueAt kvs k with
  | none =>
    rw [valueAt_none h]
    simp only [Bool.false_eq_true, if_false]
    rw [valueAt_append, valueAt_cons]
    by_cases hj : j = k
    · subst hj; simp [h]
    · have : ¬ k = j := fun e => hj e.symm
      simp [hj, this, valueAt]
  | some u =>
    rw [valueAt_some h]
    simp only [if_true]
    rw [valueAt_put]
    by_cases hj : j = k
    · subst hj; simp [h]
    · simp [hj]
theorem valueAt_without (kvs : List (K × Value)) (k : K) (j : K) : valueAt (without kvs k) j = if j = k then none else valueAt kvs j := by
  unfold without
  induction kvs with
  | nil => simp [valueAt]
  | cons x l ih =>
    by_cases hx : x.1 = k
    · rw [List.filter_cons_of_neg (by simp [hx]), ih, valueAt_cons]
      by_cases hj : j = k
      · simp [hj]
      · have : ¬ k = j := fun e => hj e.symm
        simp [hj, hx, this]
    · rw [List.filter_cons_of_pos (by simp [hx]), valueAt_cons, valueAt_cons, ih]
      by_cases hj : j = k
      · subst hj; simp [hx]
      · simp [hj]
theorem stored_len_new {kvs : List (K × Value)} {k : K} {v : Value} (h : valueAt kvs k = none) : (stored kvs k v).length = kvs.length + 1 := by
  unfold stored; rw [valueAt_none h]; simp
theorem stored_len_old {kvs : List (K × Value)} {k : K} {v u : Value} (h : valueAt kvs k = some u) : (stored kvs k v).length = kvs.length := by
  unfold stored; rw [valueAt_some h]; simp
end
/-- a dict of ints to objects, as a function -/
noncomputable def DI (prog : Program) (w : World) (d : Addr) (N : Nat) (f : Int → Option Addr) (l : Led) : Prop :=
  (d == sysModules) = false ∧ ∃ o kvs, (d, o) ∈ l ∧ o.IsDictOf (PySem.intKind prog w) kvs ∧ kvs.length ≤ N ∧ ∀ k, valueAt kvs k = (f k).map Value.ref
theorem DI.move {prog : Program} {w : World} {d : Addr} {n : Nat} {f : Int → Option Addr} {l l' : Led} (H : DI prog w d n f l) (h : ∀ p ∈ l, p.1 = d → p ∈ l') : DI prog w d n f l' := by
  obtain ⟨a, o, kvs, hm, r⟩ := H
  exact ⟨a, o, kvs, h _ hm rfl, r⟩
theorem DI.obj {prog : Program} {w : World} {d : Addr} {n : Nat} {f : Int → Option Addr} {l : Led} (H : DI prog w d n f l) : ∃ o, (d, o) ∈ l := let ⟨_, o, _, hm, _⟩ := H; ⟨o, hm⟩
theorem DI.mono {prog : Program} {w : World} {d : Addr} {n n' : Nat} {f : Int → Option Addr} {l : Led} (H : DI prog w d n f l) (h : n ≤ n') : DI prog w d n' f l := by
  obtain ⟨a, o, kvs, hm, b, c, e⟩ := H
  exact ⟨a, o, kvs, hm, b, Nat.le_trans c h, e⟩
section
variable {prog : Program} {w : World} {A : Around} {E : Value → Shared → Prop} {s : Shared} {h₀ : Heap} {L d a : Addr} {m : Str → Option Value} {news : Led} {k : Int} {t : Tok} {n : Nat} {f : Int → Option Addr}
theorem DI.of (H : DI prog w d n f news) (N : News h₀ L s.heap news) : ∃ kvs, s.heap.DictOf (PySem.intKind prog w) d kvs ∧ kvs.length ≤ n ∧ ∀ k, valueAt kvs k = (f k).map Value.ref := by
  obtain ⟨a, o, kvs, hm, b, c, e⟩ := H
  exact ⟨kvs, Heap.dictOf_iff.mpr ⟨o, (N _ hm).1, b⟩, c, e⟩
theorem DI.after {h' : Heap} {kvs' : List (Int × Value)} {n' : Nat} {f' : Int → Option Addr} (H : DI prog w d n f news) (N : News h₀ L s.heap news) (F : Fr h₀ L s.heap m) (hm : h'.DictOf (PySem.intKind prog w) d kvs') (hs : Heap.SameBut d s.heap h') (hl : kvs'.length ≤ n') (hf : ∀ k, valueAt kvs' k = (f' k).map Value.ref) :
    ∃ o', Fr h₀ L h' m ∧ News h₀ L h' (setL d o' news) ∧ DI prog w d n' f' (setL d o' news) := by
  obtain ⟨lo, o, kvs, hm0, b, c, e⟩ := H
  obtain ⟨o', ho', hd'⟩ := Heap.dictOf_iff.mp hm
  have z := N _ hm0
  exact ⟨o', F.change hs z.2.1 z.2.2, N.replace hs ho', lo, o', kvs', mem_setL_self hm0, hd', hl, hf⟩
theorem di_item {Q : Value → Shared → Prop} {value slice : Expr} (N : News h₀ L s.heap news) (H : DI prog w d n f news) (hp : f k = some a) (h : ∀ tk, Q (.ref a) { s with toks := tk })
    (hs : subscripted slice false (.ref d) (.int k t) = operate [.ref d, .int k t] (getItem (.ref d) (.int k t)) := by with_unfolding_all rfl) :
    wpAny (model prog w) A (subscriptTail value slice (.ref d) (.int k t)) Q E s := by
  obtain ⟨kvs, hD, _, hv⟩ := H.of N
  exact tail_any hD.typeIs slot_dict_getitem.lookup (wpAny_getItem_of (knd := PySem.intKind prog w) (PySem.intKind_is prog w k t) hD.mapOf (by rw [hv, hp]; rfl) (h _)) hs
theorem di_set {Q : Unit → Shared → Prop} {n' : Nat} (F : Fr h₀ L s.heap m) (N : News h₀ L s.heap news) (H : DI prog w d n f news) (hz : n < 100000) (hn : (f k = none ∧ n' = n + 1) ∨ (f k ≠ none ∧ n' = n))
    (h : ∀ h' tk o', Fr h₀ L h' m → News h₀ L h' (setL d o' news) → DI prog w d n' (fun j => if j = k then some a else f j) (setL d o' news) → Q () { s with heap := h', toks := tk }) :
    wpAny (model prog w) A (setItem (.ref d) (.int k t) (.ref a)) Q E s := by
  obtain ⟨kvs, hD, hl, hv⟩ := H.of N
  refine wpAny_setItem_pairs (knd := PySem.intKind prog w) (PySem.intKind_is prog w k t) hD (fun h' hm hs => ?_) (by rw [sizeLine_eq]; omega)
  obtain ⟨o', F', N', H'⟩ := H.after (f' := fun j => if j = k then some a else f j) (n' := n') N F hm hs (by
      rcases hn with ⟨h1, rfl⟩ | ⟨h1, rfl⟩
      · rw [stored_len_new (by rw [hv, h1]; rfl)]; omega
      · obtain ⟨u, hu⟩ := Option.ne_none_iff_exists'.mp h1
        rw [stored_len_old (u := .ref u) (by rw [hv, hu]; rfl)]; exact hl) (fun j => by
      rw [valueAt_stored, hv]
      by_cases hj : j = k <;> simp [hj])
  exact h h' _ o' F' N' H'
theorem di_pop {Q : Value → Shared → Prop} (F : Fr h₀ L s.heap m) (N : News h₀ L s.heap news) (H : DI prog w d n f news) (hz : n < 100000) (hp : f k = some a)
    (h : ∀ h' tk o', Fr h₀ L h' m → News h₀ L h' (setL d o' news) → DI prog w d n (fun j => if j = k then none else f j) (setL d o' news) → Q (.ref a) { s with heap := h', toks := tk }) :
    wpAny (model prog w) A (call (.builtin "dict.pop") [.ref d, .int k t]) Q E s := by
  obtain ⟨kvs, hD, hl, hv⟩ := H.of N
  refine call_meetsIn PySem.F.slot_dict_pop hD.typeIs PySem.F.entry_dict_pop (PySem.F.args_dict_pop_2 _ _) (meets_dict_pop_there (PySem.intKind prog w) d (PySem.intKind_is prog w k t) [] (.inl rfl) rfl) ⟨kvs, .ref a, hD, by rw [sizeLine_eq]; omega, by rw [hv, hp]; rfl, fun h' hm hs => ?_⟩
  obtain ⟨o', F', N', H'⟩ := H.after (f' := fun j => if j = k then none else f j) (n' := n) N F hm hs (by
      unfold without
      exact Nat.le_trans (List.length_filter_le ..) hl) (fun j => by
      rw [valueAt_without, hv]
      by_cases hj : j = k <;> simp [hj])
  exact h h' _ o' F' N' H'
theorem di_method {pl : Sem Bool} {Q : Value × List Value → Shared → Prop} {name : Str} {id : String} (slot : Slot "dict" name id) (hty : typeOf (.builtin id) = pure (.type "method_descriptor")) (N : News h₀ L s.heap news) (H : DI prog w d n f news) (h : Q (.builtin id, [.ref d]) s) :
    wpAny (model prog w) A (getMethod (.ref d) name pl) Q E s := by
  obtain ⟨kvs, hD, _⟩ := H.of N
  exact getMethod_builtin hD.typeIs PySem.F.plainAttrs_dict slot hty hD.mapOf.noDict h
theorem dh_method {pl : Sem Bool} {xs : Ents} {Q : Value × List Value → Shared → Prop} {name : Str} {id : String} (slot : Slot "dict" name id) (hty : typeOf (.builtin id) = pure (.type "method_descriptor")) (N : News h₀ L s.heap news) (H : DH prog w d xs news) (h : Q (.builtin id, [.ref d]) s) :
    wpAny (model prog w) A (getMethod (.ref d) name pl) Q E s :=
  getMethod_builtin (H.of N).typeIs PySem.F.plainAttrs_dict slot hty (dictOfH_noDict (H.of N)) h
end
end
section
open PyProof.Rows.LCg
example : True := by
  w_top off
  k_with_none
  k_with "omega" => lia
  trivial
section
variable {prog : Program} {w : World} {A : Around} {E : Value → Shared → Prop} {s s₁ : Shared} {h₀ : Heap} {L : Addr} {m : Str → Option Value} {env : Env} {elt ct : Expr} {x : Str} {scope : Scope} {cl : List (Str × Addr)} {news : Led} {Q : Value → Shared → Prop} {t b D : Addr} {vs vs2 : List Value} {n n2 : Nat}
theorem is_tupN (N : News h₀ L s.heap news) (hm : (t, tupOf vs.toArray n) ∈ news) : IsTup s.heap t vs.toArray := ⟨_, (N _ hm).1, rfl, n, rfl⟩
theorem tup_same (N : News h₀ L s.heap news) (hm : (t, tupOf vs.toArray n) ∈ news) (h : Q (.ref t) s) : wpAny (model prog w) A (call (.type "tuple") [.ref t]) Q E s := call_tuple_same (is_tupN N hm) h
theorem tup_list (F : Fr h₀ L s.heap m) (N : News h₀ L s.heap news) (hm : (t, PySem.W.listOf vs.toArray n) ∈ news) (hz : vs.length < 10000)
    (h : ∀ D h', Fr h₀ L h' m → News h₀ L h' ((D, tupOf vs.toArray 0) :: news) → (∀ p ∈ news, p.1 < D) → Q (.ref D) { s with heap := h' }) : wpAny (model prog w) A (call (.type "tuple") [.ref t]) Q E s :=
  kde_tupleOf F N (is_listN N hm) (by rw [List.size_toArray]; omega) rfl h
theorem tup_add0 (F : Fr h₀ L s.heap m) (N : News h₀ L s.heap news) (hm : (t, tupOf vs.toArray n) ∈ news) (hb : (b, tupOf #[] n2) ∈ news) (hv : vs ≠ []) (hz : vs.length < 10000) (h : Q (.ref t) s) : wpAny (model prog w) A (binaryOp .Add (.ref t) (.ref b)) Q E s :=
  kde_addT1 F N (is_tupN N hm) (is_tupN (vs := []) N hb) hv rfl (by show vs.length + 0 ≤ 16384; omega) h
theorem tup_add (F : Fr h₀ L s.heap m) (N : News h₀ L s.heap news) (hm : (t, tupOf vs.toArray n) ∈ news) (hb : (b, tupOf vs2.toArray n2) ∈ news) (hv : vs ≠ []) (hw : vs2 ≠ []) (hz : vs.length < 5000) (hz2 : vs2.length < 5000)
    (h : ∀ D h', Fr h₀ L h' m → News h₀ L h' ((D, tupOf (vs ++ vs2).toArray 0) :: news) → (∀ p ∈ news, p.1 < D) → Q (.ref D) { s with heap := h' }) : wpAny (model prog w) A (binaryOp .Add (.ref t) (.ref b)) Q E s :=
  kde_addT F N (is_tupN N hm) (is_tupN N hb) hv hw (by show vs.length + vs2.length ≤ 16384; omega) rfl h
theorem tup_slice1 {value slice : Expr} {v0 : Value} {u : Tok} (F : Fr h₀ L s.heap m) (N : News h₀ L s.heap news) (hm : (t, tupOf (v0 :: vs).toArray n) ∈ news) (hz : vs.length < 10000)
    (h : ∀ D h', Fr h₀ L h' m → News h₀ L h' ((D, tupOf vs.toArray 0) :: news) → (∀ p ∈ news, p.1 < D) → Q (.ref D) { s with heap := h' })
    (hs : subscripted slice false (.ref t) (.ref s.heap.objs.size) = operate [.ref s.heap.objs.size, .ref t] (getItem (.ref t) (.ref s.heap.objs.size)) := by with_unfolding_all rfl) :
    wpAny (model prog w) A (subscriptTail value slice (.ref t) (.ref s.heap.objs.size)) Q E { s with heap := s.heap.push { cls := .type "slice", data := .fields #[.int 1 u, .none, .none] } } := by
  have ht := is_tupN N hm
  have ht' : IsTup (s.heap.push { cls := .type "slice", data := .fields #[.int 1 u, .none, .none] }) t (v0 :: vs).toArray := ht.keeps fun _ _ e => Heap.get?_push_of_some _ e
  have hz1 : (v0 :: vs).toArray.size ≤ sizeLine := by rw [List.size_toArray, List.length_cons, sizeLine_eq]; omega
  refine tail_any (s := { s with heap := s.heap.push { cls := .type "slice", data := .fields #[.int 1 u, .none, .none] } }) ht'.typeIs slot_tuple_getitem.lookup
    (getItem_tuple_from (a := 1) ht' (Heap.IsSliceOf.new ..) (Nat.le_refl _) (by rw [List.size_toArray, List.length_cons]; omega) ?_ hz1) hs
  have N1 := News.push (F.push { cls := .type "slice", data := .fields #[.int 1 u, .none, .none] }) (N.grown fun _ _ e => Heap.get?_push_of_some _ e) (tupOf vs.toArray 0)
  show Q (.ref (s.heap.push _).objs.size) _
  exact h _ _ ((F.push _).push _) N1 fun p hp => by rw [Heap.size_push]; exact Nat.lt_succ_of_lt (Heap.lt_size (N p hp).1)

/-- a comprehension over a tuple -/
noncomputable def TupSrc (prog : Program) (w : World) (A : Around) (h₀ : Heap) (L : Addr) (m : Str → Option Value) (env : Env) (elt : Expr) (x : Str) (scope : Scope) (cl : List (Str × Addr)) (Fin : Shared → List Value → Led → Prop) (xv : Value) (s₁ : Shared) : Prop :=
  ∃ ax vs n news, xv = .ref ax ∧ A.handled = none ∧ Fr h₀ L s₁.heap m ∧ News h₀ L s₁.heap news ∧ (ax, tupOf (List.toArray vs) n) ∈ news ∧ vs.length < 100000 ∧
    ∀ s₂ : Shared, (∃ h, s₂ = { s₁ with heap := h }) → CompRest prog w A h₀ L m env elt x scope cl s₂ (fun l => (ax, tupOf vs.toArray n) ∈ l) (fun i v => vs[i]? = some v) (Fin s₂) vs.length 0 [] news
noncomputable def Src3 (prog : Program) (w : World) (A : Around) (h₀ : Heap) (L : Addr) (m : Str → Option Value) (env : Env) (elt : Expr) (x : Str) (scope : Scope) (cl : List (Str × Addr)) (Fin : Shared → List Value → Led → Prop) (xv : Value) (s₁ : Shared) : Prop :=
  CompSrc prog w A h₀ L m env elt x scope cl Fin xv s₁ ∨ TupSrc prog w A h₀ L m env elt x scope cl Fin xv s₁
theorem ListComp_3 {iter : Expr} {px : Pos} {pos : Pos} (F₀ : Fr h₀ L s.heap m)
    (hclos : closureFor scope env = pure cl) (hcell : ∀ y ∈ scope.names, y.2 ≠ .cell) (hkind : scope.kind = .function)
    (hnames : ∀ y ∈ scope.names, y.2 = .local → scope.names.lookup y.1 = some .local) (hx : scope.names.lookup x = some .local)
    (h : wpAny (model prog w) A (eval iter env) (Src3 prog w A h₀ L m env elt x scope cl (fun s₂ => FinE h₀ L m s₂ Q)) E s)
    (hs : ∀ x, foldedSetIterable iter env x = pure x := by intro _; rfl) :
    wpAny (model prog w) A (eval (.ListComp elt [⟨.Name x px, iter, [], 0⟩] scope pos) env) Q E s := by
  rw [eval_ListComp]
  refine wpAny_comprehension_free (use := none) rfl hs hclos hkind hnames (wpAny_mono h (fun xv s₁ h₁ => ?_) fun _ _ e => e)
  rcases h₁ with (⟨ax, its, news, rfl, hh, F, N, S, hsz, R⟩ | ⟨r, a, b, t, u, v, n, news, rfl, hh, F, N, hr, hsm, hn, hsz, R⟩) | ⟨ax, vs, n, news, rfl, hh, F, N, hm, hsz, R⟩
  · have hl := S.list F.keep N
    have hlt : ax < s₁.heap.objs.size := by obtain ⟨_, e, _⟩ := hl; exact Heap.lt_size e
    refine wpAny_pyIter_list hl ?_
    have up : ∀ b o, s₁.heap.get? b = some o → (s₁.heap.push { cls := .type "list_iterator", data := .fields #[.ref ax, .int 0 0] }).get? b = some o := fun b o e => Heap.get?_push_of_some _ e
    refine block_U (Walks.list hh s₁.heap.objs.size ax (Nat.ne_of_lt hlt) its) hsz (fun i h st => by obtain ⟨o, e, _⟩ := st.1; exact ⟨o, e⟩) list_st hcell hkind hx ⟨⟨_, Heap.get?_push_size _ rfl, rfl, rfl⟩, hl.push _⟩ (fun b hb => ?_)
      (F.keeps up) (N.grown up) (Nat.ne_of_lt F.ns.lt) (next_is_new F) (fun p hp => Nat.ne_of_lt (Heap.lt_size (N p hp).1)) S (R _ ⟨_, rfl⟩) ?_
    · show b < (s₁.heap.push _).objs.size
      rw [Heap.size_push]
      rcases List.mem_cons.mp hb with rfl | hb
      · exact Nat.lt_succ_self _
      · rw [List.mem_singleton.mp hb]; exact Nat.lt_succ_of_lt hlt
    · intro D C h tk m' ys news' F' N' o1 hn hC₀ hD₀ hCL hDL hCD offC fin
      refine ⟨m', hn, fun h'' hs'' => fin D h'' tk (F'.change hs'' hCL hC₀) (fun p hp => ?_) o1⟩
      refine ⟨hs''.extBut _ _ ?_ (N' p hp).1, (N' p hp).2⟩
      rcases List.mem_cons.mp hp with rfl | hp
      · exact Ne.symm hCD
      · exact offC p hp
  · refine wpAny_pyIter_range hr hsm ?_
    refine block_U (range_walks hh a n) hsz (fun i h st => ⟨_, st⟩) range_st hcell hkind hx (by show IsRangeIter _ _ _ _ _; rw [hn]; simpa using Heap.get?_push_size _ rfl) (fun b hb => ?_)
      (F.keeps fun _ _ e => Heap.get?_push_of_some _ e) (N.grown fun _ _ e => Heap.get?_push_of_some _ e) (Nat.ne_of_lt F.ns.lt) (next_is_new F) (fun p hp => Nat.ne_of_lt (Heap.lt_size (N p hp).1)) trivial (R _ ⟨_, rfl⟩) ?_
    · rw [List.mem_singleton.mp hb]
      show s₁.heap.objs.size < (s₁.heap.push _).objs.size
      rw [Heap.size_push]; exact Nat.lt_succ_self _
    · intro D C h tk m' ys news' F' N' o1 hn hC₀ hD₀ hCL hDL hCD offC fin
      refine ⟨m', hn, fun h'' hs'' => fin D h'' tk (F'.change hs'' hCL hC₀) (fun p hp => ?_) o1⟩
      refine ⟨hs''.extBut _ _ ?_ (N' p hp).1, (N' p hp).2⟩
      rcases List.mem_cons.mp hp with rfl | hp
      · exact Ne.symm hCD
      · exact offC p hp
  · have hl : s₁.heap.IsTuple ax vs.toArray := ⟨_, (N _ hm).1, rfl, n, rfl⟩
    have hlt : ax < s₁.heap.objs.size := Heap.lt_size (N _ hm).1
    refine wpAny_pyIter_tuple hl ?_
    have up : ∀ b o, s₁.heap.get? b = some o → (s₁.heap.push { cls := .type "tuple_iterator", data := .fields #[.ref ax, .int 0 0] }).get? b = some o := fun b o e => Heap.get?_push_of_some _ e
    have st : ∀ i (h h' : Heap) (o : Obj) (nw : Led), (h.IsTupleIter s₁.heap.objs.size ax i ∧ h.IsTuple ax vs.toArray) → h.get? s₁.heap.objs.size = some o → h'.get? s₁.heap.objs.size = some o → (∀ b o, h₀.get? b = some o → h'.get? b = some o) → News h₀ L h' nw → (ax, tupOf vs.toArray n) ∈ nw → (h'.IsTupleIter s₁.heap.objs.size ax i ∧ h'.IsTuple ax vs.toArray) :=
      fun i h h' o nw st e e' k N S => ⟨by obtain ⟨o', q, r⟩ := st.1; rw [e] at q; cases q; exact ⟨o, e', r⟩, ⟨_, (N _ S).1, rfl, n, rfl⟩⟩
    have R' := R { s₁ with heap := s₁.heap.push { cls := .type "tuple_iterator", data := .fields #[.ref ax, .int 0 0] } } ⟨_, rfl⟩
    refine block_U (n := vs.toArray.size) (P := fun i v => vs.toArray[i]? = some v) (Walks.tuple hh s₁.heap.objs.size ax (Nat.ne_of_lt hlt) vs.toArray) (by rw [List.size_toArray, sizeLine_eq]; omega) (fun i h st => by obtain ⟨o, e, _⟩ := st.1; exact ⟨o, e⟩) st hcell hkind hx ⟨⟨_, Heap.get?_push_size _ rfl, rfl, rfl⟩, ⟨_, up _ _ (N _ hm).1, rfl, n, rfl⟩⟩ (fun b hb => ?_)
      (F.keeps up) (N.grown up) (Nat.ne_of_lt F.ns.lt) (next_is_new F) (fun p hp => Nat.ne_of_lt (Heap.lt_size (N p hp).1)) hm (by simpa using R') ?_
    · show b < (s₁.heap.push _).objs.size
      rw [Heap.size_push]
      rcases List.mem_cons.mp hb with rfl | hb
      · exact Nat.lt_succ_self _
      · rw [List.mem_singleton.mp hb]; exact Nat.lt_succ_of_lt hlt
    · intro D C h tk m' ys news' F' N' o1 hn hC₀ hD₀ hCL hDL hCD offC fin
      refine ⟨m', hn, fun h'' hs'' => fin D h'' tk (F'.change hs'' hCL hC₀) (fun p hp => ?_) o1⟩
      refine ⟨hs''.extBut _ _ ?_ (N' p hp).1, (N' p hp).2⟩
      rcases List.mem_cons.mp hp with rfl | hp
      · exact Ne.symm hCD
      · exact offC p hp
theorem comp_tup {r : Addr} {k : Nat} (J : Nat → List Value → Led → Prop) (hh : A.handled = none) (F : Fr h₀ L s₁.heap m) (N : News h₀ L s₁.heap news) (hm : (r, tupOf vs.toArray k) ∈ news) (hn : vs.length < 100000)
    (hJ : J 0 [] news) (hS : ∀ i ys news, J i ys news → (r, tupOf vs.toArray k) ∈ news)
    (turn : ∀ (i : Nat) v I oI C oC D m₂ ys news h tk (E' : Value → Shared → Prop), vs[i]? = some v → J i ys news → NsObj oC m₂ → m₂ x = some v → Fr h₀ L h m → News h₀ L h ((I, oI) :: (C, oC) :: (D, lst ys) :: news) → Off3 I C D news →
      wpAny (model prog w) A (eval elt (compEnvC scope cl C env)) (CompEnd h₀ L m { s₁ with heap := h, toks := tk } I oI C oC D (lst ys) (fun _ => True) (fun y news' => J (i + 1) (ys ++ [y]) news')) E' { s₁ with heap := h, toks := tk })
    (fin : ∀ D ys news h tk, J vs.length ys news → Fr h₀ L h m → News h₀ L h ((D, PySem.W.listOf ys.toArray ys.length) :: news) → (∀ p ∈ news, p.1 ≠ D) → Q (.ref D) { s₁ with heap := h, toks := tk }) :
    Src3 prog w A h₀ L m env elt x scope cl (fun s₂ => FinE h₀ L m s₂ Q) (.ref r) s₁ := by
  refine .inr ⟨r, vs, k, news, rfl, hh, F, N, hm, hn, ?_⟩
  rintro s₂ ⟨g, rfl⟩
  refine comp_rest (n := vs.length) J (fun i v I oI C oC D m₂ ys news h tk E' hi hP hJ hC hx F N off => ?_) (fun ys news hJ D h tk F' N' off => ?_) vs.length 0 [] news (by omega) hJ
  · refine wpAny_mono (turn i v I oI C oC D m₂ ys news h tk E' hP hJ hC hx F N off) (fun y s₂ hq => ?_) fun _ _ e => e
    obtain ⟨h', tk', nw, e, F', N', off', _, hJ'⟩ := hq
    exact ⟨h', tk', nw, e, F', N', off', hS _ _ _ hJ', hJ'⟩
  · exact fin D ys news h tk hJ F' N' (off1_all off)
/-- over an empty tuple: a new empty list -/
theorem comp_tup0 {r : Addr} {k : Nat} (hh : A.handled = none) (F : Fr h₀ L s₁.heap m) (N : News h₀ L s₁.heap news) (hm : (r, tupOf #[] k) ∈ news)
    (fin : ∀ D h tk, Fr h₀ L h m → News h₀ L h ((D, PySem.W.listOf #[] 0) :: news) → (∀ p ∈ news, p.1 ≠ D) → Q (.ref D) { s₁ with heap := h, toks := tk }) :
    Src3 prog w A h₀ L m env elt x scope cl (fun s₂ => FinE h₀ L m s₂ Q) (.ref r) s₁ :=
  comp_tup (vs := []) (fun _ ys l => ys = [] ∧ l = news) hh F N hm (by show (0:Nat) < 100000; omega) ⟨rfl, rfl⟩ (fun i ys l h => h.2 ▸ hm) (fun i v _ _ _ _ _ _ _ _ _ _ _ h => by simp at h) fun D ys l h tk hJ F9 N9 hD => by
    obtain ⟨rfl, rfl⟩ := hJ
    exact fin D h tk F9 N9 hD
end

theorem tupIn_s {prog : Program} {w : World} {a : Addr} {x : Str} {t : Tok} {n : Nat} {l : Led} (h : (a, tupOf #[.str x t] n) ∈ l) : TupIn prog w a [.inl x] l :=
  ⟨_, _, h, .cons (by simp [mixKind, mixIs, Value.isStrOf]) .nil⟩
theorem tupIn_si {prog : Program} {w : World} {a : Addr} {x : Str} {t u : Tok} {i : Int} {n : Nat} {l : Led} (h : (a, tupOf #[.str x t, .int i u] n) ∈ l) : TupIn prog w a [.inl x, .inr i] l :=
  ⟨_, _, h, .cons (by simp [mixKind, mixIs, Value.isStrOf]) (.cons (by simp [mixKind, mixIs, Value.isInt]) .nil)⟩
theorem TupIn.cons {prog : Program} {w : World} {a : Addr} {k : List Mix} {p : Addr × Obj} {l : Led} (h : TupIn prog w a k l) : TupIn prog w a k (p :: l) := h.mono fun _ hq _ => .tail _ hq
theorem DH.cons {prog : Program} {w : World} {d : Addr} {xs : Ents} {p : Addr × Obj} {l : Led} (h : DH prog w d xs l) : DH prog w d xs (p :: l) := h.move fun _ hq _ => .tail _ hq
theorem DI.cons {prog : Program} {w : World} {d : Addr} {n : Nat} {f : Int → Option Addr} {p : Addr × Obj} {l : Led} (h : DI prog w d n f l) : DI prog w d n f (p :: l) := h.move fun _ hq _ => .tail _ hq
theorem DH.setL {prog : Program} {w : World} {d e : Addr} {xs : Ents} {o : Obj} {l : Led} (h : DH prog w d xs l) (h1 : e ≠ d) (h2 : ∀ a ∈ entAddrs xs, a ≠ e) : DH prog w d xs (setL e o l) := h.move fun p hq hp => mem_setL_ne' hq fun q => by
  rcases hp with hp | hp
  · exact h1 (q.symm.trans hp)
  · exact h2 _ hp q
theorem DI.setL {prog : Program} {w : World} {d e : Addr} {n : Nat} {f : Int → Option Addr} {o : Obj} {l : Led} (h : DI prog w d n f l) (h1 : e ≠ d) : DI prog w d n f (setL e o l) := h.move fun p hq hp => mem_setL_ne' hq fun q => h1 (q.symm.trans hp)

section
open PyProof.Rows.LCt
variable {prog : Program} {w : World} {A : Around} {E : Value → Shared → Prop} {s s₁ : Shared} {h₀ : Heap} {L : Addr} {m : Str → Option Value} {env : Env} {elt ct : Expr} {x : Str} {scope : Scope} {cl : List (Str × Addr)} {news : Led} {Q : Value → Shared → Prop}
/-- a test upon each sign of a text -/
noncomputable def StrSrc (prog : Program) (w : World) (A : Around) (h₀ : Heap) (L : Addr) (m : Str → Option Value) (env : Env) (ct elt : Expr) (x : Str) (scope : Scope) (cl : List (Str × Addr)) (Fin : Shared → List Value → Led → Prop) (xv : Value) (s₁ : Shared) : Prop :=
  ∃ (t : Str) (tt : Tok) (news : Led), xv = .str t tt ∧ A.handled = none ∧ Fr h₀ L s₁.heap m ∧ News h₀ L s₁.heap news ∧ t.cps.all (· < 128) = true ∧ t.cps.size < 100000 ∧
    ∀ s₂ : Shared, (∃ h, s₂ = { s₁ with heap := h }) → CompRestT prog w A h₀ L m env ct elt x scope cl s₂ (fun _ => True) (SignAt t) (Fin s₂) t.cps.size 0 [] news
theorem ListComp_S {iter : Expr} {px : Pos} {pos : Pos} (_F₀ : Fr h₀ L s.heap m)
    (hclos : closureFor scope env = pure cl) (hcell : ∀ y ∈ scope.names, y.2 ≠ .cell) (hkind : scope.kind = .function)
    (hnames : ∀ y ∈ scope.names, y.2 = .local → scope.names.lookup y.1 = some .local) (hx : scope.names.lookup x = some .local)
    (h : wpAny (model prog w) A (eval iter env) (StrSrc prog w A h₀ L m env ct elt x scope cl (fun s₂ => FinE h₀ L m s₂ Q)) E s)
    (hs : ∀ x, foldedSetIterable iter env x = pure x := by intro _; rfl) :
    wpAny (model prog w) A (eval (.ListComp elt [⟨.Name x px, iter, [ct], 0⟩] scope pos) env) Q E s := by
  rw [eval_ListComp]
  refine wpAny_comprehension_free (use := none) rfl hs hclos hkind hnames (wpAny_mono h (fun xv s₁ h₁ => ?_) fun _ _ e => e)
  obtain ⟨t, tt, news, rfl, hh, F, N, ha, hsz, R⟩ := h₁
  refine wpAny_pyIter_ascii ha ?_
  have st : ∀ i (h h' : Heap) (o : Obj) (nw : Led), h.IsStrIter s₁.heap.objs.size "str_ascii_iterator" t tt i → h.get? s₁.heap.objs.size = some o → h'.get? s₁.heap.objs.size = some o → (∀ b o, h₀.get? b = some o → h'.get? b = some o) → News h₀ L h' nw → True → h'.IsStrIter s₁.heap.objs.size "str_ascii_iterator" t tt i :=
    fun i h h' o nw st e e' k N S => by obtain ⟨o', q, r⟩ := st; rw [e] at q; cases q; exact ⟨o, e', r⟩
  refine block_T (Walks.strAscii hh s₁.heap.objs.size t tt) (by rw [sizeLine_eq]; omega) (fun i h st => by obtain ⟨o, e, _⟩ := st; exact ⟨o, e⟩) st hcell hkind hx ⟨_, Heap.get?_push_size _ rfl, rfl, rfl⟩ (fun b hb => ?_)
    (F.keeps fun _ _ e => Heap.get?_push_of_some _ e) (N.grown fun _ _ e => Heap.get?_push_of_some _ e) (Nat.ne_of_lt F.ns.lt) (next_is_new F) (fun p hp => Nat.ne_of_lt (Heap.lt_size (N p hp).1)) trivial (R _ ⟨_, rfl⟩) ?_
  · rw [List.mem_singleton.mp hb]
    show s₁.heap.objs.size < (s₁.heap.push _).objs.size
    rw [Heap.size_push]; exact Nat.lt_succ_self _
  · intro D C h tk m' ys news' F' N' o1 hn hC₀ hD₀ hCL hDL hCD offC fin
    refine ⟨m', hn, fun h'' hs'' => fin D h'' tk (F'.change hs'' hCL hC₀) (fun p hp => ?_) o1⟩
    refine ⟨hs''.extBut _ _ ?_ (N' p hp).1, (N' p hp).2⟩
    rcases List.mem_cons.mp hp with rfl | hp
    · exact Ne.symm hCD
    · exact offC p hp
theorem comp_str_none {t : Str} {tt : Tok} (hh : A.handled = none) (F : Fr h₀ L s₁.heap m) (N : News h₀ L s₁.heap news) (ha : t.cps.all (· < 128) = true) (hn : t.cps.size < 100000)
    (turn : ∀ c u I oI C oC D m₂ h tk (E' : Value → Shared → Prop), c ∈ t.cps → NsObj oC m₂ → m₂ x = some (.str ⟨#[c]⟩ u) → Fr h₀ L h m → News h₀ L h ((I, oI) :: (C, oC) :: (D, lst []) :: news) → Off3 I C D news →
      wpAny (model prog w) A (isTrue ct (compEnvC scope cl C env) (eval ct (compEnvC scope cl C env))) (fun ok s' => ok = false ∧ CompEnd h₀ L m { s₁ with heap := h, toks := tk } I oI C oC D (lst []) (fun _ => True) (fun _ news' => news' = news) Value.none s') E' { s₁ with heap := h, toks := tk })
    (fin : ∀ D h tk, Fr h₀ L h m → News h₀ L h ((D, PySem.W.listOf #[] 0) :: news) → (∀ p ∈ news, p.1 ≠ D) → Q (.ref D) { s₁ with heap := h, toks := tk }) :
    StrSrc prog w A h₀ L m env ct elt x scope cl (fun s₂ => FinE h₀ L m s₂ Q) (.str t tt) s₁ := by
  refine ⟨t, tt, news, rfl, hh, F, N, ha, hn, ?_⟩
  rintro s₂ ⟨g, rfl⟩
  refine compT_rest (n := t.cps.size) (fun _ ys l => ys = [] ∧ l = news) (fun i v I oI C oC D m₂ ys l h tk E' hi hP hJ hC hx F9 N9 off => ?_) (fun ys l hJ D h tk F9 N9 off => ?_) t.cps.size 0 [] news (by omega) ⟨rfl, rfl⟩
  · obtain ⟨rfl, rfl⟩ := hJ
    obtain ⟨c, u, hc, rfl⟩ := hP
    refine wpAny_mono (turn c u I oI C oC D m₂ h tk E' (Array.mem_of_getElem? hc) hC hx F9 N9 off) (fun ok s₂ hq => ?_) fun _ _ e => e
    obtain ⟨rfl, h', tk', nw, e, F', N', off', _, hJ'⟩ := hq
    simp only [Bool.false_eq_true, if_false]
    exact ⟨h', tk', nw, e, F', N', off', trivial, trivial, hJ'⟩
  · obtain ⟨rfl, rfl⟩ := hJ
    exact fin D h tk F9 N9 (off1_all off)
end

theorem dh_in_none {prog : Program} {w : World} {A : Around} {E : Value → Shared → Prop} {s : Shared} {h₀ : Heap} {L d a : Addr} {news : Led} {k : List Mix} {xs : Ents} {Q : Value → Shared → Prop} (hu : A.units + 1 < cLine) (N : News h₀ L s.heap news) (H : DH prog w d xs news) (T : TupIn prog w a k news) (hk : atKey xs k = none) (h : ∀ tk, Q (.bool false) { s with toks := tk }) :
    wpAny (model prog w) A (compareOp .In (.ref a) (.ref d)) Q E s := dh_in hu N H T fun tk => by rw [hk]; exact h tk
end
section
open PyProof.Rows.LCg
example : True := by
  w_top off
  k_with_none
  k_with "omega" => lia
  trivial
section
variable {prog : Program} {w : World} {A : Around} {E : Value → Shared → Prop} {s : Shared} {h₀ : Heap} {L : Addr} {env : Env} {x : Str} {body : List Stmt} {Q : Flow → Shared → Prop} {news : Led} {m₀ : Str → Option Value}
/-- the end of a turn -/
noncomputable def ForEnd (h₀ : Heap) (L : Addr) (J : (Str → Option Value) → Led → Prop) (I : Addr) (oI : Obj) (s₁ : Shared) (Q : Flow → Shared → Prop) (f : Flow) (s₂ : Shared) : Prop :=
  match f with
  | .ret v => Q (.ret v) s₂
  | .brk => Q .next s₂
  | _ => ∃ h' tk m' l', s₂ = { s₁ with heap := h', toks := tk } ∧ Fr h₀ L h' m' ∧ News h₀ L h' ((I, oI) :: l') ∧ (∀ p ∈ l', p.1 ≠ I) ∧ J m' l'
theorem ForEnd.mk {J : (Str → Option Value) → Led → Prop} {I : Addr} {oI : Obj} {s₁ : Shared} {h' : Heap} {tk : Nat} {m' : Str → Option Value} {l' : Led} (F : Fr h₀ L h' m') (N : News h₀ L h' ((I, oI) :: l')) (hI : ∀ p ∈ l', p.1 ≠ I) (hJ : J m' l') :
    ForEnd h₀ L J I oI s₁ Q .next { s₁ with heap := h', toks := tk } := ⟨h', tk, m', l', rfl, F, N, hI, hJ⟩
theorem for_range {r : Addr} {b : Int} {t u v : Tok} {n : Nat} (J : Nat → (Str → Option Value) → Led → Prop) (hh : A.handled = none) (F : Fr h₀ env.locals s.heap m₀) (N : News h₀ env.locals s.heap news) (hr : IsRange s.heap r 0 b 1 t u v) (hb : b = n) (hn : n < 100000) (hJ : J 0 m₀ news)
    (turn : ∀ (i : Nat) t m₁ l h tk I oI, i < n → J i m₁ l → (∀ p ∈ l, p.1 ≠ I) → Fr h₀ env.locals h (fun y => if y = x then some (.int (i : Int) t) else m₁ y) → News h₀ env.locals h ((I, oI) :: l) →
      wpAny (model prog w) A (execs body env) (ForEnd h₀ env.locals (J (i + 1)) I oI { s with heap := h, toks := tk } Q) E { s with heap := h, toks := tk })
    (done : ∀ m₁ l h tk, J n m₁ l → Fr h₀ env.locals h m₁ → News h₀ env.locals h l → Q .next { s with heap := h, toks := tk }) :
    wpAny (model prog w) A (pyIter (.ref r)) (fun it s₂ => LoopAtV prog w A h₀ env x body Q E it s₂) E s := by
  subst hb
  have hsm : Builtin.Range.small 0 (n : Int) 1 = true := small_one (by decide) (by decide) (by omega) (by omega)
  have h2 : Builtin.Range.rangeSize 0 (n : Int) 1 = ((n : Nat) : Int) := by
    rw [rangeSize_one]; split <;> omega
  refine wpAny_pyIter_range hr hsm ?_
  refine ⟨s.heap.objs.size, [s.heap.objs.size], [s.heap.objs.size], n, _, _, m₀, news, J, rfl, range_walks hh 0 n, ?_, ?_, ?_, (by show IsRangeIter _ _ _ _ _; rw [h2]; simpa using Heap.get?_push_size _ rfl), F.push _, (fun p hp => ⟨Heap.get?_push_of_some _ (N p hp).1, (N p hp).2⟩), hJ, ?_, ?_⟩
  · intro hm
    exact absurd F.ns.lt ((List.mem_singleton.mp hm) ▸ Nat.lt_irrefl _)
  · intro b hb
    rw [List.mem_singleton.mp hb]
    exact next_is_new F
  · intro p hp hI
    exact absurd (Heap.lt_size (N p hp).1) ((List.mem_singleton.mp hI) ▸ Nat.lt_irrefl _)
  · rintro i v m₁ l s₁ own ⟨hh', tk', rfl⟩ hin ⟨t, hP⟩ hJ hoff hown hget hfp hst F₁ N₁
    obtain ⟨oI, hst'⟩ : ∃ o, hh'.get? s.heap.objs.size = some o := ⟨_, hst⟩
    have hIown := hfp _ (List.mem_singleton.mpr rfl) (next_is_new F) _ hst'
    have e' : v = .int (i : Int) t := by rw [hP, Int.zero_add]
    subst e'
    refine wpAny_mono (turn i t m₁ l hh' tk' s.heap.objs.size oI hin hJ (fun p hp q => hoff p hp (List.mem_singleton.mpr q)) F₁ (fun p hp => by
      rcases List.mem_cons.mp hp with e | hp
      · exact e ▸ N₁ _ (List.mem_append_left _ hIown)
      · exact N₁ _ (List.mem_append_right _ hp))) (fun f s₂ p => ?_) fun _ _ e => e
    have fin : (∃ h' tk m' l', s₂ = { ({ s with heap := hh', toks := tk' } : Shared) with heap := h', toks := tk } ∧ Fr h₀ env.locals h' m' ∧ News h₀ env.locals h' ((s.heap.objs.size, oI) :: l') ∧ (∀ p ∈ l', p.1 ≠ s.heap.objs.size) ∧ J (i + 1) m' l') →
        LoopStepU h₀ env.locals [s.heap.objs.size] own (J (i + 1)) { s with heap := hh', toks := tk' } .next s₂ := by
      rintro ⟨h', tk, m', l', e, F', N', hI, hj⟩
      refine ⟨rfl, h', tk, m', l', e, F', fun p hp => ?_, fun p hp q => hI p hp (List.mem_singleton.mp q), hj⟩
      rcases List.mem_append.mp hp with hp | hp
      · have h1 : p.1 = s.heap.objs.size := List.mem_singleton.mp (hown p hp)
        have h3 := hget p hp
        rw [h1] at h3
        have h2 : p = (s.heap.objs.size, oI) := Prod.ext h1 (Option.some.inj (h3.symm.trans hst'))
        rw [h2]; exact N' _ (.head _)
      · exact N' _ (.tail _ hp)
    cases f with
    | ret v => exact .ret p
    | brk => exact .brk p
    | next => exact .next (fin p)
    | cont => exact .cont (fin p)
  · rintro h' tk m' l F' N' _ hJ
    exact done m' l h' tk hJ F' N'
theorem for_seq {ax : Addr} {oa : Obj} {vs : List Value} {T : String} {St : Nat → Heap → Prop} {oi : Obj} (J : Nat → (Str → Option Value) → Led → Prop) (F : Fr h₀ env.locals s.heap m₀) (N : News h₀ env.locals s.heap news) (hm : (ax, oa) ∈ news) (hJ : J 0 m₀ news)
    (hit : ∀ {Q' : Value → Shared → Prop}, Q' (.ref s.heap.objs.size) { s with heap := s.heap.push oi } → wpAny (model prog w) A (pyIter (.ref ax)) Q' E s)
    (W : Walks prog w A s.heap.objs.size [s.heap.objs.size, ax] [s.heap.objs.size] vs.toArray.size (fun i v => vs.toArray[i]? = some v) St) (h0 : St 0 (s.heap.push oi)) (hI : ∀ i h, St i h → ∃ o, h.get? s.heap.objs.size = some o)
    (hS : ∀ i m l, J i m l → (ax, oa) ∈ l)
    (turn : ∀ (i : Nat) v m₁ l h tk I oI, vs[i]? = some v → J i m₁ l → (∀ p ∈ l, p.1 ≠ I) → Fr h₀ env.locals h (fun y => if y = x then some v else m₁ y) → News h₀ env.locals h ((I, oI) :: l) →
      wpAny (model prog w) A (execs body env) (ForEnd h₀ env.locals (J (i + 1)) I oI { s with heap := h, toks := tk } Q) E { s with heap := h, toks := tk })
    (done : ∀ m₁ l h tk, J vs.length m₁ l → Fr h₀ env.locals h m₁ → News h₀ env.locals h l → Q .next { s with heap := h, toks := tk }) :
    wpAny (model prog w) A (pyIter (.ref ax)) (fun it s₂ => LoopAtV prog w A h₀ env x body Q E it s₂) E s := by
  refine hit ?_
  refine ⟨s.heap.objs.size, [s.heap.objs.size, ax], [s.heap.objs.size], vs.toArray.size, _, St, m₀, news, J, rfl, W, ?_, ?_, ?_, h0, F.push _, (fun p hp => ⟨Heap.get?_push_of_some _ (N p hp).1, (N p hp).2⟩), hJ, ?_, ?_⟩
  · intro hm'
    rcases List.mem_cons.mp hm' with e | hm'
    · exact absurd F.ns.lt (e ▸ Nat.lt_irrefl _)
    · exact (N _ hm).2.1 ((List.mem_singleton.mp hm').symm)
  · intro b hb
    rw [List.mem_singleton.mp hb]
    exact next_is_new F
  · intro p hp hI
    exact absurd (Heap.lt_size (N p hp).1) ((List.mem_singleton.mp hI) ▸ Nat.lt_irrefl _)
  · rintro i v m₁ l s₁ own ⟨hh', tk', rfl⟩ hin hP hJ hoff hown hget hfp hst F₁ N₁
    obtain ⟨oI, hst'⟩ := hI _ _ hst
    have hIown := hfp _ (.head _) (next_is_new F) _ hst'
    refine wpAny_mono (turn i v m₁ l hh' tk' s.heap.objs.size oI (by simpa using hP) hJ (fun p hp q => hoff p hp (List.mem_singleton.mpr q)) F₁ (fun p hp => by
      rcases List.mem_cons.mp hp with e | hp
      · exact e ▸ N₁ _ (List.mem_append_left _ hIown)
      · exact N₁ _ (List.mem_append_right _ hp))) (fun f s₂ p => ?_) fun _ _ e => e
    have hax : hh'.get? ax = some oa := (N₁ _ (List.mem_append_right _ (hS _ _ _ hJ))).1
    have fin : (∃ h' tk m' l', s₂ = { ({ s with heap := hh', toks := tk' } : Shared) with heap := h', toks := tk } ∧ Fr h₀ env.locals h' m' ∧ News h₀ env.locals h' ((s.heap.objs.size, oI) :: l') ∧ (∀ p ∈ l', p.1 ≠ s.heap.objs.size) ∧ J (i + 1) m' l') →
        LoopStepU h₀ env.locals [s.heap.objs.size] own (J (i + 1)) { s with heap := hh', toks := tk' } .next s₂ := by
      rintro ⟨h', tk, m', l', e, F', N', hI, hj⟩
      refine ⟨rfl, h', tk, m', l', e, F', fun p hp => ?_, fun p hp q => hI p hp (List.mem_singleton.mp q), hj⟩
      rcases List.mem_append.mp hp with hp | hp
      · have h3 := hget p hp
        rcases List.mem_cons.mp (hown p hp) with h1 | h1
        · rw [h1] at h3
          have h2 : p = (s.heap.objs.size, oI) := Prod.ext h1 (Option.some.inj (h3.symm.trans hst'))
          rw [h2]; exact N' _ (.head _)
        · have h1 := List.mem_singleton.mp h1
          rw [h1] at h3
          have h2 : p = (ax, oa) := Prod.ext h1 (Option.some.inj (h3.symm.trans hax))
          rw [h2]; exact N' _ (.tail _ (hS _ _ _ hj))
      · exact N' _ (.tail _ hp)
    cases f with
    | ret v => exact .ret p
    | brk => exact .brk p
    | next => exact .next (fin p)
    | cont => exact .cont (fin p)
  · rintro h' tk m' l F' N' _ hJ
    exact done m' l h' tk (by simpa using hJ) F' N'
theorem for_list {ax : Addr} {vs : List Value} {k : Nat} (J : Nat → (Str → Option Value) → Led → Prop) (hh : A.handled = none) (F : Fr h₀ env.locals s.heap m₀) (N : News h₀ env.locals s.heap news) (hm : (ax, PySem.W.listOf vs.toArray k) ∈ news) (hJ : J 0 m₀ news)
    (hS : ∀ i m l, J i m l → (ax, PySem.W.listOf vs.toArray k) ∈ l)
    (turn : ∀ (i : Nat) v m₁ l h tk I oI, vs[i]? = some v → J i m₁ l → (∀ p ∈ l, p.1 ≠ I) → Fr h₀ env.locals h (fun y => if y = x then some v else m₁ y) → News h₀ env.locals h ((I, oI) :: l) →
      wpAny (model prog w) A (execs body env) (ForEnd h₀ env.locals (J (i + 1)) I oI { s with heap := h, toks := tk } Q) E { s with heap := h, toks := tk })
    (done : ∀ m₁ l h tk, J vs.length m₁ l → Fr h₀ env.locals h m₁ → News h₀ env.locals h l → Q .next { s with heap := h, toks := tk }) :
    wpAny (model prog w) A (pyIter (.ref ax)) (fun it s₂ => LoopAtV prog w A h₀ env x body Q E it s₂) E s := by
  have hl := is_listN N hm
  have hlt : ax < s.heap.objs.size := Heap.lt_size (N _ hm).1
  exact for_seq (T := "list") (oi := { cls := .type "list_iterator", data := .fields #[.ref ax, .int 0 0] }) J F N hm hJ (fun h => wpAny_pyIter_list hl h) (Walks.list hh s.heap.objs.size ax (Nat.ne_of_lt hlt) vs.toArray) ⟨⟨_, Heap.get?_push_size _ rfl, rfl, rfl⟩, hl.push _⟩ (fun i h st => by obtain ⟨o, e, _⟩ := st.1; exact ⟨o, e⟩) hS turn done
theorem for_tup {ax : Addr} {vs : List Value} {k : Nat} (J : Nat → (Str → Option Value) → Led → Prop) (hh : A.handled = none) (F : Fr h₀ env.locals s.heap m₀) (N : News h₀ env.locals s.heap news) (hm : (ax, tupOf vs.toArray k) ∈ news) (hJ : J 0 m₀ news)
    (hS : ∀ i m l, J i m l → (ax, tupOf vs.toArray k) ∈ l)
    (turn : ∀ (i : Nat) v m₁ l h tk I oI, vs[i]? = some v → J i m₁ l → (∀ p ∈ l, p.1 ≠ I) → Fr h₀ env.locals h (fun y => if y = x then some v else m₁ y) → News h₀ env.locals h ((I, oI) :: l) →
      wpAny (model prog w) A (execs body env) (ForEnd h₀ env.locals (J (i + 1)) I oI { s with heap := h, toks := tk } Q) E { s with heap := h, toks := tk })
    (done : ∀ m₁ l h tk, J vs.length m₁ l → Fr h₀ env.locals h m₁ → News h₀ env.locals h l → Q .next { s with heap := h, toks := tk }) :
    wpAny (model prog w) A (pyIter (.ref ax)) (fun it s₂ => LoopAtV prog w A h₀ env x body Q E it s₂) E s := by
  have hl : s.heap.IsTuple ax vs.toArray := ⟨_, (N _ hm).1, rfl, k, rfl⟩
  have hlt : ax < s.heap.objs.size := Heap.lt_size (N _ hm).1
  exact for_seq (T := "tuple") (oi := { cls := .type "tuple_iterator", data := .fields #[.ref ax, .int 0 0] }) J F N hm hJ (fun h => wpAny_pyIter_tuple hl h) (Walks.tuple hh s.heap.objs.size ax (Nat.ne_of_lt hlt) vs.toArray) ⟨⟨_, Heap.get?_push_size _ rfl, rfl, rfl⟩, ⟨_, Heap.get?_push_of_some _ (N _ hm).1, rfl, k, rfl⟩⟩ (fun i h st => by obtain ⟨o, e, _⟩ := st.1; exact ⟨o, e⟩) hS turn done
theorem for_tup0 {ax : Addr} {k : Nat} (hh : A.handled = none) (F : Fr h₀ env.locals s.heap m₀) (N : News h₀ env.locals s.heap news) (hm : (ax, tupOf #[] k) ∈ news)
    (done : ∀ h tk, Fr h₀ env.locals h m₀ → News h₀ env.locals h news → Q .next { s with heap := h, toks := tk }) :
    wpAny (model prog w) A (pyIter (.ref ax)) (fun it s₂ => LoopAtV prog w A h₀ env x body Q E it s₂) E s :=
  for_tup (vs := []) (fun _ m l => m = m₀ ∧ l = news) hh F N hm ⟨rfl, rfl⟩ (fun i m l h => h.2 ▸ hm) (fun i v m₁ l h tk I oI hv => by simp at hv) fun m₁ l h tk hJ F9 N9 => by
    obtain ⟨rfl, rfl⟩ := hJ
    exact done h tk F9 N9
end
end
section
example : True := by
  w_top off
  k_with_none
  k_with "omega" => lia
  trivial
theorem ltn {a b : Addr} (h : a < b) : @LT.lt Nat _ a b := h
theorem nen {a b : Addr} (h : @Ne Nat a b) : a ≠ b := h
/-- a ledger in which one entry is new; the new ledger's form is hidden, so that no search unfolds it -/
structure SetTo (d : Addr) (o' : Obj) (l l' : Led) : Prop where
  keep : ∀ p ∈ l, p.1 ≠ d → p ∈ l'
  self : ∀ o, (d, o) ∈ l → (d, o') ∈ l'
  back : ∀ p ∈ l', p = (d, o') ∨ (p ∈ l ∧ p.1 ≠ d)
theorem SetTo.of (d : Addr) (o' : Obj) (l : Led) : SetTo d o' l (setL d o' l) :=
  ⟨fun p hp hn => mem_setL_ne' hp hn, fun o h => mem_setL_self h, fun p hp => by
    obtain ⟨q, hq, e⟩ := List.mem_map.mp hp
    split at e
    · exact .inl e.symm
    · rename_i hn
      exact .inr ⟨e ▸ hq, e ▸ hn⟩⟩
theorem SetTo.mem {d a : Addr} {o' x : Obj} {l l' : Led} (S : SetTo d o' l l') (h : (a, x) ∈ l) (hn : a ≠ d) : (a, x) ∈ l' := S.keep _ h hn
theorem SetTo.it {d : Addr} {o o' : Obj} {l l' : Led} (S : SetTo d o' l l') (h : (d, o) ∈ l) : (d, o') ∈ l' := S.self _ h
/-- addresses keep -/
theorem SetTo.addr {d : Addr} {o' : Obj} {l l' : Led} (S : SetTo d o' l l') {p : Addr × Obj} (h : p ∈ l) : ∃ o, (p.1, o) ∈ l' := by
  by_cases e : p.1 = d
  · exact ⟨o', e ▸ S.self p.2 (e ▸ h)⟩
  · exact ⟨p.2, S.keep p h e⟩
theorem DH.setTo {prog : Program} {w : World} {d e : Addr} {o' : Obj} {xs : Ents} {l l' : Led} (H : DH prog w d xs l) (S : SetTo e o' l l') (h1 : d ≠ e) (h2 : ∀ a ∈ entAddrs xs, a ≠ e) : DH prog w d xs l' :=
  H.move fun p hp h => S.keep p hp (by rcases h with h | h; exact h ▸ h1; exact h2 _ h)
theorem DI.setTo {prog : Program} {w : World} {d e : Addr} {o' : Obj} {n : Nat} {f : Int → Option Addr} {l l' : Led} (H : DI prog w d n f l) (S : SetTo e o' l l') (h1 : d ≠ e) : DI prog w d n f l' :=
  H.move fun p hp h => S.keep p hp (h ▸ h1)
theorem TupIn.setTo {prog : Program} {w : World} {d e : Addr} {o' : Obj} {k : List Mix} {l l' : Led} (H : TupIn prog w d k l) (S : SetTo e o' l l') (h1 : d ≠ e) : TupIn prog w d k l' :=
  H.mono fun p hp h => S.keep p hp (h ▸ h1)
section
variable {prog : Program} {w : World} {A : Around} {E : Value → Shared → Prop} {s : Shared} {h₀ : Heap} {L D d b a : Addr} {m : Str → Option Value} {news : Led} {vs vs2 : List Value} {n n2 : Nat} {xs : Ents} {k : List Mix} {f : Int → Option Addr}
theorem append_o {Q : Value → Shared → Prop} {x : Value} (F : Fr h₀ L s.heap m) (N : News h₀ L s.heap news) (hm : (D, PySem.W.listOf vs.toArray n) ∈ news) (hz : vs.length < 100000)
    (h : ∀ h' l', Fr h₀ L h' m → News h₀ L h' l' → SetTo D (PySem.W.listOf (vs ++ [x]).toArray (n + 1)) news l' → Q .none { s with heap := h' }) :
    wpAny (model prog w) A (call (.builtin "list.append") [.ref D, x]) Q E s :=
  append_led F N hm hz fun h' F' N' => h h' _ F' N' (.of _ _ _)
theorem extend_o {Q : Value → Shared → Prop} (F : Fr h₀ L s.heap m) (N : News h₀ L s.heap news) (hm : (D, PySem.W.listOf vs.toArray n) ∈ news) (hb : (b, PySem.W.listOf vs2.toArray n2) ∈ news) (hz : vs.length < 100000) (hz2 : vs2.length < 100000)
    (h : ∀ h' n' l', Fr h₀ L h' m → News h₀ L h' l' → SetTo D (PySem.W.listOf (vs ++ vs2).toArray n') news l' → Q .none { s with heap := h' }) :
    wpAny (model prog w) A (call (.builtin "list.extend") [.ref D, .ref b]) Q E s :=
  extend_led F N hm hb hz hz2 fun h' n' F' N' => h h' n' _ F' N' (.of _ _ _)
theorem set_o {Q : Unit → Shared → Prop} {ns : List Int} {k x : Int} {t u : Tok} (F : Fr h₀ L s.heap m) (N : News h₀ L s.heap news) (hm : (D, PySem.W.listOf vs.toArray n) ∈ news) (hi : IntsAre vs ns) (h0 : 0 ≤ k) (h1 : k < ns.length) (hz : k < 100000)
    (h : ∀ h' l', Fr h₀ L h' m → News h₀ L h' l' → SetTo D (PySem.W.listOf (vs.set k.toNat (.int x u)).toArray n) news l' → IntsAre (vs.set k.toNat (.int x u)) (ns.set k.toNat x) → Q () { s with heap := h' }) :
    wpAny (model prog w) A (setItem (.ref D) (.int k t) (.int x u)) Q E s :=
  set_led F N hm hi h0 h1 hz fun h' F' N' i => h h' _ F' N' (.of _ _ _) i
theorem dh_set_o {Q : Unit → Shared → Prop} {v : Value} (hu : A.units + 1 < cLine) (F : Fr h₀ L s.heap m) (N : News h₀ L s.heap news) (H : DH prog w d xs news) (T : TupIn prog w a k news) (hz : xs.length < 100000)
    (h : ∀ h' tk o' l', Fr h₀ L h' m → News h₀ L h' l' → SetTo d o' news l' → DH prog w d (storedH xs k a v) l' → Q () { s with heap := h', toks := tk }) :
    wpAny (model prog w) A (setItem (.ref d) (.ref a) v) Q E s :=
  dh_set hu F N H T hz fun h' tk o' F' N' H' => h h' tk o' _ F' N' (.of _ _ _) H'
theorem dh_setdefault_o {dflt : Value} {Q : Value → Shared → Prop} (hu : A.units + 1 < cLine) (F : Fr h₀ L s.heap m) (N : News h₀ L s.heap news) (H : DH prog w d xs news) (T : TupIn prog w a k news) (hz : xs.length < 100000)
    (hargs : argsOk "dict.setdefault" ⟨[.ref d, .ref a, dflt], []⟩)
    (h1 : ∀ p, atKey xs k = some p → ∀ tk, Q p.2 { s with toks := tk })
    (h2 : atKey xs k = none → ∀ h' tk o' l', Fr h₀ L h' m → News h₀ L h' l' → SetTo d o' news l' → DH prog w d (xs ++ [(k, a, dflt)]) l' → Q dflt { s with heap := h', toks := tk }) :
    wpAny (model prog w) A (call (.builtin "dict.setdefault") [.ref d, .ref a, dflt]) Q E s :=
  dh_setdefault hu F N H T hz hargs h1 fun e h' tk o' F' N' H' => h2 e h' tk o' _ F' N' (.of _ _ _) H'
theorem di_set_o {Q : Unit → Shared → Prop} {k : Int} {t : Tok} {n' : Nat} (F : Fr h₀ L s.heap m) (N : News h₀ L s.heap news) (H : DI prog w d n f news) (hz : n < 100000) (hn : (f k = none ∧ n' = n + 1) ∨ (f k ≠ none ∧ n' = n))
    (h : ∀ h' tk o' l', Fr h₀ L h' m → News h₀ L h' l' → SetTo d o' news l' → DI prog w d n' (fun j => if j = k then some a else f j) l' → Q () { s with heap := h', toks := tk }) :
    wpAny (model prog w) A (setItem (.ref d) (.int k t) (.ref a)) Q E s :=
  di_set F N H hz hn fun h' tk o' F' N' H' => h h' tk o' _ F' N' (.of _ _ _) H'
theorem di_pop_o {Q : Value → Shared → Prop} {k : Int} {t : Tok} (F : Fr h₀ L s.heap m) (N : News h₀ L s.heap news) (H : DI prog w d n f news) (hz : n < 100000) (hp : f k = some a)
    (h : ∀ h' tk o' l', Fr h₀ L h' m → News h₀ L h' l' → SetTo d o' news l' → DI prog w d n (fun j => if j = k then none else f j) l' → Q (.ref a) { s with heap := h', toks := tk }) :
    wpAny (model prog w) A (call (.builtin "dict.pop") [.ref d, .int k t]) Q E s :=
  di_pop F N H hz hp fun h' tk o' F' N' H' => h h' tk o' _ F' N' (.of _ _ _) H'
end
end
section
example : True := by
  w_top off
  k_with_none
  k_with "omega" => lia
  trivial
open SetTable
/-- strictly rising places -/
noncomputable def Rise (xs : Array Nat) : Prop := ∀ i k, i < k → k < xs.size → xs.getD i 0 < xs.getD k 0
theorem getD_some {xs : Array Nat} {i j : Nat} (h : xs[i]? = some j) : i < xs.size ∧ ∀ d, xs.getD i d = j := by
  have h1 : i < xs.size := by
    rcases Nat.lt_or_ge i xs.size with h2 | h2
    · exact h2
    · rw [Array.getElem?_eq_none h2] at h; cases h
  refine ⟨h1, fun d => ?_⟩
  rw [Array.getD_eq_getD_getElem?, h]; rfl
theorem some_getD {xs : Array Nat} {i : Nat} (h : i < xs.size) (d : Nat) : xs[i]? = some (xs.getD i d) := by
  rw [Array.getD_eq_getD_getElem?, Array.getElem?_eq_getElem h]; rfl
theorem getD_d {xs : Array Nat} {i : Nat} (h : i < xs.size) (d d' : Nat) : xs.getD i d = xs.getD i d' := by
  rw [Array.getD_eq_getD_getElem?, Array.getD_eq_getD_getElem?, Array.getElem?_eq_getElem h]; rfl
theorem below_go {xs : Array Nat} {j : Nat} (R : Rise xs) : ∀ (fuel lo hi : Nat), hi - lo ≤ fuel → lo ≤ hi → hi ≤ xs.size → (∀ i, i < lo → xs.getD i 0 < j) → (∀ i, hi ≤ i → i < xs.size → j ≤ xs.getD i 0) →
    below.go xs j fuel lo hi ≤ xs.size ∧ (∀ i, i < below.go xs j fuel lo hi → xs.getD i 0 < j) ∧ ∀ i, below.go xs j fuel lo hi ≤ i → i < xs.size → j ≤ xs.getD i 0
  | 0, lo, hi, hf, h1, h2, ha, hb => by
    unfold below.go
    exact ⟨by omega, ha, fun i hi' hs => hb i (by omega) hs⟩
  | fuel + 1, lo, hi, hf, h1, h2, ha, hb => by
    unfold below.go
    by_cases hl : lo < hi
    · rw [if_pos hl]
      dsimp only
      have hm : (lo + hi) / 2 < xs.size := by omega
      rw [getD_d hm j 0]
      by_cases hx : xs.getD ((lo + hi) / 2) 0 < j
      · rw [if_pos hx]
        refine below_go R fuel _ hi (by omega) (by omega) h2 (fun i hi' => ?_) hb
        by_cases e : i = (lo + hi) / 2
        · rw [e]; exact hx
        · exact Nat.lt_trans (R i ((lo + hi) / 2) (by omega) hm) hx
      · rw [if_neg hx]
        refine below_go R fuel lo _ (by omega) (by omega) (by omega) ha (fun i hi' hs => ?_)
        by_cases e : i = (lo + hi) / 2
        · rw [e]; omega
        · have := R ((lo + hi) / 2) i (by omega) hs
          omega
    · rw [if_neg hl]
      exact ⟨by omega, ha, fun i hi' hs => hb i (by omega) hs⟩
theorem below_spec {xs : Array Nat} (R : Rise xs) (j : Nat) : below xs j ≤ xs.size ∧ (∀ i, i < below xs j → xs.getD i 0 < j) ∧ ∀ i, below xs j ≤ i → i < xs.size → j ≤ xs.getD i 0 := by
  unfold below
  exact below_go R xs.size 0 xs.size (by omega) (by omega) (by omega) (fun i hi => by omega) fun i hi hs => by omega
theorem below_at {xs : Array Nat} (R : Rise xs) {i j : Nat} (h : xs[i]? = some j) : below xs j = i := by
  obtain ⟨h1, h2, h3⟩ := below_spec R j
  obtain ⟨hs, hv⟩ := getD_some h
  have hv := hv 0
  rcases Nat.lt_trichotomy (below xs j) i with c | c | c
  · have h4 := R _ _ c hs
    have h5 := h3 (below xs j) (Nat.le_refl _) (by omega)
    omega
  · exact c
  · have := h2 i c
    omega
/-- the places of a table: none of them a dummy -/
structure TabOk (t : SetTable) (n : Nat) : Prop where
  size : t.place.size = n
  rise : Rise t.place
  top : ∀ i, i < t.place.size → t.place.getD i 0 ≤ t.mask
  dum : t.dummies = #[]
  kinds : t.mask = 7 ∨ t.mask = 31 ∨ t.mask = 127
  full : n ≤ t.mask
noncomputable def Calm (t : SetTable) (n : Nat) : Prop := (t.mask = 7 ∧ n ≤ 4) ∨ (t.mask = 31 ∧ n ≤ 18) ∨ (t.mask = 127 ∧ n ≤ 70)
noncomputable def NotIn (t : SetTable) (j : Nat) : Prop := ∀ i : Nat, t.place[i]? ≠ some j
theorem has_nil (j : Nat) : has #[] j = false := rfl
theorem slot_live {t : SetTable} {n i j : Nat} (T : TabOk t n) (h : t.place[i]? = some j) : t.slot j = .live i := by
  unfold SetTable.slot
  dsimp only
  rw [below_at T.rise h, h]
  simp
theorem slot_empty {t : SetTable} {n j : Nat} (T : TabOk t n) (h : NotIn t j) : t.slot j = .empty := by
  unfold SetTable.slot
  dsimp only
  rw [T.dum, has_nil]
  have : (t.place[below t.place j]? == some j) = false := by
    have := h (below t.place j)
    simpa using this
  rw [this]; rfl
theorem in_or {t : SetTable} (j : Nat) : NotIn t j ∨ ∃ i : Nat, t.place[i]? = some j := by
  by_cases h : ∃ i : Nat, t.place[i]? = some j
  · exact .inr h
  · exact .inl fun i e => h ⟨i, e⟩
/-- some slot is free -/
theorem TabOk.room {t : SetTable} {n : Nat} (T : TabOk t n) : ∃ e, e ≤ t.mask ∧ NotIn t e := by
  apply Classical.byContradiction
  intro hc
  have hall : ∀ e, e ≤ t.mask → ∃ i : Nat, t.place[i]? = some e := fun e he => by
    rcases in_or (t := t) e with h | h
    · exact absurd ⟨e, he, h⟩ hc
    · exact h
  have key : ∀ e, e ≤ t.mask → ∃ i : Nat, e ≤ i ∧ t.place[i]? = some e := by
    intro e
    induction e with
    | zero => intro h; obtain ⟨i, hi⟩ := hall 0 h; exact ⟨i, Nat.zero_le _, hi⟩
    | succ e ih =>
      intro h
      obtain ⟨i, h1, h2⟩ := ih (by omega)
      obtain ⟨k, hk⟩ := hall (e + 1) h
      obtain ⟨s1, v1⟩ := getD_some h2
      obtain ⟨s2, v2⟩ := getD_some hk
      have v1 := v1 0
      have v2 := v2 0
      rcases Nat.lt_trichotomy i k with c | c | c
      · exact ⟨k, by omega, hk⟩
      · subst c; omega
      · have := T.rise k i c s1; omega
  obtain ⟨i, h1, h2⟩ := key t.mask (Nat.le_refl _)
  have h3 := (getD_some h2).1
  have h4 := T.full
  have h5 := T.size
  omega

-- the probe's leaps
noncomputable def leapN (mask : Nat) : Nat → Nat × Nat → Nat × Nat
  | 0, p => p
  | k + 1, p => leapN mask k (leap mask p.1 p.2)
noncomputable def five (mask i : Nat) : Nat := (i * 5 + 1) % (mask + 1)
noncomputable def fiveN (mask : Nat) : Nat → Nat → Nat
  | 0, i => i
  | k + 1, i => fiveN mask k (five mask i)
theorem leap_lt (mask i p : Nat) : (leap mask i p).1 ≤ mask := by
  unfold leap
  exact Nat.le_of_lt_succ (Nat.mod_lt _ (Nat.succ_pos _))
theorem leapN_zero (mask : Nat) : ∀ k i, (leapN mask k (i, 0)).1 = fiveN mask k i
  | 0, _ => rfl
  | k + 1, i => by
    show (leapN mask k (leap mask i 0)).1 = _
    have e : leap mask i 0 = (five mask i, 0) := by unfold leap five; simp
    rw [e, leapN_zero mask k]; rfl
theorem leapN_add (mask : Nat) : ∀ a b p, leapN mask (a + b) p = leapN mask b (leapN mask a p)
  | 0, b, p => by rw [Nat.zero_add]; rfl
  | a + 1, b, p => by rw [show a + 1 + b = (a + b) + 1 by omega]; exact leapN_add mask a b _
theorem leapN_snd (mask : Nat) : ∀ k p, (leapN mask k p).2 = p.2 / 32 ^ k
  | 0, p => by simp [leapN]
  | k + 1, p => by
    show (leapN mask k (leap mask p.1 p.2)).2 = _
    rw [leapN_snd mask k]
    show p.2 / 32 / 32 ^ k = _
    rw [Nat.div_div_eq_div_mul, Nat.pow_succ, Nat.mul_comm]
theorem leapN_le (mask : Nat) : ∀ k p, p.1 ≤ mask → (leapN mask k p).1 ≤ mask
  | 0, _, h => h
  | k + 1, p, _ => leapN_le mask k _ (leap_lt mask p.1 p.2)
noncomputable def orbit (mask : Nat) : Nat → Nat → List Nat
  | 0, i => [i]
  | k + 1, i => i :: orbit mask k (five mask i)
theorem orbit_mem {mask e : Nat} : ∀ k i, e ∈ orbit mask k i → ∃ m, m ≤ k ∧ fiveN mask m i = e
  | 0, i, h => ⟨0, Nat.le_refl _, (List.mem_singleton.mp h).symm⟩
  | k + 1, i, h => by
    rcases List.mem_cons.mp h with h | h
    · exact ⟨0, Nat.zero_le _, h.symm⟩
    · obtain ⟨m, h1, h2⟩ := orbit_mem k _ h
      exact ⟨m + 1, by omega, h2⟩
theorem orbits7 : ((List.range 8).all fun i => (List.range 8).all fun e => (orbit 7 7 i).contains e) = true := by decide +kernel
theorem orbits31 : ((List.range 32).all fun i => (List.range 32).all fun e => (orbit 31 31 i).contains e) = true := by decide +kernel
theorem fiveN_add (mask : Nat) : ∀ a b i, fiveN mask (a + b) i = fiveN mask b (fiveN mask a i)
  | 0, b, p => by rw [Nat.zero_add]; rfl
  | a + 1, b, p => by rw [show a + 1 + b = (a + b) + 1 by omega]; exact fiveN_add mask a b _
theorem orbit127 : ((List.range 128).all fun e => (orbit 127 127 0).contains e) = true := by decide +kernel
theorem back127 : fiveN 127 128 0 = 0 := by decide +kernel
theorem reach127 {i e : Nat} (hi : i ≤ 127) (he : e ≤ 127) : ∃ k, k ≤ 127 ∧ fiveN 127 k i = e := by
  have H := List.all_eq_true.mp orbit127
  obtain ⟨a, a1, a2⟩ := orbit_mem 127 0 (by simpa using H i (List.mem_range.mpr (by omega)))
  obtain ⟨b, b1, b2⟩ := orbit_mem 127 0 (by simpa using H e (List.mem_range.mpr (by omega)))
  by_cases h : a ≤ b
  · refine ⟨b - a, by omega, ?_⟩
    rw [← a2, ← fiveN_add, show a + (b - a) = b by omega]; exact b2
  · refine ⟨128 - a + b, by omega, ?_⟩
    rw [← a2, ← fiveN_add, show a + (128 - a + b) = 128 + b by omega, fiveN_add, back127]; exact b2
theorem reach_of {mask i e : Nat} (hm : mask = 7 ∨ mask = 31 ∨ mask = 127) (hi : i ≤ mask) (he : e ≤ mask) : ∃ k, k ≤ mask ∧ fiveN mask k i = e := by
  rcases hm with rfl | rfl | rfl
  · have H := List.all_eq_true.mp (List.all_eq_true.mp orbits7 i (List.mem_range.mpr (by omega))) e (List.mem_range.mpr (by omega))
    exact orbit_mem 7 i (by simpa using H)
  · have H := List.all_eq_true.mp (List.all_eq_true.mp orbits31 i (List.mem_range.mpr (by omega))) e (List.mem_range.mpr (by omega))
    exact orbit_mem 31 i (by simpa using H)
  · exact reach127 hi he
theorem leaps_reach {mask i p e : Nat} (hm : mask = 7 ∨ mask = 31 ∨ mask = 127) (hi : i ≤ mask) (hp : p < 2 ^ 64) (he : e ≤ mask) : ∃ k, k ≤ mask + 13 ∧ (leapN mask k (i, p)).1 = e := by
  have h1 : (leapN mask 13 (i, p)).2 = 0 := by
    rw [leapN_snd]
    exact Nat.div_eq_of_lt (Nat.lt_trans hp (by decide))
  have h2 := leapN_le mask 13 (i, p) hi
  obtain ⟨k, k1, k2⟩ := reach_of (i := (leapN mask 13 (i, p)).1) hm h2 he
  refine ⟨13 + k, by omega, ?_⟩
  rw [leapN_add]
  have e1 : leapN mask 13 (i, p) = ((leapN mask 13 (i, p)).1, 0) := Prod.ext rfl h1
  rw [e1, leapN_zero]; exact k2
theorem bits_lt (h : Int) : bits h < 2 ^ 64 := by
  unfold bits
  have h1 : 0 ≤ h % (2 ^ 64 : Int) := Int.emod_nonneg _ (by decide)
  have h2 : h % (2 ^ 64 : Int) < 2 ^ 64 := Int.emod_lt_of_pos _ (by decide)
  omega
theorem runEnd_le {mask i : Nat} (h : i ≤ mask) : i ≤ runEnd mask i ∧ runEnd mask i ≤ mask ∧ runEnd mask i ≤ i + 9 := by
  unfold runEnd
  split <;> omega
/-- a probe for what is not there ends at a free slot -/
theorem probe_go {t : SetTable} {n : Nat} (T : TabOk t n) {hashAt : Nat → Int} {h : Int} (hno : ∀ i, (hashAt i == h) = false) {e : Nat} (he : NotIn t e) :
    ∀ (fuel : Nat) (p : Probe) (k : Nat), p.dummy = none → p.i ≤ t.mask → p.i ≤ p.j → p.j + p.more = runEnd t.mask p.i → (k = 0 → p.j = p.i) → (leapN t.mask k (p.i, p.perturb)).1 = e → 10 * k + p.more < fuel →
      ∃ j, probe.go t hashAt h fuel p = some (.empty j none) ∧ NotIn t j ∧ j ≤ t.mask
  | 0, p, k, _, _, _, _, _, _, hf => by omega
  | fuel + 1, p, k, hd, hi, hij, hr, h0, hk, hf => by
    have hre := runEnd_le hi
    have hjm : p.j ≤ t.mask := by omega
    unfold probe.go
    rcases in_or (t := t) p.j with hin | ⟨i, hin⟩
    · rw [slot_empty T hin]
      dsimp only
      rw [hd]
      exact ⟨p.j, rfl, hin, hjm⟩
    · rw [slot_live T hin]
      dsimp only
      rw [hno i]
      simp only [Bool.false_eq_true, if_false]
      have hk0 : k ≠ 0 := fun e0 => by
        subst e0
        have : p.j = e := (h0 rfl).trans hk
        exact he i (this ▸ hin)
      unfold advance
      by_cases hm : p.more > 0
      · rw [if_pos hm]
        exact probe_go T hno he fuel _ k hd hi (by show p.i ≤ p.j + 1; omega) (by show p.j + 1 + (p.more - 1) = runEnd t.mask p.i; omega) (fun e0 => absurd e0 hk0) hk (by show 10 * k + (p.more - 1) < fuel; omega)
      · rw [if_neg hm]
        obtain ⟨k', rfl⟩ : ∃ k', k = k' + 1 := ⟨k - 1, by omega⟩
        have hl := leap_lt t.mask p.i p.perturb
        have hre2 := runEnd_le hl
        refine probe_go T hno he fuel _ k' hd hl (Nat.le_refl _) ?_ (fun _ => rfl) hk ?_
        · show (leap t.mask p.i p.perturb).1 + (runEnd t.mask (leap t.mask p.i p.perturb).1 - (leap t.mask p.i p.perturb).1) = runEnd t.mask (leap t.mask p.i p.perturb).1
          omega
        · show 10 * k' + (runEnd t.mask (leap t.mask p.i p.perturb).1 - (leap t.mask p.i p.perturb).1) < fuel
          omega
theorem start_ok (t : SetTable) (h : Int) : bits h % (t.mask + 1) ≤ t.mask := Nat.le_of_lt_succ (Nat.mod_lt _ (Nat.succ_pos _))
theorem probe_free {t : SetTable} {n : Nat} (T : TabOk t n) {hashAt : Nat → Int} {h : Int} (hno : ∀ i, (hashAt i == h) = false) :
    ∃ j, t.probe hashAt h (t.probeStart h) = some (.empty j none) ∧ NotIn t j ∧ j ≤ t.mask := by
  obtain ⟨e, he1, he2⟩ := T.room
  have hs := start_ok t h
  obtain ⟨k, k1, k2⟩ := leaps_reach T.kinds hs (bits_lt h) he1
  have hre := runEnd_le hs
  unfold probe
  refine probe_go T hno he2 _ _ k rfl hs (Nat.le_refl _) ?_ (fun _ => rfl) k2 ?_
  · show bits h % (t.mask + 1) + (runEnd t.mask (bits h % (t.mask + 1)) - bits h % (t.mask + 1)) = runEnd t.mask (bits h % (t.mask + 1))
    omega
  · show 10 * k + (runEnd t.mask (bits h % (t.mask + 1)) - bits h % (t.mask + 1)) < 10 * turns t.mask
    unfold turns
    omega
theorem freeSlot_ok {t : SetTable} {n : Nat} (T : TabOk t n) (h : Int) : ∃ j, t.freeSlot h = some (j, false) ∧ NotIn t j ∧ j ≤ t.mask := by
  obtain ⟨j, h1, h2, h3⟩ := probe_free T (hashAt := fun _ => h + 1) (h := h) fun i => by
    simp; omega
  refine ⟨j, ?_, h2, h3⟩
  unfold freeSlot
  rw [h1]; rfl

theorem getD_insertAt {xs : Array Nat} {p x : Nat} (hp : p ≤ xs.size) (i : Nat) : (insertAt xs p x).getD i 0 = if i < p then xs.getD i 0 else if i = p then x else xs.getD (i - 1) 0 := by
  have e : (insertAt xs p x).getD i 0 = (insertAt xs p x).toList.getD i 0 := by
    rw [Array.getD_eq_getD_getElem?, List.getD_eq_getElem?_getD, Array.getElem?_toList]
  have e2 : ∀ k, xs.getD k 0 = xs.toList.getD k 0 := fun k => by
    rw [Array.getD_eq_getD_getElem?, List.getD_eq_getElem?_getD, Array.getElem?_toList]
  have hl : p ≤ xs.toList.length := by simpa using hp
  rw [e, SetTable.toList_insertAt, e2, e2]
  simp only [List.getD_eq_getElem?_getD]
  by_cases h1 : i < p
  · rw [if_pos h1, List.getElem?_append_left (by rw [List.length_take]; omega), List.getElem?_take_of_lt h1]
  · rw [if_neg h1, List.getElem?_append_right (by rw [List.length_take]; omega), List.length_take, Nat.min_eq_left hl]
    by_cases h2 : i = p
    · subst h2; simp
    · rw [if_neg h2]
      obtain ⟨k, hk⟩ : ∃ k, i - p = k + 1 := ⟨i - p - 1, by omega⟩
      rw [hk, List.getElem?_cons_succ, List.getElem?_drop]
      congr 2
      omega
theorem size_insertAt {α : Type} {xs : Array α} {p : Nat} {x : α} (hp : p ≤ xs.size) : (insertAt xs p x).size = xs.size + 1 := by
  rw [← Array.length_toList, SetTable.toList_insertAt, List.length_append, List.length_cons, List.length_take, List.length_drop, Array.length_toList]
  omega
theorem put_ok {t : SetTable} {n j : Nat} (T : TabOk t n) (hj : NotIn t j) (hm : j ≤ t.mask) (hf : n + 1 ≤ t.mask) : TabOk (t.put j).1 (n + 1) ∧ (t.put j).1.led = t.led ∧ (t.put j).1.plain = t.plain ∧ (t.put j).1.mask = t.mask ∧ (t.put j).2 = below t.place j := by
  obtain ⟨h1, h2, h3⟩ := below_spec T.rise j
  have hd : ∀ k, (t.put j).1.place.getD k 0 = if k < below t.place j then t.place.getD k 0 else if k = below t.place j then j else t.place.getD (k - 1) 0 := fun k => getD_insertAt h1 k
  have hs : (t.put j).1.place.size = n + 1 := by
    show (insertAt t.place (below t.place j) j).size = _
    rw [size_insertAt h1, T.size]
  have hlt : ∀ i, below t.place j ≤ i → i < t.place.size → j < t.place.getD i 0 := fun i a b => by
    have c := h3 i a b
    rcases Nat.lt_or_ge j (t.place.getD i 0) with d | d
    · exact d
    · have e : t.place.getD i 0 = j := by omega
      exact absurd (e ▸ some_getD b 0) (hj i)
  have hsz := T.size
  refine ⟨⟨hs, ?_, ?_, ?_, T.kinds, hf⟩, rfl, rfl, rfl, rfl⟩
  · intro i k hik hk
    rw [hs] at hk
    rw [hd, hd]
    split
    · rename_i a1
      split
      · exact T.rise i k hik (by omega)
      · split
        · exact h2 i a1
        · have := h2 i a1
          have := hlt (k - 1) (by omega) (by omega)
          omega
    · split
      · rename_i a1 a2
        rw [if_neg (by omega), if_neg (by omega)]
        exact hlt (k - 1) (by omega) (by omega)
      · rw [if_neg (by omega), if_neg (by omega)]
        exact T.rise (i - 1) (k - 1) (by omega) (by omega)
  · intro i hi
    rw [hs] at hi
    rw [hd]
    show _ ≤ t.mask
    split
    · exact T.top i (by omega)
    · split
      · exact hm
      · exact T.top (i - 1) (by omega)
  · show (if has t.dummies j = true then _ else t.dummies) = #[]
    rw [T.dum]; rfl
end
section
example : True := by
  w_top off
  k_with_none
  k_with "omega" => lia
  trivial
open SetTable
noncomputable abbrev Own := Array (Option Nat)
/-- an owner's array: the numbers below k, each at one slot -/
structure OwnOk (mask : Nat) (ow : Own) (k : Nat) : Prop where
  size : ow.size = mask + 1
  lt : ∀ (j c : Nat), ow.getD j none = some c → c < k
  inj : ∀ (j j' c : Nat), ow.getD j none = some c → ow.getD j' none = some c → j = j'
  sur : ∀ c : Nat, c < k → ∃ j : Nat, ow.getD j none = some c
theorem own_none {mask : Nat} {ow : Own} {k : Nat} (O : OwnOk mask ow k) {j c : Nat} (h : ow.getD j none = some c) : j ≤ mask := by
  apply Classical.byContradiction
  intro hn
  rw [Array.getD_eq_getD_getElem?, Array.getElem?_eq_none (by rw [O.size]; omega)] at h
  cases h
theorem own_in {mask : Nat} {ow : Own} {k : Nat} (O : OwnOk mask ow k) {j : Nat} (h : j ≤ mask) (d : Option Nat) : ow.getD j d = ow.getD j none := by
  rw [Array.getD_eq_getD_getElem?, Array.getD_eq_getD_getElem?, Array.getElem?_eq_getElem (by rw [O.size]; omega)]; rfl
theorem OwnOk.room {mask : Nat} {ow : Own} {k : Nat} (O : OwnOk mask ow k) (hk : k ≤ mask) : ∃ e, e ≤ mask ∧ ow.getD e none = none := by
  apply Classical.byContradiction
  intro hc
  have hall : ∀ e, e ≤ mask → ∃ c, ow.getD e none = some c := fun e he => by
    cases h : ow.getD e none with
    | none => exact absurd ⟨e, he, h⟩ hc
    | some c => exact ⟨c, rfl⟩
  have hn : ((List.range (mask + 1)).map fun e => (ow.getD e none).getD 0).Nodup := by
    rw [List.nodup_iff_pairwise_ne, List.pairwise_map]
    refine List.Pairwise.imp_of_mem (fun {a b} ha hb hne e => ?_) (List.nodup_iff_pairwise_ne.mp List.nodup_range)
    obtain ⟨c1, h1⟩ := hall a (by have := List.mem_range.mp ha; omega)
    obtain ⟨c2, h2⟩ := hall b (by have := List.mem_range.mp hb; omega)
    rw [h1, h2] at e
    exact hne (O.inj a b c1 h1 (by rw [h2]; exact congrArg some (by simpa using e.symm)))
  have hs := List.Nodup.length_le_of_subset (l₂ := List.range k) hn fun c hc => by
    obtain ⟨e, he, rfl⟩ := List.mem_map.mp hc
    obtain ⟨c1, h1⟩ := hall e (by have := List.mem_range.mp he; omega)
    rw [h1]
    exact List.mem_range.mpr (O.lt _ _ h1)
  rw [List.length_map, List.length_range, List.length_range] at hs
  omega
theorem free_ok {mask : Nat} {ow : Own} {k : Nat} (O : OwnOk mask ow k) {e : Nat} (he : ow.getD e none = none) (hem : e ≤ mask) : ∀ (fuel i p m : Nat), i ≤ mask → (leapN mask m (i, p)).1 = e → m < fuel →
    ∃ j, layClean.free mask ow fuel i p = some j ∧ j ≤ mask ∧ ow.getD j none = none
  | 0, i, p, m, _, _, hf => by omega
  | fuel + 1, i, p, m, hi, hm, hf => by
    have hre := runEnd_le hi
    unfold layClean.free
    cases hx : (List.range (runEnd mask i + 1 - i)).find? fun k => (ow.getD (i + k) (some 0)).isNone with
    | some q =>
      dsimp only
      have h1 := List.find?_some hx
      have h2 := List.mem_range.mp (List.mem_of_find?_eq_some hx)
      have h3 : i + q ≤ mask := by omega
      rw [own_in O h3] at h1
      exact ⟨i + q, rfl, h3, by simpa using h1⟩
    | none =>
      dsimp only
      have h0 := List.find?_eq_none.mp hx 0 (List.mem_range.mpr (by omega))
      rw [Nat.add_zero, own_in O hi] at h0
      cases m with
      | zero =>
        have : i = e := hm
        rw [this, he] at h0
        simp at h0
      | succ m => exact free_ok O he hem fuel _ _ m (leap_lt mask i p) hm (by omega)
theorem getD_setOwn {ow : Own} {j : Nat} (hj : j < ow.size) (v : Option Nat) (i : Nat) : (ow.setIfInBounds j v).getD i none = if i = j then v else ow.getD i none := by
  rw [Array.getD_eq_getD_getElem?, Array.getD_eq_getD_getElem?, Array.getElem?_setIfInBounds]
  by_cases h : j = i
  · subst h; simp [hj]
  · rw [if_neg h, if_neg (fun e => h e.symm)]
theorem own_set {mask : Nat} {ow : Own} {k j : Nat} (O : OwnOk mask ow k) (hj : j ≤ mask) (hn : ow.getD j none = none) : OwnOk mask (ow.setIfInBounds j (some k)) (k + 1) := by
  have hs : j < ow.size := by rw [O.size]; omega
  refine ⟨by rw [Array.size_setIfInBounds]; exact O.size, fun i c h => ?_, fun i i' c h h' => ?_, fun c hc => ?_⟩
  · rw [getD_setOwn hs] at h
    split at h
    · cases h; omega
    · have := O.lt i c h; omega
  · rw [getD_setOwn hs] at h h'
    split at h <;> split at h'
    · omega
    · cases h; have := O.lt i' k h'; omega
    · cases h'; have := O.lt i k h; omega
    · exact O.inj i i' c h h'
  · by_cases e : c = k
    · exact ⟨j, by rw [getD_setOwn hs, if_pos rfl, e]⟩
    · obtain ⟨i, hi⟩ := O.sur c (by omega)
      refine ⟨i, ?_⟩
      rw [getD_setOwn hs, if_neg fun e2 => ?_]
      · exact hi
      · subst e2; rw [hn] at hi; cases hi
theorem lay_fold {mask : Nat} (hm : mask = 7 ∨ mask = 31 ∨ mask = 127) : ∀ (hs : List Int) (ow : Own) (k : Nat), OwnOk mask ow k → k + hs.length ≤ mask →
    ∃ ow', hs.foldl (fun acc h => (do
      let (owner, k) ← acc
      let j ← layClean.free mask owner (turns mask) (bits h % (mask + 1)) (bits h)
      pure (owner.setIfInBounds j (some k), k + 1) : Option (Own × Nat))) (some (ow, k)) = some (ow', k + hs.length) ∧ OwnOk mask ow' (k + hs.length)
  | [], ow, k, O, _ => ⟨ow, rfl, O⟩
  | h :: hs, ow, k, O, hz => by
    rw [List.length_cons] at hz
    obtain ⟨e, he1, he2⟩ := O.room (by omega)
    have hi : bits h % (mask + 1) ≤ mask := Nat.le_of_lt_succ (Nat.mod_lt _ (Nat.succ_pos _))
    obtain ⟨m, m1, m2⟩ := leaps_reach hm hi (bits_lt h) he1
    obtain ⟨j, j1, j2, j3⟩ := free_ok O he2 he1 (turns mask) _ _ m hi m2 (by unfold turns; omega)
    obtain ⟨ow', h1, h2⟩ := lay_fold hm hs _ _ (own_set O j2 j3) (by omega)
    refine ⟨ow', ?_, by rw [List.length_cons, show k + (hs.length + 1) = k + 1 + hs.length by omega]; exact h2⟩
    rw [List.foldl_cons, List.length_cons, show k + (hs.length + 1) = k + 1 + hs.length by omega]
    rw [← h1]
    congr 1
    show (some (ow, k) >>= fun x => _) = _
    simp only [Option.bind_eq_bind, Option.bind_some]
    rw [j1]
    rfl
theorem own_new (mask : Nat) : OwnOk mask (Array.replicate (mask + 1) none) 0 := by
  have h : ∀ j : Nat, (Array.replicate (mask + 1) (none : Option Nat)).getD j none = none := fun j => by
    rw [Array.getD_eq_getD_getElem?, Array.getElem?_replicate]
    split <;> rfl
  refine ⟨Array.size_replicate, fun j c e => ?_, fun j j' c e => ?_, fun c e => by omega⟩
  · rw [h] at e; cases e
  · rw [h] at e; cases e
theorem layClean_ok {mask : Nat} (hm : mask = 7 ∨ mask = 31 ∨ mask = 127) (hs : Array Int) (hz : hs.size ≤ mask) : ∃ ow, layClean mask hs = some ow ∧ OwnOk mask ow hs.size := by
  obtain ⟨ow, h1, h2⟩ := lay_fold hm hs.toList _ 0 (own_new mask) (by rw [Array.length_toList]; omega)
  rw [Nat.zero_add, Array.length_toList] at h1 h2
  refine ⟨ow, ?_, h2⟩
  unfold layClean
  rw [← Array.foldl_toList, h1]; rfl
noncomputable def liveOf (mask : Nat) (ow : Own) : List (Nat × Nat) := (List.range (mask + 1)).filterMap fun j => (ow.getD j none).map (j, ·)
theorem mem_live {mask : Nat} {ow : Own} {k : Nat} (O : OwnOk mask ow k) (j c : Nat) : (j, c) ∈ liveOf mask ow ↔ ow.getD j none = some c := by
  unfold liveOf
  rw [List.mem_filterMap]
  constructor
  · rintro ⟨i, _, h⟩
    obtain ⟨c', h1, h2⟩ := Option.map_eq_some_iff.mp h
    cases h2
    exact h1
  · intro h
    exact ⟨j, List.mem_range.mpr (by have := own_none O h; omega), by rw [h]; rfl⟩
theorem live_rise (mask : Nat) (ow : Own) : (liveOf mask ow).Pairwise fun a b => a.1 < b.1 := by
  unfold liveOf
  rw [List.pairwise_filterMap]
  refine List.Pairwise.imp (fun {a b} hab x hx y hy => ?_) List.pairwise_lt_range
  obtain ⟨c, _, rfl⟩ := Option.map_eq_some_iff.mp hx
  obtain ⟨c', _, rfl⟩ := Option.map_eq_some_iff.mp hy
  exact hab
theorem live_nodup {mask : Nat} {ow : Own} {k : Nat} (O : OwnOk mask ow k) : ((liveOf mask ow).map (·.2)).Nodup := by
  rw [List.nodup_iff_pairwise_ne, List.pairwise_map]
  refine List.Pairwise.imp_of_mem (fun {a b} ha hb hab e => ?_) (live_rise mask ow)
  have h1 := (mem_live O a.1 a.2).mp ha
  have h2 := (mem_live O b.1 b.2).mp hb
  have := O.inj a.1 b.1 a.2 h1 (e ▸ h2)
  omega
theorem live_perm {mask : Nat} {ow : Own} {k : Nat} (O : OwnOk mask ow k) : ((liveOf mask ow).map (·.2)).Perm (List.range k) := by
  rw [List.perm_ext_iff_of_nodup (live_nodup O) List.nodup_range]
  intro c
  rw [List.mem_map, List.mem_range]
  constructor
  · rintro ⟨⟨j, c'⟩, h, rfl⟩
    exact O.lt _ _ ((mem_live O j c').mp h)
  · intro h
    obtain ⟨j, hj⟩ := O.sur c h
    exact ⟨(j, c), (mem_live O j c).mpr hj, rfl⟩
theorem laid_ok {mask : Nat} (hm : mask = 7 ∨ mask = 31 ∨ mask = 127) (hs : Array Int) (hz : hs.size ≤ mask) (fi mv : Nat) (led plain : Bool) :
    ∃ t order, laid mask fi mv led plain hs = some (t, order) ∧ TabOk t hs.size ∧ t.mask = mask ∧ t.led = led ∧ t.plain = plain ∧ order.toList.Perm (List.range hs.size) := by
  obtain ⟨ow, h1, O⟩ := layClean_ok hm hs hz
  refine ⟨{ mask, place := ((liveOf mask ow).map (·.1)).toArray, dummies := #[], finger := fi, led, moves := mv, plain }, ((liveOf mask ow).map (·.2)).toArray, ?_, ?_, rfl, rfl, rfl, ?_⟩
  · unfold laid
    rw [h1]
    rfl
  · have hl : ((liveOf mask ow).map (·.1)).length = hs.size := by
      have := (live_perm O).length_eq
      rw [List.length_map, List.length_range] at this
      rw [List.length_map]; exact this
    have hg : ∀ i, i < hs.size → ∀ d, (((liveOf mask ow).map (·.1)).toArray).getD i d = ((liveOf mask ow).getD i (0, 0)).1 := fun i hi d => by
      have hi' : i < (liveOf mask ow).length := by rw [List.length_map] at hl; omega
      rw [Array.getD_eq_getD_getElem?, List.getElem?_toArray, List.getElem?_map, List.getElem?_eq_getElem hi', List.getD_eq_getElem?_getD, List.getElem?_eq_getElem hi']; rfl
    have hL : (liveOf mask ow).length = hs.size := by rw [List.length_map] at hl; exact hl
    refine ⟨by simpa using hl, ?_, ?_, rfl, hm, hz⟩
    · intro i k hik hk
      have hk' : k < hs.size := by simpa [hL] using hk
      show (((liveOf mask ow).map (·.1)).toArray).getD i 0 < (((liveOf mask ow).map (·.1)).toArray).getD k 0
      rw [hg i (by omega), hg k hk']
      have := List.pairwise_iff_getElem.mp (live_rise mask ow) i k (by omega) (by omega) hik
      rw [List.getD_eq_getElem?_getD, List.getD_eq_getElem?_getD, List.getElem?_eq_getElem (by omega), List.getElem?_eq_getElem (by omega)]
      exact this
    · intro i hi
      have hi' : i < hs.size := by simpa [hL] using hi
      show (((liveOf mask ow).map (·.1)).toArray).getD i 0 ≤ mask
      rw [hg i hi']
      have hm2 : (liveOf mask ow).getD i (0, 0) ∈ liveOf mask ow := getD_mem (by omega)
      exact own_none O ((mem_live O _ _).mp hm2)
  · simpa using live_perm O
/-- laying anew, where the table is too full -/
theorem relay_ok {t : SetTable} {n : Nat} {es : Array (Int × Value)} (T : TabOk t n) (hn : es.size = n) (hc : (t.mask = 7 ∧ n = 5) ∨ (t.mask = 31 ∧ n = 19)) :
    ∃ es' t', relayAll t es (grown es.size) = (es', t', false) ∧ es'.toList.Perm es.toList ∧ TabOk t' n ∧ Calm t' n ∧ t'.led = t.led ∧ t'.plain = t.plain := by
  obtain ⟨m', hm', hs', hz⟩ : ∃ m', (m' = 7 ∨ m' = 31 ∨ m' = 127) ∧ sizeAbove (grown es.size) - 1 = m' ∧ n ≤ m' ∧ ((m' = 31 ∧ n = 5) ∨ (m' = 127 ∧ n = 19)) := by
    rcases hc with ⟨_, e⟩ | ⟨_, e⟩
    · exact ⟨31, .inr (.inl rfl), by rw [hn, e]; decide, by omega, .inl ⟨rfl, e⟩⟩
    · exact ⟨127, .inr (.inr rfl), by rw [hn, e]; decide, by omega, .inr ⟨rfl, e⟩⟩
  have hsz : (es.map (·.1)).size = n := by rw [Array.size_map]; exact hn
  obtain ⟨t', order, h1, h2, h3, h4, h5, h6⟩ := laid_ok hm' (es.map (·.1)) (by omega) t.finger (t.movedTo m') t.led t.plain
  rw [hsz] at h2 h6
  have hp := relayAll_perm t es (grown es.size)
  have hcov : coversAll order es.size = true := by
    unfold coversAll
    rw [hn]
    exact List.isPerm_iff.mpr h6
  have hes : (order.filterMap (es[·]?)).toList.Perm es.toList := by
    rw [Array.toList_filterMap]
    exact (h6.filterMap _).trans (by rw [← hn, filterMap_getElem?_range])
  have hsz2 : (order.filterMap (es[·]?)).size = n := by rw [← Array.length_toList, hes.length_eq, Array.length_toList, hn]
  have hfit : t'.fits (order.filterMap (es[·]?)).size = true := by
    unfold SetTable.fits SetTable.fill
    rw [h2.size, hsz2, h2.dum]
    have := h2.full
    simp [this]
  refine ⟨order.filterMap (es[·]?), t', ?_, hes, h2, ?_, h4, h5⟩
  · unfold relayAll relaid
    rw [hs', h1]
    dsimp only
    rw [hcov, hfit]; rfl
  · unfold Calm
    rw [h3]
    rcases hz.2 with h | h <;> omega
end
section
example : True := by
  w_top off
  k_with_none
  k_with "omega" => lia
  trivial
open SetTable
noncomputable def byText (w : World) : Bool := w.params.followText "set-order"
noncomputable def intOf : Value → Int
  | .int k _ => k
  | _ => 0
theorem ints_map : ∀ {vs : List Value} {ns : List Int}, IntsAre vs ns → ns = vs.map intOf ∧ ∀ v ∈ vs, ∃ k t, v = .int k t
  | _, _, .nil => ⟨rfl, fun v h => nomatch h⟩
  | _, _, .cons n t r => by
    obtain ⟨h1, h2⟩ := ints_map r
    refine ⟨by rw [List.map_cons, ← h1]; rfl, fun v h => ?_⟩
    rcases List.mem_cons.mp h with h | h
    · exact ⟨n, t, h⟩
    · exact h2 v h
theorem ints_of : ∀ {vs : List Value}, (∀ v ∈ vs, ∃ k t, v = .int k t) → IntsAre vs (vs.map intOf)
  | [], _ => .nil
  | v :: vs, h => by
    obtain ⟨k, t, rfl⟩ := h v (.head _)
    exact .cons k t (ints_of fun v hv => h v (.tail _ hv))
theorem ints_perm {vs vs' : List Value} {ns : List Int} (h : IntsAre vs ns) (p : vs'.Perm vs) : ∃ ns', IntsAre vs' ns' ∧ ns'.Perm ns := by
  obtain ⟨h1, h2⟩ := ints_map h
  exact ⟨_, ints_of fun v hv => h2 v (p.mem_iff.mp hv), h1 ▸ p.map _⟩
/-- a table at rest -/
structure TabFine (w : World) (es : Array (Int × Value)) (t : SetTable) : Prop where
  ok : TabOk t es.size
  calm : Calm t es.size
  led : t.led = !byText w
  fits : t.fits es.size = true
  plain : t.plain = true
theorem TabOk.fits {t : SetTable} {n : Nat} (T : TabOk t n) : t.fits n = true := by
  unfold SetTable.fits SetTable.fill
  rw [T.size, T.dum]
  have := T.full
  simp [this]
/-- a set of ints -/
noncomputable def SetI (prog : Program) (w : World) (o : Obj) (ns : List Int) : Prop :=
  o.ExactSet ∧ ∃ es ep t, o.data = .set es ep t ∧ TabFine w es t ∧ ElemsOf (PySem.intKind prog w) es.toList ∧ IntsAre (es.toList.map (·.2)) ns ∧ ns.Nodup
theorem fresh_fine (w : World) : TabFine w #[] (.fresh 0 0 (!byText w)) :=
  ⟨⟨rfl, fun _ _ _ h => absurd h (Nat.not_lt_zero _), fun _ h => absurd h (Nat.not_lt_zero _), rfl, .inl rfl, Nat.zero_le _⟩, .inl ⟨rfl, Nat.zero_le _⟩, rfl, rfl, rfl⟩
section
variable {prog : Program} {w : World} {A : Around} {E : Value → Shared → Prop} {s : Shared} {a : Addr} {o : Obj} {ns : List Int} {k : Int} {tk : Tok}
theorem SetI.small {es : Array (Int × Value)} {t : SetTable} (T : TabFine w es t) : es.size ≤ 70 := by
  rcases T.calm with h | h | h <;> omega
theorem isInt_mem {es : List (Int × Value)} {ns : List Int} (h : IntsAre (es.map (·.2)) ns) (k : Int) : k ∈ ns ↔ ∃ e ∈ es, (PySem.intKind prog w).is k e.2 = true := by
  obtain ⟨h1, h2⟩ := ints_map h
  rw [h1, List.mem_map]
  constructor
  · rintro ⟨v, hv, rfl⟩
    obtain ⟨e, he, rfl⟩ := List.mem_map.mp hv
    obtain ⟨k, t, hk⟩ := h2 _ hv
    exact ⟨e, he, by rw [hk]; exact PySem.intKind_is prog w k t⟩
  · rintro ⟨e, he, hk⟩
    refine ⟨e.2, List.mem_map_of_mem he, ?_⟩
    obtain ⟨t, ht⟩ := Value.isInt_shape hk
    rw [ht]; rfl
theorem add_end {es1 : Array (Int × Value)} {t2 : SetTable} {n : Nat} {es : Array (Int × Value)} {ep : Nat} {t : SetTable} {ns' : List Int} {g : Bool → Sem Unit} (hg : ∀ (b : Bool) (s₁ : Shared) (Q' : Unit → Shared → Prop), Q' () s₁ → wpAny (model prog w) A (g b) Q' E s₁)
    (ho : s.heap.get? a = some o) (hex : o.ExactSet) (hd : o.data = .set es ep t) (hz : es1.size = n) (T : TabOk t2 n) (hc : Calm t2 n ∨ (t2.mask = 7 ∧ n = 5) ∨ (t2.mask = 31 ∧ n = 19)) (hled : t2.led = !byText w) (hpl : t2.plain = true)
    (hel : ElemsOf (PySem.intKind prog w) es1.toList) (hI : IntsAre (es1.toList.map (·.2)) ns') (hN : ns'.Nodup) {R : Option Bool → Shared → Prop}
    (h : ∀ h' o' ns'', Heap.SameBut a s.heap h' → h'.get? a = some o' → SetI prog w o' ns'' → ns''.Perm ns' → R (some true) { s with heap := h' }) :
    wpAny (model prog w) A (do
        storeSet a es1 t2
        if (!false && t2.tooFull) = true then do
            g (relayAll t2 es1 (SetTable.grown es1.size)).2.2
            storeSet a (relayAll t2 es1 (SetTable.grown es1.size)).1 (relayAll t2 es1 (SetTable.grown es1.size)).2.1
            pure (some true)
          else pure (some true)) R E s := by
  have hsz : n ≤ 127 := by
    have := T.full
    rcases T.kinds with h | h | h <;> omega
  have hsl : es1.size ≤ sizeLine := by rw [hz, sizeLine_eq]; omega
  have upd : ∀ {h : Heap} {o : Obj} {es : Array (Int × Value)} {ep : Nat} {t : SetTable} (es' : Array (Int × Value)) (t' : SetTable), h.get? a = some o → o.data = .set es ep t → (h.update a (Obj.putSet es' t')).get? a = some { o with data := .set es' (ep + 1) t' } := fun {h o es ep t} es' t' ho hd => by
    have := Heap.get?_update_self (Obj.putSet es' t') ho (by rw [putSet_of es' t' hd]; rfl)
    rw [putSet_of es' t' hd] at this; exact this
  refine wpAny_bind (wpAny_storeSet_of ho hd ?_ hsl)
  have ho1 := upd es1 t2 ho hd
  have hsb1 := Heap.SameBut.update s.heap a (Obj.putSet es1 t2)
  by_cases hf : (!false && t2.tooFull) = true
  · rw [if_pos hf]
    have hc' : (t2.mask = 7 ∧ n = 5) ∨ (t2.mask = 31 ∧ n = 19) := by
      rcases hc with hc | hc
      · exfalso
        have hf' : t2.tooFull = true := by simpa using hf
        unfold SetTable.tooFull SetTable.fill at hf'
        rw [T.size, T.dum] at hf'
        have hf2 : n * 5 ≥ t2.mask * 3 := by simpa using hf'
        rcases hc with ⟨e, h1⟩ | ⟨e, h1⟩ | ⟨e, h1⟩ <;> rw [e] at hf2 <;> omega
      · exact hc
    obtain ⟨es2, t3, r1, r2, r3, r4, r5, r6⟩ := relay_ok T hz hc'
    rw [r1]
    dsimp only
    refine wpAny_bind (hg _ _ _ ?_)
    have hz2 : es2.size = n := by rw [← Array.length_toList, r2.length_eq, Array.length_toList, hz]
    refine wpAny_bind (wpAny_storeSet_of ho1 rfl ?_ (by rw [hz2, ← hz]; exact hsl))
    obtain ⟨ns2, i1, i2⟩ := ints_perm hI (r2.map (·.2))
    exact wpAny_pure (h _ _ ns2 (hsb1.trans (Heap.SameBut.update _ a _)) (upd es2 t3 ho1 rfl) ⟨hex, es2, _, t3, rfl, ⟨by rw [hz2]; exact r3, by rw [hz2]; exact r4, r5.trans hled, by rw [hz2]; exact r3.fits, r6.trans hpl⟩, hel.perm r2, i1, i2.nodup_iff.mpr hN⟩ i2)
  · rw [if_neg hf]
    have hc' : Calm t2 n := by
      rcases hc with hc | hc
      · exact hc
      · exfalso
        apply hf
        unfold SetTable.tooFull SetTable.fill
        rw [T.size, T.dum]
        rcases hc with ⟨e, e2⟩ | ⟨e, e2⟩ <;> rw [e, e2] <;> decide
    exact wpAny_pure (h _ _ ns' hsb1 ho1 ⟨hex, es1, _, t2, rfl, ⟨by rw [hz]; exact T, by rw [hz]; exact hc', hled, by rw [hz]; exact T.fits, hpl⟩, hel, hI, hN⟩ (.refl _))
theorem setAdd_int {Q : Bool → Shared → Prop} (ho : s.heap.get? a = some o) (hS : SetI prog w o ns) (hz : ns.length < 60)
    (h : ∀ b h' o' ns', Heap.SameBut a s.heap h' → h'.get? a = some o' → SetI prog w o' ns' → (∀ j, j ∈ ns' ↔ j ∈ ns ∨ j = k) → Q b { s with heap := h', toks := s.toks + 1 }) :
    wpAny (model prog w) A (setAdd a (.int k tk)) Q E s := by
  obtain ⟨hex, es, ep, t, hd, T, hel, hI, hN⟩ := hS
  have hkey : (PySem.intKind prog w).is k (.int k tk) = true := PySem.intKind_is prog w k tk
  have hsz : es.size = ns.length := by rw [← hI.length]; simp
  have hsc : (Value.int k tk).scannable = true := rfl
  unfold setAdd
  refine wpAny_holding (wpAny_bind ((PySem.intKind prog w).pyHash hkey ?_))
  have gen : ∀ s : Shared, s.heap.get? a = some o → (∀ b h' o' ns', Heap.SameBut a s.heap h' → h'.get? a = some o' → SetI prog w o' ns' → (∀ j, j ∈ ns' ↔ j ∈ ns ∨ j = k) → Q b { s with heap := h' }) →
      wpAny (model prog w) A (setAddHashed a (.int k tk) ((PySem.intKind prog w).hash k)) Q E s := by
    intro s ho h
    unfold setAddHashed setAddHashedIn
    refine wpAny_holding (wpAny_bind (wpAny_setState_of ho hd T.fits ?_))
    dsimp only
    rw [byScan_of hsc (by unfold scanBound; omega) hel]
    simp only [↓reduceIte]
    unfold setAddByScan
    refine wpAny_bind ?_
    refine wpAny_bind (wpAny_rule ?_)
    refine wpAny_bind (wpAny_setScan_of hkey ho hd T.fits hel ?_)
    cases hr : List.findIdx? (fun e => (PySem.intKind prog w).is k e.2) es.toList with
    | some j =>
      dsimp only
      obtain ⟨hj, hpj, _⟩ := List.findIdx?_eq_some_iff_getElem.mp hr
      have hk : k ∈ ns := (isInt_mem (prog := prog) (w := w) hI k).mpr ⟨_, List.getElem_mem hj, hpj⟩
      refine wpAny_pure (wpAny_pure ?_)
      have := h false s.heap o ns (Heap.SameBut.refl a s.heap) ho ⟨hex, es, ep, t, hd, T, hel, hI, hN⟩ fun j => ⟨.inl, fun q => q.elim id fun e => e ▸ hk⟩
      exact this
    | none =>
      dsimp only
      have hk : k ∉ ns := fun hm => by
        obtain ⟨e, he, hp⟩ := (isInt_mem (prog := prog) (w := w) hI k).mp hm
        have := List.findIdx?_eq_none_iff.mp hr e he
        rw [hp] at this; cases this
      have hfull : es.size + 1 ≤ t.mask := by
        rcases T.calm with h | h | h <;> omega
      obtain ⟨j, j1, j2, j3⟩ := freeSlot_ok T.ok ((PySem.intKind prog w).hash k)
      obtain ⟨p1, p2, p3, p4, p5⟩ := put_ok T.ok j2 j3 hfull
      have hperm := layNew_perm t es ((PySem.intKind prog w).hash k) (.int k tk)
      have hL : layNew t es ((PySem.intKind prog w).hash k) (.int k tk) = (insertAt es (below t.place j) ((PySem.intKind prog w).hash k, .int k tk), (t.put j).1, false, false) := by
        unfold layNew
        rw [j1]
        dsimp only
        have hs1 : (insertAt es (t.put j).2 ((PySem.intKind prog w).hash k, Value.int k tk)).size = es.size + 1 := by
          rw [p5]
          exact size_insertAt (by rw [← T.ok.size]; exact (below_spec T.ok.rise j).1)
        unfold SetTable.orStandIn
        rw [hs1, p1.fits, if_pos rfl, p5]; rfl
      rw [hL] at hperm ⊢
      dsimp only at hperm ⊢
      rw [Array.toList_push] at hperm
      have hsz1 : (insertAt es (below t.place j) ((PySem.intKind prog w).hash k, Value.int k tk)).size = es.size + 1 := size_insertAt (by rw [← T.ok.size]; exact (below_spec T.ok.rise j).1)
      have hI2 : IntsAre ((es.toList ++ [((PySem.intKind prog w).hash k, Value.int k tk)]).map (·.2)) (ns ++ [k]) := by
        rw [List.map_append]; exact hI.append (.cons _ _ .nil)
      obtain ⟨ns1, i1, i2⟩ := ints_perm hI2 (hperm.map (·.2))
      have hN1 : ns1.Nodup := i2.nodup_iff.mpr (by
        rw [List.nodup_append]
        exact ⟨hN, by simp, fun x hx y hy => by rw [List.mem_singleton.mp hy]; exact fun e => hk (e ▸ hx)⟩)
      refine wpAny_bind (wpAny_pure ?_)
      rw [if_pos (p3.trans T.plain), hashByValue_scannable 8 hsc]
      refine wpAny_bind (wpAny_pure ?_)
      simp only [plainKind, ↓reduceIte]
      refine add_end (n := es.size + 1) (ns' := ns1) ?_ ho hex hd hsz1 p1 ?_ (p2.trans T.led) (p3.trans T.plain) ((hel.push hkey hsc).perm hperm) i1 hN1 ?_
      · intro b s₁ Q' hq; cases b <;> first | exact wpAny_pure hq | exact wpAny_rule hq
      · unfold Calm
        rw [p4]
        rcases T.calm with h | h | h <;> omega
      · intro h' o' ns'' hsb ho' hS' hp
        dsimp only
        refine wpAny_pure (h true h' o' ns'' hsb ho' hS' fun j => ?_)
        rw [(hp.trans i2).mem_iff, List.mem_append, List.mem_singleton]
  exact gen _ ho fun b h' o' ns' a1 a2 a3 a4 => h b h' o' ns' a1 a2 a3 a4
end
end
section
example : True := by
  w_top off
  k_with_none
  k_with "omega" => lia
  trivial
open SetTable
theorem entry_set_iter : entryFor table "set.__iter__" = some Builtin.«frozenset.__iter__» := entryFor_alias (id' := "frozenset.__iter__") (by kernel_rfl) rfl (by decide +kernel) (by kernel_rfl)
theorem slot_setiter_next : Slot "set_iterator" "__next__" "set_iterator.__next__" :=
  .of (owner := "set_iterator") (n := "__next__") (by rw [typeLookup_type, builtinLookup_eq_fast]; kernel_rfl) (by decide +kernel) (by decide +kernel) (by decide +kernel)
    (by first | exact .inl (by decide +kernel) | exact .inr (by decide +kernel)) (by rw [isSubtype_type]; kernel_rfl)
theorem entry_setiter_next : entryFor table "set_iterator.__next__" = some Builtin.«set_iterator.__next__» := entryFor_of_fast (by kernel_rfl)
theorem args_setiter_next (a : Value) : argsOk "set_iterator.__next__" ⟨[a], []⟩ := by unfold argsOk; kernel_rfl
theorem slot_setiter_iter : Slot "set_iterator" "__iter__" "set_iterator.__iter__" :=
  .of (owner := "set_iterator") (n := "__iter__") (by rw [typeLookup_type, builtinLookup_eq_fast]; kernel_rfl) (by decide +kernel) (by decide +kernel) (by decide +kernel)
    (by first | exact .inl (by decide +kernel) | exact .inr (by decide +kernel)) (by rw [isSubtype_type]; kernel_rfl)
theorem entry_setiter_iter : entryFor table "set_iterator.__iter__" = some Builtin.«dict_keyiterator.__iter__» := entryFor_alias (id' := "dict_keyiterator.__iter__") (by kernel_rfl) rfl (by decide +kernel) (by kernel_rfl)
theorem args_setiter_iter (a : Value) : argsOk "set_iterator.__iter__" ⟨[a], []⟩ := by unfold argsOk; kernel_rfl
theorem erase_perm {α : Type} {l : List α} {i : Nat} (h : i < l.length) : (l[i] :: l.eraseIdx i).Perm l := by
  have e : l = l.take i ++ l[i] :: l.drop (i + 1) := by
    rw [List.getElem_cons_drop, List.take_append_drop]
  rw [List.eraseIdx_eq_take_drop_succ]
  conv => rhs; rw [e]
  exact List.perm_middle.symm
theorem pick_go {α : Type} (next : Nat → Nat) : ∀ (fuel k : Nat) (left : List α) (out : Array α), left.length ≤ fuel → (pickOrder.go next fuel k left out).toList.Perm (out.toList ++ left)
  | 0, k, left, out, h => by
    have : left = [] := List.eq_nil_of_length_eq_zero (by omega)
    subst this
    unfold pickOrder.go
    simp
  | fuel + 1, k, left, out, h => by
    unfold pickOrder.go
    by_cases hl : left.length = 0
    · have : left = [] := List.eq_nil_of_length_eq_zero hl
      subst this
      simp
    · have hi : next k % left.length < left.length := Nat.mod_lt _ (by omega)
      rw [List.getElem?_eq_getElem hi]
      dsimp only
      refine (pick_go next fuel (k + 1) _ _ (by rw [List.length_eraseIdx, if_pos hi]; omega)).trans ?_
      rw [Array.toList_push, List.append_assoc]
      exact List.Perm.append_left _ (erase_perm hi)
theorem pick_perm {α : Type} (next : Nat → Nat) (xs : Array α) : (pickOrder next xs).toList.Perm xs.toList := by
  unfold pickOrder
  have := pick_go next xs.size 0 xs.toList #[] (by rw [Array.length_toList]; exact Nat.le_refl _)
  simpa using this
/-- the order in which a set is walked -/
noncomputable def setOrd (w : World) (a : Addr) (ep : Nat) (es : Array (Int × Value)) : Array Value := (if byText w then pickOrder (w.params.setOrder a ep) es else es).map (·.2)
theorem setOrd_perm (w : World) (a : Addr) (ep : Nat) (es : Array (Int × Value)) : (setOrd w a ep es).toList.Perm (es.toList.map (·.2)) := by
  unfold setOrd
  rw [Array.toList_map]
  refine List.Perm.map _ ?_
  split
  · exact pick_perm _ _
  · exact .refl _
theorem setOrd_size (w : World) (a : Addr) (ep : Nat) (es : Array (Int × Value)) : (setOrd w a ep es).size = es.size := by
  rw [← Array.length_toList, (setOrd_perm w a ep es).length_eq, List.length_map, Array.length_toList]
noncomputable def IsSetIter (w : World) (I a : Addr) (es : Array (Int × Value)) (ep : Nat) (t : SetTable) (i : Nat) (h : Heap) : Prop :=
  ∃ oi f, h.get? I = some oi ∧ oi.cls = .type "set_iterator" ∧ oi.data = .fields #[.int (f : Nat) 0, .int (i : Nat) 0, .ref a, .int (es.size : Nat) 0, .int (ep : Nat) 0] ∧ (byText w = false → below t.place f = i)
section
variable {prog : Program} {w : World} {A : Around} {E : Value → Shared → Prop} {s : Shared} {a I : Addr} {o : Obj} {es : Array (Int × Value)} {ep : Nat} {t : SetTable} {i : Nat}
theorem setNext_some {x : Value} {slot : Nat} {Q : Option (Value × Nat) → Shared → Prop} (ho : s.heap.get? a = some o) (hd : o.data = .set es ep t) (T : TabFine w es t) (hb : byText w = false → below t.place slot = i) (hx : (setOrd w a ep es)[i]? = some x)
    (h : ∀ f : Nat, (byText w = false → below t.place f = i + 1) → Q (some (x, f)) s) : wpAny (model prog w) A (setNext a slot i ep) Q E s := by
  unfold setNext
  refine wpAny_bind (wpAny_setState_of ho hd T.fits ?_)
  unfold setsByText
  refine wpAny_bind (wpAny_bind (wpAny_askSetting (wpAny_pure ?_)))
  show wpAny _ _ (if w.params.followText "set-order" = true then _ else _) Q E s
  unfold setOrd at hx
  cases hbt : byText w with
  | true =>
    have hbt' : w.params.followText "set-order" = true := hbt
    rw [hbt, if_pos rfl, Array.getElem?_map] at hx
    obtain ⟨e, he, rfl⟩ := Option.map_eq_some_iff.mp hx
    rw [if_pos hbt']
    rw [if_neg (by simp)]
    refine wpAny_bind ?_
    unfold setWalk
    refine wpAny_bind (wpAny_setState_of ho hd T.fits ?_)
    unfold setsByText
    refine wpAny_bind (wpAny_bind (wpAny_askSetting (wpAny_pure ?_)))
    show wpAny _ _ (if w.params.followText "set-order" = true then _ else _) _ E s
    rw [if_pos hbt']
    refine wpAny_bind (wpAny_askSetting (wpAny_pure ?_))
    refine wpAny_pure ?_
    show Q (Option.map _ ((pickOrder (w.params.setOrder a ep) es)[i]?)) s
    rw [he]
    exact h slot fun e => absurd (hbt.symm.trans e) (by decide)
  | false =>
    have hbt' : w.params.followText "set-order" = false := hbt
    rw [hbt, if_neg (by decide), Array.getElem?_map] at hx
    obtain ⟨e, he, rfl⟩ := Option.map_eq_some_iff.mp hx
    rw [if_neg (by rw [hbt']; decide)]
    split
    · rename_i hdr
      exact absurd (show (!t.plain && decide (es.size > 1)) = true from hdr) (by rw [T.plain]; simp)
    · refine wpAny_bind ?_
      have hled : t.led = true := by rw [T.led, hbt]; rfl
      show wpAny _ _ (if (!t.led && !es.isEmpty) = true then _ else _) _ E s
      rw [if_neg (by rw [hled]; simp)]
      refine wpAny_pure (wpAny_pure ?_)
      have hb' := hb hbt
      rw [hb']
      have hi : i < es.size := (Array.getElem?_eq_some_iff.mp he).1
      have hp : t.place[i]? = some (t.place.getD i 0) := some_getD (by rw [T.ok.size]; exact hi) 0
      rw [he, hp]
      refine h (t.place.getD i 0 + 1) fun _ => ?_
      obtain ⟨c1, c2, c3⟩ := below_spec T.ok.rise (t.place.getD i 0 + 1)
      have hsz := T.ok.size
      rcases Nat.lt_trichotomy (below t.place (t.place.getD i 0 + 1)) (i + 1) with c | c | c
      · have := c3 i (by omega) (by omega)
        omega
      · exact c
      · have h1 := c2 (i + 1) c
        have h2 := T.ok.rise i (i + 1) (by omega) (by omega)
        omega
theorem setNext_none {slot : Nat} {Q : Option (Value × Nat) → Shared → Prop} (ho : s.heap.get? a = some o) (hd : o.data = .set es ep t) (T : TabFine w es t) (hb : byText w = false → below t.place slot = es.size)
    (h : Q none s) : wpAny (model prog w) A (setNext a slot es.size ep) Q E s := by
  unfold setNext
  refine wpAny_bind (wpAny_setState_of ho hd T.fits ?_)
  unfold setsByText
  refine wpAny_bind (wpAny_bind (wpAny_askSetting (wpAny_pure ?_)))
  show wpAny _ _ (if w.params.followText "set-order" = true then _ else _) Q E s
  have hso := setOrd_size w a ep es
  cases hbt : byText w with
  | true =>
    have hbt' : w.params.followText "set-order" = true := hbt
    unfold setOrd at hso
    rw [hbt, if_pos rfl, Array.size_map] at hso
    rw [if_pos hbt']
    rw [if_neg (by simp)]
    refine wpAny_bind ?_
    unfold setWalk
    refine wpAny_bind (wpAny_setState_of ho hd T.fits ?_)
    unfold setsByText
    refine wpAny_bind (wpAny_bind (wpAny_askSetting (wpAny_pure ?_)))
    show wpAny _ _ (if w.params.followText "set-order" = true then _ else _) _ E s
    rw [if_pos hbt']
    refine wpAny_bind (wpAny_askSetting (wpAny_pure ?_))
    refine wpAny_pure ?_
    show Q (Option.map _ ((pickOrder (w.params.setOrder a ep) es)[es.size]?)) s
    rw [Array.getElem?_eq_none (by omega)]
    exact h
  | false =>
    have hbt' : w.params.followText "set-order" = false := hbt
    rw [if_neg (by rw [hbt']; decide)]
    split
    · rename_i hdr
      exact absurd (show (!t.plain && decide (es.size > 1)) = true from hdr) (by rw [T.plain]; simp)
    · refine wpAny_bind ?_
      have hled : t.led = true := by rw [T.led, hbt]; rfl
      show wpAny _ _ (if (!t.led && !es.isEmpty) = true then _ else _) _ E s
      rw [if_neg (by rw [hled]; simp)]
      refine wpAny_pure (wpAny_pure ?_)
      rw [hb hbt, Array.getElem?_eq_none (Nat.le_refl _)]
      exact h
theorem setiter_item {x : Value} {Q : Option Value → Shared → Prop} (hI : IsSetIter w I a es ep t i s.heap) (ho : s.heap.get? a = some o) (hd : o.data = .set es ep t) (T : TabFine w es t) (hx : (setOrd w a ep es)[i]? = some x)
    (hQ : ∀ h', IsSetIter w I a es ep t (i + 1) h' → Heap.SameBut I s.heap h' → Q (some x) { s with heap := h' }) : wpAny (model prog w) A (pyNext (.ref I)) Q E s := by
  obtain ⟨oi, f, hi, hc, hdi, hb⟩ := hI
  have hT : s.TypeIs (.ref I) "set_iterator" := ⟨oi, hi, hc⟩
  unfold pyNext
  refine wpAny_bind (wpAny_attempt (wpAny_callSpecial?_slot (name := Str.ofString "__next__") hT slot_setiter_next
    (wpAny_call_entry slot_setiter_next hT entry_setiter_next ?_ (args_setiter_next _))))
  show wpAny _ _ (fieldsOf (.ref I) >>= _) _ _ s
  refine wpAny_bind (wpAny_fieldsOf hi hdi ?_)
  dsimp only
  refine wpAny_bind (wpAny_setEntries_of ho hd T.fits ?_)
  rw [if_neg (by simp)]
  simp only [Int.toNat_natCast]
  refine wpAny_bind (setNext_some ho hd T hb hx fun f' hb' => ?_)
  dsimp only
  have hi1 := Heap.get?_update_self (h := s.heap) (a := I) (Obj.mapFields (·.setIfInBounds 0 (rawInt (f' : Int)))) hi (Obj.isFreed_of_fields (Obj.data_mapFields hdi _))
  refine wpAny_bind (wpAny_setField hi hdi (by simp) ?_)
  have hd1 := Obj.data_mapFields hdi (·.setIfInBounds 0 (rawInt (f' : Int)))
  refine wpAny_bind (wpAny_setField hi1 hd1 (by simp) (wpAny_pure ⟨x, rfl, wpAny_pure (hQ _ ?_ ((Heap.SameBut.update ..).trans (Heap.SameBut.update ..)))⟩))
  refine ⟨_, f', Heap.get?_update_self _ hi1 (Obj.isFreed_of_fields (Obj.data_mapFields hd1 _)), ?_, ?_, hb'⟩
  · rw [Obj.cls_mapFields, Obj.cls_mapFields]; exact hc
  · rw [Obj.data_mapFields hd1]; simp [rawInt]
theorem setiter_end {Q : Option Value → Shared → Prop} (hh : A.handled = none) (hI : IsSetIter w I a es ep t es.size s.heap) (ho : s.heap.get? a = some o) (hd : o.data = .set es ep t) (T : TabFine w es t)
    (hQ : ∀ h', Heap.ExtBut I s.heap h' → Q none { s with heap := h' }) : wpAny (model prog w) A (pyNext (.ref I)) Q E s := by
  obtain ⟨oi, f, hi, hc, hdi, hb⟩ := hI
  have hT : s.TypeIs (.ref I) "set_iterator" := ⟨oi, hi, hc⟩
  unfold pyNext
  refine wpAny_bind (wpAny_attempt (wpAny_callSpecial?_slot (name := Str.ofString "__next__") hT slot_setiter_next
    (wpAny_call_entry slot_setiter_next hT entry_setiter_next ?_ (args_setiter_next _))))
  show wpAny _ _ (fieldsOf (.ref I) >>= _) _ _ s
  refine wpAny_bind (wpAny_fieldsOf hi hdi ?_)
  dsimp only
  refine wpAny_bind (wpAny_setEntries_of ho hd T.fits ?_)
  rw [if_neg (by simp)]
  simp only [Int.toNat_natCast]
  refine wpAny_bind (setNext_none ho hd T hb ?_)
  dsimp only
  refine wpAny_bind (wpAny_setField hi hdi (by simp) ?_)
  show wpAny _ _ (newExc (.type "StopIteration") [] >>= _) _ _ _
  refine wpAny_bind ?_
  simp only [newExc, newTuple]
  refine wpAny_bind (wpAny_newObj_type ?_ (by size_fits))
  refine wpAny_bind (m := firstArgMember _ _) (wpAny_of_eq (a := Value.none) (by first | rfl | (simp only [firstArgMember]; rfl)) ?_)
  refine wpAny_newObj_type ?_ (by size_fits)
  simp only [raiseNew]
  refine wpAny_bind (wpAny_handled ?_)
  rw [show A.in1.handled = none from hh]
  refine wpAny_bind (wpAny_pure (wpAny_throw ?_))
  refine wpAny_bind (wpAny_isInstance (T := "StopIteration") (b := true) ⟨_, Heap.get?_push_size _ rfl, rfl⟩ isSubtype_stop ?_)
  exact wpAny_pure (hQ _ (((Heap.SameBut.update ..).extBut.push _).push _))
theorem setiter_self {i : Nat} {Q : Value → Shared → Prop} (hI : IsSetIter w I a es ep t i s.heap) (h : Q (.ref I) s) : wpAny (model prog w) A (pyIter (.ref I)) Q E s := by
  obtain ⟨oi, f, hi, hc, hdi, hb⟩ := hI
  have hT : s.TypeIs (.ref I) "set_iterator" := ⟨oi, hi, hc⟩
  refine wpAny_pyIter_slot hT slot_setiter_iter (wpAny_call_entry slot_setiter_iter hT entry_setiter_iter ?_ (args_setiter_iter _))
  show wpAny _ _ (ret (.ref I)) _ _ s
  exact wpAny_pure ⟨_, rfl, "set_iterator", _, hT, slot_setiter_next.lookup, h⟩
theorem setWalks (hh : A.handled = none) (hne : a ≠ I) (hd : o.data = .set es ep t) (T : TabFine w es t) :
    Walks prog w A I [I, a] [I] es.size (fun i v => (setOrd w a ep es)[i]? = some v) (fun i h => IsSetIter w I a es ep t i h ∧ h.get? a = some o) where
  sub := fun b hb => by simp at hb; simp [hb]
  frame := fun i h h' st hk => by
    obtain ⟨⟨oi, f, hi, r⟩, ho⟩ := st
    exact ⟨⟨oi, f, hk I (by simp) _ hi, r⟩, hk a (by simp) _ ho⟩
  item := fun i s Q E hi st hQ => by
    have hlt : i < (setOrd w a ep es).size := by rw [setOrd_size]; exact hi
    refine setiter_item (x := (setOrd w a ep es)[i]) st.1 st.2 hd T (by simp [hlt]) fun h' hI' hs' => ?_
    exact hQ _ h' s.toks (by simp [hlt]) ⟨hI', hs'.extBut a o hne st.2⟩ fun b o hb e => hs'.extBut b o (fun h => hb (by simp [h])) e
  done := fun s Q E st hQ => setiter_end hh st.1 st.2 hd T fun h' he' => hQ h' s.toks fun b o hb e => he' b o (fun h => hb (by simp [h])) e
  self := fun _ _ _ _ st hQ => setiter_self st.1 hQ
theorem set_iter {Q : Value → Shared → Prop} (ho : s.heap.get? a = some o) (hc : o.ExactSet) (hd : o.data = .set es ep t) (T : TabFine w es t)
    (h : ∀ h' : Heap, h'.objs.size = s.heap.objs.size + 1 → (∀ b o, s.heap.get? b = some o → h'.get? b = some o) → IsSetIter w s.heap.objs.size a es ep t 0 h' → Q (.ref s.heap.objs.size) { s with heap := h' }) : wpAny (model prog w) A (pyIter (.ref a)) Q E s := by
  have hT : s.TypeIs (.ref a) "set" := ⟨o, ho, hc.1⟩
  refine wpAny_pyIter_slot hT PySem.F.slot_set_iter (wpAny_call_entry PySem.F.slot_set_iter hT entry_set_iter ?_ (PySem.F.args_set_iter_1 _))
  show wpAny _ _ (Builtin.Frozenset.sizeOf a >>= _) _ _ s
  refine wpAny_bind ?_
  unfold Builtin.Frozenset.sizeOf
  refine wpAny_bind (wpAny_setEntries_of ho hd T.fits (wpAny_pure ?_))
  refine wpAny_bind ?_
  unfold setDrawn
  refine wpAny_bind (wpAny_setState_of ho hd T.fits ?_)
  unfold setsByText
  refine wpAny_bind (wpAny_bind (wpAny_askSetting (wpAny_pure ?_)))
  refine wpAny_pure ?_
  dsimp only
  split
  · rename_i hdr
    simp only [Bool.and_eq_true] at hdr
    exact absurd (show (!t.plain && decide (es.size > 1)) = true from hdr.2) (by rw [T.plain]; simp)
  · refine wpAny_bind (wpAny_pure ?_)
    refine wpAny_bind (wpAny_setEpoch_of ho hd T.fits ?_)
    refine wpAny_bind ?_
    simp only [newFields]
    refine wpAny_newObj_type ?_ (by size_fits)
    refine wpAny_pure ⟨_, rfl, "set_iterator", _, ⟨_, Heap.get?_push_size _ rfl, rfl⟩, slot_setiter_next.lookup, ?_⟩
    refine h _ (Heap.size_push _ _) (fun b o e => Heap.get?_push_of_some _ e) ⟨_, 0, Heap.get?_push_size _ rfl, rfl, rfl, fun _ => ?_⟩
    have := (below_spec T.ok.rise 0).2.1
    rcases Nat.eq_zero_or_pos (below t.place 0) with c | c
    · exact c
    · exact absurd (this 0 c) (Nat.not_lt_zero _)
end
end
section
example : True := by
  w_top off
  k_with_none
  k_with "omega" => lia
  trivial
open SetTable
section
variable {prog : Program} {w : World} {A : Around} {R : Result → Shared → Prop} {I : Addr} {fp wr : List Addr} {G : Array GenState → Array GenState → Prop} {n : Nat} {P : Nat → Value → Prop} {St : Nat → Shared → Prop}
theorem nodup_len {ms ns : List Int} (h : ms.Nodup) (hs : ∀ j, j ∈ ms → j ∈ ns) : ms.length ≤ ns.length := List.Nodup.length_le_of_subset h hs
theorem set_loop (W : WalksS prog w A.in1 I fp wr G n P St) (S : Addr) (hSf : S ∉ fp) (ns : List Int) (hn : n = ns.length) (hval : ∀ i v, P i v → ∃ t, v = .int (ns.getD i 0) t) (hz : ns.length < 60) :
    ∀ (k i : Nat) (s : Shared) (ms : List Int) (o : Obj), n - i = k → i ≤ n → St i s → s.heap.get? S = some o → SetI prog w o ms → (∀ j, j ∈ ms ↔ j ∈ ns.take i) →
      (∀ s' o' ms', Moved (S :: wr) G s s' → s'.heap.get? S = some o' → SetI prog w o' ms' → (∀ j, j ∈ ms' ↔ j ∈ ns) → R (.ok (.ret .none)) s') →
      codeAny (model prog w) A (.builtin "set.update.loop" ⟨[.ref S, .ref I], []⟩) R s := by
  have hSw : S ∉ wr := fun h => hSf (W.sub _ h)
  have hsub : ∀ b ∈ wr, b ∈ S :: wr := fun b hb => List.mem_cons_of_mem _ hb
  intro k
  induction k with
  | zero =>
    intro i s ms o hk hi hst ho hS hm hR
    have hin : i = n := by omega
    subst hin
    refine codeAny_builtin PyProof.Rows.F.entry_set_update_loop ?_
    rw [Around.under_plainId PyProof.Rows.F.plain_set_update_loop _]
    show wpAny _ A.in1 (pyNext (.ref I) >>= _) _ _ s
    refine wpAny_bind (W.done s _ _ hst fun s' hmv => ?_)
    show wpAny _ A.in1 (ret Value.none) _ _ s'
    refine wpAny_pure (hR s' o ms (hmv.mono hsub) (hmv.heap S _ hSw ho) hS fun j => ?_)
    rw [hm, hn, List.take_length]
  | succ k ih =>
    intro i s ms o hk hi hst ho hS hm hR
    have hlt : i < n := by omega
    refine codeAny_builtin PyProof.Rows.F.entry_set_update_loop ?_
    rw [Around.under_plainId PyProof.Rows.F.plain_set_update_loop _]
    show wpAny _ A.in1 (pyNext (.ref I) >>= _) _ _ s
    refine wpAny_bind (W.item i s _ _ hlt hst fun v s' hP hst' hmv => ?_)
    obtain ⟨t, rfl⟩ := hval i v hP
    have ho' := hmv.heap S _ hSw ho
    have hml : ms.length < 60 := Nat.lt_of_le_of_lt (nodup_len (by obtain ⟨_, _, _, _, _, _, _, _, q⟩ := hS; exact q) fun j hj => List.mem_of_mem_take ((hm j).mp hj)) hz
    show wpAny _ A.in1 (holding [Value.int (ns.getD i 0) t] (setAdd S (.int (ns.getD i 0) t)) >>= _) _ _ s'
    refine wpAny_bind (wpAny_holding ?_)
    refine setAdd_int ho' hS hml fun b h' o' ns' hsb ho2 hS2 hm2 => ?_
    refine wpAny_pure ⟨plainId_quiet PyProof.Rows.F.plain_set_update_loop _, ih (i + 1) _ ns' o' (by omega) hlt (W.frame _ s' _ _ hst' (Nat.le_succ _) fun b hb o e => ?_) ho2 hS2 (fun j => ?_) fun s'' o'' ms'' hm'' ho'' hS'' he'' => ?_⟩
    · rw [hsb.2 b (fun h : b = S => hSf (by rw [← h]; exact hb))]; exact e
    · have hil : i < ns.length := by omega
      have e1 : ns.take (i + 1) = ns.take i ++ [ns.getD i 0] := by
        rw [List.take_add_one, List.getElem?_eq_getElem hil, List.getD_eq_getElem?_getD, List.getElem?_eq_getElem hil]; rfl
      rw [hm2, hm, e1, List.mem_append, List.mem_singleton]
    · refine hR s'' o'' ms'' (Moved.trans W.gtrans ((hmv.mono hsub).then_heap (Nat.le_succ _) fun b o hb e => ?_) hm'') ho'' hS'' he''
      rw [hsb.2 b (fun h : b = S => hb (by rw [h]; exact List.mem_cons_self))]; exact e
end
section
variable {prog : Program} {w : World} {A : Around} {E : Value → Shared → Prop} {s : Shared}
noncomputable abbrev setNew (w : World) : Obj := { cls := .type "set", dict := none, data := .set #[] 0 (.fresh 0 0 (!byText w)) }
theorem setNew_I (prog : Program) (w : World) : SetI prog w (setNew w) [] := ⟨⟨rfl, rfl, rfl⟩, #[], 0, _, rfl, fresh_fine w, fun e he => absurd he List.not_mem_nil, .nil, List.nodup_nil⟩
theorem new_set (a : Value) {Q₁ : Value → Shared → Prop} (h : Q₁ (.ref s.heap.objs.size) { s with heap := s.heap.push (setNew w) }) :
    codeAny (model prog w) A (.call (.builtin "set.__new__") ⟨[.type "set", a], []⟩) (wants Q₁ E) s := by
  refine codeAny_of_tree ?_
  show wpAny _ A.in1 (do checkBuiltinCall "set.__new__" ⟨[.type "set", a], []⟩; again (.builtin "set.__new__" ⟨[.type "set", a], []⟩)) _ _ s
  refine wpAny_bind (wpAny_of_eq (PySem.F.newCall_set_1 a) (wpAny_pure ⟨plainId_quiet PySem.F.plain_set_new _, codeAny_builtin PySem.F.entry_set_new ?_⟩))
  rw [Around.under_plainId PySem.F.plain_set_new _]
  unfold Builtin.«set.__new__» Builtin.Frozenset.newClass
  have hsub := sub_set_self
  obtain ⟨hp, g, d, tk, os⟩ := s
  dsimp only
  wp_walk
  refine wpAny_askSetting (wpAny_pure ?_)
  dsimp only
  simp only [newObj]
  refine wpAny_bind (wpAny_alloc (wpAny_pure ?_))
  exact wpAny_pure h
theorem set_list {l : Addr} {items : Array Value} {ns : List Int} {Q : Value → Shared → Prop}
    (hh : A.handled = none) (hl : s.heap.IsList l items) (hi : PyProof.Rows.IntsAre items.toList ns) (hz : ns.length < 60)
    (h : ∀ (h' : Heap) (tk : Nat) o ms, h'.get? s.heap.objs.size = some o → SetI prog w o ms → (∀ j, j ∈ ms ↔ j ∈ ns) →
      (∀ b o, b < s.heap.objs.size → s.heap.get? b = some o → h'.get? b = some o) → Q (.ref s.heap.objs.size) { s with heap := h', toks := tk }) :
    wpAny (model prog w) A (call (.type "set") [.ref l]) Q E s := by
  obtain ⟨c, tl, hmro⟩ := PySem.F.called_set.mro
  have hmade := PySem.F.called_set.made
  have hsub := PySem.F.called_set.sub
  refine wpAny_call (codeAny_of_tree ?_)
  show wpAny _ _ (callAny (.type "set") _) _ _ _
  refine wpAny_pure ⟨Code.quiet_builtin _ (by decide +kernel), codeAny_builtin PySem.F.entry_type_call ?_⟩
  rw [Around.under_plain (weight_type_call_type "set" [.ref l] []) rfl]
  have h1 := PySem.F.called_set.notType
  have h2 := PySem.F.called_set.canCreate
  have hct := PySem.F.typeCall_set_1 (.ref l)
  repeat (any_goals (first | assumption | wp_step))
  refine codeAny_mono (new_set (.ref l) (E := E) (Q₁ := fun obj s₁ => obj = .ref s.heap.objs.size ∧ s₁ = { s with heap := s.heap.push (setNew w) }) ⟨rfl, rfl⟩) fun r s₁ hr => ?_
  cases r with
  | error e => exact hr
  | ok fl =>
    cases fl with
    | ret obj =>
      obtain ⟨rfl, rfl⟩ := hr
      have hS : (s.heap.push (setNew w)).get? s.heap.objs.size = some (setNew w) := Heap.get?_push_size _ rfl
      have hT : Shared.TypeIs { s with heap := s.heap.push (setNew w) } (.ref s.heap.objs.size) "set" := ⟨_, hS, rfl⟩
      have hli := PySem.F.called_set.init.lookup
      have hbi := PySem.F.called_set.init.bind (.ref s.heap.objs.size)
      repeat (any_goals (first | assumption | wp_step))
      refine codeAny_mono (codeAny_call_builtin (R := wants (fun r s₂ => r = .none ∧ ∃ h' tk o ms, s₂ = { s with heap := h', toks := tk } ∧ h'.get? s.heap.objs.size = some o ∧ SetI prog w o ms ∧ (∀ j, j ∈ ms ↔ j ∈ ns) ∧
          (∀ b o, b < s.heap.objs.size → s.heap.get? b = some o → h'.get? b = some o)) E) PySem.F.called_set.init.plain PySem.F.entry_set_init (check_set_init_1 hT ?_)) fun r₂ s₂ hr₂ => ?_
      · obtain ⟨ol, hol, hcl, nl, hdl⟩ := hl
        obtain ⟨ocls, odict, odata, oslots⟩ := ol
        simp only at hcl hdl
        subst hcl; subst hdl
        have hol' : (s.heap.push (setNew w)).get? l = some { cls := .type "list", dict := odict, data := .seq items nl, slots := oslots } := Heap.get?_push_of_some _ hol
        have hsls := PySem.F.sub_list_set
        have hslf := PySem.F.sub_list_frozenset
        have hne : (Value.type "list" == Value.type "dict") = false := by decide
        have hl1 : (s.heap.push (setNew w)).IsList l items := ⟨_, hol', rfl, nl, rfl⟩
        unfold Builtin.«set.__init__» noKeywords Builtin.Frozenset.updateFrom
        generalize hPI : pyIter = PI
        wp_walk
        subst hPI
        refine wpAny_pyIter_list hl1 ?_
        refine wpAny_bind (wpAny_runValue ?_)
        have hlS : l < s.heap.objs.size := Heap.lt_size hol
        have hh3 : A.in1.in1.in1.handled = none := by simp [hh]
        have hneI : l ≠ (s.heap.push (setNew w)).objs.size := by
          rw [Heap.size_push]; exact Nat.ne_of_lt (Nat.lt_succ_of_lt hlS)
        have hSf : s.heap.objs.size ∉ [(s.heap.push (setNew w)).objs.size, l] := by
          rw [Heap.size_push]; simp only [List.mem_cons, List.mem_singleton, List.not_mem_nil, or_false, not_or]
          exact ⟨Nat.ne_of_lt (Nat.lt_succ_self _), Nat.ne_of_gt hlS⟩
        have hval : ∀ (i : Nat) (v : Value), items[i]? = some v → ∃ t, v = .int (ns.getD i 0) t := fun i v hv =>
          PyProof.Rows.IntsAre.int_at hi i v (by rw [Array.getElem?_toList]; exact hv)
        have hlen : items.size = ns.length := by rw [← hi.length, Array.length_toList]
        refine set_loop ((Walks.list hh3 _ l hneI items).toS) s.heap.objs.size
          hSf ns hlen hval hz (items.size - 0) 0 _ [] (setNew w) (by omega) (Nat.zero_le _)
          ⟨⟨_, Heap.get?_push_size _ rfl, rfl, rfl⟩, (hl1.push _)⟩ (Heap.get?_push_of_some _ hS) (setNew_I prog w) (fun j => by simp) ?hR
        case hR =>
          intro s' o' ms' hm ho' hS' he'
          obtain ⟨h', g', d', tk', os'⟩ := s'
          have eg : g' = s.gens := hm.gens
          have ed : d' = s.drawn := hm.drawn
          have eo : os' = s.os := hm.os
          subst eg; subst ed; subst eo
          show wpAny _ _ _ _ _ _
          refine wpAny_pure ?_
          show wpAny _ _ (ret Value.none) _ _ _
          refine wpAny_pure ⟨rfl, h', tk', o', ms', rfl, ho', hS', he', fun b o hb e => ?_⟩
          have hb1 : b ≠ s.heap.objs.size := Nat.ne_of_lt hb
          have hb2 : b ≠ (s.heap.push (setNew w)).objs.size := by
            rw [Heap.size_push]; exact Nat.ne_of_lt (Nat.lt_succ_of_lt hb)
          exact hm.heap b o (by simp only [List.mem_cons, List.mem_singleton, List.not_mem_nil, or_false, not_or]; exact ⟨hb1, hb2⟩) (Heap.get?_push_of_some _ (Heap.get?_push_of_some _ e))
      · cases r₂ with
        | error e => exact hr₂
        | ok fl₂ =>
          cases fl₂ with
          | ret r =>
            obtain ⟨rfl, h', tk, o, ms, rfl, ho, hS', he, hk'⟩ := hr₂
            repeat (any_goals (first | assumption | wp_step))
            exact h _ _ _ _ ho hS' he hk'
          | _ => exact hr₂.elim
    | _ => exact hr.elim
end
section
variable {prog : Program} {w : World} {A : Around} {E : Value → Shared → Prop} {s : Shared} {h₀ : Heap} {L : Addr} {m : Str → Option Value} {news : Led}
theorem set_led_new {l : Addr} {vs : List Value} {n : Nat} {ns : List Int} {Q : Value → Shared → Prop} (F : Fr h₀ L s.heap m) (N : News h₀ L s.heap news) (hh : A.handled = none) (hm : (l, PySem.W.listOf vs.toArray n) ∈ news) (hi : IntsAre vs ns) (hz : ns.length < 60)
    (h : ∀ D h' tk o ms, Fr h₀ L h' m → News h₀ L h' ((D, o) :: news) → (∀ p ∈ news, p.1 < D) → SetI prog w o ms → (∀ j, j ∈ ms ↔ j ∈ ns) → ms.length ≤ ns.length → Q (.ref D) { s with heap := h', toks := tk }) :
    wpAny (model prog w) A (call (.type "set") [.ref l]) Q E s := by
  refine set_list hh (is_listN N hm) (by simpa using hi) hz fun h' tk o ms ho hS he hk => ?_
  obtain ⟨oL, _, _, hL, _⟩ := F.ns
  have hLlt : L < s.heap.objs.size := Heap.lt_size hL
  refine h _ h' tk o ms ⟨F.ns.at' fun o' e => hk L o' hLlt e, fun b o' e => hk b o' (Heap.lt_size (F.keep b o' e)) (F.keep b o' e), F.above⟩ (fun p hp => ?_) (fun p hp => Heap.lt_size (N p hp).1) hS he (nodup_len (by obtain ⟨_, _, _, _, _, _, _, _, q⟩ := hS; exact q) fun j hj => (he j).mp hj)
  rcases List.mem_cons.mp hp with rfl | hp
  · refine ⟨ho, Nat.ne_of_gt hLlt, ?_⟩
    cases hq : h₀.get? s.heap.objs.size with
    | none => rfl
    | some o' => exact absurd (Heap.lt_size (F.keep _ _ hq)) (Nat.lt_irrefl _)
  · exact ⟨hk _ _ (Heap.lt_size (N p hp).1) (N p hp).1, (N p hp).2.1, (N p hp).2.2⟩
end
end
section
example : True := by
  w_top off
  k_with_none
  k_with "omega" => lia
  trivial
open SetTable
section
variable {prog : Program} {w : World} {A : Around} {E : Value → Shared → Prop} {s : Shared} {a : Addr} {o : Obj} {es : Array (Int × Value)} {ep : Nat} {t : SetTable}
theorem collect_set {Q : List Value → Shared → Prop} (hh : A.handled = none) (ho : s.heap.get? a = some o) (hc : o.ExactSet) (hd : o.data = .set es ep t) (T : TabFine w es t)
    (h : ∀ h' tk acc, acc = (setOrd w a ep es).toList → (∀ b o, s.heap.get? b = some o → h'.get? b = some o) → Q acc { s with heap := h', toks := tk }) :
    wpAny (model prog w) A (collect (.ref a)) Q E s := by
  have hlt : a < s.heap.objs.size := Heap.lt_size ho
  unfold collect
  refine wpAny_bind (wpAny_runValue (codeAny_builtin PySem.F.entry_proto_collect ?_))
  rw [Around.under_plainId PySem.F.plain_proto_collect _]
  show wpAny _ A.in1 (newList [] >>= fun l => again (.builtin "list.__iadd__" ⟨[l, .ref a], []⟩)) _ _ s
  refine wpAny_bind (wpAny_newObj_type ?_)
  refine wpAny_pure ⟨plainId_quiet PySem.F.plain_list_iadd _, codeAny_builtin PySem.F.entry_list_iadd ?_⟩
  rw [Around.under_plainId PySem.F.plain_list_iadd _]
  generalize hH : s.heap.push { cls := .type "list", data := .seq ([] : List Value).toArray } = H
  have hS₁ : H.get? s.heap.objs.size = some (seqObj "list" #[] 0) := hH ▸ Heap.get?_push_size _ rfl
  have ho₁ : H.get? a = some o := hH ▸ Heap.get?_push_of_some _ ho
  have h1 : Builtin.List.listSameRef (.ref s.heap.objs.size) (.ref a) = false := by
    show (s.heap.objs.size == a) = false
    exact beq_false_of_ne (Nat.ne_of_gt hlt)
  show wpAny _ A.in1 (Builtin.List.listExtendWith (.ref s.heap.objs.size) (.ref a) (.ref s.heap.objs.size)) _ _ _
  unfold Builtin.List.listExtendWith
  refine wpAny_bind (wpAny_typeOf (T := "set") ⟨o, ho₁, hc.1⟩ ?_)
  rw [if_neg (by rw [h1]; decide)]
  refine wpAny_bind (set_iter ho₁ hc hd T fun h' hsz hk hit => ?_)
  have hHs : H.objs.size = s.heap.objs.size + 1 := by rw [← hH, Heap.size_push]
  have ho₂ := hk _ _ ho₁
  refine wpAny_bind (wpAny_holding ?_)
  unfold Builtin.List.listLengthHint
  refine wpAny_bind (wpAny_specialOf (T := "set") ⟨o, ho₂, hc.1⟩ PySem.F.slot_set_len.lookup ?_)
  (generalize hid : ("set.__len__" : String) = id0; (fail_if_success (clear hid id0)); wp_delta; rw [show splitId id0 = some ("set", "__len__") from by subst hid; decide +kernel]; subst hid)
  refine wpAny_bind (wpAny_isInstance (b := true) (T := "set") ⟨o, ho₂, hc.1⟩ sub_set_self ?_)
  show wpAny _ A.in1 (typeOf (Value.ref a) >>= _) _ _ _
  refine wpAny_bind (wpAny_typeOf (T := "set") ⟨o, ho₂, hc.1⟩ ?_)
  refine wpAny_pure ?_
  rw [if_pos (by decide)]
  have hS₂ := hk _ _ hS₁
  refine wpAny_bind (wpAny_rule ?_)
  refine wpAny_bind ?_
  unfold Builtin.List.listTouch
  refine wpAny_bind (listUpdate_at hS₂ rfl ?_ (by rw [sizeLine_eq]; simp) (by rw [sizeLine_eq]; simp))
  have hS₃ := get?_update_seq hS₂ (·.push Value.none)
  refine listUpdate_at hS₃ rfl ?_ (by rw [sizeLine_eq]; simp) (by rw [sizeLine_eq]; simp)
  have hS₄ := get?_update_seq hS₃ (·.pop)
  have hsame := (Heap.SameBut.update h' s.heap.objs.size (Obj.mapSeq (·.push Value.none))).trans (Heap.SameBut.update _ s.heap.objs.size (Obj.mapSeq (·.pop)))
  generalize (h'.update s.heap.objs.size (Obj.mapSeq (·.push Value.none))).update s.heap.objs.size (Obj.mapSeq (·.pop)) = h2 at hS₄ hsame ⊢
  have hkp : ∀ b o, b ≠ s.heap.objs.size → h'.get? b = some o → h2.get? b = some o := fun b o hb e => hsame.extBut b o hb e
  have haS : a ≠ s.heap.objs.size := Nat.ne_of_lt hlt
  have hIS : H.objs.size ≠ s.heap.objs.size := by rw [hHs]; exact Nat.ne_of_gt (Nat.lt_succ_self _)
  have haI : a ≠ H.objs.size := by rw [hHs]; exact Nat.ne_of_lt (Nat.lt_succ_of_lt hlt)
  have hsz2 : es.size ≤ sizeLine := by
    have := SetI.small T
    rw [sizeLine_eq]; omega
  obtain ⟨oi, f, i1, i2⟩ := hit
  refine wpAny_pure ⟨plainId_quiet PySem.F.plain_extend_loop _, codeAny_extend_loopS (setWalks (A := A.in1) hh haI hd T).toS hsz2 s.heap.objs.size ?_ _ es.size 0 _ #[] _ rfl (Nat.zero_le _) ⟨⟨oi, f, hkp _ _ hIS i1, i2⟩, hkp _ _ haS ho₂⟩ hS₄ (ItemsOf.nil _) fun s' acc' c' hm hS' hacc => ?_⟩
  · simp only [List.mem_cons, List.not_mem_nil, or_false, not_or]
    exact ⟨hIS.symm, haS.symm⟩
  · show wpAny _ A (load s.heap.objs.size >>= _) _ _ s'
    refine wpAny_bind (wpAny_load hS' ?_)
    obtain ⟨h9, g9, d9, tk9, os9⟩ := s'
    have eg : g9 = s.gens := hm.gens
    have ed : d9 = s.drawn := hm.drawn
    have eo : os9 = s.os := hm.os
    subst eg; subst ed; subst eo
    refine wpAny_pure (h _ _ _ ?_ fun b ob e => ?_)
    · have h3 : acc'.toList = (setOrd w a ep es).toList := by
        apply List.ext_getElem?
        intro j
        rw [Array.getElem?_toList, Array.getElem?_toList]
        by_cases hj : j < acc'.size
        · have h4 := hacc.2 j acc'[j] (by simp [hj])
          rw [h4]; simp [hj]
        · rw [Array.getElem?_eq_none (by omega), Array.getElem?_eq_none (by rw [setOrd_size, ← hacc.1]; omega)]
      exact h3
    · have hb := Heap.lt_size e
      have hb1 : b ≠ s.heap.objs.size := Nat.ne_of_lt hb
      have hb2 : b ≠ H.objs.size := by rw [hHs]; exact Nat.ne_of_lt (Nat.lt_succ_of_lt hb)
      exact hm.heap b ob (by simp only [List.mem_cons, List.not_mem_nil, or_false, not_or]; exact ⟨hb1, hb2⟩) (hkp _ _ hb1 (hk _ _ (hH ▸ Heap.get?_push_of_some _ e)))
theorem sorted_set_ints {ns : List Int} {Q : Value → Shared → Prop} (hh : A.handled = none) (ho : s.heap.get? a = some o) (hS : SetI prog w o ns) (hz : ns.length < 60)
    (h : ∀ (D : Addr) (h' : Heap) tk (out : Array Value) (ns' : List Int) c, h'.get? D = some (PySem.W.listOf out c) → (∀ b o, s.heap.get? b = some o → b < D) → IntsAre out.toList ns' → ns'.Perm ns → ns'.Pairwise (· ≤ ·) → (∀ b o, s.heap.get? b = some o → h'.get? b = some o) → Q (.ref D) { s with heap := h', toks := tk }) :
    wpAny (model prog w) A (call (.builtin "sorted") [.ref a]) Q E s := by
  obtain ⟨hex, es, ep, t, hd, T, hel, hI, hN⟩ := hS
  refine Calls.call_function_entry kind_sorted plain_sorted entry_sorted (args_sorted1 _) ?_
  unfold Builtin.«sorted»
  refine wpAny_bind (m := checkCount "sorted" 1 1 _) (wpAny_pure ?_)
  refine wpAny_bind (collect_set hh ho hex hd T fun h1 tk1 acc he hk => ?_)
  subst he
  have hp := setOrd_perm w a ep es
  obtain ⟨ns1, i1, i2⟩ := ints_perm hI hp
  refine wpAny_bind (wpAny_newList ?_ (by rw [i1.length, i2.length_eq, sizeLine_eq]; omega))
  have hoL : (h1.push (seqObj "list" (setOrd w a ep es).toList.toArray 0)).get? h1.objs.size = some (seqObj "list" (setOrd w a ep es).toList.toArray 0) := Heap.get?_push_size _ rfl
  have hlen : (setOrd w a ep es).toList.length < 64 := by rw [i1.length, i2.length_eq]; omega
  refine wpAny_bind (wpAny_holding (wpAny_call_entry slot_list_sort ⟨_, hoL, rfl⟩ entry_list_sort (list_sort_tree hoL i1 hlen fun out ns' a1 a2 a3 => ⟨_, rfl, ?_⟩) (args_list_sort _)))
  have hlt : ∀ b o, s.heap.get? b = some o → b < h1.objs.size := fun b o e => Heap.lt_size (hk b o e)
  have g1 := get?_update_seq hoL (fun _ => #[])
  have g2 := get?_update_seq (Heap.get?_push_of_some (o := seqObj "list" #[] 0) (Heap.get?_push_of_some (o := seqObj "tuple" (setOrd w a ep es).toList.toArray 0) g1 |> fun x => x)) (fun _ => out)
  refine wpAny_pure ⟨_, rfl, h h1.objs.size _ _ out ns' _ g2 hlt a1 (a2.trans i2) a3 fun b ob e => ?_⟩
  have hb : h1.objs.size ≠ b := Nat.ne_of_gt (hlt b ob e)
  unfold sortedHeap
  dsimp only
  rw [Heap.get?_update_other _ _ hb]
  refine Heap.get?_push_of_some _ (Heap.get?_push_of_some _ ?_)
  rw [Heap.get?_update_other _ _ hb]
  exact Heap.get?_push_of_some _ (hk b ob e)
end
section
variable {prog : Program} {w : World} {A : Around} {E : Value → Shared → Prop} {s : Shared} {h₀ : Heap} {L : Addr} {m : Str → Option Value} {news : Led}
theorem sorted_set_led {a : Addr} {o : Obj} {ns : List Int} {Q : Value → Shared → Prop} (F : Fr h₀ L s.heap m) (N : News h₀ L s.heap news) (hh : A.handled = none) (hm : (a, o) ∈ news) (hS : SetI prog w o ns) (hz : ns.length < 60)
    (h : ∀ D h' tk vs ns' c, Fr h₀ L h' m → News h₀ L h' ((D, PySem.W.listOf (List.toArray vs) c) :: news) → (∀ p ∈ news, p.1 < D) → IntsAre vs ns' → ns'.Perm ns → ns'.Pairwise (· ≤ ·) → Q (.ref D) { s with heap := h', toks := tk }) :
    wpAny (model prog w) A (call (.builtin "sorted") [.ref a]) Q E s := by
  refine sorted_set_ints hh (N _ hm).1 hS hz fun D h' tk out ns' c hD hlt i1 i2 i3 hk => ?_
  obtain ⟨oL, _, _, hL, _⟩ := F.ns
  refine h D h' tk out.toList ns' c ⟨F.ns.at' fun o' e => hk L o' e, fun b o' e => hk b o' (F.keep b o' e), F.above⟩ (fun p hp => ?_) (fun p hp => hlt _ _ (N p hp).1) i1 i2 i3
  rcases List.mem_cons.mp hp with rfl | hp
  · refine ⟨by simpa using hD, Nat.ne_of_gt (hlt _ _ hL), ?_⟩
    cases hq : h₀.get? D with
    | none => rfl
    | some o' => exact absurd (hlt _ _ (F.keep _ _ hq)) (Nat.lt_irrefl _)
  · exact ⟨hk _ _ (N p hp).1, (N p hp).2.1, (N p hp).2.2⟩
end
end
section
open PyProof.Rows.LCg
example : True := by
  w_top off
  k_with_none
  k_with "omega" => lia
  trivial
noncomputable def Off4 (I C D K : Addr) (l : Led) : Prop := ∀ p ∈ l, p.1 ≠ I ∧ p.1 ≠ C ∧ p.1 ≠ D ∧ p.1 ≠ K
structure Four (I C D K : Addr) : Prop where
  ic : I ≠ C
  id : I ≠ D
  ik : I ≠ K
  cd : C ≠ D
  ck : C ≠ K
  dk : D ≠ K
section
variable {prog : Program} {w : World} {A : Around} {E : Value → Shared → Prop} {s s₁ : Shared} {h₀ : Heap} {L : Addr} {m : Str → Option Value} {env : Env} {elt : Expr} {x : Str} {scope : Scope} {cl : List (Str × Addr)} {news : Led} {Q : Value → Shared → Prop}
/-- a comprehension over a range, its name in a cell -/
noncomputable def CellSrc (prog : Program) (w : World) (A : Around) (h₀ : Heap) (L : Addr) (m : Str → Option Value) (env : Env) (elt : Expr) (x : Str) (scope : Scope) (cl : List (Str × Addr)) (Q : Value → Shared → Prop) (xv : Value) (s₁ : Shared) : Prop :=
  ∃ (r : Addr) (n : Nat) (t u v : Tok) (news : Led) (J : Nat → List Value → Led → Prop), xv = .ref r ∧ A.handled = none ∧ Fr h₀ L s₁.heap m ∧ News h₀ L s₁.heap news ∧ IsRange s₁.heap r 0 n 1 t u v ∧ n < 100000 ∧ J 0 [] news ∧
    (∀ (i : Nat) (t : Tok) (I C D K : Addr) (oI oC oK : Obj) (ys : List Value) (l : Led) (h : Heap) (tk : Nat) (E' : Value → Shared → Prop), i < n → J i ys l → oK.data = .cell (some (.int i t)) → Four I C D K → Off4 I C D K l → Fr h₀ L h m → News h₀ L h ((I, oI) :: (C, oC) :: (D, lst ys) :: (K, oK) :: l) →
      wpAny (model prog w) A (eval elt (compEnvC scope ((x, K) :: cl) C env)) (fun y s' => ∃ h' tk' l', s' = { s₁ with heap := h', toks := tk' } ∧ Fr h₀ L h' m ∧ News h₀ L h' ((I, oI) :: (C, oC) :: (D, lst ys) :: (K, oK) :: l') ∧ Off4 I C D K l' ∧ J (i + 1) (ys ++ [y]) l') E' { s₁ with heap := h, toks := tk }) ∧
    ∀ (D : Addr) (ys : List Value) (l : Led) (h : Heap) (tk : Nat), J n ys l → Fr h₀ L h m → News h₀ L h ((D, PySem.W.listOf ys.toArray ys.length) :: l) → (∀ p ∈ l, p.1 ≠ D) → Q (.ref D) { s₁ with heap := h, toks := tk }
theorem block_cell {iter : Expr} {px : Pos} {pos : Pos} {RR : Value → Addr → Result → Shared → Prop} {r : Addr} {n : Nat} {t u v : Tok} (J : Nat → List Value → Led → Prop) (hkind : scope.kind = .function)
    (hx : ∀ cl' C, (compEnvC scope cl' C env).kindOf x = some .cell) (hcf : ∀ n acc, cellsFrom n scope.names acc = (x, n) :: acc) (hpc : ∀ h, pushCells h scope.names = h.push { cls := .type "cell", data := .cell none })
    (hh : A.handled = none) (F : Fr h₀ L s₁.heap m) (N : News h₀ L s₁.heap news) (hr : IsRange s₁.heap r 0 n 1 t u v) (hn : n < 100000) (hJ : J 0 [] news)
    (turn : ∀ (i : Nat) (t : Tok) (I C D K : Addr) (oI oC oK : Obj) (ys : List Value) (l : Led) (h : Heap) (tk : Nat) (E' : Value → Shared → Prop), i < n → J i ys l → oK.data = .cell (some (.int i t)) → Four I C D K → Off4 I C D K l → Fr h₀ L h m → News h₀ L h ((I, oI) :: (C, oC) :: (D, lst ys) :: (K, oK) :: l) →
      wpAny (model prog w) A (eval elt (compEnvC scope ((x, K) :: cl) C env)) (fun y s' => ∃ h' tk' l', s' = { s₁ with heap := h', toks := tk' } ∧ Fr h₀ L h' m ∧ News h₀ L h' ((I, oI) :: (C, oC) :: (D, lst ys) :: (K, oK) :: l') ∧ Off4 I C D K l' ∧ J (i + 1) (ys ++ [y]) l') E' { s₁ with heap := h, toks := tk })
    (hRR : ∀ (D C : Addr) (ys : List Value) (l : Led) (h : Heap) (tk : Nat), J n ys l → Fr h₀ L h m → News h₀ L h ((D, lst ys) :: l) → (∀ p ∈ l, p.1 ≠ D) → h.Ns C (fun _ => none) → h₀.get? C = none → C ≠ L → D ≠ C → (∀ p ∈ l, p.1 ≠ C) → RR (.ref D) C (.ok .next) { s₁ with heap := h, toks := tk }) :
    wpAny (model prog w) A (pyIter (.ref r)) (fun it s₂ => wpAny (model prog w) A (newList []) (fun acc s₃ => wpAny (model prog w) A (newFunctionEnv scope env.globals cl [] env.qual none .none (some env)) (fun cenv s₄ =>
      codeAny (model prog w) A (.compStart (.ListComp elt [⟨.Name x px, iter, [], 0⟩] scope pos) 0 it acc { cenv with scope := relabel scope env }) (RR acc cenv.locals) s₄) E s₃) E s₂) E s₁ := by
  have hsm : Builtin.Range.small 0 (n : Int) 1 = true := small_one (by decide) (by decide) (by omega) (by omega)
  have h2 : Builtin.Range.rangeSize 0 (n : Int) 1 = ((n : Nat) : Int) := by
    rw [rangeSize_one]; split <;> omega
  refine wpAny_pyIter_range hr hsm ?_
  generalize hI0 : s₁.heap.objs.size = I at *
  have F₂ : Fr h₀ L (s₁.heap.push { cls := .type "range_iterator", data := .fields #[rawInt 0, rawInt (Builtin.Range.rangeSize 0 n 1), rawInt 1] }) m := F.push _
  have N₂ : News h₀ L (s₁.heap.push { cls := .type "range_iterator", data := .fields #[rawInt 0, rawInt (Builtin.Range.rangeSize 0 n 1), rawInt 1] }) news := N.grown fun _ _ e => Heap.get?_push_of_some _ e
  have hst₂ : IsRangeIter (s₁.heap.push { cls := .type "range_iterator", data := .fields #[rawInt 0, rawInt (Builtin.Range.rangeSize 0 n 1), rawInt 1] }) I (0 + ((0 : Nat) : Int) * 1) ((n : Int) - (0 : Nat)) 1 := by
    show Heap.get? _ I = _
    rw [h2, ← hI0]; simpa using Heap.get?_push_size _ rfl
  have hI2 : (s₁.heap.push { cls := .type "range_iterator", data := .fields #[rawInt 0, rawInt (Builtin.Range.rangeSize 0 n 1), rawInt 1] }).objs.size = I + 1 := by rw [Heap.size_push, hI0]
  have oldI : ∀ p ∈ news, p.1 < I := fun p hp => hI0 ▸ Heap.lt_size (N p hp).1
  have hLI : L < I := hI0 ▸ F.ns.lt
  have hI₀ : h₀.get? I = none := hI0 ▸ next_is_new F
  generalize s₁.heap.push { cls := .type "range_iterator", data := .fields #[rawInt 0, rawInt (Builtin.Range.rangeSize 0 n 1), rawInt 1] } = H1 at F₂ N₂ hst₂ hI2 ⊢
  refine wpAny_newObj_type ?_
  have hD : (H1.push { cls := .type "list", dict := none, data := .seq ([] : List Value).toArray }).get? (I + 1) = some (lst []) := hI2 ▸ Heap.get?_push_size _ rfl
  have F₃ : Fr h₀ L (H1.push { cls := .type "list", dict := none, data := .seq ([] : List Value).toArray }) m := F₂.push _
  have hz3 : (H1.push { cls := .type "list", dict := none, data := .seq ([] : List Value).toArray }).objs.size = I + 2 := by rw [Heap.size_push, hI2]
  have k3 : ∀ b o, H1.get? b = some o → (H1.push { cls := .type "list", dict := none, data := .seq ([] : List Value).toArray }).get? b = some o := fun b o e => Heap.get?_push_of_some _ e
  dsimp only
  rw [hI2]
  generalize H1.push { cls := .type "list", dict := none, data := .seq ([] : List Value).toArray } = H2 at hD F₃ hz3 k3 ⊢
  simp only [newFunctionEnv, Option.isSome_some, if_true]
  refine wpAny_bind (wpAny_alloc ?_)
  dsimp only
  have hC : (H2.push { cls := .type "dict", data := .dict #[] }).get? (I + 2) = some { cls := .type "dict", data := .dict #[] } := hz3 ▸ Heap.get?_push_size _ rfl
  have hz4 : (H2.push { cls := .type "dict", data := .dict #[] }).objs.size = I + 3 := by rw [Heap.size_push, hz3]
  have k4 : ∀ b o, H2.get? b = some o → (H2.push { cls := .type "dict", data := .dict #[] }).get? b = some o := fun b o e => Heap.get?_push_of_some _ e
  have F₄ : Fr h₀ L (H2.push { cls := .type "dict", data := .dict #[] }) m := F₃.push _
  rw [hz3]
  refine wpAny_bind (wpAny_layCells _ (fun name kind cells => by cases hkc : kind == NameKind.cell <;> simp [hkc]) _ _ _ _ ?_)
  rw [hpc]
  dsimp only
  rw [hz4, hcf]
  have hK : ((H2.push { cls := .type "dict", data := .dict #[] }).push { cls := .type "cell", data := .cell none }).get? (I + 3) = some { cls := .type "cell", data := .cell none } := hz4 ▸ Heap.get?_push_size _ rfl
  have k5 : ∀ b o, (H2.push { cls := .type "dict", data := .dict #[] }).get? b = some o → ((H2.push { cls := .type "dict", data := .dict #[] }).push { cls := .type "cell", data := .cell none }).get? b = some o := fun b o e => Heap.get?_push_of_some _ e
  have F₅ : Fr h₀ L ((H2.push { cls := .type "dict", data := .dict #[] }).push { cls := .type "cell", data := .cell none }) m := F₄.push _
  generalize (H2.push { cls := .type "dict", data := .dict #[] }).push { cls := .type "cell", data := .cell none } = H4 at hK k5 F₅ ⊢
  refine wpAny_bind ?_
  rw [List.forIn_nil]
  refine wpAny_pure (wpAny_pure ?_)
  dsimp only
  have W := range_walks (prog := prog) (w := w) (A := A) (I := I) hh 0 n
  have up : ∀ b o, H1.get? b = some o → H4.get? b = some o := fun b o e => k5 _ _ (k4 _ _ (k3 _ _ e))
  have hst₄ : IsRangeIter H4 I (0 + ((0 : Nat) : Int) * 1) ((n : Int) - (0 : Nat)) 1 := up _ _ hst₂
  have nw : ∀ a, I ≤ a → h₀.get? a = none := fun a ha => by
    cases e : h₀.get? a with
    | none => rfl
    | some o' => exact absurd (Heap.lt_size (F.keep a o' e)) (by rw [hI0]; exact Nat.not_lt.mpr ha)
  have l1 : (I + 1 : Nat) ≠ L := nen (by have := ltn hLI; omega)
  have l2 : (I + 2 : Nat) ≠ L := nen (by have := ltn hLI; omega)
  have l3 : (I + 3 : Nat) ≠ L := nen (by have := ltn hLI; omega)
  have hIL : L ≠ I := Nat.ne_of_lt hLI
  have n1 := nw (I + 1) (by omega)
  have n2 := nw (I + 2) (by omega)
  have n3 := nw (I + 3) (by omega)
  have N₄ : News h₀ L H4 ((I + 1, lst []) :: (I + 3, ({ cls := .type "cell", data := .cell none } : Obj)) :: news) := fun p hp => by
    rcases List.mem_cons.mp hp with rfl | hp
    · exact ⟨k5 _ _ (k4 _ _ hD), l1, n1⟩
    · rcases List.mem_cons.mp hp with rfl | hp
      · exact ⟨hK, l3, n3⟩
      · exact ⟨up _ _ (N₂ p hp).1, (N₂ p hp).2⟩
  have four : Four I (I + 2) (I + 1) (I + 3) := ⟨nen (by omega), nen (by omega), nen (by omega), nen (by omega), nen (by omega), nen (by omega)⟩
  have off₀ : Off4 I (I + 2) (I + 1) (I + 3) news := fun p hp => by
    have := ltn (oldI p hp)
    exact ⟨nen (by omega), nen (by omega), nen (by omega), nen (by omega)⟩
  have loop : ∀ s₃ : Shared, s₃ = { s₁ with heap := H4, toks := s₁.toks } →
      codeAny (model prog w) A (.compLoop (.ListComp elt [⟨.Name x px, iter, [], 0⟩] scope pos) 0 (.ref I) (.ref (I + 1 : Nat)) (compEnvC scope ((x, (I + 3 : Nat)) :: cl) (I + 2 : Nat) env))
        (RR (Value.ref (I + 1 : Nat)) (I + 2 : Nat)) s₃ := by
    rintro s₃ rfl
    refine codeAny_compLoop_tests
      (fun k s' => ∃ h' tk i ys l oK v₀, s' = { s₁ with heap := h', toks := tk } ∧ i ≤ n ∧ k = n + 1 - i ∧ ys.length = i ∧ IsRangeIter h' I (0 + (i : Nat) * 1) ((n : Int) - (i : Nat)) 1 ∧ Fr h₀ L h' m ∧ h'.get? (I + 2) = some { cls := .type "dict", data := .dict #[] } ∧
        News h₀ L h' ((I + 1, lst ys) :: (I + 3, oK) :: l) ∧ oK.data = .cell v₀ ∧ Off4 I (I + 2) (I + 1) (I + 3) l ∧ J i ys l) ?_ (n + 1)
      ⟨H4, _, 0, [], news, _, none, rfl, Nat.zero_le _, rfl, rfl, hst₄, F₅, k5 _ _ hC, N₄, rfl, off₀, hJ⟩
    rintro k s' ⟨h', tk, i, ys, l, oK, v₀, rfl, hi, rfl, hyl, hst', F', hC', N', hoK, off', hJ'⟩
    by_cases hlt : i < n
    · refine W.item i _ _ _ hlt hst' fun v h₂ tk₂ hPv hst₂ hk₂ => ?_
      obtain ⟨tv, e⟩ := hPv
      have e' : v = .int (i : Int) tv := by rw [e, Int.zero_add]
      subst e'
      have keepI : ∀ b o, b ≠ I → h'.get? b = some o → h₂.get? b = some o := fun b o hb e => hk₂ b o (by simpa using hb) e
      have hK₂ : h₂.IsCell (I + 3) v₀ := ⟨oK, keepI _ _ (nen (by omega)) (N' _ (.tail _ (.head _))).1, hoK⟩
      refine wpAny_assign_Name (wpAny_storeName_cell hkind (hx _ _) (c := (I + 3 : Nat)) (by simp [compEnvC]) hK₂ fun h₃ hK₃ hs₃ => ?_)
      refine wpAny_tests_nil ?_
      simp only [if_true]
      obtain ⟨oK3, gK3, dK3⟩ := hK₃
      have keep3 : ∀ b o, b ≠ I → b ≠ I + 3 → h'.get? b = some o → h₃.get? b = some o := fun b o h1 h2 e => hs₃.extBut b o h2 (keepI b o h1 e)
      have hst₃ : IsRangeIter h₃ I (0 + ((i + 1 : Nat) : Int) * 1) ((n : Int) - ((i + 1 : Nat) : Int)) 1 := hs₃.extBut _ _ (nen (by omega)) hst₂
      have F₃ : Fr h₀ L h₃ m := (fr_but F' hk₂ hIL hI₀).change hs₃ l3 n3
      have N₃ : News h₀ L h₃ ((I, _) :: (I + 2, ({ cls := .type "dict", data := .dict #[] } : Obj)) :: (I + 1, lst ys) :: (I + 3, oK3) :: l) := fun p hp => by
        rcases List.mem_cons.mp hp with rfl | hp
        · exact ⟨hst₃, Ne.symm hIL, hI₀⟩
        · rcases List.mem_cons.mp hp with rfl | hp
          · exact ⟨keep3 _ _ (nen (by omega)) (nen (by omega)) hC', l2, n2⟩
          · rcases List.mem_cons.mp hp with rfl | hp
            · exact ⟨keep3 _ _ (nen (by omega)) (nen (by omega)) (N' _ (.head _)).1, l1, n1⟩
            · rcases List.mem_cons.mp hp with rfl | hp
              · exact ⟨gK3, l3, n3⟩
              · have z := N' p (.tail _ (.tail _ hp))
                obtain ⟨o1, o2, o3, o4⟩ := off' p hp
                exact ⟨keep3 _ _ o1 o4 z.1, z.2⟩
      refine wpAny_mono (turn i tv I (I + 2) (I + 1) (I + 3) _ _ oK3 ys l h₃ _ _ hlt hJ' dK3 four off' F₃ N₃) (fun y s₄ h₄ => ?_) fun _ _ e => e
      obtain ⟨h₄, tk₄, l₄, rfl, F₄, N₄, off₄, J₄⟩ := h₄
      have zI := (N₄ _ (.head _)).1
      have zC := (N₄ _ (.tail _ (.head _))).1
      have zD := (N₄ _ (.tail _ (.tail _ (.head _)))).1
      refine append_at (hsz := by show ys.toArray.size ≤ sizeLine; rw [List.size_toArray, hyl, sizeLine_eq]; omega) zD fun h₅ hs₅ hD₅ => ?_
      refine ⟨n + 1 - (i + 1), by omega, h₅, tk₄, i + 1, ys ++ [y], l₄, oK3, _, rfl, hlt, rfl, by rw [List.length_append, List.length_singleton, hyl], hs₅.extBut _ _ (nen (by omega)) zI, F₄.change hs₅ l1 n1, hs₅.extBut _ _ (nen (by omega)) zC, fun p hp => ?_, dK3, off₄, J₄⟩
      rcases List.mem_cons.mp hp with rfl | hp
      · exact ⟨hD₅.trans (congrArg some (lst_snoc ys y)), l1, n1⟩
      · rcases List.mem_cons.mp hp with rfl | hp
        · exact ⟨hs₅.extBut _ _ (nen (by show @Ne Nat (I + 3) (I + 1); omega)) (N₄ _ (.tail _ (.tail _ (.tail _ (.head _))))).1, l3, n3⟩
        · have z := N₄ p (.tail _ (.tail _ (.tail _ (.tail _ hp))))
          exact ⟨hs₅.extBut _ _ (off₄ p hp).2.2.1 z.1, z.2⟩
    · obtain rfl : i = n := Nat.le_antisymm hi (Nat.not_lt.mp hlt)
      refine W.done _ _ _ hst' fun h₂ tk₂ hk₂ => ?_
      have keepI : ∀ b o, b ≠ I → h'.get? b = some o → h₂.get? b = some o := fun b o hb e => hk₂ b o (by simpa using hb) e
      have hns : h₂.Ns (I + 2) (fun _ => none) := ⟨_, #[], _, keepI _ _ (nen (by omega)) hC', rfl, fun e he => absurd he (by simp), fun _ => rfl⟩
      refine hRR (I + 1) (I + 2) ys l h₂ tk₂ hJ' (fr_but F' hk₂ hIL hI₀) (fun p hp => ?_) (fun p hp => (off' p hp).2.2.1) hns n2 l2 (nen (by omega)) (fun p hp => (off' p hp).2.1)
      rcases List.mem_cons.mp hp with rfl | hp
      · exact ⟨keepI _ _ (nen (by omega)) (N' _ (.head _)).1, l1, n1⟩
      · have z := N' p (.tail _ (.tail _ hp))
        exact ⟨keepI _ _ (off' p hp).1 z.1, z.2⟩
  exact codeAny_compStart_list (loop _ rfl) (W.self 0 _ _ _ hst₄ (loop _ rfl))
/-- the same, assigned to a name -/
noncomputable def CellSrcA (prog : Program) (w : World) (A : Around) (h₀ : Heap) (L : Addr) (m : Str → Option Value) (env : Env) (elt : Expr) (x y : Str) (scope : Scope) (cl : List (Str × Addr)) (Q : Flow → Shared → Prop) (xv : Value) (s₁ : Shared) : Prop :=
  ∃ (r : Addr) (n : Nat) (t u v : Tok) (news : Led) (J : Nat → List Value → Led → Prop), xv = .ref r ∧ A.handled = none ∧ Fr h₀ L s₁.heap m ∧ News h₀ L s₁.heap news ∧ IsRange s₁.heap r 0 n 1 t u v ∧ n < 100000 ∧ J 0 [] news ∧
    (∀ (i : Nat) (t : Tok) (I C D K : Addr) (oI oC oK : Obj) (ys : List Value) (l : Led) (h : Heap) (tk : Nat) (E' : Value → Shared → Prop), i < n → J i ys l → oK.data = .cell (some (.int i t)) → Four I C D K → Off4 I C D K l → Fr h₀ L h m → News h₀ L h ((I, oI) :: (C, oC) :: (D, lst ys) :: (K, oK) :: l) →
      wpAny (model prog w) A (eval elt (compEnvC scope ((x, K) :: cl) C env)) (fun y s' => ∃ h' tk' l', s' = { s₁ with heap := h', toks := tk' } ∧ Fr h₀ L h' m ∧ News h₀ L h' ((I, oI) :: (C, oC) :: (D, lst ys) :: (K, oK) :: l') ∧ Off4 I C D K l' ∧ J (i + 1) (ys ++ [y]) l') E' { s₁ with heap := h, toks := tk }) ∧
    ∀ (D : Addr) (ys : List Value) (l : Led) (h : Heap) (tk : Nat), J n ys l → Fr h₀ L h (fun z => if z = y then some (.ref D) else m z) → News h₀ L h ((D, PySem.W.listOf ys.toArray ys.length) :: l) → (∀ p ∈ l, p.1 ≠ D) → Q .next { s₁ with heap := h, toks := tk }
theorem Assign_ListComp_cell {y : Str} {iter : Expr} {px py : Pos} {pos spos : Pos} {Q : Flow → Shared → Prop} (_F₀ : Fr h₀ L s.heap m) (hLe : env.locals = L)
    (hsw : swapsWith (.ListComp elt [⟨.Name x px, iter, [], 0⟩] scope pos) (some (.Name y py)) spos.line env = pure true)
    (hclos : closureFor scope env = pure cl) (hkind : scope.kind = .function) (hnames : ∀ y ∈ scope.names, y.2 = .local → scope.names.lookup y.1 = some .local)
    (hx : ∀ cl' C, (compEnvC scope cl' C env).kindOf x = some .cell) (hcf : ∀ n acc, cellsFrom n scope.names acc = (x, n) :: acc) (hpc : ∀ h, pushCells h scope.names = h.push { cls := .type "cell", data := .cell none })
    (hy : env.kindOf y = some .local) (hp : (env.scope.kind == .class || (env.scope.kind == .module && env.locals != env.globals)) = false)
    (h : wpAny (model prog w) A (eval iter env) (CellSrcA prog w A h₀ L m env elt x y scope cl Q) E s)
    (hs : ∀ x, foldedSetIterable iter env x = pure x := by intro _; rfl) :
    wpAny (model prog w) A (exec (.Assign [.Name y py] (.ListComp elt [⟨.Name x px, iter, [], 0⟩] scope pos) spos) env) Q E s := by
  subst hLe
  rw [exec_Assign_Name_used _ _ _ _ hsw]
  refine wpAny_bind (wpAny_standAt (wpAny_bind ?_))
  show wpAny _ A (do let _ ← comprehension (.ListComp elt [⟨.Name x px, iter, [], 0⟩] scope pos) scope env _ (newList []) false (eval iter env) (some (assign (.Name y py) env))) _ _ s
  refine wpAny_bind (wpAny_mono (wpAny_comprehension_free (use := some (assign (.Name y py) env)) (Q := fun _ s' => Q .next s') rfl hs hclos hkind hnames
    (wpAny_mono h (fun xv s₁ h₁ => ?_) fun _ _ e => e)) (fun _ s' hq => wpAny_pure (wpAny_pure hq)) fun _ _ e => e)
  obtain ⟨r, n, t, u, v, news, J, rfl, hh, F, N, hr, hn, hJ, turn, fin⟩ := h₁
  refine block_cell J hkind hx hcf hpc hh F N hr hn hJ turn fun D C ys l h tk hJ F' N' hD hns hC₀ hCL hDC hlC => ?_
  show wpAny _ A (assign (.Name y py) env (.ref D)) _ _ _
  refine wpAny_assign_Name (wpAny_storeName_local hy F'.ns (fun h₂ hn₂ hs₂ => ?_) hp)
  have hL₀ : h₀.get? env.locals = none := Heap.get?_none_of_le F'.above
  have F₂ : Fr h₀ env.locals h₂ (fun z => if z = y then some (.ref D) else m z) := ⟨hn₂, fun b o e => hs₂.extBut b o (fun q => by rw [q, hL₀] at e; cases e) (F'.keep b o e), F'.above⟩
  refine ⟨_, hns.sameBut hs₂ hCL, fun h'' hs'' => fin D ys l h'' _ hJ (F₂.change hs'' hCL hC₀) (fun p hp => ?_) hD⟩
  have z : h₂.get? p.1 = some p.2 := hs₂.extBut _ _ (N' p hp).2.1 (N' p hp).1
  refine ⟨hs''.extBut _ _ ?_ z, (N' p hp).2⟩
  rcases List.mem_cons.mp hp with rfl | hp
  · exact hDC
  · exact hlC p hp
end
end
section
example : True := by
  w_top off
  k_with_none
  k_with "omega" => lia
  trivial
theorem Forest.root {ns ls : List Int} (F : Forest ns ls) : ∀ i, i < ns.length → ns.getD (ls.getD i 0).toNat 0 = ls.getD i 0 ∧ ls.getD (ls.getD i 0).toNat 0 = ls.getD i 0 := by
  intro i
  induction i using Nat.strongRecOn with
  | ind i ih =>
    intro hi
    obtain ⟨h1, h2⟩ := F.lo i hi
    by_cases he : ns.getD i 0 = i
    · have e := F.fix i hi he
      rw [e]
      exact ⟨by simpa using he, by simpa using e⟩
    · have h3 := F.up i hi
      have h4 := ih (ns.getD i 0).toNat (by omega) (by omega)
      rw [h3] at h4
      exact h4
theorem Forest.root_iff {ns ls : List Int} (F : Forest ns ls) (i : Nat) (hi : i < ns.length) : ns.getD i 0 = i ↔ ls.getD i 0 = i := by
  refine ⟨F.fix i hi, fun e => ?_⟩
  have := (F.root i hi).1
  rw [e] at this
  simpa using this
theorem Forest.make {ns ls : List Int} (F : Forest ns ls) : Forest (ns ++ [(ns.length : Int)]) (ls ++ [(ns.length : Int)]) := by
  have hl := F.len
  refine ⟨by simp [hl], fun i hi => ?_, fun i hi => ?_, fun i hi he => ?_⟩
  · rw [List.length_append, List.length_singleton] at hi
    by_cases h : i < ns.length
    · rw [getD_app_lt h]; exact F.lo i h
    · have e : i = ns.length := by omega
      rw [getD_app_last e]; omega
  · rw [List.length_append, List.length_singleton] at hi
    by_cases h : i < ns.length
    · obtain ⟨h1, h2⟩ := F.lo i h
      rw [getD_app_lt h, getD_app_lt (by omega), getD_app_lt (by omega)]; exact F.up i h
    · have e : i = ns.length := by omega
      rw [getD_app_last e, getD_app_last (by omega), getD_app_last (by omega)]
  · rw [List.length_append, List.length_singleton] at hi
    by_cases h : i < ns.length
    · rw [getD_app_lt h] at he
      rw [getD_app_lt (by omega)]; exact F.fix i h he
    · have e : i = ns.length := by omega
      rw [getD_app_last (by omega)]; omega
noncomputable def relab (k g : Int) (ls : List Int) : List Int := ls.map fun x => if x = g then k else x
theorem relab_len (k g : Int) (ls : List Int) : (relab k g ls).length = ls.length := List.length_map _
theorem relab_at {k g : Int} {ls : List Int} {i : Nat} (h : i < ls.length) : (relab k g ls).getD i 0 = if ls.getD i 0 = g then k else ls.getD i 0 := by
  unfold relab
  rw [List.getD_eq_getElem?_getD, List.getElem?_map, List.getD_eq_getElem?_getD, List.getElem?_eq_getElem h]; rfl
theorem Forest.merge {ns ls : List Int} (F : Forest ns ls) {k g : Int} (hk0 : 0 ≤ k) (hkg : k < g) (hg : g < ns.length) (rk : ns.getD k.toNat 0 = k) (rg : ns.getD g.toNat 0 = g) : Forest (ns.set g.toNat k) (relab k g ls) := by
  have hl := F.len
  have lg : ls.getD g.toNat 0 = g := by have := F.fix g.toNat (by omega) (by rw [rg]; omega); omega
  have lk : ls.getD k.toNat 0 = k := by have := F.fix k.toNat (by omega) (by rw [rk]; omega); omega
  refine ⟨by rw [relab_len, List.length_set]; exact hl, fun i hi => ?_, fun i hi => ?_, fun i hi he => ?_⟩
  · rw [List.length_set] at hi
    by_cases h : g.toNat = i
    · subst h; rw [getD_set_self (by omega)]; omega
    · rw [getD_set_ne h]; exact F.lo i hi
  · rw [List.length_set] at hi
    by_cases h : g.toNat = i
    · subst h
      rw [getD_set_self (by omega), relab_at (by omega), relab_at (by omega), lk, lg, if_neg (by omega), if_pos rfl]
    · obtain ⟨h1, h2⟩ := F.lo i hi
      rw [getD_set_ne h, relab_at (by omega), relab_at (by omega), F.up i hi]
  · rw [List.length_set] at hi
    by_cases h : g.toNat = i
    · subst h
      rw [getD_set_self (by omega)] at he
      omega
    · rw [getD_set_ne h] at he
      have e := F.fix i hi he
      rw [relab_at (by omega), e, if_neg (by omega)]
/-- the numbers below n -/
noncomputable def nums (n : Nat) : List Int := (List.range n).map fun (i : Nat) => (i : Int)
theorem mem_nums {n : Nat} {x : Int} : x ∈ nums n ↔ 0 ≤ x ∧ x < n := by
  unfold nums
  rw [List.mem_map]
  constructor
  · rintro ⟨i, hi, rfl⟩
    have := List.mem_range.mp hi
    omega
  · intro h
    exact ⟨x.toNat, List.mem_range.mpr (by omega), by omega⟩
theorem nums_len (n : Nat) : (nums n).length = n := by unfold nums; rw [List.length_map, List.length_range]
theorem nums_succ (n : Nat) : nums (n + 1) = nums n ++ [(n : Int)] := by unfold nums; rw [List.range_succ, List.map_append]; rfl
theorem nums_lt (n : Nat) : (nums n).Pairwise (· < ·) := by
  unfold nums
  rw [List.pairwise_map]
  exact List.pairwise_lt_range.imp fun h => by omega
theorem nums_le (n : Nat) : (nums n).Pairwise (· ≤ ·) := (nums_lt n).imp fun h => by omega
theorem nums_nodup (n : Nat) : (nums n).Nodup := by
  rw [List.nodup_iff_pairwise_ne]
  exact (nums_lt n).imp fun h => by omega
/-- those of one label -/
noncomputable def ofLab (ls : List Int) (r : Int) : List Int := (nums ls.length).filter fun i => ls.getD i.toNat 0 == r
theorem mem_ofLab {ls : List Int} {r x : Int} : x ∈ ofLab ls r ↔ (0 ≤ x ∧ x < ls.length) ∧ ls.getD x.toNat 0 = r := by
  unfold ofLab
  rw [List.mem_filter, mem_nums, beq_iff_eq]
theorem ofLab_nodup (ls : List Int) (r : Int) : (ofLab ls r).Nodup := (nums_nodup _).sublist List.filter_sublist
theorem ofLab_le (ls : List Int) (r : Int) : (ofLab ls r).Pairwise (· ≤ ·) := (nums_le _).sublist List.filter_sublist
theorem ofLab_len (ls : List Int) (r : Int) : (ofLab ls r).length ≤ ls.length := by
  have := List.length_filter_le (fun i : Int => ls.getD i.toNat 0 == r) (nums ls.length)
  rw [nums_len] at this
  exact this
/-- the lots of the roots -/
structure Lots (cs : List (List Int)) (ls : List Int) : Prop where
  len : cs.length = ls.length
  at_ : ∀ r : Nat, r < ls.length → ls.getD r 0 = r → (cs.getD r []).Perm (ofLab ls r)
theorem Lots.make {cs : List (List Int)} {ls : List Int} {n : Nat} (h : Lots cs ls) (hn : n = ls.length) (hlt : ∀ x ∈ ls, x < n) : Lots (cs ++ [[(n : Int)]]) (ls ++ [(n : Int)]) := by
  subst hn
  have hl := h.len
  have key : ∀ r : Int, ofLab (ls ++ [(ls.length : Int)]) r = ofLab ls r ++ (if r = ls.length then [(ls.length : Int)] else []) := by
    intro r
    unfold ofLab
    rw [List.length_append, List.length_singleton, nums_succ, List.filter_append]
    congr 1
    · refine List.filter_congr fun x hx => ?_
      have := mem_nums.mp hx
      rw [getD_app_lt (by omega)]
    · rw [List.filter_cons, List.filter_nil, getD_app_last (by omega)]
      by_cases e : r = ls.length
      · rw [if_pos e, if_pos (by rw [e]; simp)]
      · rw [if_neg e, if_neg (by simp; exact fun q => e q.symm)]
  refine ⟨by simp [hl], fun r hr hrr => ?_⟩
  rw [List.length_append, List.length_singleton] at hr
  rw [key]
  by_cases e : r < ls.length
  · rw [getD_app_lt e] at hrr
    rw [getD_app_lt (by omega), if_neg (by omega), List.append_nil]
    exact h.at_ r e hrr
  · have e2 : r = ls.length := by omega
    rw [getD_app_last (by omega), if_pos (by omega)]
    have : ofLab ls (r : Int) = [] := by
      cases hx : ofLab ls (r : Int) with
      | nil => rfl
      | cons x t =>
        have h1 : x ∈ ofLab ls (r : Int) := by rw [hx]; exact .head _
        obtain ⟨h2, h3⟩ := mem_ofLab.mp h1
        have h4 := hlt _ (getD_mem (l := ls) (i := x.toNat) (d := 0) (by omega))
        omega
    rw [this]
    exact .refl _
theorem Lots.merge {cs : List (List Int)} {ls : List Int} (h : Lots cs ls) {k g : Int} (hk0 : 0 ≤ k) (hkg : k < g) (hg : g < ls.length) (rk : ls.getD k.toNat 0 = k) (rg : ls.getD g.toNat 0 = g) : Lots (cs.set k.toNat (cs.getD k.toNat [] ++ cs.getD g.toNat [])) (relab k g ls) := by
  have hl := h.len
  refine ⟨by rw [List.length_set, relab_len]; exact hl, fun r hr hrr => ?_⟩
  rw [relab_len] at hr
  rw [relab_at hr] at hrr
  have mem : ∀ (q x : Int), x ∈ ofLab (relab k g ls) q ↔ (0 ≤ x ∧ x < ls.length) ∧ (if ls.getD x.toNat 0 = g then k else ls.getD x.toNat 0) = q := fun q x => by
    rw [mem_ofLab, relab_len]
    constructor
    · rintro ⟨h1, h2⟩
      exact ⟨h1, by rw [relab_at (by omega)] at h2; exact h2⟩
    · rintro ⟨h1, h2⟩
      exact ⟨h1, by rw [relab_at (by omega)]; exact h2⟩
  by_cases e : k.toNat = r
  · subst e
    rw [getD_set_self (by omega)]
    have p1 := h.at_ k.toNat (by omega) (by omega)
    have p2 := h.at_ g.toNat (by omega) (by omega)
    refine (p1.append p2).trans ?_
    rw [List.perm_ext_iff_of_nodup _ (ofLab_nodup _ _)]
    · intro x
      rw [List.mem_append, mem_ofLab, mem_ofLab, mem]
      have e1 : ((k.toNat : Nat) : Int) = k := by omega
      have e2 : ((g.toNat : Nat) : Int) = g := by omega
      rw [e1, e2]
      constructor
      · rintro (⟨h1, h2⟩ | ⟨h1, h2⟩)
        · exact ⟨h1, by rw [h2, if_neg (by omega)]⟩
        · exact ⟨h1, by rw [if_pos h2]⟩
      · rintro ⟨h1, h2⟩
        by_cases q : ls.getD x.toNat 0 = g
        · exact .inr ⟨h1, q⟩
        · rw [if_neg q] at h2
          exact .inl ⟨h1, h2⟩
    · rw [List.nodup_append]
      refine ⟨ofLab_nodup _ _, ofLab_nodup _ _, fun a ha b hb e => ?_⟩
      have := (mem_ofLab.mp ha).2
      have := (mem_ofLab.mp hb).2
      subst e
      omega
  · rw [getD_set_ne e]
    have hrk : ls.getD r 0 = r := by
      by_cases q : ls.getD r 0 = g
      · rw [if_pos q] at hrr; omega
      · rw [if_neg q] at hrr; exact hrr
    refine (h.at_ r hr hrk).trans ?_
    rw [List.perm_ext_iff_of_nodup (ofLab_nodup _ _) (ofLab_nodup _ _)]
    intro x
    rw [mem_ofLab, mem]
    have hrg : (r : Int) ≠ g := fun q => by
      rw [hrk, if_pos q] at hrr; omega
    constructor
    · rintro ⟨h1, h2⟩
      exact ⟨h1, by rw [h2, if_neg hrg]⟩
    · rintro ⟨h1, h2⟩
      refine ⟨h1, ?_⟩
      by_cases q : ls.getD x.toNat 0 = g
      · rw [if_pos q] at h2; omega
      · rw [if_neg q] at h2; exact h2
theorem Lots.size {cs : List (List Int)} {ls : List Int} (h : Lots cs ls) {k : Int} (hk0 : 0 ≤ k) (hg : k < ls.length) (rk : ls.getD k.toNat 0 = k) : (cs.getD k.toNat []).length ≤ ls.length := by
  rw [(h.at_ k.toNat (by omega) (by omega)).length_eq]
  exact ofLab_len _ _
/-- two rising lists of the same members -/
theorem rise_eq {a b : List Int} (ha : a.Pairwise (· ≤ ·)) (hb : b.Pairwise (· ≤ ·)) (p : a.Perm b) : a = b :=
  p.eq_of_pairwise (fun x y _ _ h1 h2 => by omega) ha hb
theorem members_eq {cs : List (List Int)} {ls : List Int} (h : Lots cs ls) {r : Int} (hk0 : 0 ≤ r) (hg : r < ls.length) (rk : ls.getD r.toNat 0 = r) {out : List Int} (ho : out.Pairwise (· ≤ ·)) (hp : out.Perm (cs.getD r.toNat [])) : out = ofLab ls r := by
  refine rise_eq ho (ofLab_le _ _) (hp.trans ?_)
  have := h.at_ r.toNat (by omega) (by omega)
  rw [show ((r.toNat : Nat) : Int) = r by omega] at this
  exact this
theorem classes_eq {ns ls : List Int} (F : Forest ns ls) {ms out : List Int} (hn : ms.Nodup) (hm : ∀ j, j ∈ ms ↔ j ∈ ls) (ho : out.Pairwise (· ≤ ·)) (hp : out.Perm ms) : out = (nums ns.length).filter fun i => ns.getD i.toNat 0 == i := by
  have hl := F.len
  refine rise_eq ho ((nums_le _).sublist List.filter_sublist) (hp.trans ?_)
  rw [List.perm_ext_iff_of_nodup hn ((nums_nodup _).sublist List.filter_sublist)]
  intro x
  rw [hm, List.mem_filter, mem_nums, beq_iff_eq]
  constructor
  · intro h
    obtain ⟨i, hi, e⟩ := List.getElem_of_mem h
    have e1 : ls.getD i 0 = x := by rw [List.getD_eq_getElem?_getD, List.getElem?_eq_getElem hi]; exact e
    have h2 := F.rng i (by omega)
    have h3 := (F.root i (by omega)).1
    rw [e1] at h2 h3
    exact ⟨by omega, h3⟩
  · rintro ⟨h1, h2⟩
    have h3 := F.fix x.toNat (by omega) (by omega)
    have h4 : ls.getD x.toNat 0 ∈ ls := getD_mem (by omega)
    rw [h3] at h4
    have e : ((x.toNat : Nat) : Int) = x := by omega
    rw [e] at h4
    exact h4
/-- the roots' lists of users, all empty -/
noncomputable def rootsAb (ns : List Int) : Int → Option (List Int) := fun j => if 0 ≤ j ∧ j < ns.length ∧ ns.getD j.toNat 0 = j then some [] else none
theorem rootsAb_make (ns : List Int) : (fun j => if j = (ns.length : Int) then some [] else rootsAb ns j) = rootsAb (ns ++ [(ns.length : Int)]) := by
  funext j
  unfold rootsAb
  rw [List.length_append, List.length_singleton]
  by_cases h : j = ns.length
  · rw [if_pos h, if_pos]
    subst h
    refine ⟨by omega, by omega, ?_⟩
    rw [getD_app_last (by omega)]
  · rw [if_neg h]
    by_cases h2 : 0 ≤ j ∧ j < ns.length ∧ ns.getD j.toNat 0 = j
    · rw [if_pos h2, if_pos]
      exact ⟨h2.1, by omega, by rw [getD_app_lt (by omega)]; exact h2.2.2⟩
    · rw [if_neg h2, if_neg]
      rintro ⟨a, b, c⟩
      exact h2 ⟨a, by omega, by rw [getD_app_lt (by omega)] at c; exact c⟩
theorem rootsAb_merge {ns : List Int} {k g : Int} (hk0 : 0 ≤ k) (hkg : k < g) (hg : g < ns.length) (rk : ns.getD k.toNat 0 = k) : (fun j => if j = k then some (([] : List Int) ++ []) else if j = g then none else rootsAb ns j) = rootsAb (ns.set g.toNat k) := by
  funext j
  unfold rootsAb
  rw [List.length_set]
  by_cases h : j = k
  · subst h
    rw [if_pos rfl, if_pos]; rfl
    exact ⟨hk0, by omega, by rw [getD_set_ne (by omega)]; exact rk⟩
  · rw [if_neg h]
    by_cases h2 : j = g
    · subst h2
      rw [if_pos rfl, if_neg]
      rintro ⟨a, b, c⟩
      rw [getD_set_self (by omega)] at c
      omega
    · rw [if_neg h2]
      by_cases h3 : 0 ≤ j ∧ j < ns.length
      · rw [getD_set_ne (by omega)]
      · rw [if_neg (fun q => h3 ⟨q.1, q.2.1⟩), if_neg (fun q => h3 ⟨q.1, q.2.1⟩)]
theorem rootsAb_at {ns : List Int} {k : Int} (hk0 : 0 ≤ k) (hk : k < ns.length) (rk : ns.getD k.toNat 0 = k) : rootsAb ns k = some [] := by
  unfold rootsAb
  rw [if_pos ⟨hk0, hk, rk⟩]
theorem rootsAb_none (ns : List Int) : rootsAb ns ns.length = none := by
  unfold rootsAb
  rw [if_neg (fun q => by omega)]
theorem forest_nil : Forest [] [] := ⟨rfl, fun i h => absurd h (Nat.not_lt_zero _), fun i h => absurd h (Nat.not_lt_zero _), fun i h => absurd h (Nat.not_lt_zero _)⟩
theorem lots_nil : Lots [] [] := ⟨rfl, fun i h => absurd h (Nat.not_lt_zero _)⟩
theorem rootsAb_nil : (fun _ => none) = rootsAb [] := by
  funext j
  unfold rootsAb
  rw [if_neg (fun q => by have := q.2.1; simp at this; omega)]
theorem Forest.lt {ns ls : List Int} (F : Forest ns ls) : ∀ x ∈ ls, x < ns.length := fun x hx => by
  obtain ⟨i, hi, e⟩ := List.getElem_of_mem hx
  have hl := F.len
  have h2 := F.rng i (by omega)
  have e1 : ls.getD i 0 = x := by rw [List.getD_eq_getElem?_getD, List.getElem?_eq_getElem hi]; exact e
  omega
theorem nums_map (ls : List Int) : (nums ls.length).map (fun x => ls.getD x.toNat 0) = ls := by
  unfold nums
  rw [List.map_map]
  apply List.ext_getElem
  · simp
  · intro i h1 h2
    simp [List.getD_eq_getElem?_getD, h2]
end
section
example : True := by
  w_top off
  k_with_none
  k_with "omega" => lia
  trivial
/-- a def's contract over the call's own ledger -/
noncomputable def Con (w : World) (f : Addr) (args : List Value) (dd uu : Nat) (pre : Led → Prop) (post : Led → Led → Value → Prop) : Prop :=
  ∀ (mean : ExcName → Option Value) (mg mb : Str → Option Value) (dp un : Nat) (gd : Option (List Code)) (env : Env) (outer : List Env) (A₀ : Around) (base h₀ : Heap) (L : Addr) (m : Str → Option Value) (news : Led) (s : Shared) (Q E : Value → Shared → Prop),
    Below A₀ base outer h₀ → Fr h₀ L s.heap m → (Mine.q.hd.heap_39 w.params).In h₀ → News h₀ L s.heap news → Top Mine.q.hd.view_39 (looseW Mine.q.hd.view_39 []) mean mg mb h₀ → env.frame = some L → env.scope.kind = .function →
    dp + dd < recursionLimit → un + uu < cLine → pre news →
    (∀ r h' tk' news', Fr h₀ L h' m → News h₀ L h' news' → post news news' r → Q r { s with heap := h', toks := tk' }) →
    wpAny (model PySem.Challenge.rw_pq0123_02.row.prog w) (top dp un gd env outer) (call (.ref f) args) Q E s

theorem con_use {w : World} {f : Addr} {args : List Value} {dd uu : Nat} {pre : Led → Prop} {post : Led → Led → Value → Prop} (C : Con w f args dd uu pre post)
    {mean : ExcName → Option Value} {mg mb : Str → Option Value} {A A₀ : Around} {env : Env} {outer : List Env} {base h₀ : Heap} {L : Addr} {m : Str → Option Value} {news : Led} {s : Shared} {Q E : Value → Shared → Prop}
    (B : Below A₀ base outer h₀) (F : Fr h₀ L s.heap m) (X : (Mine.q.hd.heap_39 w.params).In h₀) (N : News h₀ L s.heap news) (T : Top Mine.q.hd.view_39 (looseW Mine.q.hd.view_39 []) mean mg mb h₀)
    (hA : A.frames = some (env :: outer)) (hh : A.handled = none) (hf : env.frame = some L) (hk : env.scope.kind = .function)
    (hd : A.depth + dd < recursionLimit) (hu : A.units + uu < cLine) (hp : pre news)
    (ret : ∀ r h' tk' news', Fr h₀ L h' m → News h₀ L h' news' → post news news' r → Q r { s with heap := h', toks := tk' }) :
    wpAny (model PySem.Challenge.rw_pq0123_02.row.prog w) A (call (.ref f) args) Q E s := by
  obtain ⟨hd', dp, fr, gd, un⟩ := A
  cases hA; cases hh
  exact C mean mg mb dp un gd env outer A₀ base h₀ L m news s Q E B F X N T hf hk hd hu hp ret

noncomputable def uDict (w : World) (k1 k2 k3 : Tok) (la ll lm : Addr) : List DictEntry :=
  [⟨PyData.keyHash w.params "above", .str "above" k1, .ref la⟩, ⟨PyData.keyHash w.params "lots", .str "lots" k2, .ref ll⟩, ⟨PyData.keyHash w.params "merged", .str "merged" k3, .ref lm⟩]

structure UIn (w : World) (u du la ll lm : Addr) (nd na nl nm : Nat) (k1 k2 k3 : Tok) (vs : List Value) (as bs : List Addr) (ns : List Int) (cs : List (List Int)) (ms : List (Int × Int)) (l : Led) : Prop where
  nod : (u :: du :: la :: ll :: lm :: (as ++ bs)).Nodup
  inst : (u, instObj 140 du) ∈ l
  dict : (du, dictOf (uDict w k1 k2 k3 la ll lm) nd) ∈ l
  above : (la, PySem.W.listOf vs.toArray na) ∈ l
  vints : IntsAre vs ns
  lots : (ll, PySem.W.listOf (as.map Value.ref).toArray nl) ∈ l
  lists : Lists as cs l
  merged : (lm, PySem.W.listOf (bs.map Value.ref).toArray nm) ∈ l
  tups : Tups bs ms l
  len : cs.length = ns.length
  small : ns.length < 60
  smallm : ms.length < 60
  smallc : ∀ c ∈ cs, c.length < 60

noncomputable def UAt (w : World) (u : Addr) (ns : List Int) (cs : List (List Int)) (ms : List (Int × Int)) (foot : List Addr) (l : Led) : Prop :=
  ∃ du la ll lm nd na nl nm k1 k2 k3 vs as bs, UIn w u du la ll lm nd na nl nm k1 k2 k3 vs as bs ns cs ms l ∧ foot = u :: du :: la :: ll :: lm :: (as ++ bs)

theorem UAt.move {w : World} {u : Addr} {ns : List Int} {cs : List (List Int)} {ms : List (Int × Int)} {foot : List Addr} {l l' : Led} (h : UAt w u ns cs ms foot l) (k : ∀ p ∈ l, p.1 ∈ foot → p ∈ l') : UAt w u ns cs ms foot l' := by
  obtain ⟨du, la, ll, lm, nd, na, nl, nm, k1, k2, k3, vs, as, bs, I, rfl⟩ := h
  refine ⟨du, la, ll, lm, nd, na, nl, nm, k1, k2, k3, vs, as, bs, ⟨I.nod, k _ I.inst (by simp), k _ I.dict (by simp), k _ I.above (by simp), I.vints, k _ I.lots (by simp), ⟨I.lists.1, fun i hi => ?_⟩, k _ I.merged (by simp), ⟨I.tups.1, fun i hi => ?_⟩, I.len, I.small, I.smallm, I.smallc⟩, rfl⟩
  · obtain ⟨v, n, h1, h2⟩ := I.lists.2 i hi
    refine ⟨v, n, k _ h1 ?_, h2⟩
    simp only [List.mem_cons, List.mem_append]
    exact .inr (.inr (.inr (.inr (.inr (.inl (getD_mem hi))))))
  · obtain ⟨t1, t2, n, h1⟩ := I.tups.2 i hi
    refine ⟨t1, t2, n, k _ h1 ?_⟩
    simp only [List.mem_cons, List.mem_append]
    exact .inr (.inr (.inr (.inr (.inr (.inr (getD_mem hi))))))


theorem UIn.nes {w : World} {u du la ll lm : Addr} {nd na nl nm : Nat} {k1 k2 k3 : Tok} {vs : List Value} {as bs : List Addr} {ns : List Int} {cs : List (List Int)} {ms : List (Int × Int)} {l : Led} (I : UIn w u du la ll lm nd na nl nm k1 k2 k3 vs as bs ns cs ms l) :
    u ≠ du ∧ u ≠ la ∧ u ≠ ll ∧ u ≠ lm ∧ du ≠ la ∧ du ≠ ll ∧ du ≠ lm ∧ la ≠ ll ∧ la ≠ lm ∧ ll ≠ lm := by
  have h := I.nod
  simp only [List.nodup_cons, List.mem_cons, not_or] at h
  obtain ⟨⟨a1, a2, a3, a4, _⟩, ⟨b1, b2, b3, _⟩, ⟨c1, c2, _⟩, ⟨d1, _⟩, _⟩ := h
  exact ⟨a1, a2, a3, a4, b1, b2, b3, c1, c2, d1⟩
theorem UIn.asne {w : World} {u du la ll lm : Addr} {nd na nl nm : Nat} {k1 k2 k3 : Tok} {vs : List Value} {as bs : List Addr} {ns : List Int} {cs : List (List Int)} {ms : List (Int × Int)} {l : Led} (I : UIn w u du la ll lm nd na nl nm k1 k2 k3 vs as bs ns cs ms l)
    {i : Nat} (h : i < as.length) : u ≠ as.getD i 0 ∧ du ≠ as.getD i 0 ∧ la ≠ as.getD i 0 ∧ ll ≠ as.getD i 0 ∧ lm ≠ as.getD i 0 := by
  have hn := I.nod
  have hm : as.getD i 0 ∈ as := getD_mem h
  simp only [List.nodup_cons, List.mem_cons, List.mem_append, not_or] at hn
  obtain ⟨⟨_, _, _, _, a5, _⟩, ⟨_, _, _, b4, _⟩, ⟨_, _, c3, _⟩, ⟨_, d2, _⟩, ⟨e1, _⟩, _⟩ := hn
  exact ⟨fun e => a5 (e ▸ hm), fun e => b4 (e ▸ hm), fun e => c3 (e ▸ hm), fun e => d2 (e ▸ hm), fun e => e1 (e ▸ hm)⟩
theorem UIn.asinj {w : World} {u du la ll lm : Addr} {nd na nl nm : Nat} {k1 k2 k3 : Tok} {vs : List Value} {as bs : List Addr} {ns : List Int} {cs : List (List Int)} {ms : List (Int × Int)} {l : Led} (I : UIn w u du la ll lm nd na nl nm k1 k2 k3 vs as bs ns cs ms l)
    {i j : Nat} (hi : i < as.length) (hj : j < as.length) (h : i ≠ j) : as.getD i 0 ≠ as.getD j 0 := by
  have hn := I.nod
  simp only [List.nodup_cons] at hn
  have ha : as.Nodup := (List.nodup_append.mp hn.2.2.2.2.2).1
  have e1 : as.getD i 0 = as[i] := by simp [hi]
  have e2 : as.getD j 0 = as[j] := by simp [hj]
  rw [e1, e2]
  intro e
  exact h ((List.getElem_inj ha).mp e)

theorem UIn.foot_in {w : World} {u du la ll lm : Addr} {nd na nl nm : Nat} {k1 k2 k3 : Tok} {vs : List Value} {as bs : List Addr} {ns : List Int} {cs : List (List Int)} {ms : List (Int × Int)} {l : Led} (I : UIn w u du la ll lm nd na nl nm k1 k2 k3 vs as bs ns cs ms l) :
    ∀ a ∈ u :: du :: la :: ll :: lm :: (as ++ bs), ∃ o, (a, o) ∈ l := by
  intro a ha
  simp only [List.mem_cons, List.mem_append] at ha
  rcases ha with rfl | rfl | rfl | rfl | rfl | ha | ha
  · exact ⟨_, I.inst⟩
  · exact ⟨_, I.dict⟩
  · exact ⟨_, I.above⟩
  · exact ⟨_, I.lots⟩
  · exact ⟨_, I.merged⟩
  · obtain ⟨i, hi, e⟩ := List.getElem_of_mem ha
    obtain ⟨v, n, h, _⟩ := I.lists.2 i hi
    have e2 : as.getD i 0 = a := by rw [← e]; simp [hi]
    exact ⟨_, e2 ▸ h⟩
  · obtain ⟨i, hi, e⟩ := List.getElem_of_mem ha
    obtain ⟨t1, t2, n, h⟩ := I.tups.2 i hi
    have e2 : bs.getD i 0 = a := by rw [← e]; simp [hi]
    exact ⟨_, e2 ▸ h⟩
theorem UAt.foot_in {w : World} {u : Addr} {ns : List Int} {cs : List (List Int)} {ms : List (Int × Int)} {foot : List Addr} {l : Led} (h : UAt w u ns cs ms foot l) : ∀ a ∈ foot, ∃ o, (a, o) ∈ l := by
  obtain ⟨du, la, ll, lm, nd, na, nl, nm, k1, k2, k3, vs, as, bs, I, rfl⟩ := h
  exact I.foot_in
theorem UIn.merge {w : World} {u du la ll lm : Addr} {nd na nl nm : Nat} {k1 k2 k3 : Tok} {vs : List Value} {as bs : List Addr} {ns : List Int} {cs : List (List Int)} {ms : List (Int × Int)} {l : Led} (I : UIn w u du la ll lm nd na nl nm k1 k2 k3 vs as bs ns cs ms l)
    {k g : Int} (hk0 : 0 ≤ k) (hk1 : k < ns.length) {l' : Led} {t1 t2 : Tok} {vk vg : List Value} {n1 n2 n3 n4 : Nat} {D1 : Addr}
    (keep : ∀ p ∈ l, p.1 ≠ la → p.1 ≠ as.getD k.toNat 0 → p.1 ≠ lm → p ∈ l')
    (ha : (la, PySem.W.listOf (vs.set g.toNat (.int k t1)).toArray n1) ∈ l') (hi : IntsAre (vs.set g.toNat (.int k t1)) (ns.set g.toNat k))
    (hkl : (as.getD k.toNat 0, PySem.W.listOf (vk ++ vg).toArray n2) ∈ l') (hik : IntsAre vk (cs.getD k.toNat [])) (hig : IntsAre vg (cs.getD g.toNat []))
    (hm : (lm, PySem.W.listOf (bs.map Value.ref ++ [Value.ref D1]).toArray n3) ∈ l') (hD : (D1, tupOf #[.int k t1, .int g t2] n4) ∈ l') (hf : ∀ p ∈ l, p.1 ≠ D1)
    (hsz : (cs.getD k.toNat []).length + (cs.getD g.toNat []).length < 60) (hms : ms.length < 50) :
    UIn w u du la ll lm nd n1 nl n3 k1 k2 k3 (vs.set g.toNat (.int k t1)) as (bs ++ [D1]) (ns.set g.toNat k) (cs.set k.toNat (cs.getD k.toNat [] ++ cs.getD g.toNat [])) (ms ++ [(k, g)]) l' := by
  obtain ⟨n01, n02, n03, n04, n05, n06, n07, n08, n09, n10⟩ := I.nes
  have hal : as.length = cs.length := I.lists.1
  have hcl := I.len
  have hbl := I.tups.1
  have hD1 : D1 ∉ u :: du :: la :: ll :: lm :: (as ++ bs) := fun h => by
    obtain ⟨o, ho⟩ := I.foot_in _ h
    exact hf _ ho rfl
  obtain ⟨p1, p2, p3, p4, p5⟩ := I.asne (i := k.toNat) (by omega)
  refine ⟨?_, keep _ I.inst n02 p1 n04, keep _ I.dict n05 p2 n07, ha, hi, keep _ I.lots (Ne.symm n08) p4 n10, ⟨by rw [List.length_set]; exact hal, fun i h => ?_⟩, by rw [List.map_append]; exact hm, ⟨by simp [hbl], fun i h => ?_⟩, by rw [List.length_set, List.length_set]; exact hcl, by rw [List.length_set]; exact I.small, by simp; omega, fun c hc => ?_⟩
  · have e : u :: du :: la :: ll :: lm :: (as ++ (bs ++ [D1])) = (u :: du :: la :: ll :: lm :: (as ++ bs)) ++ [D1] := by simp
    rw [e, List.nodup_append]
    exact ⟨I.nod, by simp, fun a h1 b h2 => by rw [List.mem_singleton.mp h2]; exact fun q => hD1 (q ▸ h1)⟩
  · by_cases hik' : k.toNat = i
    · subst hik'
      rw [getD_set_self (by omega)]
      exact ⟨_, _, hkl, hik.append hig⟩
    · rw [getD_set_ne hik']
      obtain ⟨v, n, h1, h2⟩ := I.lists.2 i h
      obtain ⟨q1, q2, q3, q4, q5⟩ := I.asne (i := i) h
      exact ⟨v, n, keep _ h1 (Ne.symm q3) (I.asinj h (by omega) (Ne.symm hik')) (Ne.symm q5), h2⟩
  · rw [List.length_append, List.length_singleton] at h
    by_cases hl : i < bs.length
    · rw [getD_app_lt hl, getD_app_lt (by omega)]
      obtain ⟨t1, t2, n, h1⟩ := I.tups.2 i hl
      have hb : bs.getD i 0 ∈ bs := getD_mem hl
      have hn := I.nod
      simp only [List.nodup_cons, List.mem_cons, List.mem_append, not_or] at hn
      obtain ⟨_, _, ⟨_, _, _, x1⟩, _, ⟨_, x2⟩, x3⟩ := hn
      have hx : as.getD k.toNat 0 ∈ as := getD_mem (by omega)
      have x4 := (List.nodup_append.mp x3).2.2 _ hx _ hb
      exact ⟨t1, t2, n, keep _ h1 (fun e => x1 (e ▸ hb)) (Ne.symm x4) (fun e => x2 (e ▸ hb))⟩
    · have e : i = bs.length := by omega
      rw [getD_app_last e, getD_app_last (by omega)]
      exact ⟨t1, t2, n4, hD⟩
  · rcases mem_set_or hc with h | h
    · exact I.smallc _ h
    · rw [h, List.length_append]; exact hsz
theorem UIn.make {w : World} {u du la ll lm : Addr} {nd na nl nm : Nat} {k1 k2 k3 : Tok} {vs : List Value} {as bs : List Addr} {ns : List Int} {cs : List (List Int)} {ms : List (Int × Int)} {l : Led} (I : UIn w u du la ll lm nd na nl nm k1 k2 k3 vs as bs ns cs ms l)
    {l' : Led} {t1 t2 : Tok} {n1 n2 n3 : Nat} {D1 : Addr}
    (keep : ∀ p ∈ l, p.1 ≠ la → p.1 ≠ ll → p ∈ l')
    (ha : (la, PySem.W.listOf (vs ++ [Value.int ns.length t1]).toArray n1) ∈ l')
    (hm : (ll, PySem.W.listOf (as.map Value.ref ++ [Value.ref D1]).toArray n2) ∈ l') (hD : (D1, PySem.W.listOf #[.int ns.length t2] n3) ∈ l') (hf : ∀ p ∈ l, p.1 ≠ D1) (hlen : ns.length < 50) :
    UIn w u du la ll lm nd n1 n2 nm k1 k2 k3 (vs ++ [Value.int ns.length t1]) (as ++ [D1]) bs (ns ++ [(ns.length : Int)]) (cs ++ [[(ns.length : Int)]]) ms l' := by
  obtain ⟨n01, n02, n03, n04, n05, n06, n07, n08, n09, n10⟩ := I.nes
  have hal : as.length = cs.length := I.lists.1
  have hcl := I.len
  have hD1 : D1 ∉ u :: du :: la :: ll :: lm :: (as ++ bs) := fun h => by
    obtain ⟨o, ho⟩ := I.foot_in _ h
    exact hf _ ho rfl
  refine ⟨?_, keep _ I.inst n02 n03, keep _ I.dict n05 n06, ha, I.vints.append (.cons _ _ .nil), by rw [List.map_append]; exact hm, ⟨by simp [hal], fun i h => ?_⟩, keep _ I.merged (Ne.symm n09) (Ne.symm n10), ⟨I.tups.1, fun i h => ?_⟩, by simp [hcl], by simp; omega, I.smallm, fun c hc => ?_⟩
  · have hp : (u :: du :: la :: ll :: lm :: (as ++ [D1] ++ bs)).Perm ((u :: du :: la :: ll :: lm :: (as ++ bs)) ++ [D1]) := by
      have h1 : (as ++ [D1] ++ bs).Perm (as ++ bs ++ [D1]) := by
        rw [List.append_assoc, List.append_assoc]
        exact List.Perm.append_left as List.perm_append_comm
      have := ((((h1.cons lm).cons ll).cons la).cons du).cons u
      simpa using this
    rw [hp.nodup_iff, List.nodup_append]
    exact ⟨I.nod, by simp, fun a h1 b h2 => by rw [List.mem_singleton.mp h2]; exact fun q => hD1 (q ▸ h1)⟩
  · rw [List.length_append, List.length_singleton] at h
    by_cases hl : i < as.length
    · rw [getD_app_lt hl, getD_app_lt (by omega)]
      obtain ⟨v, n, h1, h2⟩ := I.lists.2 i hl
      obtain ⟨q1, q2, q3, q4, q5⟩ := I.asne (i := i) hl
      exact ⟨v, n, keep _ h1 (Ne.symm q3) (Ne.symm q4), h2⟩
    · have e : i = as.length := by omega
      rw [getD_app_last e, getD_app_last (by omega)]
      exact ⟨[.int ns.length t2], n3, hD, .cons _ _ .nil⟩
  · obtain ⟨t1, t2, n, h1⟩ := I.tups.2 i h
    have hb : bs.getD i 0 ∈ bs := getD_mem h
    have hn := I.nod
    simp only [List.nodup_cons, List.mem_cons, List.mem_append, not_or] at hn
    obtain ⟨_, _, ⟨_, _, _, x1⟩, ⟨_, _, x2⟩, _⟩ := hn
    exact ⟨t1, t2, n, keep _ h1 (fun e => x1 (e ▸ hb)) (fun e => x2 (e ▸ hb))⟩
  · rcases List.mem_append.mp hc with h | h
    · exact I.smallc _ h
    · rw [List.mem_singleton.mp h]; show 1 < 60; omega
end
section
example : True := by
  w_top off
  k_with_none
  k_with "omega" => lia
  trivial
noncomputable abbrev ent (w : World) (x : Str) (t : Tok) (v : Value) : DictEntry := ⟨PyData.keyHash w.params x, .str x t, v⟩
noncomputable def bDict (w : World) (k : Nat → Tok) (ln dn lw ld : Addr) : List DictEntry := [ent w "nodes" (k 0) (.ref ln), ent w "numbers" (k 1) (.ref dn), ent w "weights" (k 2) (.ref lw), ent w "depths" (k 3) (.ref ld)]
noncomputable def hDict (w : World) (k : Nat → Tok) (b u le lf dk da lw : Addr) : List DictEntry :=
  [ent w "bank" (k 0) (.ref b), ent w "unions" (k 1) (.ref u), ent w "edges" (k 2) (.ref le), ent w "forest" (k 3) (.ref lf), ent w "known" (k 4) (.ref dk), ent w "above" (k 5) (.ref da), ent w "waiting" (k 6) (.ref lw)]
noncomputable abbrev P2 := PySem.Challenge.rw_pq0123_02
/-- numbers under their nodes -/
noncomputable def NumIs (xs : Ents) (nks : List (List Mix)) : Prop := xs.length = nks.length ∧ ∀ i, i < xs.length → ∃ t, (xs.getD i ([], 0, .none)).1 = nks.getD i [] ∧ (xs.getD i ([], 0, .none)).2.2 = .int (i : Int) t
/-- ints under nodes -/
noncomputable def KnIs (xs : Ents) (kn : List (List Mix × Int)) : Prop := xs.length = kn.length ∧ ∀ i, i < xs.length → ∃ t, (xs.getD i ([], 0, .none)).1 = (kn.getD i ([], 0)).1 ∧ (xs.getD i ([], 0, .none)).2.2 = .int (kn.getD i ([], 0)).2 t
noncomputable def TupsIn (w : World) (nas : List Addr) (nks : List (List Mix)) (l : Led) : Prop := nas.length = nks.length ∧ ∀ i, i < nas.length → TupIn PySem.Challenge.rw_pq0123_02.row.prog w (nas.getD i 0) (nks.getD i []) l

structure BIn (w : World) (b db ln dn lw ld : Addr) (k : Nat → Tok) (n1 n2 n3 n4 : Nat) (nas : List Addr) (xs : Ents) (vw vd : List Value) (ws ds : List Int) (nks : List (List Mix)) (foot : List Addr) (l : Led) : Prop where
  inst : (b, instObj 256 db) ∈ l
  dict : (db, dictOf (bDict w k ln dn lw ld) n1) ∈ l
  nodes : (ln, PySem.W.listOf (nas.map Value.ref).toArray n2) ∈ l
  tups : TupsIn w nas nks l
  numbers : DH PySem.Challenge.rw_pq0123_02.row.prog w dn xs l
  num : NumIs xs nks
  weights : (lw, PySem.W.listOf vw.toArray n3) ∈ l
  wints : IntsAre vw ws
  depths : (ld, PySem.W.listOf vd.toArray n4) ∈ l
  dints : IntsAre vd ds
  wlen : ws.length = nks.length
  dlen : ds.length = nks.length
  small : nks.length < 60
  nod : [b, db, ln, dn, lw, ld].Nodup
  tne : ∀ a, (a ∈ nas ∨ a ∈ entAddrs xs) → a ≠ dn ∧ a ≠ ln ∧ a ≠ lw ∧ a ≠ ld
  feet : b ∈ foot ∧ db ∈ foot ∧ ln ∈ foot ∧ dn ∈ foot ∧ lw ∈ foot ∧ ld ∈ foot ∧ (∀ a ∈ nas, a ∈ foot) ∧ (∀ a ∈ entAddrs xs, a ∈ foot)
  footin : ∀ a ∈ foot, ∃ o, (a, o) ∈ l
noncomputable def BAt (w : World) (b : Addr) (nks : List (List Mix)) (foot : List Addr) (l : Led) : Prop := ∃ db ln dn lw ld k n1 n2 n3 n4 nas xs vw vd ws ds, BIn w b db ln dn lw ld k n1 n2 n3 n4 nas xs vw vd ws ds nks foot l

structure HIn (w : World) (hp b u dh le lf dk da lw : Addr) (k : Nat → Tok) (n1 n2 n3 n4 : Nat) (ve vf vw : List Value) (kxs : Ents) (fa : Int → Option Addr) (kn : List (List Mix × Int)) (ab : Int → Option (List Int)) (wt : List Int) (N E : Nat) (foot : List Addr) (l : Led) : Prop where
  inst : (hp, instObj 388 dh) ∈ l
  dict : (dh, dictOf (hDict w k b u le lf dk da lw) n1) ∈ l
  edges : (le, PySem.W.listOf ve.toArray n2) ∈ l
  elen : ve.length ≤ E
  forest : (lf, PySem.W.listOf vf.toArray n3) ∈ l
  flen : vf.length ≤ E
  known : DH PySem.Challenge.rw_pq0123_02.row.prog w dk kxs l
  knis : KnIs kxs kn
  above : DI PySem.Challenge.rw_pq0123_02.row.prog w da N fa l
  users : ∀ j, (fa j = none ∧ ab j = none) ∨ ∃ a us vs n, fa j = some a ∧ ab j = some us ∧ (a, PySem.W.listOf (List.toArray vs) n) ∈ l ∧ IntsAre vs us ∧ us.length < 60
  inj : ∀ i j a, fa i = some a → fa j = some a → i = j
  waiting : (lw, PySem.W.listOf vw.toArray n4) ∈ l
  wints : IntsAre vw wt
  small : N < 1000 ∧ E < 1000 ∧ wt.length < 1000 ∧ kn.length < 1000
  nod : [hp, dh, le, lf, dk, da, lw].Nodup
  ane : ∀ j a, fa j = some a → a ∉ [hp, dh, le, lf, dk, da, lw]
  tne : ∀ a, a ∈ entAddrs kxs → a ∉ [hp, dh, le, lf, dk, da, lw] ∧ ∀ j, fa j ≠ some a
  feet : hp ∈ foot ∧ dh ∈ foot ∧ le ∈ foot ∧ lf ∈ foot ∧ dk ∈ foot ∧ da ∈ foot ∧ lw ∈ foot ∧ (∀ a ∈ entAddrs kxs, a ∈ foot) ∧ ∀ j a, fa j = some a → a ∈ foot
  footin : ∀ a ∈ foot, ∃ o, (a, o) ∈ l
noncomputable def HAt (w : World) (hp b u : Addr) (kn : List (List Mix × Int)) (ab : Int → Option (List Int)) (wt : List Int) (N E : Nat) (foot : List Addr) (l : Led) : Prop :=
  ∃ dh le lf dk da lw k n1 n2 n3 n4 ve vf vw kxs fa, HIn w hp b u dh le lf dk da lw k n1 n2 n3 n4 ve vf vw kxs fa kn ab wt N E foot l

theorem BAt.move {w : World} {b : Addr} {nks : List (List Mix)} {foot : List Addr} {l l' : Led} (h : BAt w b nks foot l) (k : ∀ p ∈ l, p.1 ∈ foot → p ∈ l') : BAt w b nks foot l' := by
  obtain ⟨db, ln, dn, lw, ld, kk, n1, n2, n3, n4, nas, xs, vw, vd, ws, ds, I⟩ := h
  obtain ⟨f1, f2, f3, f4, f5, f6, f7, f8⟩ := I.feet
  refine ⟨db, ln, dn, lw, ld, kk, n1, n2, n3, n4, nas, xs, vw, vd, ws, ds, k _ I.inst f1, k _ I.dict f2, k _ I.nodes f3, ⟨I.tups.1, fun i hi => (I.tups.2 i hi).mono fun p hp e => k p hp (e ▸ f7 _ (getD_mem hi))⟩, I.numbers.move fun p hp e => k p hp ?_, I.num, k _ I.weights f5, I.wints, k _ I.depths f6, I.dints, I.wlen, I.dlen, I.small, I.nod, I.tne, I.feet, fun a ha => ?_⟩
  · rcases e with e | e
    · exact e ▸ f4
    · exact f8 _ e
  · obtain ⟨o, ho⟩ := I.footin a ha
    exact ⟨o, k _ ho ha⟩
theorem HAt.move {w : World} {hp b u : Addr} {kn : List (List Mix × Int)} {ab : Int → Option (List Int)} {wt : List Int} {N E : Nat} {foot : List Addr} {l l' : Led} (h : HAt w hp b u kn ab wt N E foot l) (k : ∀ p ∈ l, p.1 ∈ foot → p ∈ l') : HAt w hp b u kn ab wt N E foot l' := by
  obtain ⟨dh, le, lf, dk, da, lw, kk, n1, n2, n3, n4, ve, vf, vw, kxs, fa, I⟩ := h
  obtain ⟨f1, f2, f3, f4, f5, f6, f7, f8, f9⟩ := I.feet
  refine ⟨dh, le, lf, dk, da, lw, kk, n1, n2, n3, n4, ve, vf, vw, kxs, fa, k _ I.inst f1, k _ I.dict f2, k _ I.edges f3, I.elen, k _ I.forest f4, I.flen, I.known.move fun p hp e => k p hp ?_, I.knis, I.above.move fun p hp e => k p hp (e ▸ f6), fun j => ?_, I.inj, k _ I.waiting f7, I.wints, I.small, I.nod, I.ane, I.tne, I.feet, fun a ha => ?_⟩
  · rcases e with e | e
    · exact e ▸ f5
    · exact f8 _ e
  · rcases I.users j with h | ⟨a, us, vs, n, h1, h2, h3, h4⟩
    · exact .inl h
    · exact .inr ⟨a, us, vs, n, h1, h2, k _ h3 (f9 _ _ h1), h4⟩
  · obtain ⟨o, ho⟩ := I.footin a ha
    exact ⟨o, k _ ho ha⟩
end
section
example : True := by
  w_top off
  k_with_none
  k_with "omega" => lia
  trivial
theorem entAddrs_snoc {P : Addr → Prop} {xs : Ents} {k : List Mix} {D : Addr} {v : Value} (h : ∀ a ∈ entAddrs xs, P a) (hD : P D) : ∀ a ∈ entAddrs (xs ++ [(k, D, v)]), P a := fun a ha => by
  unfold entAddrs at ha h
  rw [List.map_append] at ha
  rcases List.mem_append.mp ha with ha | ha
  · exact h a ha
  · exact List.mem_singleton.mp ha ▸ hD
theorem BIn.take {w : World} {b db ln dn lw ld : Addr} {k : Nat → Tok} {n1 n2 n3 n4 n2' n3' n4' : Nat} {nas : List Addr} {xs : Ents} {vw vd : List Value} {ws ds : List Int} {nks : List (List Mix)} {foot : List Addr} {l l' : Led}
    (I : BIn w b db ln dn lw ld k n1 n2 n3 n4 nas xs vw vd ws ds nks foot l) {D : Addr} {key : List Mix} {t t1 t2 : Tok} {x1 x2 : Int}
    (hl : nks.length < 50) (keep : ∀ p ∈ l, p.1 ≠ dn → p.1 ≠ ln → p.1 ≠ lw → p.1 ≠ ld → p ∈ l')
    (m1 : (ln, PySem.W.listOf (nas.map Value.ref ++ [Value.ref D]).toArray n2') ∈ l') (m2 : DH PySem.Challenge.rw_pq0123_02.row.prog w dn (xs ++ [(key, D, Value.int (nas.length : Nat) t)]) l')
    (m3 : (lw, PySem.W.listOf (vw ++ [Value.int x1 t1]).toArray n3') ∈ l') (m4 : (ld, PySem.W.listOf (vd ++ [Value.int x2 t2]).toArray n4') ∈ l') (T : TupIn PySem.Challenge.rw_pq0123_02.row.prog w D key l') (hD : ∀ p ∈ l, p.1 ≠ D) :
    BAt w b (nks ++ [key]) (foot ++ [D]) l' ∧ Keeps foot l l' ∧ Grow foot (foot ++ [D]) l ∧ ∀ a ∈ foot, a ∈ foot ++ [D] := by
  have hnod := I.nod
  simp only [List.nodup_cons, List.mem_cons, List.not_mem_nil, or_false, not_or] at hnod
  obtain ⟨⟨z1, z2, z3, z4, z5⟩, ⟨z6, z7, z8, z9⟩, ⟨z10, z11, z12⟩, ⟨z13, z14⟩, z15, _⟩ := hnod
  obtain ⟨f1, f2, f3, f4, f5, f6, f7, f8⟩ := I.feet
  obtain ⟨odn, mdn⟩ := I.numbers.obj
  have hnl : nas.length = nks.length := I.tups.1
  have hxl : xs.length = nks.length := I.num.1
  have dD : dn ≠ D := hD _ mdn
  have lD : ln ≠ D := hD _ I.nodes
  have wD : lw ≠ D := hD _ I.weights
  have eD : ld ≠ D := hD _ I.depths
  refine ⟨⟨db, ln, dn, lw, ld, k, n1, n2', n3', n4', nas ++ [D], xs ++ [(key, D, Value.int (nas.length : Nat) t)], vw ++ [Value.int x1 t1], vd ++ [Value.int x2 t2], ws ++ [x1], ds ++ [x2], ?_⟩, ?_, ?_, fun a ha => List.mem_append_left _ ha⟩
  · refine ⟨keep _ I.inst z3 z2 z4 z5, keep _ I.dict z7 z6 z8 z9, by simpa using m1, ⟨by simp [hnl], fun i hi => ?_⟩, m2, ⟨by simp [hxl], fun i hi => ?_⟩, m3, I.wints.append (.cons _ _ .nil), m4, I.dints.append (.cons _ _ .nil), by simp [I.wlen], by simp [I.dlen], by simp; omega, I.nod, ?_, ?_, ?_⟩
    · by_cases hi' : i < nas.length
      · rw [getD_app_lt hi', getD_app_lt (by omega)]
        obtain ⟨q1, q2, q3, q4⟩ := I.tne _ (.inl (getD_mem (d := 0) hi'))
        exact (I.tups.2 i hi').mono fun p hp e => keep p hp (e ▸ q1) (e ▸ q2) (e ▸ q3) (e ▸ q4)
      · have e : i = nas.length := by simp at hi; omega
        rw [getD_app_last e, getD_app_last (by omega)]
        exact T
    · by_cases hi' : i < xs.length
      · rw [getD_app_lt hi', getD_app_lt (by omega)]
        exact I.num.2 i hi'
      · have e : i = xs.length := by simp at hi; omega
        rw [getD_app_last e, getD_app_last (by omega)]
        exact ⟨t, rfl, by rw [e, hxl, hnl]⟩
    · intro a ha
      have h2 : (a ∈ nas ∨ a ∈ entAddrs xs) ∨ a = D := by
        rcases ha with ha | ha
        · rcases List.mem_append.mp ha with ha | ha
          · exact .inl (.inl ha)
          · exact .inr (List.mem_singleton.mp ha)
        · unfold entAddrs at ha ⊢
          rw [List.map_append] at ha
          rcases List.mem_append.mp ha with ha | ha
          · exact .inl (.inr ha)
          · exact .inr (List.mem_singleton.mp ha)
      rcases h2 with h2 | rfl
      · exact I.tne a h2
      · exact ⟨dD.symm, lD.symm, wD.symm, eD.symm⟩
    · refine ⟨List.mem_append_left _ f1, List.mem_append_left _ f2, List.mem_append_left _ f3, List.mem_append_left _ f4, List.mem_append_left _ f5, List.mem_append_left _ f6, fun a ha => ?_, fun a ha => ?_⟩
      · rcases List.mem_append.mp ha with ha | ha
        · exact List.mem_append_left _ (f7 a ha)
        · exact List.mem_append_right _ ha
      · unfold entAddrs at ha
        rw [List.map_append] at ha
        rcases List.mem_append.mp ha with ha | ha
        · exact List.mem_append_left _ (f8 a ha)
        · exact List.mem_append_right _ ha
    · intro a ha
      rcases List.mem_append.mp ha with ha | ha
      · by_cases e1 : a = dn
        · obtain ⟨o, ho⟩ := m2.obj
          exact ⟨o, e1 ▸ ho⟩
        by_cases e2 : a = ln
        · exact ⟨_, e2 ▸ m1⟩
        by_cases e3 : a = lw
        · exact ⟨_, e3 ▸ m3⟩
        by_cases e4 : a = ld
        · exact ⟨_, e4 ▸ m4⟩
        obtain ⟨o, ho⟩ := I.footin a ha
        exact ⟨o, keep _ ho e1 e2 e3 e4⟩
      · obtain ⟨items, n, hm, _⟩ := T
        exact ⟨_, List.mem_singleton.mp ha ▸ hm⟩
  · exact fun p hp hn => keep p hp (fun e => hn (e ▸ f4)) (fun e => hn (e ▸ f3)) (fun e => hn (e ▸ f5)) (fun e => hn (e ▸ f6))
  · intro a ha
    rcases List.mem_append.mp ha with ha | ha
    · exact .inl ha
    · exact .inr (List.mem_singleton.mp ha ▸ hD)
theorem tupIn_s_inv {prog : Program} {w : World} {a : Addr} {x : Str} {l : Led} (h : TupIn prog w a [.inl x] l) : ∃ t n, (a, tupOf #[.str x t] n) ∈ l := by
  obtain ⟨items, n, hm, hi⟩ := h
  obtain ⟨its⟩ := items
  cases hi with
  | cons hk hr =>
    cases hr
    rename_i v
    have hk : mixIs (.inl x) v = true := hk
    cases v <;> simp [mixIs, Value.isStrOf] at hk
    subst hk
    exact ⟨_, n, hm⟩
theorem tup_item0 {prog : Program} {w : World} {A : Around} {E : Value → Shared → Prop} {s : Shared} {h₀ : Heap} {L l : Addr} {news : Led} {value slice : PySem.Expr} {x : Value} {vs : List Value} {n : Nat} {u : Tok} {Q : Value → Shared → Prop}
    (N : News h₀ L s.heap news) (hm : (l, tupOf (x :: vs).toArray n) ∈ news) (h : Q x s)
    (hs : subscripted slice false (.ref l) (.int 0 u) = operate [.ref l, .int 0 u] (getItem (.ref l) (.int 0 u)) := by with_unfolding_all rfl) :
    wpAny (model prog w) A (subscriptTail value slice (.ref l) (.int 0 u)) Q E s := by
  have hl : IsTup s.heap l (x :: vs).toArray := ⟨_, (N _ hm).1, rfl, n, rfl⟩
  exact tail_any hl.typeIs PySem.F.slot_tuple_getitem.lookup (getItem_tuple (j := 0) hl (by decide) (by decide) (seqIndex_of (by decide) (by simp)) (by simp) h) hs
theorem BAt.cons {w : World} {b : Addr} {nks : List (List Mix)} {foot : List Addr} {l : Led} {p : Addr × Obj} (h : BAt w b nks foot l) : BAt w b nks foot (p :: l) := h.move fun _ hq _ => .tail _ hq
theorem HAt.cons {w : World} {hp b u : Addr} {kn : List (List Mix × Int)} {ab : Int → Option (List Int)} {wt : List Int} {N E : Nat} {foot : List Addr} {l : Led} {p : Addr × Obj} (h : HAt w hp b u kn ab wt N E foot l) : HAt w hp b u kn ab wt N E foot (p :: l) := h.move fun _ hq _ => .tail _ hq
theorem UAt.cons {w : World} {u : Addr} {ns : List Int} {cs : List (List Int)} {ms : List (Int × Int)} {foot : List Addr} {l : Led} {p : Addr × Obj} (h : UAt w u ns cs ms foot l) : UAt w u ns cs ms foot (p :: l) := h.move fun _ hq _ => .tail _ hq
end
section
example : True := by
  w_top off
  k_with_none
  k_with "omega" => lia
  trivial
theorem HIn.look {w : World} {hp b u dh le lf dk da lw : Addr} {k : Nat → Tok} {n1 n2 n3 n4 : Nat} {ve vf vw : List Value} {kxs : Ents} {fa : Int → Option Addr} {kn : List (List Mix × Int)} {ab : Int → Option (List Int)} {wt : List Int} {NN EE : Nat} {foot : List Addr} {l l' : Led}
    (I : HIn w hp b u dh le lf dk da lw k n1 n2 n3 n4 ve vf vw kxs fa kn ab wt NN EE foot l) {D : Addr} {o' : Obj} {key : List Mix} {n : Int} {t : Tok} {oD : Obj}
    (S : SetTo dk o' ((D, oD) :: l) l') (m2 : DH PySem.Challenge.rw_pq0123_02.row.prog w dk (kxs ++ [(key, D, Value.int n t)]) l') (hD : ∀ p ∈ l, p.1 < D) (hkz : kn.length < 900) :
    HAt w hp b u (kn ++ [(key, n)]) ab wt NN EE (foot ++ [D]) l' ∧ Keeps foot l l' ∧ Grow foot (foot ++ [D]) l ∧ (∀ a ∈ foot, a ∈ foot ++ [D]) := by
  have hnod := I.nod
  simp only [List.nodup_cons, List.mem_cons, List.not_mem_nil, or_false, not_or] at hnod
  obtain ⟨⟨z1, z2, z3, z4, z5, z6⟩, ⟨z7, z8, z9, z10, z11⟩, ⟨z12, z13, z14, z15⟩, ⟨z16, z17, z18⟩, ⟨z19, z20⟩, z21, _⟩ := hnod
  obtain ⟨f1, f2, f3, f4, f5, f6, f7, f8, f9⟩ := I.feet
  have keep : ∀ p ∈ l, p.1 ≠ dk → p ∈ l' := fun p hp e => S.keep p (.tail _ hp) e
  obtain ⟨odk, mdk⟩ := I.known.obj
  have dD : dk ≠ D := Nat.ne_of_lt (hD _ mdk)
  have mD : (D, oD) ∈ l' := S.keep _ (.head _) dD.symm
  have ltD : ∀ {a : Addr}, a ∈ foot → a ≠ D := fun {a} ha => by
    obtain ⟨o, ho⟩ := I.footin a ha
    exact Nat.ne_of_lt (hD _ ho)
  have hxl : kxs.length = kn.length := I.knis.1
  refine ⟨⟨dh, le, lf, dk, da, lw, k, n1, n2, n3, n4, ve, vf, vw, kxs ++ [(key, D, Value.int n t)], fa, keep _ I.inst z4, keep _ I.dict z9, keep _ I.edges z13, I.elen, keep _ I.forest z16, I.flen, m2, ⟨by simp [hxl], fun i hi => ?_⟩, I.above.move fun p hp e => keep p hp (e ▸ Ne.symm z19), fun j => ?_, I.inj, keep _ I.waiting (Ne.symm z20), I.wints, ?_, I.nod, I.ane, entAddrs_snoc I.tne ⟨?_, fun j e => ltD (f9 _ _ e) rfl⟩, ⟨List.mem_append_left _ f1, List.mem_append_left _ f2, List.mem_append_left _ f3, List.mem_append_left _ f4, List.mem_append_left _ f5, List.mem_append_left _ f6, List.mem_append_left _ f7, entAddrs_snoc (fun a ha => List.mem_append_left _ (f8 a ha)) (List.mem_append_right _ (.head _)), fun j a e => List.mem_append_left _ (f9 j a e)⟩, fun a ha => ?_⟩, fun p hp hn => keep p hp fun e => hn (e ▸ f5), fun a ha => ?_, fun a ha => List.mem_append_left _ ha⟩
  · by_cases hi' : i < kxs.length
    · rw [getD_app_lt hi', getD_app_lt (by omega)]
      exact I.knis.2 i hi'
    · have e : i = kxs.length := by simp at hi; omega
      rw [getD_app_last e, getD_app_last (by omega)]
      exact ⟨t, rfl, rfl⟩
  · rcases I.users j with h | ⟨a, us, vs, n, h1, h2, h3, h4⟩
    · exact .inl h
    · refine .inr ⟨a, us, vs, n, h1, h2, keep _ h3 fun e => I.ane j a h1 ?_, h4⟩
      rw [show a = dk from e]; simp
  · obtain ⟨s1, s2, s3, s4⟩ := I.small
    exact ⟨s1, s2, s3, by simp; omega⟩
  · simp only [List.mem_cons, List.not_mem_nil, or_false, not_or]
    exact ⟨(ltD f1).symm, (ltD f2).symm, (ltD f3).symm, (ltD f4).symm, (ltD f5).symm, (ltD f6).symm, (ltD f7).symm⟩
  · rcases List.mem_append.mp ha with ha | ha
    · by_cases e : a = dk
      · obtain ⟨o, ho⟩ := m2.obj
        exact ⟨o, e ▸ ho⟩
      · obtain ⟨o, ho⟩ := I.footin a ha
        exact ⟨o, keep _ ho e⟩
    · exact ⟨_, List.mem_singleton.mp ha ▸ mD⟩
  · rcases List.mem_append.mp ha with ha | ha
    · exact .inl ha
    · exact .inr fun p hp => List.mem_singleton.mp ha ▸ Nat.ne_of_lt (hD p hp)
end
section
example : True := by
  w_top off
  k_with_none
  k_with "omega" => lia
  trivial
theorem HIn.move {w : World} {hp b u dh le lf dk da lw : Addr} {k : Nat → Tok} {n1 n2 n3 n4 : Nat} {ve vf vw : List Value} {kxs : Ents} {fa : Int → Option Addr} {kn : List (List Mix × Int)} {ab : Int → Option (List Int)} {wt : List Int} {NN EE : Nat} {foot : List Addr} {l l' : Led} (I : HIn w hp b u dh le lf dk da lw k n1 n2 n3 n4 ve vf vw kxs fa kn ab wt NN EE foot l) (kp : ∀ p ∈ l, p.1 ∈ foot → p ∈ l') : HIn w hp b u dh le lf dk da lw k n1 n2 n3 n4 ve vf vw kxs fa kn ab wt NN EE foot l' := by
  obtain ⟨f1, f2, f3, f4, f5, f6, f7, f8, f9⟩ := I.feet
  refine ⟨kp _ I.inst f1, kp _ I.dict f2, kp _ I.edges f3, I.elen, kp _ I.forest f4, I.flen, I.known.move fun p hp e => kp p hp ?_, I.knis, I.above.move fun p hp e => kp p hp (e ▸ f6), fun j => ?_, I.inj, kp _ I.waiting f7, I.wints, I.small, I.nod, I.ane, I.tne, I.feet, fun a ha => ?_⟩
  · rcases e with e | e
    · exact e ▸ f5
    · exact f8 _ e
  · rcases I.users j with h | ⟨a, us, vs, n, h1, h2, h3, h4⟩
    · exact .inl h
    · exact .inr ⟨a, us, vs, n, h1, h2, kp _ h3 (f9 _ _ h1), h4⟩
  · obtain ⟨o, ho⟩ := I.footin a ha
    exact ⟨o, kp _ ho ha⟩
theorem HIn.cons {w : World} {hp b u dh le lf dk da lw : Addr} {k : Nat → Tok} {n1 n2 n3 n4 : Nat} {ve vf vw : List Value} {kxs : Ents} {fa : Int → Option Addr} {kn : List (List Mix × Int)} {ab : Int → Option (List Int)} {wt : List Int} {NN EE : Nat} {foot : List Addr} {l l' : Led} {p : Addr × Obj} (I : HIn w hp b u dh le lf dk da lw k n1 n2 n3 n4 ve vf vw kxs fa kn ab wt NN EE foot l) : HIn w hp b u dh le lf dk da lw k n1 n2 n3 n4 ve vf vw kxs fa kn ab wt NN EE foot (p :: l) := I.move fun _ hq _ => .tail _ hq

theorem HIn.setEdges {w : World} {hp b u dh le lf dk da lw : Addr} {k : Nat → Tok} {n1 n2 n3 n4 : Nat} {ve vf vw : List Value} {kxs : Ents} {fa : Int → Option Addr} {kn : List (List Mix × Int)} {ab : Int → Option (List Int)} {wt : List Int} {NN EE : Nat} {foot : List Addr} {l l' : Led} (I : HIn w hp b u dh le lf dk da lw k n1 n2 n3 n4 ve vf vw kxs fa kn ab wt NN EE foot l) {x : Value} {n2' : Nat} (S : SetTo le (PySem.W.listOf (ve ++ [x]).toArray n2') l l') (hE : EE < 990) : HIn w hp b u dh le lf dk da lw k n1 n2' n3 n4 (ve ++ [x]) vf vw kxs fa kn ab wt NN (EE + 1) foot l' := by
  have hnod := I.nod
  simp only [List.nodup_cons, List.mem_cons, List.not_mem_nil, or_false, not_or] at hnod
  obtain ⟨⟨z1, z2, z3, z4, z5, z6⟩, ⟨z7, z8, z9, z10, z11⟩, ⟨z12, z13, z14, z15⟩, ⟨z16, z17, z18⟩, ⟨z19, z20⟩, z21, _⟩ := hnod
  obtain ⟨f1, f2, f3, f4, f5, f6, f7, f8, f9⟩ := I.feet
  have keep : ∀ p ∈ l, p.1 ≠ le → p ∈ l' := fun p hp e => S.keep p hp e
  refine ⟨keep _ I.inst z2, keep _ I.dict z7, S.self _ I.edges, by have := I.elen; simp; omega, keep _ I.forest (Ne.symm z12), Nat.le_succ_of_le I.flen, I.known.move fun p hp e => keep p hp ?_, I.knis, I.above.move fun p hp e => keep p hp (e ▸ (Ne.symm z14)), fun j => ?_, I.inj, keep _ I.waiting (Ne.symm z15), I.wints, ⟨I.small.1, by omega, I.small.2.2.1, I.small.2.2.2⟩, I.nod, I.ane, I.tne, I.feet, fun a ha => ?_⟩
  · rcases e with e | e
    · exact e ▸ (Ne.symm z13)
    · exact fun e2 => (I.tne _ e).1 (by rw [e2]; simp)
  · rcases I.users j with h | ⟨a, us, vs, n, h1, h2, h3, h4⟩
    · exact .inl h
    · refine .inr ⟨a, us, vs, n, h1, h2, keep _ h3 fun e => I.ane j a h1 ?_, h4⟩
      rw [show a = le from e]; simp
  · by_cases e : a = le
    · exact ⟨_, e ▸ S.self _ I.edges⟩
    · obtain ⟨o, ho⟩ := I.footin a ha
      exact ⟨o, keep _ ho e⟩

theorem HIn.setForest {w : World} {hp b u dh le lf dk da lw : Addr} {k : Nat → Tok} {n1 n2 n3 n4 : Nat} {ve vf vw : List Value} {kxs : Ents} {fa : Int → Option Addr} {kn : List (List Mix × Int)} {ab : Int → Option (List Int)} {wt : List Int} {NN EE : Nat} {foot : List Addr} {l l' : Led} (I : HIn w hp b u dh le lf dk da lw k n1 n2 n3 n4 ve vf vw kxs fa kn ab wt NN EE foot l) {x : Value} {n3' : Nat} (S : SetTo lf (PySem.W.listOf (vf ++ [x]).toArray n3') l l') (hE : vf.length + 1 ≤ EE) : HIn w hp b u dh le lf dk da lw k n1 n2 n3' n4 ve (vf ++ [x]) vw kxs fa kn ab wt NN EE foot l' := by
  have hnod := I.nod
  simp only [List.nodup_cons, List.mem_cons, List.not_mem_nil, or_false, not_or] at hnod
  obtain ⟨⟨z1, z2, z3, z4, z5, z6⟩, ⟨z7, z8, z9, z10, z11⟩, ⟨z12, z13, z14, z15⟩, ⟨z16, z17, z18⟩, ⟨z19, z20⟩, z21, _⟩ := hnod
  obtain ⟨f1, f2, f3, f4, f5, f6, f7, f8, f9⟩ := I.feet
  have keep : ∀ p ∈ l, p.1 ≠ lf → p ∈ l' := fun p hp e => S.keep p hp e
  refine ⟨keep _ I.inst z3, keep _ I.dict z8, keep _ I.edges z12, I.elen, S.self _ I.forest, by simp; omega, I.known.move fun p hp e => keep p hp ?_, I.knis, I.above.move fun p hp e => keep p hp (e ▸ (Ne.symm z17)), fun j => ?_, I.inj, keep _ I.waiting (Ne.symm z18), I.wints, I.small, I.nod, I.ane, I.tne, I.feet, fun a ha => ?_⟩
  · rcases e with e | e
    · exact e ▸ (Ne.symm z16)
    · exact fun e2 => (I.tne _ e).1 (by rw [e2]; simp)
  · rcases I.users j with h | ⟨a, us, vs, n, h1, h2, h3, h4⟩
    · exact .inl h
    · refine .inr ⟨a, us, vs, n, h1, h2, keep _ h3 fun e => I.ane j a h1 ?_, h4⟩
      rw [show a = lf from e]; simp
  · by_cases e : a = lf
    · exact ⟨_, e ▸ S.self _ I.forest⟩
    · obtain ⟨o, ho⟩ := I.footin a ha
      exact ⟨o, keep _ ho e⟩

theorem HIn.setWaiting {w : World} {hp b u dh le lf dk da lw : Addr} {k : Nat → Tok} {n1 n2 n3 n4 : Nat} {ve vf vw : List Value} {kxs : Ents} {fa : Int → Option Addr} {kn : List (List Mix × Int)} {ab : Int → Option (List Int)} {wt : List Int} {NN EE : Nat} {foot : List Addr} {l l' : Led} (I : HIn w hp b u dh le lf dk da lw k n1 n2 n3 n4 ve vf vw kxs fa kn ab wt NN EE foot l) {vw' : List Value} {wt' : List Int} {n4' : Nat} (S : SetTo lw (PySem.W.listOf vw'.toArray n4') l l') (hi : IntsAre vw' wt') (hz : wt'.length < 1000) : HIn w hp b u dh le lf dk da lw k n1 n2 n3 n4' ve vf vw' kxs fa kn ab wt' NN EE foot l' := by
  have hnod := I.nod
  simp only [List.nodup_cons, List.mem_cons, List.not_mem_nil, or_false, not_or] at hnod
  obtain ⟨⟨z1, z2, z3, z4, z5, z6⟩, ⟨z7, z8, z9, z10, z11⟩, ⟨z12, z13, z14, z15⟩, ⟨z16, z17, z18⟩, ⟨z19, z20⟩, z21, _⟩ := hnod
  obtain ⟨f1, f2, f3, f4, f5, f6, f7, f8, f9⟩ := I.feet
  have keep : ∀ p ∈ l, p.1 ≠ lw → p ∈ l' := fun p hp e => S.keep p hp e
  refine ⟨keep _ I.inst z6, keep _ I.dict z11, keep _ I.edges z15, I.elen, keep _ I.forest z18, I.flen, I.known.move fun p hp e => keep p hp ?_, I.knis, I.above.move fun p hp e => keep p hp (e ▸ z21), fun j => ?_, I.inj, S.self _ I.waiting, hi, ⟨I.small.1, I.small.2.1, hz, I.small.2.2.2⟩, I.nod, I.ane, I.tne, I.feet, fun a ha => ?_⟩
  · rcases e with e | e
    · exact e ▸ z20
    · exact fun e2 => (I.tne _ e).1 (by rw [e2]; simp)
  · rcases I.users j with h | ⟨a, us, vs, n, h1, h2, h3, h4⟩
    · exact .inl h
    · refine .inr ⟨a, us, vs, n, h1, h2, keep _ h3 fun e => I.ane j a h1 ?_, h4⟩
      rw [show a = lw from e]; simp
  · by_cases e : a = lw
    · exact ⟨_, e ▸ S.self _ I.waiting⟩
    · obtain ⟨o, ho⟩ := I.footin a ha
      exact ⟨o, keep _ ho e⟩

theorem HIn.pop {w : World} {hp b u dh le lf dk da lw : Addr} {k : Nat → Tok} {n1 n2 n3 n4 : Nat} {ve vf vw : List Value} {kxs : Ents} {fa : Int → Option Addr} {kn : List (List Mix × Int)} {ab : Int → Option (List Int)} {wt : List Int} {NN EE : Nat} {foot : List Addr} {l l' : Led} (I : HIn w hp b u dh le lf dk da lw k n1 n2 n3 n4 ve vf vw kxs fa kn ab wt NN EE foot l) {g : Int} {o' : Obj} (S : SetTo da o' l l') (H : DI PySem.Challenge.rw_pq0123_02.row.prog w da NN (fun j => if j = g then none else fa j) l') : HIn w hp b u dh le lf dk da lw k n1 n2 n3 n4 ve vf vw kxs (fun j => if j = g then none else fa j) kn (fun j => if j = g then none else ab j) wt NN EE foot l' := by
  have hnod := I.nod
  simp only [List.nodup_cons, List.mem_cons, List.not_mem_nil, or_false, not_or] at hnod
  obtain ⟨⟨z1, z2, z3, z4, z5, z6⟩, ⟨z7, z8, z9, z10, z11⟩, ⟨z12, z13, z14, z15⟩, ⟨z16, z17, z18⟩, ⟨z19, z20⟩, z21, _⟩ := hnod
  obtain ⟨f1, f2, f3, f4, f5, f6, f7, f8, f9⟩ := I.feet
  have keep : ∀ p ∈ l, p.1 ≠ da → p ∈ l' := fun p hp e => S.keep p hp e
  refine ⟨keep _ I.inst z5, keep _ I.dict z10, keep _ I.edges z14, I.elen, keep _ I.forest z17, I.flen, I.known.move fun p hp e => keep p hp ?_, I.knis, H, fun j => ?_, fun i j a h1 h2 => I.inj i j a (by split at h1; cases h1; exact h1) (by split at h2; cases h2; exact h2), keep _ I.waiting (Ne.symm z21), I.wints, I.small, I.nod, fun j a h => I.ane j a (by split at h; cases h; exact h), fun a ha => ⟨(I.tne a ha).1, fun j h => (I.tne a ha).2 j (by split at h; cases h; exact h)⟩, ⟨f1, f2, f3, f4, f5, f6, f7, f8, fun j a h => f9 j a (by split at h; cases h; exact h)⟩, fun a ha => ?_⟩
  · rcases e with e | e
    · exact e ▸ z19
    · exact fun e2 => (I.tne _ e).1 (by rw [e2]; simp)
  · by_cases hj : j = g
    · exact .inl ⟨by simp [hj], by simp [hj]⟩
    simp only [hj, if_false]
    rcases I.users j with h | ⟨a, us, vs, n, h1, h2, h3, h4⟩
    · exact .inl h
    · refine .inr ⟨a, us, vs, n, h1, h2, keep _ h3 fun e => I.ane j a h1 ?_, h4⟩
      rw [show a = da from e]; simp
  · by_cases e : a = da
    · obtain ⟨o, ho⟩ := H.obj; exact ⟨o, e ▸ ho⟩
    · obtain ⟨o, ho⟩ := I.footin a ha
      exact ⟨o, keep _ ho e⟩

theorem HIn.put {w : World} {hp b u dh le lf dk da lw : Addr} {k : Nat → Tok} {n1 n2 n3 n4 : Nat} {ve vf vw : List Value} {kxs : Ents} {fa : Int → Option Addr} {kn : List (List Mix × Int)} {ab : Int → Option (List Int)} {wt : List Int} {NN EE : Nat} {foot : List Addr} {l l' : Led} (I : HIn w hp b u dh le lf dk da lw k n1 n2 n3 n4 ve vf vw kxs fa kn ab wt NN EE foot l) {kk : Int} {D : Addr} {o' : Obj} {NN' : Nat} {vs : List Value} {us : List Int} {n : Nat} (S : SetTo da o' l l') (mD : (D, PySem.W.listOf vs.toArray n) ∈ l) (hD : D ∉ foot) (hi : IntsAre vs us) (hu : us.length < 60) (hN : NN' < 1000)
    (H : DI PySem.Challenge.rw_pq0123_02.row.prog w da NN' (fun j => if j = kk then some D else fa j) l') :
    HIn w hp b u dh le lf dk da lw k n1 n2 n3 n4 ve vf vw kxs (fun j => if j = kk then some D else fa j) kn (fun j => if j = kk then some us else ab j) wt NN' EE (foot ++ [D]) l' := by
  have hnod := I.nod
  simp only [List.nodup_cons, List.mem_cons, List.not_mem_nil, or_false, not_or] at hnod
  obtain ⟨⟨z1, z2, z3, z4, z5, z6⟩, ⟨z7, z8, z9, z10, z11⟩, ⟨z12, z13, z14, z15⟩, ⟨z16, z17, z18⟩, ⟨z19, z20⟩, z21, _⟩ := hnod
  obtain ⟨f1, f2, f3, f4, f5, f6, f7, f8, f9⟩ := I.feet
  have keep : ∀ p ∈ l, p.1 ≠ da → p ∈ l' := fun p hp e => S.keep p hp e
  have ne : ∀ {a : Addr}, a ∈ foot → D ≠ a := fun {a} ha e => hD (e ▸ ha)
  have back : ∀ {j : Int} {a : Addr}, (if j = kk then some D else fa j) = some a → (j = kk ∧ a = D) ∨ (j ≠ kk ∧ fa j = some a) := fun {j} {a} h => by
    split at h
    · exact .inl ⟨‹_›, (Option.some.inj h).symm⟩
    · exact .inr ⟨‹_›, h⟩
  refine ⟨keep _ I.inst z5, keep _ I.dict z10, keep _ I.edges z14, I.elen, keep _ I.forest z17, I.flen, I.known.move fun p hp e => keep p hp ?_, I.knis, H, fun j => ?_, ?_, keep _ I.waiting (Ne.symm z21), I.wints, ⟨hN, I.small.2⟩, I.nod, ?_, ?_, ⟨List.mem_append_left _ f1, List.mem_append_left _ f2, List.mem_append_left _ f3, List.mem_append_left _ f4, List.mem_append_left _ f5, List.mem_append_left _ f6, List.mem_append_left _ f7, fun a ha => List.mem_append_left _ (f8 a ha), ?_⟩, fun a ha => ?_⟩
  · rcases e with e | e
    · exact e ▸ z19
    · exact fun e2 => (I.tne _ e).1 (by rw [e2]; simp)
  · by_cases hj : j = kk
    · refine .inr ⟨D, us, vs, n, by simp [hj], by simp [hj], keep _ mD (ne f6), hi, hu⟩
    simp only [hj, if_false]
    rcases I.users j with h | ⟨a, us, vs, n, h1, h2, h3, h4⟩
    · exact .inl h
    · refine .inr ⟨a, us, vs, n, h1, h2, keep _ h3 fun e => I.ane j a h1 ?_, h4⟩
      rw [show a = da from e]; simp
  · intro i j a h1 h2
    rcases back h1 with ⟨e1, e2⟩ | ⟨e1, e2⟩ <;> rcases back h2 with ⟨e3, e4⟩ | ⟨e3, e4⟩
    · rw [e1, e3]
    · exact absurd e2.symm (ne (f9 j a e4))
    · exact absurd e4.symm (ne (f9 i a e2))
    · exact I.inj i j a e2 e4
  · intro j a h
    rcases back h with ⟨_, e⟩ | ⟨_, e⟩
    · rw [e]
      simp only [List.mem_cons, List.not_mem_nil, or_false, not_or]
      exact ⟨ne f1, ne f2, ne f3, ne f4, ne f5, ne f6, ne f7⟩
    · exact I.ane j a e
  · intro a ha
    refine ⟨(I.tne a ha).1, fun j h => ?_⟩
    rcases back h with ⟨_, e⟩ | ⟨_, e⟩
    · exact absurd e.symm (ne (f8 a ha))
    · exact (I.tne a ha).2 j e
  · intro j a h
    rcases back h with ⟨_, e⟩ | ⟨_, e⟩
    · exact List.mem_append_right _ (List.mem_singleton.mpr e)
    · exact List.mem_append_left _ (f9 j a e)
  · rcases List.mem_append.mp ha with ha | ha
    · by_cases e : a = da
      · obtain ⟨o, ho⟩ := H.obj
        exact ⟨o, e ▸ ho⟩
      · obtain ⟨o, ho⟩ := I.footin a ha
        exact ⟨o, keep _ ho e⟩
    · exact ⟨_, List.mem_singleton.mp ha ▸ keep _ mD (ne f6)⟩
end
section
example : True := by
  w_top off
  k_with_none
  k_with "omega" => lia
  trivial
theorem list_add {prog : Program} {w : World} {A : Around} {E : Value → Shared → Prop} {s : Shared} {h₀ : Heap} {L a b : Addr} {m : Str → Option Value} {news : Led} {vs vs2 : List Value} {n n2 : Nat} {Q : Value → Shared → Prop}
    (F : Fr h₀ L s.heap m) (N : News h₀ L s.heap news) (hm : (a, PySem.W.listOf vs.toArray n) ∈ news) (hb : (b, PySem.W.listOf vs2.toArray n2) ∈ news) (hz : vs.length < 5000) (hz2 : vs2.length < 5000)
    (h : ∀ D h', Fr h₀ L h' m → News h₀ L h' ((D, PySem.W.listOf (vs ++ vs2).toArray 0) :: news) → (∀ p ∈ news, p.1 < D) → Q (.ref D) { s with heap := h' }) : wpAny (model prog w) A (binaryOp .Add (.ref a) (.ref b)) Q E s :=
  kmk_add_lit F N (is_listN N hm) (is_listN N hb) rfl h (by rw [sizeLine_eq]; show vs.length + vs2.length ≤ _; omega)
theorem Keeps.sub {foot foot2 : List Addr} {l l' : Led} (h : Keeps foot l l') (hs : ∀ a ∈ foot, a ∈ foot2) : Keeps foot2 l l' := fun p hp hn => h p hp fun e => hn (hs _ e)
theorem set_attr_o {prog : Program} {w : World} {A : Around} {E : Value → Shared → Prop} {s : Shared} {K : Frag} {x C dx L : Addr} {h₀ : Heap} {m : Str → Option Value} {news : Led} {es es' : List DictEntry} {n n' : Nat} {name : Str} {v : Value} {Q : Unit → Shared → Prop} (F : Fr h₀ L s.heap m) (X₀ : K.In h₀) (N : News h₀ L s.heap news)
    (mx : (x, instObj C dx) ∈ news) (md : (dx, dictOf es n) ∈ news)
    (hs : findIn K (.ref C) "__setattr__" = some (some (.builtin "object.__setattr__"))) (hp : plainOver K C = true) (ht : takerIn K C name = some none) (hh : hasDictIn K C = true) (hl : (getL name es).isSome = true)
    (e : (putL name (PyData.keyHash w.params name) (.str name (s.toks + 1)) v es, putN name es n) = (es', n')) (hz : es'.length ≤ 1000)
    (h : ∀ h' l', Fr h₀ L h' m → News h₀ L h' l' → SetTo dx (dictOf es' n') news l' → Q () { s with heap := h', toks := s.toks + 2 }) :
    wpAny (model prog w) A (setAttr (.ref x) name v) Q E s := by
  obtain ⟨l', ND, hi⟩ := News.nod N
  have N2 : News h₀ L s.heap l' := News.sub N fun p hp => (hi p).mpr hp
  refine set_dict F X₀ N2 (InstAt.of_news N2 ((hi _).mp mx) ((hi _).mp md)) rfl hs hp ht hh hl e (upd_setL ND ((hi _).mp md)) hz fun h' F' N' => ?_
  exact h h' _ F' (News.sub N' fun p hp => (mem_setL_iff hi p).mp hp) (.of _ _ _)
end
section
example : True := by
  w_top off
  k_with_none
  k_with "omega" => lia
  trivial
noncomputable def Disj (f g : List Addr) : Prop := ∀ a ∈ f, a ∉ g
theorem Disj.symm {f g : List Addr} (h : Disj f g) : Disj g f := fun a ha hb => h a hb ha
theorem Disj.grow {f g g' : List Addr} {l : Led} (h : Disj f g) (G : Grow g g' l) (hf : ∀ a ∈ f, ∃ o, (a, o) ∈ l) : Disj f g' := fun a ha hg => by
  rcases G a hg with e | e
  · exact h a ha e
  · obtain ⟨o, ho⟩ := hf a ha
    exact e _ ho rfl
theorem HAt.footin {w : World} {hp b u : Addr} {kn : List (List Mix × Int)} {ab : Int → Option (List Int)} {wt : List Int} {N E : Nat} {foot : List Addr} {l : Led} (h : HAt w hp b u kn ab wt N E foot l) : ∀ a ∈ foot, ∃ o, (a, o) ∈ l := by
  obtain ⟨dh, le, lf, dk, da, lw, kk, n1, n2, n3, n4, ve, vf, vw, kxs, fa, I⟩ := h
  exact I.footin
theorem BAt.footin {w : World} {b : Addr} {nks : List (List Mix)} {foot : List Addr} {l : Led} (h : BAt w b nks foot l) : ∀ a ∈ foot, ∃ o, (a, o) ∈ l := by
  obtain ⟨db, ln, dn, lw, ld, kk, n1, n2, n3, n4, nas, xs, vw, vd, ws, ds, I⟩ := h
  exact I.footin
/-- a heap with its bank and its unions, apart from each other -/
structure Trio (w : World) (hp b u : Addr) (nks : List (List Mix)) (kn : List (List Mix × Int)) (ab : Int → Option (List Int)) (wt : List Int) (NN EE : Nat) (ns : List Int) (cs : List (List Int)) (ms : List (Int × Int)) (fh fb fu : List Addr) (l : Led) : Prop where
  h : HAt w hp b u kn ab wt NN EE fh l
  b : BAt w b nks fb l
  u : UAt w u ns cs ms fu l
  hb : Disj fh fb
  hu : Disj fh fu
  bu : Disj fb fu
theorem Trio.move {w : World} {hp b u : Addr} {nks : List (List Mix)} {kn : List (List Mix × Int)} {ab : Int → Option (List Int)} {wt : List Int} {NN EE : Nat} {ns : List Int} {cs : List (List Int)} {ms : List (Int × Int)} {fh fb fu : List Addr} {l l' : Led}
    (T : Trio w hp b u nks kn ab wt NN EE ns cs ms fh fb fu l) (k : ∀ p ∈ l, (p.1 ∈ fh ∨ p.1 ∈ fb ∨ p.1 ∈ fu) → p ∈ l') : Trio w hp b u nks kn ab wt NN EE ns cs ms fh fb fu l' :=
  ⟨T.h.move fun p hp e => k p hp (.inl e), T.b.move fun p hp e => k p hp (.inr (.inl e)), T.u.move fun p hp e => k p hp (.inr (.inr e)), T.hb, T.hu, T.bu⟩
theorem Trio.cons {w : World} {hp b u : Addr} {nks : List (List Mix)} {kn : List (List Mix × Int)} {ab : Int → Option (List Int)} {wt : List Int} {NN EE : Nat} {ns : List Int} {cs : List (List Int)} {ms : List (Int × Int)} {fh fb fu : List Addr} {l : Led} {p : Addr × Obj}
    (T : Trio w hp b u nks kn ab wt NN EE ns cs ms fh fb fu l) : Trio w hp b u nks kn ab wt NN EE ns cs ms fh fb fu (p :: l) := T.move fun _ hq _ => .tail _ hq
/-- a step that keeps all but the three feet, and gives feet that are new or old -/
structure Step3 (fh fb fu fh' fb' fu' : List Addr) (l l' : Led) : Prop where
  keep : ∀ p ∈ l, p.1 ∉ fh → p.1 ∉ fb → p.1 ∉ fu → p ∈ l'
  gh : Grow fh fh' l
  gb : Grow fb fb' l
  gu : Grow fu fu' l
  ih : ∀ a ∈ fh, a ∈ fh'
  ib : ∀ a ∈ fb, a ∈ fb'
  iu : ∀ a ∈ fu, a ∈ fu'
theorem Grow.rfl {f : List Addr} {l : Led} : Grow f f l := fun _ h => .inl h
theorem Trio.addr {w : World} {hp b u : Addr} {nks : List (List Mix)} {kn : List (List Mix × Int)} {ab : Int → Option (List Int)} {wt : List Int} {NN EE : Nat} {ns : List Int} {cs : List (List Int)} {ms : List (Int × Int)} {fh fb fu fh' fb' fu' : List Addr} {l l' : Led}
    (T' : Trio w hp b u nks kn ab wt NN EE ns cs ms fh' fb' fu' l') (S : Step3 fh fb fu fh' fb' fu' l l') : ∀ p ∈ l, ∃ o, (p.1, o) ∈ l' := fun p hp => by
  by_cases e1 : p.1 ∈ fh
  · exact T'.h.footin _ (S.ih _ e1)
  by_cases e2 : p.1 ∈ fb
  · exact T'.b.footin _ (S.ib _ e2)
  by_cases e3 : p.1 ∈ fu
  · exact T'.u.foot_in _ (S.iu _ e3)
  exact ⟨p.2, S.keep p hp e1 e2 e3⟩
theorem Grow.trans {f f' f'' : List Addr} {l l' : Led} (h1 : Grow f f' l) (h2 : Grow f' f'' l') (ha : ∀ p ∈ l, ∃ o, (p.1, o) ∈ l') : Grow f f'' l := fun a h => by
  rcases h2 a h with h | h
  · exact h1 a h
  · exact .inr fun p hp e => by
      obtain ⟨o, ho⟩ := ha p hp
      exact h _ ho e
theorem Step3.trans {w : World} {hp b u : Addr} {nks : List (List Mix)} {kn : List (List Mix × Int)} {ab : Int → Option (List Int)} {wt : List Int} {NN EE : Nat} {ns : List Int} {cs : List (List Int)} {ms : List (Int × Int)} {fh fb fu fh' fb' fu' fh'' fb'' fu'' : List Addr} {l l' l'' : Led}
    (S1 : Step3 fh fb fu fh' fb' fu' l l') (T' : Trio w hp b u nks kn ab wt NN EE ns cs ms fh' fb' fu' l') (S2 : Step3 fh' fb' fu' fh'' fb'' fu'' l' l'') : Step3 fh fb fu fh'' fb'' fu'' l l'' where
  keep := fun p hp e1 e2 e3 => S2.keep p (S1.keep p hp e1 e2 e3) (fun h => by rcases S1.gh _ h with h | h; exact e1 h; exact h p hp rfl) (fun h => by rcases S1.gb _ h with h | h; exact e2 h; exact h p hp rfl) (fun h => by rcases S1.gu _ h with h | h; exact e3 h; exact h p hp rfl)
  gh := S1.gh.trans S2.gh (T'.addr S1)
  gb := S1.gb.trans S2.gb (T'.addr S1)
  gu := S1.gu.trans S2.gu (T'.addr S1)
  ih := fun a h => S2.ih a (S1.ih a h)
  ib := fun a h => S2.ib a (S1.ib a h)
  iu := fun a h => S2.iu a (S1.iu a h)
theorem Step3.of {fh fb fu : List Addr} {l l' : Led} (h : ∀ p ∈ l, p ∈ l') : Step3 fh fb fu fh fb fu l l' := ⟨fun p hp _ _ _ => h p hp, .rfl, .rfl, .rfl, fun _ h => h, fun _ h => h, fun _ h => h⟩
theorem BAt.inst {w : World} {b : Addr} {nks : List (List Mix)} {foot : List Addr} {l : Led} (h : BAt w b nks foot l) : ∃ db k ln dn lw ld n, (b, instObj 256 db) ∈ l ∧ (db, dictOf (bDict w k ln dn lw ld) n) ∈ l ∧ b ∈ foot ∧ db ∈ foot := by
  obtain ⟨db, ln, dn, lw, ld, kk, n1, n2, n3, n4, nas, xs, vw, vd, ws, ds, I⟩ := h
  exact ⟨_, _, _, _, _, _, _, I.inst, I.dict, I.feet.1, I.feet.2.1⟩
theorem UAt.inst {w : World} {u : Addr} {ns : List Int} {cs : List (List Int)} {ms : List (Int × Int)} {foot : List Addr} {l : Led} (h : UAt w u ns cs ms foot l) : ∃ du k1 k2 k3 la ll lm n, (u, instObj 140 du) ∈ l ∧ (du, dictOf (uDict w k1 k2 k3 la ll lm) n) ∈ l ∧ u ∈ foot ∧ du ∈ foot := by
  obtain ⟨du, la, ll, lm, nd, na, nl, nm, k1, k2, k3, vs, as, bs, I, rfl⟩ := h
  exact ⟨_, _, _, _, _, _, _, _, I.inst, I.dict, by simp, by simp⟩
theorem HIn.none {w : World} {hp b u dh le lf dk da lw : Addr} {k : Nat → Tok} {n1 n2 n3 n4 : Nat} {ve vf vw : List Value} {kxs : Ents} {fa : Int → Option Addr} {kn : List (List Mix × Int)} {ab : Int → Option (List Int)} {wt : List Int} {NN EE : Nat} {foot : List Addr} {l : Led}
    (I : HIn w hp b u dh le lf dk da lw k n1 n2 n3 n4 ve vf vw kxs fa kn ab wt NN EE foot l) {j : Int} (h : ab j = .none) : fa j = .none := by
  rcases I.users j with ⟨h1, _⟩ | ⟨a, us, vs, n, h1, h2, _⟩
  · exact h1
  · rw [h] at h2; cases h2
theorem nil_of_iff {ms : List Int} (h : ∀ j, j ∈ ms ↔ j ∈ ([] : List Int)) : ms = [] := by
  cases ms with
  | nil => rfl
  | cons x r => exact absurd ((h x).mp (.head _)) List.not_mem_nil
theorem for_list0 {prog : Program} {w : World} {A : Around} {E : Value → Shared → Prop} {s : Shared} {h₀ : Heap} {env : Env} {x : Str} {body : List Stmt} {Q : Flow → Shared → Prop} {news : Led} {m₀ : Str → Option Value} {ax : Addr} {k : Nat} (hh : A.handled = none) (F : Fr h₀ env.locals s.heap m₀) (N : News h₀ env.locals s.heap news) (hm : (ax, PySem.W.listOf #[] k) ∈ news)
    (done : ∀ h tk, Fr h₀ env.locals h m₀ → News h₀ env.locals h news → Q .next { s with heap := h, toks := tk }) :
    wpAny (model prog w) A (pyIter (.ref ax)) (fun it s₂ => LoopAtV prog w A h₀ env x body Q E it s₂) E s :=
  for_list (vs := []) (fun _ m l => m = m₀ ∧ l = news) hh F N hm ⟨rfl, rfl⟩ (fun i m l h => h.2 ▸ hm) (fun i v m₁ l h tk I oI hv => by simp at hv) fun m₁ l h tk hJ F9 N9 => by
    obtain ⟨rfl, rfl⟩ := hJ
    exact done h tk F9 N9
theorem kp_use {l l' : Led} {p : Addr × Obj} (k : ∀ p ∈ l, p ∈ l') (h : p ∈ l) : p ∈ l' := k p h
end
section
example : True := by
  w_top off
  k_with_none
  k_with "omega" => lia
  trivial
/-- the law's draws -/
structure PoolIn (P C : Addr) (p : Int) (vs : List Value) (cells : List Int) (n n2 : Nat) (t : Tok) (l : Led) : Prop where
  mp : (P, PySem.W.listOf #[.ref C, .int p t] n) ∈ l
  mc : (C, PySem.W.listOf vs.toArray n2) ∈ l
  ne : P ≠ C
  hi : IntsAre vs cells
  pos : 0 < cells.length
  hlen : cells.length ≤ 41
  rng : ∀ c ∈ cells, 0 ≤ c ∧ c < 1000003
  p0 : 0 ≤ p
  p1 : p < 1000
/-- a contract that knows something of the heap at the entry -/
noncomputable def ConB (w : World) (hb : Heap → Prop) (f : Addr) (args : List Value) (dd uu : Nat) (pre : Led → Prop) (post : Led → Led → Value → Prop) : Prop :=
  ∀ (mean : ExcName → Option Value) (mg mb : Str → Option Value) (dp un : Nat) (gd : Option (List Code)) (env : Env) (outer : List Env) (A₀ : Around) (base h₀ : Heap) (L : Addr) (m : Str → Option Value) (news : Led) (s : Shared) (Q E : Value → Shared → Prop),
    Below A₀ base outer h₀ → Fr h₀ L s.heap m → (Mine.q.hd.heap_39 w.params).In h₀ → News h₀ L s.heap news → Top Mine.q.hd.view_39 (looseW Mine.q.hd.view_39 []) mean mg mb h₀ → env.frame = some L → env.scope.kind = .function →
    dp + dd < recursionLimit → un + uu < cLine → pre news → hb h₀ →
    (∀ r h' tk' news', Fr h₀ L h' m → News h₀ L h' news' → post news news' r → Q r { s with heap := h', toks := tk' }) →
    wpAny (model PySem.Challenge.rw_pq0123_02.row.prog w) (top dp un gd env outer) (call (.ref f) args) Q E s
theorem conB_use {w : World} {hb : Heap → Prop} {f : Addr} {args : List Value} {dd uu : Nat} {pre : Led → Prop} {post : Led → Led → Value → Prop} (C : ConB w hb f args dd uu pre post)
    {mean : ExcName → Option Value} {mg mb : Str → Option Value} {A A₀ : Around} {env : Env} {outer : List Env} {base h₀ : Heap} {L : Addr} {m : Str → Option Value} {news : Led} {s : Shared} {Q E : Value → Shared → Prop}
    (B : Below A₀ base outer h₀) (F : Fr h₀ L s.heap m) (X : (Mine.q.hd.heap_39 w.params).In h₀) (N : News h₀ L s.heap news) (T : Top Mine.q.hd.view_39 (looseW Mine.q.hd.view_39 []) mean mg mb h₀)
    (hA : A.frames = some (env :: outer)) (hh : A.handled = none) (hf : env.frame = some L) (hk : env.scope.kind = .function)
    (hd : A.depth + dd < recursionLimit) (hu : A.units + uu < cLine) (hp : pre news) (hhb : hb h₀)
    (ret : ∀ r h' tk' news', Fr h₀ L h' m → News h₀ L h' news' → post news news' r → Q r { s with heap := h', toks := tk' }) :
    wpAny (model PySem.Challenge.rw_pq0123_02.row.prog w) A (call (.ref f) args) Q E s := by
  obtain ⟨hd', dp, fr, gd, un⟩ := A
  cases hA; cases hh
  exact C mean mg mb dp un gd env outer A₀ base h₀ L m news s Q E B F X N T hf hk hd hu hp hhb ret
theorem set_any_o {prog : Program} {w : World} {A : Around} {E : Value → Shared → Prop} {s : Shared} {h₀ : Heap} {L D : Addr} {m : Str → Option Value} {news : Led} {vs : List Value} {n : Nat} {k : Int} {t : Tok} {v : Value} {Q : Unit → Shared → Prop} (F : Fr h₀ L s.heap m) (N : News h₀ L s.heap news) (hm : (D, PySem.W.listOf vs.toArray n) ∈ news) (h0 : 0 ≤ k) (h1 : k < vs.length) (hz : k < 100000)
    (h : ∀ h' l', Fr h₀ L h' m → News h₀ L h' l' → SetTo D (PySem.W.listOf (vs.set k.toNat v).toArray n) news l' → Q () { s with heap := h' }) :
    wpAny (model prog w) A (setItem (.ref D) (.int k t) v) Q E s := by
  have z := N _ hm
  have e : vs.toArray.setIfInBounds k.toNat v = (vs.set k.toNat v).toArray := by
    apply Array.toList_inj.mp
    simp
  refine ki_setAt z.1 h0 (by omega) (by rw [List.size_toArray]; exact h1) (h _ _ (F.change (Heap.SameBut.update ..) z.2.1 z.2.2) (N.replace (Heap.SameBut.update ..) ?_) (.of _ _ _))
  have q := PySem.IsL.update z.1 (·.setIfInBounds k.toNat v)
  rw [e] at q
  have hs : (vs.set k.toNat v).toArray.size = vs.toArray.size := by simp
  rw [hs, beq_self_eq_true, if_pos rfl] at q
  exact q
end
section
example : True := by
  w_top off
  k_with_none
  k_with "omega" => lia
  trivial
theorem find_con {w : World} (u : Addr) (ns ls : List Int) (cs : List (List Int)) (ms : List (Int × Int)) (foot : List Addr) (a : Int) (ta : Tok) (FO : Forest ns ls) :
    Con w 97 [.ref u, .int a ta] 5 50 (fun news => UAt w u ns cs ms foot news ∧ 0 ≤ a ∧ a < ns.length) (fun news news' r => news' = news ∧ ∃ t, r = .int (ls.getD a.toNat 0) t) := by
  rintro mean mg mb dp un gd env outer A₀ base h₀ L m news s Q E B F X N T hf hk hd hu ⟨⟨du, la, ll, lm, nd, na, nl, nm, k1, k2, k3, vs, as, bs, I, hfoot⟩, ha, hlt⟩ hret
  have m1 := I.inst
  have m2 := I.dict
  have m3 := I.above
  have hi := I.vints
  have hz := I.small
  clear I
  refine wpAny_call ?_
  ((refine' code_def (binds := ([("self", .ref u), ("a", .int a ta)])) ?k1 ?k2 ?k3 ?k4 ?k5 ?kA ?kF ?kK ?k6 ?k7 ?k8 ?k9 ?kB ?_ ?c2 ?c3 ?c4 ?c5; (case kA => exact rfl); (case kF => assumption); (case kK => assumption); (case k1 => k_asm); (case k2 => k_asm); (case k3 => k_asm); (case k4 => k_asm); (case k5 => k_asm); (case k6 => k_is); (case k7 => k_is); (case k8 => first | omega | ktr_room | (dsimp only; omega)); (case k9 => exact BindsTo.of_eq rfl); (case c5 => decide); (case kB => exact locs rfl); (case c2 => exact rfl); (case c3 => exact rfl); (case c4 => exact rfl); k_whole; intro g' L' h' FG' F' N' B' X' T'; (try dsimp only); (try k_lift B'); (try k_fold)))
  walk1
  walk1
  refine While_inv (n₀ := a.toNat) (fun n m₁ l => l = news ∧ ∃ (x : Int) (t : Tok), n = x.toNat ∧ 0 ≤ x ∧ x < ns.length ∧ ls.getD x.toNat 0 = ls.getD a.toNat 0 ∧ m₁ = fm [("a", .int x t), ("self", .ref u)]) F' N' ⟨rfl, a, ta, rfl, ha, hlt, rfl, by rfl⟩ ?_
  rintro n m₁ l h₁ tk₁ F₁ N₁ ⟨rfl, x, t, rfl, hx0, hx1, hxl, rfl⟩
  k_steps
  · rename_i hne _ _ _ F2 N2
    obtain ⟨e1, e2⟩ := FO.lo x.toNat (by omega)
    have e3 := FO.up x.toNat (by omega)
    rw [set_head] at F2
    exact WhileStep.intro F2 N2 (n' := (ns.getD x.toNat 0).toNat) (by omega) ⟨rfl, _, _, rfl, e1, by omega, e3.trans hxl, rfl⟩
  · rename_i heq kF kN _ _
    have e := FO.fix x.toNat (by omega) (by omega)
    have e' : x = ls.getD a.toNat 0 := by rw [← hxl]; omega
    rw [e']
    exact hret _ _ _ _ kF kN ⟨rfl, _, rfl⟩
end
section
example : True := by
  w_top off
  k_with_none
  k_with "ktr_room" => ((try simp only [depth_under_make, depth_under_kw, depth_in1, depth_deeper, depth_caller]); (try dsimp only); first | exact room_up2 (by with_reducible assumption) rfl | exact room_up (by with_reducible assumption) rfl | exact room_0 (by with_reducible assumption) rfl | omega)
  k_with "ktr_units" => ((try simp only [units_in1, units_deeper, Around.mark_units, units_caller, units_under_make]); (try dsimp only); first | exact room_up2 (by with_reducible assumption) rfl | exact room_up (by with_reducible assumption) rfl | exact room_0 (by with_reducible assumption) rfl | omega)
  k_with "tb_start" => ((case kB => k_asm); (case kF => k_asm); (case kX => k_asm); (case kN => k_asm); (case kT => k_asm); (case kA => exact rfl); (case kH => exact rfl); (case kf => exact rfl); (case kk => exact rfl); (case kd => ktr_room); (case ku => ktr_units))
  k_with "call ref" => (k_here; (with_reducible show wpAny _ _ (call (Value.ref 97) _) _ _ _); k_dflt (refine' con_use (find_con _ _ _ _ _ _ _ _ ?kzFO) ?kB ?kF ?kX ?kN ?kT ?kA ?kH ?kf ?kk ?kd ?ku ?hp ?_; (case kzFO => assumption); (case hp => exact ⟨by assumption, by first | assumption | omega, by first | assumption | omega⟩); tb_start);  intro _ _ _ _ _ _ hp'; obtain ⟨e', _, e2'⟩ := hp'; subst e'; subst e2'; (try dsimp only))
  k_with "subscriptTail" => (k_here; (with_reducible show wpAny _ _ (subscriptTail _ _ (Value.ref _) (Value.int _ _)) _ _ _); k_dflt (refine' item_ref ?kzN ?kzm ?kzh0 ?kzhk ?kzhh ?_ ?kzhs; (case kzN => k_asm); (case kzhk => assumption); (case kzm => k_mem); (case kzh0 => omega); (case kzhh => omega); (case kzhs => with_unfolding_all rfl); k_whole))
  k_with "newList" => (k_here; k_dflt (refine' newList_led ?kzF ?kzN ?_ ?kzz; (case kzF => k_asm); (case kzN => k_asm); (case kzz => first | decide | kso_len)); intro _ _ _ _ _; (try k_sweep))
  k_with "call builtin:sorted" => (k_here; (with_reducible show wpAny _ _ (call (Value.builtin _) [Value.ref _]) _ _ _); k_dflt (with_unfolding_all refine' kso_sorted ?kzk1 ?kzk2 (is_listN ?kzk2 ?kzk3) ?kzk4 ?kzk5 ?_; (case kzk1 => k_asm); (case kzk2 => k_asm); (case kzk3 => k_mem); (case kzk4 => l_ints); (case kzk5 => omega); k_whole); intro _ _ _ _ _ _ _ _ _ _ _ _ _; (try k_sweep))
  k_with "kso_len" => first | omega | (simp only [List.length_append, List.length_map, List.length_cons, List.length_nil, List.length_set]; omega)
  k_with "call builtin:len" => (k_here; (with_reducible show wpAny _ _ (call (Value.builtin "len") [Value.ref _]) _ _ _); k_dflt (refine' len_led ?kzN ?kzm ?kzk ?kzz ?_; (case kzN => k_asm); (case kzm => k_mem); (case kzk => first | exact IntsAre.length (by with_reducible assumption) | exact List.length_map _ | ((try simp only [List.length_append, List.length_map, List.length_cons, List.length_nil, List.length_set]); exact rfl)); (case kzz => kso_len)); intro _ _)
  k_with "call builtin:list.append" => (k_here; (with_reducible show wpAny _ _ (call (Value.builtin _) [Value.ref _, _]) _ _ _); k_dflt (refine' append_led ?kzF ?kzN ?kzm ?kzz ?_; (case kzF => k_asm); (case kzN => k_asm); (case kzm => k_mem); (case kzz => kso_len)); intro _ _ _; (try k_sweep))
  k_with "call builtin:list.extend" => (k_here; (with_reducible show wpAny _ _ (call (Value.builtin _) [Value.ref _, Value.ref _]) _ _ _); k_dflt (refine' extend_led ?kzF ?kzN ?kzm ?kzb ?kzz ?kzy ?_; (case kzF => k_asm); (case kzN => k_asm); (case kzm => k_mem); (case kzb => k_mem); (case kzz => kso_len); (case kzy => kso_len)); intro _ _ _ _; (try k_sweep))
  k_with "call type:list" => (k_here; (with_reducible show wpAny _ _ (call (Value.type _) [Value.ref _]) _ _ _); k_dflt (refine' list_led ?kzF ?kzN ?kzm ?kzz ?_; (case kzF => k_asm); (case kzN => k_asm); (case kzm => k_mem); (case kzz => kso_len)); intro _ _ _ _ _ _; (try k_sweep))
  k_with "setItem ref int" => (k_here; (with_reducible show wpAny _ _ (setItem (Value.ref _) (Value.int _ _) (Value.int _ _)) _ _ _); k_dflt (refine' set_led ?kzF ?kzN ?kzm ?kzi ?kza ?kzb ?kzz ?_; (case kzF => k_asm); (case kzN => k_asm); (case kzm => k_mem); (case kzi => with_reducible assumption); (case kza => omega); (case kzb => omega); (case kzz => omega)); intro _ _ _ _; (try k_sweep))
  k_with "call builtin:sorted" => (k_here; (with_reducible show wpAny _ _ (call (Value.builtin _) [Value.ref _]) _ _ _); k_dflt (refine' sorted_two ?kzF ?kzN ?kzm ?_; (case kzF => k_asm); (case kzN => k_asm); (case kzm => k_mem)); intro _ _ _ _ _ _ _ _; (try k_sweep))
  k_with "k_mem" => first | with_reducible assumption | ktr_member | ((with_reducible refine' mem_setL_self ?kya); (case kya => k_mem)) | ((with_reducible refine' mem_setL_ne ?kya ?kyb); (case kyb => first | with_reducible assumption | exact Ne.symm (by with_reducible assumption) | omega); (case kya => k_mem)) | exact List.Mem.head _ | (refine' List.mem_cons_of_mem _ ?_; k_mem)
  k_with "newTuple" => (k_here; k_dflt (refine' newTuple_led ?kzF ?kzN ?_ ?kzz; (case kzF => k_asm); (case kzN => k_asm); (case kzz => first | decide | kso_len)); intro _ _ _ _ _; (try k_sweep))
  k_with "CompSrc" => refine Hold.out ?_
  k_with "CompSrcT" => refine Hold.out ?_
  k_with "Src3" => refine Hold.out ?_
  k_with "eval ListComp" => (k_here; (fail_if_success lct_look); k_dflt (refine ListComp_3 (F₀ := by k_asm) (by with_unfolding_all rfl) (by decide) (by rfl) (by decide) (by rfl) ?_))
  k_with "eval ListComp" => (k_here; lct_look; k_dflt (refine LCt.ListComp_T (F₀ := by k_asm) (by with_unfolding_all rfl) (by decide) (by rfl) (by decide) (by rfl) ?_))
  k_with "StrSrc" => refine Hold.out ?_
  k_with "ktr_rel" => first | with_reducible assumption | exact tupIn_s (by k_mem) | exact tupIn_si (by k_mem) | ((with_reducible refine DH.cons ?_); ktr_rel) | ((with_reducible refine DI.cons ?_); ktr_rel) | ((with_reducible refine TupIn.cons ?_); ktr_rel)
  k_with "call type:tuple" => (k_here; (with_reducible show wpAny _ _ (call (Value.type _) [Value.ref _]) _ _ _); k_dflt (first | (refine' tup_same ?kzN ?kzm ?_; (case kzN => k_asm); (case kzm => k_mem)) | (refine' tup_list ?kzF ?kzN ?kzm ?kzz ?_; (case kzF => k_asm); (case kzN => k_asm); (case kzm => k_mem); (case kzz => first | decide | kso_len); intro _ _ _ _ _; (try k_sweep))))
  k_with "binaryOp Add" => (k_here; (with_reducible show wpAny _ _ (binaryOp _ (Value.ref _) (Value.ref _)) _ _ _); k_dflt (first | (refine' tup_add0 ?kzF ?kzN ?kzm ?kzb ?kzv ?kzz ?_; (case kzF => k_asm); (case kzN => k_asm); (case kzm => k_mem); (case kzb => k_mem); (case kzv => simp); (case kzz => first | decide | kso_len)) | (refine' tup_add ?kzF ?kzN ?kzm ?kzb ?kzv ?kzy ?kzz ?kzx ?_; (case kzF => k_asm); (case kzN => k_asm); (case kzm => k_mem); (case kzb => k_mem); (case kzv => simp); (case kzy => simp); (case kzz => first | decide | kso_len); (case kzx => first | decide | kso_len); intro _ _ _ _ _; (try k_sweep))))
  k_with "subscriptTail" => (k_here; (with_reducible show wpAny _ _ (subscriptTail _ (Expr.Slice _ _ _ _) (Value.ref _) (Value.ref _)) _ _ _); k_dflt (refine' tup_slice1 ?kzF ?kzN ?kzm ?kzz ?_ ?kzs; (case kzs => with_unfolding_all rfl); (case kzF => k_asm); (case kzN => k_asm); (case kzm => k_mem); (case kzz => first | decide | kso_len)); intro _ _ _ _ _; (try k_sweep))
  k_with "compareOp In" => (k_here; (with_reducible show wpAny _ _ (compareOp CmpOp.In (Value.ref _) (Value.ref _)) _ _ _); k_dflt (refine' dh_in ?kzu ?kzN ?kzH ?kzT ?_; (case kzN => k_asm); (case kzH => ktr_rel); (case kzT => ktr_rel); (case kzu => ktr_units)); intro _; (try dsimp only))
  k_with "compareOp In" => (k_here; (with_reducible show wpAny _ _ (compareOp CmpOp.In (Value.ref _) (Value.ref _)) _ _ _); k_dflt (refine' dh_in_none ?kzu ?kzN ?kzH ?kzT ?kzK ?_; (case kzN => k_asm); (case kzH => ktr_rel); (case kzT => ktr_rel); (case kzK => with_reducible assumption); (case kzu => ktr_units)); intro _; (try dsimp only))
  k_with "setItem ref ref" => (k_here; k_dflt (refine' dh_set ?kzu ?kzF ?kzN ?kzH ?kzT ?kzz ?_; (case kzF => k_asm); (case kzN => k_asm); (case kzH => ktr_rel); (case kzT => ktr_rel); (case kzu => ktr_units); (case kzz => omega)); intro _ _ _ _ _ _; (try k_sweep))
  k_with "getMethod ref" => (k_here; (with_reducible show wpAny _ _ (getMethod (Value.ref _) (Str.ofString "setdefault") _) _ _ _); k_dflt (refine' dh_method PySem.F.slot_dict_setdefault PySem.F.type_dict_setdefault ?kzN ?kzH ?_; (case kzN => k_asm); (case kzH => ktr_rel)))
  k_with "getMethod ref" => (k_here; (with_reducible show wpAny _ _ (getMethod (Value.ref _) (Str.ofString "get") _) _ _ _); k_dflt (refine' dh_method PySem.F.slot_dict_get PySem.F.type_dict_get ?kzN ?kzH ?_; (case kzN => k_asm); (case kzH => ktr_rel)))
  k_with "getMethod ref" => (k_here; (with_reducible show wpAny _ _ (getMethod (Value.ref _) (Str.ofString "pop") _) _ _ _); k_dflt (refine' di_method PySem.F.slot_dict_pop PySem.F.type_dict_pop ?kzN ?kzH ?_; (case kzN => k_asm); (case kzH => ktr_rel)))
  k_with "omega" => lia
  trivial
theorem members_con {w : World} (u : Addr) (ns ls : List Int) (cs : List (List Int)) (ms : List (Int × Int)) (foot : List Addr) (a : Int) (ta : Tok) (FO : Forest ns ls) :
    Con w 111 [.ref u, .int a ta] 10 100 (fun news => UAt w u ns cs ms foot news ∧ 0 ≤ a ∧ a < ns.length)
      (fun news news' r => ∃ D vs ns' n, r = .ref D ∧ news' = (D, PySem.W.listOf (List.toArray vs) n) :: news ∧ (∀ p ∈ news, p.1 ≠ D) ∧ IntsAre vs ns' ∧ ns'.Perm (cs.getD (ls.getD a.toNat 0).toNat []) ∧ ns'.Pairwise (· ≤ ·)) := by
  rintro mean mg mb dp un gd env outer A₀ base h₀ L m news s Q E B F X N T hf hk hd hu ⟨U, ha, hlt⟩ hret
  have U' := U
  obtain ⟨du, la, ll, lm, nd, na, nl, nm, k1, k2, k3, vs, as, bs, I, hfoot⟩ := U'
  have m1 := I.inst
  have m2 := I.dict
  have m3 := I.lots
  obtain ⟨hr0, hr1⟩ := FO.rng a.toNat (by omega)
  have hal : as.length = cs.length := I.lists.1
  have hcl := I.len
  have hsm := I.small
  have hx := ref_at (as := as) (k := ls.getD a.toNat 0) (by omega)
  obtain ⟨vs2, n2, m4, hi2⟩ := I.lists.2 (ls.getD a.toNat 0).toNat (by omega)
  have hcm : (cs.getD (ls.getD a.toNat 0).toNat []).length < 60 := I.smallc _ (getD_mem (by omega))
  generalize hlad : as.getD (ls.getD a.toNat 0).toNat 0 = lad at *
  generalize hcc : cs.getD (ls.getD a.toNat 0).toNat [] = cc at *
  refine wpAny_call ?_
  ((refine' code_def (binds := ([("self", .ref u), ("a", .int a ta)])) ?k1 ?k2 ?k3 ?k4 ?k5 ?kA ?kF ?kK ?k6 ?k7 ?k8 ?k9 ?kB ?_ ?c2 ?c3 ?c4 ?c5; (case kA => exact rfl); (case kF => assumption); (case kK => assumption); (case k1 => k_asm); (case k2 => k_asm); (case k3 => k_asm); (case k4 => k_asm); (case k5 => k_asm); (case k6 => k_is); (case k7 => k_is); (case k8 => first | omega | ktr_room | (dsimp only; omega)); (case k9 => exact BindsTo.of_eq rfl); (case c5 => decide); (case kB => exact locs rfl); (case c2 => exact rfl); (case c3 => exact rfl); (case c4 => exact rfl); k_whole; intro g' L' h' FG' F' N' B' X' T'; (try dsimp only); (try k_lift B'); (try k_fold)))
  k_steps
  rename ∀ q ∈ _, _ < _ => l9
  exact hret _ _ _ _ (by assumption) (by assumption) ⟨_, _, _, _, rfl, rfl, fun p hp => Nat.ne_of_lt (l9 p hp), by assumption, by assumption, by assumption⟩
end
section
example : True := by
  w_top off
  k_with_none
  k_with "ktr_room" => ((try simp only [depth_under_make, depth_under_kw, depth_in1, depth_deeper, depth_caller]); (try dsimp only); first | exact room_up2 (by with_reducible assumption) rfl | exact room_up (by with_reducible assumption) rfl | exact room_0 (by with_reducible assumption) rfl | omega)
  k_with "ktr_units" => ((try simp only [units_in1, units_deeper, Around.mark_units, units_caller, units_under_make]); (try dsimp only); first | exact room_up2 (by with_reducible assumption) rfl | exact room_up (by with_reducible assumption) rfl | exact room_0 (by with_reducible assumption) rfl | omega)
  k_with "tb_start" => ((case kB => k_asm); (case kF => k_asm); (case kX => k_asm); (case kN => k_asm); (case kT => k_asm); (case kA => exact rfl); (case kH => exact rfl); (case kf => exact rfl); (case kk => exact rfl); (case kd => ktr_room); (case ku => ktr_units))
  k_with "call ref" => (k_here; (with_reducible show wpAny _ _ (call (Value.ref 97) _) _ _ _); k_dflt (refine' con_use (find_con _ _ _ _ _ _ _ _ ?kzFO) ?kB ?kF ?kX ?kN ?kT ?kA ?kH ?kf ?kk ?kd ?ku ?hp ?_; (case kzFO => assumption); (case hp => exact ⟨by assumption, by first | assumption | omega, by first | assumption | omega⟩); tb_start);  intro _ _ _ _ _ _ hp'; obtain ⟨e', _, e2'⟩ := hp'; subst e'; subst e2'; (try dsimp only))
  k_with "subscriptTail" => (k_here; (with_reducible show wpAny _ _ (subscriptTail _ _ (Value.ref _) (Value.int _ _)) _ _ _); k_dflt (refine' item_ref ?kzN ?kzm ?kzh0 ?kzhk ?kzhh ?_ ?kzhs; (case kzN => k_asm); (case kzhk => assumption); (case kzm => k_mem); (case kzh0 => omega); (case kzhh => omega); (case kzhs => with_unfolding_all rfl); k_whole))
  k_with "newList" => (k_here; k_dflt (refine' newList_led ?kzF ?kzN ?_ ?kzz; (case kzF => k_asm); (case kzN => k_asm); (case kzz => first | decide | kso_len)); intro _ _ _ _ _; (try k_sweep))
  k_with "call builtin:sorted" => (k_here; (with_reducible show wpAny _ _ (call (Value.builtin _) [Value.ref _]) _ _ _); k_dflt (with_unfolding_all refine' kso_sorted ?kzk1 ?kzk2 (is_listN ?kzk2 ?kzk3) ?kzk4 ?kzk5 ?_; (case kzk1 => k_asm); (case kzk2 => k_asm); (case kzk3 => k_mem); (case kzk4 => l_ints); (case kzk5 => omega); k_whole); intro _ _ _ _ _ _ _ _ _ _ _ _ _; (try k_sweep))
  k_with "kso_len" => first | omega | (simp only [List.length_append, List.length_map, List.length_cons, List.length_nil, List.length_set]; omega)
  k_with "call builtin:len" => (k_here; (with_reducible show wpAny _ _ (call (Value.builtin "len") [Value.ref _]) _ _ _); k_dflt (refine' len_led ?kzN ?kzm ?kzk ?kzz ?_; (case kzN => k_asm); (case kzm => k_mem); (case kzk => first | exact IntsAre.length (by with_reducible assumption) | exact List.length_map _ | ((try simp only [List.length_append, List.length_map, List.length_cons, List.length_nil, List.length_set]); exact rfl)); (case kzz => kso_len)); intro _ _)
  k_with "call builtin:list.append" => (k_here; (with_reducible show wpAny _ _ (call (Value.builtin _) [Value.ref _, _]) _ _ _); k_dflt (refine' append_led ?kzF ?kzN ?kzm ?kzz ?_; (case kzF => k_asm); (case kzN => k_asm); (case kzm => k_mem); (case kzz => kso_len)); intro _ _ _; (try k_sweep))
  k_with "call builtin:list.extend" => (k_here; (with_reducible show wpAny _ _ (call (Value.builtin _) [Value.ref _, Value.ref _]) _ _ _); k_dflt (refine' extend_led ?kzF ?kzN ?kzm ?kzb ?kzz ?kzy ?_; (case kzF => k_asm); (case kzN => k_asm); (case kzm => k_mem); (case kzb => k_mem); (case kzz => kso_len); (case kzy => kso_len)); intro _ _ _ _; (try k_sweep))
  k_with "call type:list" => (k_here; (with_reducible show wpAny _ _ (call (Value.type _) [Value.ref _]) _ _ _); k_dflt (refine' list_led ?kzF ?kzN ?kzm ?kzz ?_; (case kzF => k_asm); (case kzN => k_asm); (case kzm => k_mem); (case kzz => kso_len)); intro _ _ _ _ _ _; (try k_sweep))
  k_with "setItem ref int" => (k_here; (with_reducible show wpAny _ _ (setItem (Value.ref _) (Value.int _ _) (Value.int _ _)) _ _ _); k_dflt (refine' set_led ?kzF ?kzN ?kzm ?kzi ?kza ?kzb ?kzz ?_; (case kzF => k_asm); (case kzN => k_asm); (case kzm => k_mem); (case kzi => with_reducible assumption); (case kza => omega); (case kzb => omega); (case kzz => omega)); intro _ _ _ _; (try k_sweep))
  k_with "call builtin:sorted" => (k_here; (with_reducible show wpAny _ _ (call (Value.builtin _) [Value.ref _]) _ _ _); k_dflt (refine' sorted_two ?kzF ?kzN ?kzm ?_; (case kzF => k_asm); (case kzN => k_asm); (case kzm => k_mem)); intro _ _ _ _ _ _ _ _; (try k_sweep))
  k_with "k_mem" => first | with_reducible assumption | ktr_member | ((with_reducible refine' mem_setL_self ?kya); (case kya => k_mem)) | ((with_reducible refine' mem_setL_ne ?kya ?kyb); (case kyb => first | with_reducible assumption | exact Ne.symm (by with_reducible assumption) | omega); (case kya => k_mem)) | exact List.Mem.head _ | (refine' List.mem_cons_of_mem _ ?_; k_mem)
  k_with "newTuple" => (k_here; k_dflt (refine' newTuple_led ?kzF ?kzN ?_ ?kzz; (case kzF => k_asm); (case kzN => k_asm); (case kzz => first | decide | kso_len)); intro _ _ _ _ _; (try k_sweep))
  k_with "CompSrc" => refine Hold.out ?_
  k_with "CompSrcT" => refine Hold.out ?_
  k_with "Src3" => refine Hold.out ?_
  k_with "eval ListComp" => (k_here; (fail_if_success lct_look); k_dflt (refine ListComp_3 (F₀ := by k_asm) (by with_unfolding_all rfl) (by decide) (by rfl) (by decide) (by rfl) ?_))
  k_with "eval ListComp" => (k_here; lct_look; k_dflt (refine LCt.ListComp_T (F₀ := by k_asm) (by with_unfolding_all rfl) (by decide) (by rfl) (by decide) (by rfl) ?_))
  k_with "StrSrc" => refine Hold.out ?_
  k_with "ktr_rel" => first | with_reducible assumption | exact tupIn_s (by k_mem) | exact tupIn_si (by k_mem) | ((with_reducible refine DH.cons ?_); ktr_rel) | ((with_reducible refine DI.cons ?_); ktr_rel) | ((with_reducible refine TupIn.cons ?_); ktr_rel)
  k_with "call type:tuple" => (k_here; (with_reducible show wpAny _ _ (call (Value.type _) [Value.ref _]) _ _ _); k_dflt (first | (refine' tup_same ?kzN ?kzm ?_; (case kzN => k_asm); (case kzm => k_mem)) | (refine' tup_list ?kzF ?kzN ?kzm ?kzz ?_; (case kzF => k_asm); (case kzN => k_asm); (case kzm => k_mem); (case kzz => first | decide | kso_len); intro _ _ _ _ _; (try k_sweep))))
  k_with "binaryOp Add" => (k_here; (with_reducible show wpAny _ _ (binaryOp _ (Value.ref _) (Value.ref _)) _ _ _); k_dflt (first | (refine' tup_add0 ?kzF ?kzN ?kzm ?kzb ?kzv ?kzz ?_; (case kzF => k_asm); (case kzN => k_asm); (case kzm => k_mem); (case kzb => k_mem); (case kzv => simp); (case kzz => first | decide | kso_len)) | (refine' tup_add ?kzF ?kzN ?kzm ?kzb ?kzv ?kzy ?kzz ?kzx ?_; (case kzF => k_asm); (case kzN => k_asm); (case kzm => k_mem); (case kzb => k_mem); (case kzv => simp); (case kzy => simp); (case kzz => first | decide | kso_len); (case kzx => first | decide | kso_len); intro _ _ _ _ _; (try k_sweep))))
  k_with "subscriptTail" => (k_here; (with_reducible show wpAny _ _ (subscriptTail _ (Expr.Slice _ _ _ _) (Value.ref _) (Value.ref _)) _ _ _); k_dflt (refine' tup_slice1 ?kzF ?kzN ?kzm ?kzz ?_ ?kzs; (case kzs => with_unfolding_all rfl); (case kzF => k_asm); (case kzN => k_asm); (case kzm => k_mem); (case kzz => first | decide | kso_len)); intro _ _ _ _ _; (try k_sweep))
  k_with "compareOp In" => (k_here; (with_reducible show wpAny _ _ (compareOp CmpOp.In (Value.ref _) (Value.ref _)) _ _ _); k_dflt (refine' dh_in ?kzu ?kzN ?kzH ?kzT ?_; (case kzN => k_asm); (case kzH => ktr_rel); (case kzT => ktr_rel); (case kzu => ktr_units)); intro _; (try dsimp only))
  k_with "compareOp In" => (k_here; (with_reducible show wpAny _ _ (compareOp CmpOp.In (Value.ref _) (Value.ref _)) _ _ _); k_dflt (refine' dh_in_none ?kzu ?kzN ?kzH ?kzT ?kzK ?_; (case kzN => k_asm); (case kzH => ktr_rel); (case kzT => ktr_rel); (case kzK => with_reducible assumption); (case kzu => ktr_units)); intro _; (try dsimp only))
  k_with "setItem ref ref" => (k_here; k_dflt (refine' dh_set ?kzu ?kzF ?kzN ?kzH ?kzT ?kzz ?_; (case kzF => k_asm); (case kzN => k_asm); (case kzH => ktr_rel); (case kzT => ktr_rel); (case kzu => ktr_units); (case kzz => omega)); intro _ _ _ _ _ _; (try k_sweep))
  k_with "getMethod ref" => (k_here; (with_reducible show wpAny _ _ (getMethod (Value.ref _) (Str.ofString "setdefault") _) _ _ _); k_dflt (refine' dh_method PySem.F.slot_dict_setdefault PySem.F.type_dict_setdefault ?kzN ?kzH ?_; (case kzN => k_asm); (case kzH => ktr_rel)))
  k_with "getMethod ref" => (k_here; (with_reducible show wpAny _ _ (getMethod (Value.ref _) (Str.ofString "get") _) _ _ _); k_dflt (refine' dh_method PySem.F.slot_dict_get PySem.F.type_dict_get ?kzN ?kzH ?_; (case kzN => k_asm); (case kzH => ktr_rel)))
  k_with "getMethod ref" => (k_here; (with_reducible show wpAny _ _ (getMethod (Value.ref _) (Str.ofString "pop") _) _ _ _); k_dflt (refine' di_method PySem.F.slot_dict_pop PySem.F.type_dict_pop ?kzN ?kzH ?_; (case kzN => k_asm); (case kzH => ktr_rel)))
  k_with "omega" => lia
  trivial
theorem make_con {w : World} (u : Addr) (ns : List Int) (cs : List (List Int)) (ms : List (Int × Int)) (foot : List Addr) (hlen : ns.length < 50) :
    Con w 83 [.ref u] 10 100 (fun news => UAt w u ns cs ms foot news)
      (fun news news' r => ∃ t foot', r = .int ns.length t ∧ UAt w u (ns ++ [(ns.length : Int)]) (cs ++ [[(ns.length : Int)]]) ms foot' news' ∧ Keeps foot news news' ∧ Grow foot foot' news ∧ ∀ a ∈ foot, a ∈ foot') := by
  intro mean mg mb dp un gd env outer A₀ base h₀ L m news s Q E B F X N T hf hk hd hu U hret
  obtain ⟨du, la, ll, lm, nd, na, nl, nm, k1, k2, k3, vs, as, bs, I, hfoot⟩ := U
  have m1 := I.inst
  have m2 := I.dict
  have m3 := I.above
  have m4 := I.lots
  have hi := I.vints
  have hal : as.length = cs.length := I.lists.1
  have hcl := I.len
  have hsm := I.small
  obtain ⟨n01, n02, n03, n04, n05, n06, n07, n08, n09, n10⟩ := I.nes
  have hbl := I.tups.1
  have hsb := I.smallm
  refine wpAny_call ?_
  ((refine' code_def (binds := ([("self", .ref u)])) ?k1 ?k2 ?k3 ?k4 ?k5 ?kA ?kF ?kK ?k6 ?k7 ?k8 ?k9 ?kB ?_ ?c2 ?c3 ?c4 ?c5; (case kA => exact rfl); (case kF => assumption); (case kK => assumption); (case k1 => k_asm); (case k2 => k_asm); (case k3 => k_asm); (case k4 => k_asm); (case k5 => k_asm); (case k6 => k_is); (case k7 => k_is); (case k8 => first | omega | ktr_room | (dsimp only; omega)); (case k9 => exact BindsTo.of_eq rfl); (case c5 => decide); (case kB => exact locs rfl); (case c2 => exact rfl); (case c3 => exact rfl); (case c4 => exact rfl); k_whole; intro g' L' h' FG' F' N' B' X' T'; (try dsimp only); (try k_lift B'); (try k_fold)))
  k_steps
  rename ∀ p ∈ _, _ < _ => lD
  have fD := ne_of_lts (lt_setL lD)
  have hvl := hi.length
  rw [show ((↑(vs.length + (0 + 1)) : Int) - 1) = (ns.length : Int) by omega]
  have eas : (as.length : Int) = ns.length := by omega
  simp only [eas] at *
  refine hret _ _ _ _ (by assumption) (by assumption) ⟨_, _, rfl, ⟨_, _, _, _, _, _, _, _, _, _, _, _, _, _, I.make (fun p hp e1 e2 => mem_setL_ne' (List.mem_cons_of_mem _ (mem_setL_ne' hp e1)) e2) (by k_mem) (by k_mem) (mem_setL_ne (.head _) ?_) fD hlen, rfl⟩, ?_, ?_, ?_⟩
  · intro e
    obtain ⟨o, ho⟩ := I.foot_in ll (by simp)
    exact fD _ ho e.symm
  · intro p hp hn
    rw [hfoot] at hn
    simp only [List.mem_cons, List.mem_append, not_or] at hn
    exact mem_setL_ne' (List.mem_cons_of_mem _ (mem_setL_ne' hp hn.2.2.1)) hn.2.2.2.1
  · intro a ha
    rw [hfoot]
    simp only [List.mem_cons, List.mem_append, List.not_mem_nil, or_false] at ha ⊢
    rcases ha with h | h | h | h | h | (h | h) | h <;> first | (rw [h]; exact .inr fD) | exact .inl (by simp [h])
  · intro a ha
    rw [hfoot] at ha
    simp only [List.mem_cons, List.mem_append, List.not_mem_nil, or_false] at ha ⊢
    rcases ha with h | h | h | h | h | h | h <;> simp [h]
end
section
example : True := by
  w_top off
  k_with_none
  k_with "ktr_room" => ((try simp only [depth_under_make, depth_under_kw, depth_in1, depth_deeper, depth_caller]); (try dsimp only); first | exact room_up2 (by with_reducible assumption) rfl | exact room_up (by with_reducible assumption) rfl | exact room_0 (by with_reducible assumption) rfl | omega)
  k_with "ktr_units" => ((try simp only [units_in1, units_deeper, Around.mark_units, units_caller, units_under_make]); (try dsimp only); first | exact room_up2 (by with_reducible assumption) rfl | exact room_up (by with_reducible assumption) rfl | exact room_0 (by with_reducible assumption) rfl | omega)
  k_with "tb_start" => ((case kB => k_asm); (case kF => k_asm); (case kX => k_asm); (case kN => k_asm); (case kT => k_asm); (case kA => exact rfl); (case kH => exact rfl); (case kf => exact rfl); (case kk => exact rfl); (case kd => ktr_room); (case ku => ktr_units))
  k_with "call ref" => (k_here; (with_reducible show wpAny _ _ (call (Value.ref 97) _) _ _ _); k_dflt (refine' con_use (find_con _ _ _ _ _ _ _ _ ?kzFO) ?kB ?kF ?kX ?kN ?kT ?kA ?kH ?kf ?kk ?kd ?ku ?hp ?_; (case kzFO => assumption); (case hp => exact ⟨by assumption, by first | assumption | omega, by first | assumption | omega⟩); tb_start);  intro _ _ _ _ _ _ hp'; obtain ⟨e', _, e2'⟩ := hp'; subst e'; subst e2'; (try dsimp only))
  k_with "subscriptTail" => (k_here; (with_reducible show wpAny _ _ (subscriptTail _ _ (Value.ref _) (Value.int _ _)) _ _ _); k_dflt (refine' item_ref ?kzN ?kzm ?kzh0 ?kzhk ?kzhh ?_ ?kzhs; (case kzN => k_asm); (case kzhk => assumption); (case kzm => k_mem); (case kzh0 => omega); (case kzhh => omega); (case kzhs => with_unfolding_all rfl); k_whole))
  k_with "newList" => (k_here; k_dflt (refine' newList_led ?kzF ?kzN ?_ ?kzz; (case kzF => k_asm); (case kzN => k_asm); (case kzz => first | decide | kso_len)); intro _ _ _ _ _; (try k_sweep))
  k_with "call builtin:sorted" => (k_here; (with_reducible show wpAny _ _ (call (Value.builtin _) [Value.ref _]) _ _ _); k_dflt (with_unfolding_all refine' kso_sorted ?kzk1 ?kzk2 (is_listN ?kzk2 ?kzk3) ?kzk4 ?kzk5 ?_; (case kzk1 => k_asm); (case kzk2 => k_asm); (case kzk3 => k_mem); (case kzk4 => l_ints); (case kzk5 => omega); k_whole); intro _ _ _ _ _ _ _ _ _ _ _ _ _; (try k_sweep))
  k_with "kso_len" => first | omega | (simp only [List.length_append, List.length_map, List.length_cons, List.length_nil, List.length_set]; omega)
  k_with "call builtin:len" => (k_here; (with_reducible show wpAny _ _ (call (Value.builtin "len") [Value.ref _]) _ _ _); k_dflt (refine' len_led ?kzN ?kzm ?kzk ?kzz ?_; (case kzN => k_asm); (case kzm => k_mem); (case kzk => first | exact IntsAre.length (by with_reducible assumption) | exact List.length_map _ | ((try simp only [List.length_append, List.length_map, List.length_cons, List.length_nil, List.length_set]); exact rfl)); (case kzz => kso_len)); intro _ _)
  k_with "call builtin:list.append" => (k_here; (with_reducible show wpAny _ _ (call (Value.builtin _) [Value.ref _, _]) _ _ _); k_dflt (refine' append_led ?kzF ?kzN ?kzm ?kzz ?_; (case kzF => k_asm); (case kzN => k_asm); (case kzm => k_mem); (case kzz => kso_len)); intro _ _ _; (try k_sweep))
  k_with "call builtin:list.extend" => (k_here; (with_reducible show wpAny _ _ (call (Value.builtin _) [Value.ref _, Value.ref _]) _ _ _); k_dflt (refine' extend_led ?kzF ?kzN ?kzm ?kzb ?kzz ?kzy ?_; (case kzF => k_asm); (case kzN => k_asm); (case kzm => k_mem); (case kzb => k_mem); (case kzz => kso_len); (case kzy => kso_len)); intro _ _ _ _; (try k_sweep))
  k_with "call type:list" => (k_here; (with_reducible show wpAny _ _ (call (Value.type _) [Value.ref _]) _ _ _); k_dflt (refine' list_led ?kzF ?kzN ?kzm ?kzz ?_; (case kzF => k_asm); (case kzN => k_asm); (case kzm => k_mem); (case kzz => kso_len)); intro _ _ _ _ _ _; (try k_sweep))
  k_with "setItem ref int" => (k_here; (with_reducible show wpAny _ _ (setItem (Value.ref _) (Value.int _ _) (Value.int _ _)) _ _ _); k_dflt (refine' set_led ?kzF ?kzN ?kzm ?kzi ?kza ?kzb ?kzz ?_; (case kzF => k_asm); (case kzN => k_asm); (case kzm => k_mem); (case kzi => with_reducible assumption); (case kza => omega); (case kzb => omega); (case kzz => omega)); intro _ _ _ _; (try k_sweep))
  k_with "call builtin:sorted" => (k_here; (with_reducible show wpAny _ _ (call (Value.builtin _) [Value.ref _]) _ _ _); k_dflt (refine' sorted_two ?kzF ?kzN ?kzm ?_; (case kzF => k_asm); (case kzN => k_asm); (case kzm => k_mem)); intro _ _ _ _ _ _ _ _; (try k_sweep))
  k_with "k_mem" => first | with_reducible assumption | ktr_member | ((with_reducible refine' mem_setL_self ?kya); (case kya => k_mem)) | ((with_reducible refine' mem_setL_ne ?kya ?kyb); (case kyb => first | with_reducible assumption | exact Ne.symm (by with_reducible assumption) | omega); (case kya => k_mem)) | exact List.Mem.head _ | (refine' List.mem_cons_of_mem _ ?_; k_mem)
  k_with "newTuple" => (k_here; k_dflt (refine' newTuple_led ?kzF ?kzN ?_ ?kzz; (case kzF => k_asm); (case kzN => k_asm); (case kzz => first | decide | kso_len)); intro _ _ _ _ _; (try k_sweep))
  k_with "CompSrc" => refine Hold.out ?_
  k_with "CompSrcT" => refine Hold.out ?_
  k_with "Src3" => refine Hold.out ?_
  k_with "eval ListComp" => (k_here; (fail_if_success lct_look); k_dflt (refine ListComp_3 (F₀ := by k_asm) (by with_unfolding_all rfl) (by decide) (by rfl) (by decide) (by rfl) ?_))
  k_with "eval ListComp" => (k_here; lct_look; k_dflt (refine LCt.ListComp_T (F₀ := by k_asm) (by with_unfolding_all rfl) (by decide) (by rfl) (by decide) (by rfl) ?_))
  k_with "StrSrc" => refine Hold.out ?_
  k_with "ktr_rel" => first | with_reducible assumption | exact tupIn_s (by k_mem) | exact tupIn_si (by k_mem) | ((with_reducible refine DH.cons ?_); ktr_rel) | ((with_reducible refine DI.cons ?_); ktr_rel) | ((with_reducible refine TupIn.cons ?_); ktr_rel)
  k_with "call type:tuple" => (k_here; (with_reducible show wpAny _ _ (call (Value.type _) [Value.ref _]) _ _ _); k_dflt (first | (refine' tup_same ?kzN ?kzm ?_; (case kzN => k_asm); (case kzm => k_mem)) | (refine' tup_list ?kzF ?kzN ?kzm ?kzz ?_; (case kzF => k_asm); (case kzN => k_asm); (case kzm => k_mem); (case kzz => first | decide | kso_len); intro _ _ _ _ _; (try k_sweep))))
  k_with "binaryOp Add" => (k_here; (with_reducible show wpAny _ _ (binaryOp _ (Value.ref _) (Value.ref _)) _ _ _); k_dflt (first | (refine' tup_add0 ?kzF ?kzN ?kzm ?kzb ?kzv ?kzz ?_; (case kzF => k_asm); (case kzN => k_asm); (case kzm => k_mem); (case kzb => k_mem); (case kzv => simp); (case kzz => first | decide | kso_len)) | (refine' tup_add ?kzF ?kzN ?kzm ?kzb ?kzv ?kzy ?kzz ?kzx ?_; (case kzF => k_asm); (case kzN => k_asm); (case kzm => k_mem); (case kzb => k_mem); (case kzv => simp); (case kzy => simp); (case kzz => first | decide | kso_len); (case kzx => first | decide | kso_len); intro _ _ _ _ _; (try k_sweep))))
  k_with "subscriptTail" => (k_here; (with_reducible show wpAny _ _ (subscriptTail _ (Expr.Slice _ _ _ _) (Value.ref _) (Value.ref _)) _ _ _); k_dflt (refine' tup_slice1 ?kzF ?kzN ?kzm ?kzz ?_ ?kzs; (case kzs => with_unfolding_all rfl); (case kzF => k_asm); (case kzN => k_asm); (case kzm => k_mem); (case kzz => first | decide | kso_len)); intro _ _ _ _ _; (try k_sweep))
  k_with "compareOp In" => (k_here; (with_reducible show wpAny _ _ (compareOp CmpOp.In (Value.ref _) (Value.ref _)) _ _ _); k_dflt (refine' dh_in ?kzu ?kzN ?kzH ?kzT ?_; (case kzN => k_asm); (case kzH => ktr_rel); (case kzT => ktr_rel); (case kzu => ktr_units)); intro _; (try dsimp only))
  k_with "compareOp In" => (k_here; (with_reducible show wpAny _ _ (compareOp CmpOp.In (Value.ref _) (Value.ref _)) _ _ _); k_dflt (refine' dh_in_none ?kzu ?kzN ?kzH ?kzT ?kzK ?_; (case kzN => k_asm); (case kzH => ktr_rel); (case kzT => ktr_rel); (case kzK => with_reducible assumption); (case kzu => ktr_units)); intro _; (try dsimp only))
  k_with "setItem ref ref" => (k_here; k_dflt (refine' dh_set ?kzu ?kzF ?kzN ?kzH ?kzT ?kzz ?_; (case kzF => k_asm); (case kzN => k_asm); (case kzH => ktr_rel); (case kzT => ktr_rel); (case kzu => ktr_units); (case kzz => omega)); intro _ _ _ _ _ _; (try k_sweep))
  k_with "getMethod ref" => (k_here; (with_reducible show wpAny _ _ (getMethod (Value.ref _) (Str.ofString "setdefault") _) _ _ _); k_dflt (refine' dh_method PySem.F.slot_dict_setdefault PySem.F.type_dict_setdefault ?kzN ?kzH ?_; (case kzN => k_asm); (case kzH => ktr_rel)))
  k_with "getMethod ref" => (k_here; (with_reducible show wpAny _ _ (getMethod (Value.ref _) (Str.ofString "get") _) _ _ _); k_dflt (refine' dh_method PySem.F.slot_dict_get PySem.F.type_dict_get ?kzN ?kzH ?_; (case kzN => k_asm); (case kzH => ktr_rel)))
  k_with "getMethod ref" => (k_here; (with_reducible show wpAny _ _ (getMethod (Value.ref _) (Str.ofString "pop") _) _ _ _); k_dflt (refine' di_method PySem.F.slot_dict_pop PySem.F.type_dict_pop ?kzN ?kzH ?_; (case kzN => k_asm); (case kzH => ktr_rel)))
  k_with "omega" => lia
  trivial
theorem log_con {w : World} (u : Addr) (ns : List Int) (cs : List (List Int)) (ms : List (Int × Int)) (foot : List Addr) :
    Con w 123 [.ref u] 10 100 (fun news => UAt w u ns cs ms foot news)
      (fun news news' r => ∃ D bs n, r = .ref D ∧ news' = (D, PySem.W.listOf (bs.map Value.ref).toArray n) :: news ∧ (∀ p ∈ news, p.1 ≠ D) ∧ Tups bs ms news ∧ ∀ b ∈ bs, b ∈ foot) := by
  intro mean mg mb dp un gd env outer A₀ base h₀ L m news s Q E B F X N T hf hk hd hu U hret
  obtain ⟨du, la, ll, lm, nd, na, nl, nm, k1, k2, k3, vs, as, bs, I, hfoot⟩ := U
  have m1 := I.inst
  have m2 := I.dict
  have m3 := I.merged
  obtain ⟨n01, n02, n03, n04, n05, n06, n07, n08, n09, n10⟩ := I.nes
  have hbl := I.tups.1
  have hsb := I.smallm
  refine wpAny_call ?_
  ((refine' code_def (binds := ([("self", .ref u)])) ?k1 ?k2 ?k3 ?k4 ?k5 ?kA ?kF ?kK ?k6 ?k7 ?k8 ?k9 ?kB ?_ ?c2 ?c3 ?c4 ?c5; (case kA => exact rfl); (case kF => assumption); (case kK => assumption); (case k1 => k_asm); (case k2 => k_asm); (case k3 => k_asm); (case k4 => k_asm); (case k5 => k_asm); (case k6 => k_is); (case k7 => k_is); (case k8 => first | omega | ktr_room | (dsimp only; omega)); (case k9 => exact BindsTo.of_eq rfl); (case c5 => decide); (case kB => exact locs rfl); (case c2 => exact rfl); (case c3 => exact rfl); (case c4 => exact rfl); k_whole; intro g' L' h' FG' F' N' B' X' T'; (try dsimp only); (try k_lift B'); (try k_fold)))
  k_steps
  rename ∀ q ∈ _, _ < _ => l9
  exact hret _ _ _ _ (by assumption) (by assumption) ⟨_, bs, _, rfl, rfl, fun p hp => Nat.ne_of_lt (l9 p hp), I.tups, fun b hb => by rw [hfoot]; simp [hb]⟩
end
section
example : True := by
  w_top off
  k_with_none
  k_with "ktr_room" => ((try simp only [depth_under_make, depth_under_kw, depth_in1, depth_deeper, depth_caller]); (try dsimp only); first | exact room_up2 (by with_reducible assumption) rfl | exact room_up (by with_reducible assumption) rfl | exact room_0 (by with_reducible assumption) rfl | omega)
  k_with "ktr_units" => ((try simp only [units_in1, units_deeper, Around.mark_units, units_caller, units_under_make]); (try dsimp only); first | exact room_up2 (by with_reducible assumption) rfl | exact room_up (by with_reducible assumption) rfl | exact room_0 (by with_reducible assumption) rfl | omega)
  k_with "tb_start" => ((case kB => k_asm); (case kF => k_asm); (case kX => k_asm); (case kN => k_asm); (case kT => k_asm); (case kA => exact rfl); (case kH => exact rfl); (case kf => exact rfl); (case kk => exact rfl); (case kd => ktr_room); (case ku => ktr_units))
  k_with "call ref" => (k_here; (with_reducible show wpAny _ _ (call (Value.ref 97) _) _ _ _); k_dflt (refine' con_use (find_con _ _ _ _ _ _ _ _ ?kzFO) ?kB ?kF ?kX ?kN ?kT ?kA ?kH ?kf ?kk ?kd ?ku ?hp ?_; (case kzFO => assumption); (case hp => exact ⟨by assumption, by first | assumption | omega, by first | assumption | omega⟩); tb_start);  intro _ _ _ _ _ _ hp'; obtain ⟨e', _, e2'⟩ := hp'; subst e'; subst e2'; (try dsimp only))
  k_with "subscriptTail" => (k_here; (with_reducible show wpAny _ _ (subscriptTail _ _ (Value.ref _) (Value.int _ _)) _ _ _); k_dflt (refine' item_ref ?kzN ?kzm ?kzh0 ?kzhk ?kzhh ?_ ?kzhs; (case kzN => k_asm); (case kzhk => assumption); (case kzm => k_mem); (case kzh0 => omega); (case kzhh => omega); (case kzhs => with_unfolding_all rfl); k_whole))
  k_with "newList" => (k_here; k_dflt (refine' newList_led ?kzF ?kzN ?_ ?kzz; (case kzF => k_asm); (case kzN => k_asm); (case kzz => first | decide | kso_len)); intro _ _ _ _ _; (try k_sweep))
  k_with "call builtin:sorted" => (k_here; (with_reducible show wpAny _ _ (call (Value.builtin _) [Value.ref _]) _ _ _); k_dflt (with_unfolding_all refine' kso_sorted ?kzk1 ?kzk2 (is_listN ?kzk2 ?kzk3) ?kzk4 ?kzk5 ?_; (case kzk1 => k_asm); (case kzk2 => k_asm); (case kzk3 => k_mem); (case kzk4 => l_ints); (case kzk5 => omega); k_whole); intro _ _ _ _ _ _ _ _ _ _ _ _ _; (try k_sweep))
  k_with "kso_len" => first | omega | (simp only [List.length_append, List.length_map, List.length_cons, List.length_nil, List.length_set]; omega)
  k_with "call builtin:len" => (k_here; (with_reducible show wpAny _ _ (call (Value.builtin "len") [Value.ref _]) _ _ _); k_dflt (refine' len_led ?kzN ?kzm ?kzk ?kzz ?_; (case kzN => k_asm); (case kzm => k_mem); (case kzk => first | exact IntsAre.length (by with_reducible assumption) | exact List.length_map _ | ((try simp only [List.length_append, List.length_map, List.length_cons, List.length_nil, List.length_set]); exact rfl)); (case kzz => kso_len)); intro _ _)
  k_with "call builtin:list.append" => (k_here; (with_reducible show wpAny _ _ (call (Value.builtin _) [Value.ref _, _]) _ _ _); k_dflt (refine' append_led ?kzF ?kzN ?kzm ?kzz ?_; (case kzF => k_asm); (case kzN => k_asm); (case kzm => k_mem); (case kzz => kso_len)); intro _ _ _; (try k_sweep))
  k_with "call builtin:list.extend" => (k_here; (with_reducible show wpAny _ _ (call (Value.builtin _) [Value.ref _, Value.ref _]) _ _ _); k_dflt (refine' extend_led ?kzF ?kzN ?kzm ?kzb ?kzz ?kzy ?_; (case kzF => k_asm); (case kzN => k_asm); (case kzm => k_mem); (case kzb => k_mem); (case kzz => kso_len); (case kzy => kso_len)); intro _ _ _ _; (try k_sweep))
  k_with "call type:list" => (k_here; (with_reducible show wpAny _ _ (call (Value.type _) [Value.ref _]) _ _ _); k_dflt (refine' list_led ?kzF ?kzN ?kzm ?kzz ?_; (case kzF => k_asm); (case kzN => k_asm); (case kzm => k_mem); (case kzz => kso_len)); intro _ _ _ _ _ _; (try k_sweep))
  k_with "setItem ref int" => (k_here; (with_reducible show wpAny _ _ (setItem (Value.ref _) (Value.int _ _) (Value.int _ _)) _ _ _); k_dflt (refine' set_led ?kzF ?kzN ?kzm ?kzi ?kza ?kzb ?kzz ?_; (case kzF => k_asm); (case kzN => k_asm); (case kzm => k_mem); (case kzi => with_reducible assumption); (case kza => omega); (case kzb => omega); (case kzz => omega)); intro _ _ _ _; (try k_sweep))
  k_with "call builtin:sorted" => (k_here; (with_reducible show wpAny _ _ (call (Value.builtin _) [Value.ref _]) _ _ _); k_dflt (refine' sorted_two ?kzF ?kzN ?kzm ?_; (case kzF => k_asm); (case kzN => k_asm); (case kzm => k_mem)); intro _ _ _ _ _ _ _ _; (try k_sweep))
  k_with "k_mem" => first | with_reducible assumption | ktr_member | ((with_reducible refine' mem_setL_self ?kya); (case kya => k_mem)) | ((with_reducible refine' mem_setL_ne ?kya ?kyb); (case kyb => first | with_reducible assumption | exact Ne.symm (by with_reducible assumption) | omega); (case kya => k_mem)) | exact List.Mem.head _ | (refine' List.mem_cons_of_mem _ ?_; k_mem)
  k_with "newTuple" => (k_here; k_dflt (refine' newTuple_led ?kzF ?kzN ?_ ?kzz; (case kzF => k_asm); (case kzN => k_asm); (case kzz => first | decide | kso_len)); intro _ _ _ _ _; (try k_sweep))
  k_with "CompSrc" => refine Hold.out ?_
  k_with "CompSrcT" => refine Hold.out ?_
  k_with "Src3" => refine Hold.out ?_
  k_with "eval ListComp" => (k_here; (fail_if_success lct_look); k_dflt (refine ListComp_3 (F₀ := by k_asm) (by with_unfolding_all rfl) (by decide) (by rfl) (by decide) (by rfl) ?_))
  k_with "eval ListComp" => (k_here; lct_look; k_dflt (refine LCt.ListComp_T (F₀ := by k_asm) (by with_unfolding_all rfl) (by decide) (by rfl) (by decide) (by rfl) ?_))
  k_with "StrSrc" => refine Hold.out ?_
  k_with "ktr_rel" => first | with_reducible assumption | exact tupIn_s (by k_mem) | exact tupIn_si (by k_mem) | ((with_reducible refine DH.cons ?_); ktr_rel) | ((with_reducible refine DI.cons ?_); ktr_rel) | ((with_reducible refine TupIn.cons ?_); ktr_rel)
  k_with "call type:tuple" => (k_here; (with_reducible show wpAny _ _ (call (Value.type _) [Value.ref _]) _ _ _); k_dflt (first | (refine' tup_same ?kzN ?kzm ?_; (case kzN => k_asm); (case kzm => k_mem)) | (refine' tup_list ?kzF ?kzN ?kzm ?kzz ?_; (case kzF => k_asm); (case kzN => k_asm); (case kzm => k_mem); (case kzz => first | decide | kso_len); intro _ _ _ _ _; (try k_sweep))))
  k_with "binaryOp Add" => (k_here; (with_reducible show wpAny _ _ (binaryOp _ (Value.ref _) (Value.ref _)) _ _ _); k_dflt (first | (refine' tup_add0 ?kzF ?kzN ?kzm ?kzb ?kzv ?kzz ?_; (case kzF => k_asm); (case kzN => k_asm); (case kzm => k_mem); (case kzb => k_mem); (case kzv => simp); (case kzz => first | decide | kso_len)) | (refine' tup_add ?kzF ?kzN ?kzm ?kzb ?kzv ?kzy ?kzz ?kzx ?_; (case kzF => k_asm); (case kzN => k_asm); (case kzm => k_mem); (case kzb => k_mem); (case kzv => simp); (case kzy => simp); (case kzz => first | decide | kso_len); (case kzx => first | decide | kso_len); intro _ _ _ _ _; (try k_sweep))))
  k_with "subscriptTail" => (k_here; (with_reducible show wpAny _ _ (subscriptTail _ (Expr.Slice _ _ _ _) (Value.ref _) (Value.ref _)) _ _ _); k_dflt (refine' tup_slice1 ?kzF ?kzN ?kzm ?kzz ?_ ?kzs; (case kzs => with_unfolding_all rfl); (case kzF => k_asm); (case kzN => k_asm); (case kzm => k_mem); (case kzz => first | decide | kso_len)); intro _ _ _ _ _; (try k_sweep))
  k_with "compareOp In" => (k_here; (with_reducible show wpAny _ _ (compareOp CmpOp.In (Value.ref _) (Value.ref _)) _ _ _); k_dflt (refine' dh_in ?kzu ?kzN ?kzH ?kzT ?_; (case kzN => k_asm); (case kzH => ktr_rel); (case kzT => ktr_rel); (case kzu => ktr_units)); intro _; (try dsimp only))
  k_with "compareOp In" => (k_here; (with_reducible show wpAny _ _ (compareOp CmpOp.In (Value.ref _) (Value.ref _)) _ _ _); k_dflt (refine' dh_in_none ?kzu ?kzN ?kzH ?kzT ?kzK ?_; (case kzN => k_asm); (case kzH => ktr_rel); (case kzT => ktr_rel); (case kzK => with_reducible assumption); (case kzu => ktr_units)); intro _; (try dsimp only))
  k_with "setItem ref ref" => (k_here; k_dflt (refine' dh_set ?kzu ?kzF ?kzN ?kzH ?kzT ?kzz ?_; (case kzF => k_asm); (case kzN => k_asm); (case kzH => ktr_rel); (case kzT => ktr_rel); (case kzu => ktr_units); (case kzz => omega)); intro _ _ _ _ _ _; (try k_sweep))
  k_with "getMethod ref" => (k_here; (with_reducible show wpAny _ _ (getMethod (Value.ref _) (Str.ofString "setdefault") _) _ _ _); k_dflt (refine' dh_method PySem.F.slot_dict_setdefault PySem.F.type_dict_setdefault ?kzN ?kzH ?_; (case kzN => k_asm); (case kzH => ktr_rel)))
  k_with "getMethod ref" => (k_here; (with_reducible show wpAny _ _ (getMethod (Value.ref _) (Str.ofString "get") _) _ _ _); k_dflt (refine' dh_method PySem.F.slot_dict_get PySem.F.type_dict_get ?kzN ?kzH ?_; (case kzN => k_asm); (case kzH => ktr_rel)))
  k_with "getMethod ref" => (k_here; (with_reducible show wpAny _ _ (getMethod (Value.ref _) (Str.ofString "pop") _) _ _ _); k_dflt (refine' di_method PySem.F.slot_dict_pop PySem.F.type_dict_pop ?kzN ?kzH ?_; (case kzN => k_asm); (case kzH => ktr_rel)))
  k_with "omega" => lia
  trivial
theorem classes_con {w : World} (u : Addr) (ns : List Int) (cs : List (List Int)) (ms : List (Int × Int)) (foot : List Addr) :
    Con w 116 [.ref u] 10 100 (fun news => UAt w u ns cs ms foot news)
      (fun news news' r => ∃ D vs n, r = .ref D ∧ news' = (D, PySem.W.listOf (List.toArray vs) n) :: news ∧ (∀ p ∈ news, p.1 ≠ D) ∧ IntsAre vs (((List.range ns.length).map fun (i : Nat) => (i : Int)).filter fun (i : Int) => ns.getD i.toNat 0 == i)) := by
  intro mean mg mb dp un gd env outer A₀ base h₀ L m news s Q E B F X N T hf hk hd hu U hret
  obtain ⟨du, la, ll, lm, nd, na, nl, nm, k1, k2, k3, vs, as, bs, I, hfoot⟩ := U
  have m1 := I.inst
  have m2 := I.dict
  have m3 := I.above
  have hi := I.vints
  have hsm := I.small
  refine wpAny_call ?_
  ((refine' code_defC (binds := ([("self", .ref u)])) ?k1 ?k2 ?k3 ?k4 ?k5 ?kA ?kF ?kK ?k6 ?k7 ?k8 ?k9 ?kB ?kD ?_ ?c2 ?c3 ?c4; (case kA => exact rfl); (case kF => assumption); (case kK => assumption); (case k1 => k_asm); (case k2 => k_asm); (case k3 => k_asm); (case k4 => k_asm); (case k5 => k_asm); (case k6 => k_is); (case k7 => k_is); (case k8 => first | omega | ktr_room | (dsimp only; omega)); (case k9 => exact BindsTo.of_eq rfl); (case kB => exact rfl); (case kD => decide +kernel); (case c2 => exact rfl); (case c3 => exact rfl); (case c4 => exact rfl); k_whole; intro g' L' h' tk' cells' FG' F' N' Y' B' X' T' l1; k_cells Y'; (try simp only [List.cons_append, List.nil_append] at N'); (try dsimp only); (try k_fold)))
  k_steps
  refine Hold.done (compT_range (n := ns.length) (fun i ys l => l = (_ :: news) ∧ IntsAre ys (((List.range i).map fun (i : Nat) => (i : Int)).filter fun (i : Int) => ns.getD i.toNat 0 == i)) rfl (by k_asm) (by k_asm) (by assumption) rfl (by omega) ⟨rfl, .nil⟩ ?_ ?_)
  · rintro i t I oI C oC D m₂ ys l h tk E' hi' ⟨rfl, hys⟩ hC hx F1 N1 off
    k_steps
    · refine ⟨_, _, _, rfl, F1, N1, off, trivial, ⟨rfl, ?_⟩⟩
      rename _ = (i : Int) => he
      rw [List.range_succ, List.map_append, List.filter_append]
      refine hys.append ?_
      simp only [List.map_cons, List.map_nil, List.filter_cons, List.filter_nil]
      rw [if_pos (by simpa using he)]
      exact .cons _ _ .nil
    · refine ⟨_, _, _, rfl, F1, N1, off, trivial, ⟨rfl, ?_⟩⟩
      rename _ ≠ (i : Int) => he
      rw [List.range_succ, List.map_append, List.filter_append]
      simp only [List.map_cons, List.map_nil, List.filter_cons, List.filter_nil]
      rw [if_neg (by simpa using he), List.append_nil]
      exact hys
  · rintro D ys l h tk ⟨rfl, hys⟩ F1 N1 hD
    k_steps
    rename News h₀ L _ _ => kN
    refine hret _ _ _ ((D, PySem.W.listOf ys.toArray ys.length) :: news) (by assumption) (News.sub kN fun p hp => ?_) ⟨D, ys, _, rfl, rfl, fun p hp => hD p (.tail _ hp), hys⟩
    rcases List.mem_cons.mp hp with e | e
    · rw [e]; exact .head _
    · exact .tail _ (.tail _ e)
end
section
example : True := by
  w_top off
  k_with_none
  k_with "ktr_room" => ((try simp only [depth_under_make, depth_under_kw, depth_in1, depth_deeper, depth_caller]); (try dsimp only); first | exact room_up2 (by with_reducible assumption) rfl | exact room_up (by with_reducible assumption) rfl | exact room_0 (by with_reducible assumption) rfl | omega)
  k_with "ktr_units" => ((try simp only [units_in1, units_deeper, Around.mark_units, units_caller, units_under_make]); (try dsimp only); first | exact room_up2 (by with_reducible assumption) rfl | exact room_up (by with_reducible assumption) rfl | exact room_0 (by with_reducible assumption) rfl | omega)
  k_with "tb_start" => ((case kB => k_asm); (case kF => k_asm); (case kX => k_asm); (case kN => k_asm); (case kT => k_asm); (case kA => exact rfl); (case kH => exact rfl); (case kf => exact rfl); (case kk => exact rfl); (case kd => ktr_room); (case ku => ktr_units))
  k_with "call ref" => (k_here; (with_reducible show wpAny _ _ (call (Value.ref 97) _) _ _ _); k_dflt (refine' con_use (find_con _ _ _ _ _ _ _ _ ?kzFO) ?kB ?kF ?kX ?kN ?kT ?kA ?kH ?kf ?kk ?kd ?ku ?hp ?_; (case kzFO => assumption); (case hp => exact ⟨by assumption, by first | assumption | omega, by first | assumption | omega⟩); tb_start);  intro _ _ _ _ _ _ hp'; obtain ⟨e', _, e2'⟩ := hp'; subst e'; subst e2'; (try dsimp only))
  k_with "subscriptTail" => (k_here; (with_reducible show wpAny _ _ (subscriptTail _ _ (Value.ref _) (Value.int _ _)) _ _ _); k_dflt (refine' item_ref ?kzN ?kzm ?kzh0 ?kzhk ?kzhh ?_ ?kzhs; (case kzN => k_asm); (case kzhk => assumption); (case kzm => k_mem); (case kzh0 => omega); (case kzhh => omega); (case kzhs => with_unfolding_all rfl); k_whole))
  k_with "newList" => (k_here; k_dflt (refine' newList_led ?kzF ?kzN ?_ ?kzz; (case kzF => k_asm); (case kzN => k_asm); (case kzz => first | decide | kso_len)); intro _ _ _ _ _; (try k_sweep))
  k_with "call builtin:sorted" => (k_here; (with_reducible show wpAny _ _ (call (Value.builtin _) [Value.ref _]) _ _ _); k_dflt (with_unfolding_all refine' kso_sorted ?kzk1 ?kzk2 (is_listN ?kzk2 ?kzk3) ?kzk4 ?kzk5 ?_; (case kzk1 => k_asm); (case kzk2 => k_asm); (case kzk3 => k_mem); (case kzk4 => l_ints); (case kzk5 => omega); k_whole); intro _ _ _ _ _ _ _ _ _ _ _ _ _; (try k_sweep))
  k_with "kso_len" => first | omega | (simp only [List.length_append, List.length_map, List.length_cons, List.length_nil, List.length_set]; omega)
  k_with "call builtin:len" => (k_here; (with_reducible show wpAny _ _ (call (Value.builtin "len") [Value.ref _]) _ _ _); k_dflt (refine' len_led ?kzN ?kzm ?kzk ?kzz ?_; (case kzN => k_asm); (case kzm => k_mem); (case kzk => first | exact IntsAre.length (by with_reducible assumption) | exact List.length_map _ | ((try simp only [List.length_append, List.length_map, List.length_cons, List.length_nil, List.length_set]); exact rfl)); (case kzz => kso_len)); intro _ _)
  k_with "call builtin:list.append" => (k_here; (with_reducible show wpAny _ _ (call (Value.builtin _) [Value.ref _, _]) _ _ _); k_dflt (refine' append_led ?kzF ?kzN ?kzm ?kzz ?_; (case kzF => k_asm); (case kzN => k_asm); (case kzm => k_mem); (case kzz => kso_len)); intro _ _ _; (try k_sweep))
  k_with "call builtin:list.extend" => (k_here; (with_reducible show wpAny _ _ (call (Value.builtin _) [Value.ref _, Value.ref _]) _ _ _); k_dflt (refine' extend_led ?kzF ?kzN ?kzm ?kzb ?kzz ?kzy ?_; (case kzF => k_asm); (case kzN => k_asm); (case kzm => k_mem); (case kzb => k_mem); (case kzz => kso_len); (case kzy => kso_len)); intro _ _ _ _; (try k_sweep))
  k_with "call type:list" => (k_here; (with_reducible show wpAny _ _ (call (Value.type _) [Value.ref _]) _ _ _); k_dflt (refine' list_led ?kzF ?kzN ?kzm ?kzz ?_; (case kzF => k_asm); (case kzN => k_asm); (case kzm => k_mem); (case kzz => kso_len)); intro _ _ _ _ _ _; (try k_sweep))
  k_with "setItem ref int" => (k_here; (with_reducible show wpAny _ _ (setItem (Value.ref _) (Value.int _ _) (Value.int _ _)) _ _ _); k_dflt (refine' set_led ?kzF ?kzN ?kzm ?kzi ?kza ?kzb ?kzz ?_; (case kzF => k_asm); (case kzN => k_asm); (case kzm => k_mem); (case kzi => with_reducible assumption); (case kza => omega); (case kzb => omega); (case kzz => omega)); intro _ _ _ _; (try k_sweep))
  k_with "call builtin:sorted" => (k_here; (with_reducible show wpAny _ _ (call (Value.builtin _) [Value.ref _]) _ _ _); k_dflt (refine' sorted_two ?kzF ?kzN ?kzm ?_; (case kzF => k_asm); (case kzN => k_asm); (case kzm => k_mem)); intro _ _ _ _ _ _ _ _; (try k_sweep))
  k_with "k_mem" => first | with_reducible assumption | ktr_member | ((with_reducible refine' mem_setL_self ?kya); (case kya => k_mem)) | ((with_reducible refine' mem_setL_ne ?kya ?kyb); (case kyb => first | with_reducible assumption | exact Ne.symm (by with_reducible assumption) | omega); (case kya => k_mem)) | exact List.Mem.head _ | (refine' List.mem_cons_of_mem _ ?_; k_mem)
  k_with "newTuple" => (k_here; k_dflt (refine' newTuple_led ?kzF ?kzN ?_ ?kzz; (case kzF => k_asm); (case kzN => k_asm); (case kzz => first | decide | kso_len)); intro _ _ _ _ _; (try k_sweep))
  k_with "CompSrc" => refine Hold.out ?_
  k_with "CompSrcT" => refine Hold.out ?_
  k_with "Src3" => refine Hold.out ?_
  k_with "eval ListComp" => (k_here; (fail_if_success lct_look); k_dflt (refine ListComp_3 (F₀ := by k_asm) (by with_unfolding_all rfl) (by decide) (by rfl) (by decide) (by rfl) ?_))
  k_with "eval ListComp" => (k_here; lct_look; k_dflt (refine LCt.ListComp_T (F₀ := by k_asm) (by with_unfolding_all rfl) (by decide) (by rfl) (by decide) (by rfl) ?_))
  k_with "StrSrc" => refine Hold.out ?_
  k_with "ktr_rel" => first | with_reducible assumption | exact tupIn_s (by k_mem) | exact tupIn_si (by k_mem) | ((with_reducible refine DH.cons ?_); ktr_rel) | ((with_reducible refine DI.cons ?_); ktr_rel) | ((with_reducible refine TupIn.cons ?_); ktr_rel)
  k_with "call type:tuple" => (k_here; (with_reducible show wpAny _ _ (call (Value.type _) [Value.ref _]) _ _ _); k_dflt (first | (refine' tup_same ?kzN ?kzm ?_; (case kzN => k_asm); (case kzm => k_mem)) | (refine' tup_list ?kzF ?kzN ?kzm ?kzz ?_; (case kzF => k_asm); (case kzN => k_asm); (case kzm => k_mem); (case kzz => first | decide | kso_len); intro _ _ _ _ _; (try k_sweep))))
  k_with "binaryOp Add" => (k_here; (with_reducible show wpAny _ _ (binaryOp _ (Value.ref _) (Value.ref _)) _ _ _); k_dflt (first | (refine' tup_add0 ?kzF ?kzN ?kzm ?kzb ?kzv ?kzz ?_; (case kzF => k_asm); (case kzN => k_asm); (case kzm => k_mem); (case kzb => k_mem); (case kzv => simp); (case kzz => first | decide | kso_len)) | (refine' tup_add ?kzF ?kzN ?kzm ?kzb ?kzv ?kzy ?kzz ?kzx ?_; (case kzF => k_asm); (case kzN => k_asm); (case kzm => k_mem); (case kzb => k_mem); (case kzv => simp); (case kzy => simp); (case kzz => first | decide | kso_len); (case kzx => first | decide | kso_len); intro _ _ _ _ _; (try k_sweep))))
  k_with "subscriptTail" => (k_here; (with_reducible show wpAny _ _ (subscriptTail _ (Expr.Slice _ _ _ _) (Value.ref _) (Value.ref _)) _ _ _); k_dflt (refine' tup_slice1 ?kzF ?kzN ?kzm ?kzz ?_ ?kzs; (case kzs => with_unfolding_all rfl); (case kzF => k_asm); (case kzN => k_asm); (case kzm => k_mem); (case kzz => first | decide | kso_len)); intro _ _ _ _ _; (try k_sweep))
  k_with "compareOp In" => (k_here; (with_reducible show wpAny _ _ (compareOp CmpOp.In (Value.ref _) (Value.ref _)) _ _ _); k_dflt (refine' dh_in ?kzu ?kzN ?kzH ?kzT ?_; (case kzN => k_asm); (case kzH => ktr_rel); (case kzT => ktr_rel); (case kzu => ktr_units)); intro _; (try dsimp only))
  k_with "compareOp In" => (k_here; (with_reducible show wpAny _ _ (compareOp CmpOp.In (Value.ref _) (Value.ref _)) _ _ _); k_dflt (refine' dh_in_none ?kzu ?kzN ?kzH ?kzT ?kzK ?_; (case kzN => k_asm); (case kzH => ktr_rel); (case kzT => ktr_rel); (case kzK => with_reducible assumption); (case kzu => ktr_units)); intro _; (try dsimp only))
  k_with "setItem ref ref" => (k_here; k_dflt (refine' dh_set ?kzu ?kzF ?kzN ?kzH ?kzT ?kzz ?_; (case kzF => k_asm); (case kzN => k_asm); (case kzH => ktr_rel); (case kzT => ktr_rel); (case kzu => ktr_units); (case kzz => omega)); intro _ _ _ _ _ _; (try k_sweep))
  k_with "getMethod ref" => (k_here; (with_reducible show wpAny _ _ (getMethod (Value.ref _) (Str.ofString "setdefault") _) _ _ _); k_dflt (refine' dh_method PySem.F.slot_dict_setdefault PySem.F.type_dict_setdefault ?kzN ?kzH ?_; (case kzN => k_asm); (case kzH => ktr_rel)))
  k_with "getMethod ref" => (k_here; (with_reducible show wpAny _ _ (getMethod (Value.ref _) (Str.ofString "get") _) _ _ _); k_dflt (refine' dh_method PySem.F.slot_dict_get PySem.F.type_dict_get ?kzN ?kzH ?_; (case kzN => k_asm); (case kzH => ktr_rel)))
  k_with "getMethod ref" => (k_here; (with_reducible show wpAny _ _ (getMethod (Value.ref _) (Str.ofString "pop") _) _ _ _); k_dflt (refine' di_method PySem.F.slot_dict_pop PySem.F.type_dict_pop ?kzN ?kzH ?_; (case kzN => k_asm); (case kzH => ktr_rel)))
  k_with "omega" => lia
  trivial
theorem merge_con {w : World} (u : Addr) (ns ls : List Int) (cs : List (List Int)) (ms : List (Int × Int)) (foot : List Addr) (a b : Int) (ta tb : Tok) (k g : Int) (FO : Forest ns ls)
    (hk : k = min (ls.getD a.toNat 0) (ls.getD b.toNat 0)) (hg : g = max (ls.getD a.toNat 0) (ls.getD b.toNat 0)) (hsz : k ≠ g → (cs.getD k.toNat []).length + (cs.getD g.toNat []).length < 60) (hms : ms.length < 50) :
    Con w 104 [.ref u, .int a ta, .int b tb] 10 100 (fun news => UAt w u ns cs ms foot news ∧ (0 ≤ a ∧ a < ns.length) ∧ 0 ≤ b ∧ b < ns.length)
      (fun news news' r => (k = g ∧ r = .none ∧ ∀ p ∈ news, p ∈ news') ∨
        (k ≠ g ∧ ∃ D t1 t2 n foot', r = .ref D ∧ (D, ({ cls := .type "tuple", data := .seq #[.int k t1, .int g t2] n } : Obj)) ∈ news' ∧ (∀ p ∈ news, p.1 ≠ D) ∧ D ∉ foot' ∧
          UAt w u (ns.set g.toNat k) (cs.set k.toNat (cs.getD k.toNat [] ++ cs.getD g.toNat [])) (ms ++ [(k, g)]) foot' news' ∧ Keeps foot news news' ∧ Grow foot foot' news ∧ ∀ a ∈ foot, a ∈ foot')) := by
  rintro mean mg mb dp un gd env outer A₀ base h₀ L m news s Q E B F X N T hf hk' hd hu ⟨U, ⟨ha, hlt⟩, hb, hltb⟩ hret
  have U' := U
  obtain ⟨du, la, ll, lm, nd, na, nl, nm, k1, k2, k3, vs, as, bs, I, hfoot⟩ := U'
  have m1 := I.inst
  have m2 := I.dict
  have m3 := I.above
  have m4 := I.lots
  have m5 := I.merged
  have hi := I.vints
  have hal : as.length = cs.length := I.lists.1
  have hcl := I.len
  have hsm := I.small
  obtain ⟨n01, n02, n03, n04, n05, n06, n07, n08, n09, n10⟩ := I.nes
  have hbl := I.tups.1
  have hsb := I.smallm
  have hra := FO.rng a.toNat (by omega)
  have hrb := FO.rng b.toNat (by omega)
  have hkR : 0 ≤ k ∧ k < cs.length := by omega
  have hgR : 0 ≤ g ∧ g < cs.length := by omega
  have hle : k ≤ g := by omega
  have hkE : Hold (k = min (ls.getD a.toNat 0) (ls.getD b.toNat 0)) := hk
  have hgE : Hold (g = max (ls.getD a.toNat 0) (ls.getD b.toNat 0)) := hg
  clear hk hg hra hrb
  have hxk := ref_at (as := as) (k := k) (by omega)
  have hxg := ref_at (as := as) (k := g) (by omega)
  obtain ⟨vk, nk, m6, hik⟩ := I.lists.2 k.toNat (by omega)
  obtain ⟨vg, ng, m7, hig⟩ := I.lists.2 g.toNat (by omega)
  have hck : (cs.getD k.toNat []).length < 60 := I.smallc _ (getD_mem (by omega))
  have hcg : (cs.getD g.toNat []).length < 60 := I.smallc _ (getD_mem (by omega))
  have hvk := hik.length
  have hvg := hig.length
  obtain ⟨p1, p2, p3, p4, p5⟩ := I.asne (i := k.toNat) (by omega)
  obtain ⟨q1, q2, q3, q4, q5⟩ := I.asne (i := g.toNat) (by omega)
  refine wpAny_call ?_
  ((refine' code_def (binds := ([("self", .ref u), ("a", .int a ta), ("b", .int b tb)])) ?k1 ?k2 ?k3 ?k4 ?k5 ?kA ?kF ?kK ?k6 ?k7 ?k8 ?k9 ?kB ?_ ?c2 ?c3 ?c4 ?c5; (case kA => exact rfl); (case kF => assumption); (case kK => assumption); (case k1 => k_asm); (case k2 => k_asm); (case k3 => k_asm); (case k4 => k_asm); (case k5 => k_asm); (case k6 => k_is); (case k7 => k_is); (case k8 => first | omega | ktr_room | (dsimp only; omega)); (case k9 => exact BindsTo.of_eq rfl); (case c5 => decide); (case kB => exact locs rfl); (case c2 => exact rfl); (case c3 => exact rfl); (case c4 => exact rfl); k_whole; intro g' L' h' FG' F' N' B' X' T'; (try dsimp only); (try k_lift B'); (try k_fold)))
  iterate 33 walk1
  rw [← show k = min (ls.getD a.toNat 0) (ls.getD b.toNat 0) from hkE, ← show g = max (ls.getD a.toNat 0) (ls.getD b.toNat 0) from hgE]
  k_steps
  · exact hret _ _ _ _ (by assumption) (by assumption) (.inl ⟨by assumption, rfl, fun p hp => by simp [hp]⟩)
  · by_cases hkg : k = g
    · exact absurd hkg (by assumption)
    have hsz' := hsz hkg
    have r1 := I.asinj (i := k.toNat) (j := g.toNat) (by omega) (by omega) (by omega)
    k_steps
    rename ∀ p ∈ setL lm _ _, _ < _ => lD
    rename ∀ p ∈ setL (as.getD k.toNat 0) _ _, _ < _ => lD1
    have d1 := Nat.ne_of_gt (lt_setL lD |> fun h => h _ (.head _))
    have d4 := ne_of_lts (lt_tail (lt_tail (lt_setL (lt_setL (lt_tail (lt_setL lD))))))
    have e3 := ne_of_lts (lt_tail (lt_tail (lt_setL (lt_setL lD1))))
    refine hret _ _ _ _ (by assumption) (by assumption) (.inr ⟨hkg, _, _, _, 0, _, rfl, .head _, d4, ?_, ⟨_, _, _, _, _, _, _, _, _, _, _, _, _, _, I.merge (t2 := _) (by omega) (by omega) (fun p hp e1 e2 e3 => List.mem_cons_of_mem _ (mem_setL_ne' (List.mem_cons_of_mem _ (mem_setL_ne' (mem_setL_ne' (List.mem_cons_of_mem _ (List.mem_cons_of_mem _ hp)) e1) e2)) e3)) (by k_mem) (by assumption) (by k_mem) hik hig (by k_mem) (.tail _ (mem_setL_ne (.head _) ?_)) e3 hsz' hms, rfl⟩, ?_, ?_, ?_⟩)
    · intro h
      have h2 := (List.mem_append (s := u :: du :: la :: ll :: lm :: (as ++ bs)) (t := [_])).mp (by simpa using h)
      rcases h2 with h2 | h2
      · obtain ⟨o, ho⟩ := I.foot_in _ h2
        exact d4 _ ho rfl
      · exact d1 (List.mem_singleton.mp h2)
    · intro e
      obtain ⟨o, ho⟩ := I.foot_in lm (by simp)
      exact e3 _ ho e.symm
    · intro p hp hn
      rw [hfoot] at hn
      simp only [List.mem_cons, List.mem_append, not_or] at hn
      exact List.mem_cons_of_mem _ (mem_setL_ne' (List.mem_cons_of_mem _ (mem_setL_ne' (mem_setL_ne' (List.mem_cons_of_mem _ (List.mem_cons_of_mem _ hp)) hn.2.2.1) (fun e => hn.2.2.2.2.2.1 (e ▸ getD_mem (by omega))))) hn.2.2.2.2.1)
    · intro a ha
      have h2 := (List.mem_append (s := u :: du :: la :: ll :: lm :: (as ++ bs)) (t := [_])).mp (by simpa using ha)
      rcases h2 with h2 | h2
      · exact .inl (hfoot ▸ h2)
      · rw [List.mem_singleton.mp h2]; exact .inr e3
    · intro a ha
      rw [hfoot] at ha
      simp only [List.mem_cons, List.mem_append, List.not_mem_nil, or_false] at ha ⊢
      rcases ha with h | h | h | h | h | h | h <;> simp [h]
end
section
example : True := by
  w_top off
  k_with_none
  k_with "ktr_room" => ((try simp only [depth_under_make, depth_under_kw, depth_in1, depth_deeper, depth_caller]); (try dsimp only); first | exact room_up2 (by with_reducible assumption) rfl | exact room_up (by with_reducible assumption) rfl | exact room_0 (by with_reducible assumption) rfl | omega)
  k_with "ktr_units" => ((try simp only [units_in1, units_deeper, Around.mark_units, units_caller, units_under_make]); (try dsimp only); first | exact room_up2 (by with_reducible assumption) rfl | exact room_up (by with_reducible assumption) rfl | exact room_0 (by with_reducible assumption) rfl | omega)
  k_with "tb_start" => ((case kB => k_asm); (case kF => k_asm); (case kX => k_asm); (case kN => k_asm); (case kT => k_asm); (case kA => exact rfl); (case kH => exact rfl); (case kf => exact rfl); (case kk => exact rfl); (case kd => ktr_room); (case ku => ktr_units))
  k_with "call ref" => (k_here; (with_reducible show wpAny _ _ (call (Value.ref 97) _) _ _ _); k_dflt (refine' con_use (find_con _ _ _ _ _ _ _ _ ?kzFO) ?kB ?kF ?kX ?kN ?kT ?kA ?kH ?kf ?kk ?kd ?ku ?hp ?_; (case kzFO => assumption); (case hp => exact ⟨by assumption, by first | assumption | omega, by first | assumption | omega⟩); tb_start);  intro _ _ _ _ _ _ hp'; obtain ⟨e', _, e2'⟩ := hp'; subst e'; subst e2'; (try dsimp only))
  k_with "subscriptTail" => (k_here; (with_reducible show wpAny _ _ (subscriptTail _ _ (Value.ref _) (Value.int _ _)) _ _ _); k_dflt (refine' item_ref ?kzN ?kzm ?kzh0 ?kzhk ?kzhh ?_ ?kzhs; (case kzN => k_asm); (case kzhk => assumption); (case kzm => k_mem); (case kzh0 => omega); (case kzhh => omega); (case kzhs => with_unfolding_all rfl); k_whole))
  k_with "newList" => (k_here; k_dflt (refine' newList_led ?kzF ?kzN ?_ ?kzz; (case kzF => k_asm); (case kzN => k_asm); (case kzz => first | decide | kso_len)); intro _ _ _ _ _; (try k_sweep))
  k_with "call builtin:sorted" => (k_here; (with_reducible show wpAny _ _ (call (Value.builtin _) [Value.ref _]) _ _ _); k_dflt (with_unfolding_all refine' kso_sorted ?kzk1 ?kzk2 (is_listN ?kzk2 ?kzk3) ?kzk4 ?kzk5 ?_; (case kzk1 => k_asm); (case kzk2 => k_asm); (case kzk3 => k_mem); (case kzk4 => l_ints); (case kzk5 => omega); k_whole); intro _ _ _ _ _ _ _ _ _ _ _ _ _; (try k_sweep))
  k_with "kso_len" => first | omega | (simp only [List.length_append, List.length_map, List.length_cons, List.length_nil, List.length_set]; omega)
  k_with "call builtin:len" => (k_here; (with_reducible show wpAny _ _ (call (Value.builtin "len") [Value.ref _]) _ _ _); k_dflt (refine' len_led ?kzN ?kzm ?kzk ?kzz ?_; (case kzN => k_asm); (case kzm => k_mem); (case kzk => first | exact IntsAre.length (by with_reducible assumption) | exact List.length_map _ | ((try simp only [List.length_append, List.length_map, List.length_cons, List.length_nil, List.length_set]); exact rfl)); (case kzz => kso_len)); intro _ _)
  k_with "call builtin:list.append" => (k_here; (with_reducible show wpAny _ _ (call (Value.builtin _) [Value.ref _, _]) _ _ _); k_dflt (refine' append_led ?kzF ?kzN ?kzm ?kzz ?_; (case kzF => k_asm); (case kzN => k_asm); (case kzm => k_mem); (case kzz => kso_len)); intro _ _ _; (try k_sweep))
  k_with "call builtin:list.extend" => (k_here; (with_reducible show wpAny _ _ (call (Value.builtin _) [Value.ref _, Value.ref _]) _ _ _); k_dflt (refine' extend_led ?kzF ?kzN ?kzm ?kzb ?kzz ?kzy ?_; (case kzF => k_asm); (case kzN => k_asm); (case kzm => k_mem); (case kzb => k_mem); (case kzz => kso_len); (case kzy => kso_len)); intro _ _ _ _; (try k_sweep))
  k_with "call type:list" => (k_here; (with_reducible show wpAny _ _ (call (Value.type _) [Value.ref _]) _ _ _); k_dflt (refine' list_led ?kzF ?kzN ?kzm ?kzz ?_; (case kzF => k_asm); (case kzN => k_asm); (case kzm => k_mem); (case kzz => kso_len)); intro _ _ _ _ _ _; (try k_sweep))
  k_with "setItem ref int" => (k_here; (with_reducible show wpAny _ _ (setItem (Value.ref _) (Value.int _ _) (Value.int _ _)) _ _ _); k_dflt (refine' set_led ?kzF ?kzN ?kzm ?kzi ?kza ?kzb ?kzz ?_; (case kzF => k_asm); (case kzN => k_asm); (case kzm => k_mem); (case kzi => with_reducible assumption); (case kza => omega); (case kzb => omega); (case kzz => omega)); intro _ _ _ _; (try k_sweep))
  k_with "call builtin:sorted" => (k_here; (with_reducible show wpAny _ _ (call (Value.builtin _) [Value.ref _]) _ _ _); k_dflt (refine' sorted_two ?kzF ?kzN ?kzm ?_; (case kzF => k_asm); (case kzN => k_asm); (case kzm => k_mem)); intro _ _ _ _ _ _ _ _; (try k_sweep))
  k_with "k_mem" => first | with_reducible assumption | ktr_member | ((with_reducible refine' mem_setL_self ?kya); (case kya => k_mem)) | ((with_reducible refine' mem_setL_ne ?kya ?kyb); (case kyb => first | with_reducible assumption | exact Ne.symm (by with_reducible assumption) | omega); (case kya => k_mem)) | exact List.Mem.head _ | (refine' List.mem_cons_of_mem _ ?_; k_mem)
  k_with "newTuple" => (k_here; k_dflt (refine' newTuple_led ?kzF ?kzN ?_ ?kzz; (case kzF => k_asm); (case kzN => k_asm); (case kzz => first | decide | kso_len)); intro _ _ _ _ _; (try k_sweep))
  k_with "CompSrc" => refine Hold.out ?_
  k_with "CompSrcT" => refine Hold.out ?_
  k_with "Src3" => refine Hold.out ?_
  k_with "eval ListComp" => (k_here; (fail_if_success lct_look); k_dflt (refine ListComp_3 (F₀ := by k_asm) (by with_unfolding_all rfl) (by decide) (by rfl) (by decide) (by rfl) ?_))
  k_with "eval ListComp" => (k_here; lct_look; k_dflt (refine LCt.ListComp_T (F₀ := by k_asm) (by with_unfolding_all rfl) (by decide) (by rfl) (by decide) (by rfl) ?_))
  k_with "StrSrc" => refine Hold.out ?_
  k_with "ktr_rel" => first | with_reducible assumption | exact tupIn_s (by k_mem) | exact tupIn_si (by k_mem) | ((with_reducible refine DH.cons ?_); ktr_rel) | ((with_reducible refine DI.cons ?_); ktr_rel) | ((with_reducible refine TupIn.cons ?_); ktr_rel)
  k_with "call type:tuple" => (k_here; (with_reducible show wpAny _ _ (call (Value.type _) [Value.ref _]) _ _ _); k_dflt (first | (refine' tup_same ?kzN ?kzm ?_; (case kzN => k_asm); (case kzm => k_mem)) | (refine' tup_list ?kzF ?kzN ?kzm ?kzz ?_; (case kzF => k_asm); (case kzN => k_asm); (case kzm => k_mem); (case kzz => first | decide | kso_len); intro _ _ _ _ _; (try k_sweep))))
  k_with "binaryOp Add" => (k_here; (with_reducible show wpAny _ _ (binaryOp _ (Value.ref _) (Value.ref _)) _ _ _); k_dflt (first | (refine' tup_add0 ?kzF ?kzN ?kzm ?kzb ?kzv ?kzz ?_; (case kzF => k_asm); (case kzN => k_asm); (case kzm => k_mem); (case kzb => k_mem); (case kzv => simp); (case kzz => first | decide | kso_len)) | (refine' tup_add ?kzF ?kzN ?kzm ?kzb ?kzv ?kzy ?kzz ?kzx ?_; (case kzF => k_asm); (case kzN => k_asm); (case kzm => k_mem); (case kzb => k_mem); (case kzv => simp); (case kzy => simp); (case kzz => first | decide | kso_len); (case kzx => first | decide | kso_len); intro _ _ _ _ _; (try k_sweep))))
  k_with "subscriptTail" => (k_here; (with_reducible show wpAny _ _ (subscriptTail _ (Expr.Slice _ _ _ _) (Value.ref _) (Value.ref _)) _ _ _); k_dflt (refine' tup_slice1 ?kzF ?kzN ?kzm ?kzz ?_ ?kzs; (case kzs => with_unfolding_all rfl); (case kzF => k_asm); (case kzN => k_asm); (case kzm => k_mem); (case kzz => first | decide | kso_len)); intro _ _ _ _ _; (try k_sweep))
  k_with "compareOp In" => (k_here; (with_reducible show wpAny _ _ (compareOp CmpOp.In (Value.ref _) (Value.ref _)) _ _ _); k_dflt (refine' dh_in ?kzu ?kzN ?kzH ?kzT ?_; (case kzN => k_asm); (case kzH => ktr_rel); (case kzT => ktr_rel); (case kzu => ktr_units)); intro _; (try dsimp only))
  k_with "compareOp In" => (k_here; (with_reducible show wpAny _ _ (compareOp CmpOp.In (Value.ref _) (Value.ref _)) _ _ _); k_dflt (refine' dh_in_none ?kzu ?kzN ?kzH ?kzT ?kzK ?_; (case kzN => k_asm); (case kzH => ktr_rel); (case kzT => ktr_rel); (case kzK => with_reducible assumption); (case kzu => ktr_units)); intro _; (try dsimp only))
  k_with "setItem ref ref" => (k_here; k_dflt (refine' dh_set ?kzu ?kzF ?kzN ?kzH ?kzT ?kzz ?_; (case kzF => k_asm); (case kzN => k_asm); (case kzH => ktr_rel); (case kzT => ktr_rel); (case kzu => ktr_units); (case kzz => omega)); intro _ _ _ _ _ _; (try k_sweep))
  k_with "getMethod ref" => (k_here; (with_reducible show wpAny _ _ (getMethod (Value.ref _) (Str.ofString "setdefault") _) _ _ _); k_dflt (refine' dh_method PySem.F.slot_dict_setdefault PySem.F.type_dict_setdefault ?kzN ?kzH ?_; (case kzN => k_asm); (case kzH => ktr_rel)))
  k_with "getMethod ref" => (k_here; (with_reducible show wpAny _ _ (getMethod (Value.ref _) (Str.ofString "get") _) _ _ _); k_dflt (refine' dh_method PySem.F.slot_dict_get PySem.F.type_dict_get ?kzN ?kzH ?_; (case kzN => k_asm); (case kzH => ktr_rel)))
  k_with "getMethod ref" => (k_here; (with_reducible show wpAny _ _ (getMethod (Value.ref _) (Str.ofString "pop") _) _ _ _); k_dflt (refine' di_method PySem.F.slot_dict_pop PySem.F.type_dict_pop ?kzN ?kzH ?_; (case kzN => k_asm); (case kzH => ktr_rel)))
  k_with "eval ListComp" => (k_here; lct_look; k_dflt (refine ListComp_S (_F₀ := by k_asm) (by with_unfolding_all rfl) (by decide) (by rfl) (by decide) (by rfl) ?_))
  trivial
noncomputable def okSign (c : Nat) : Prop := Txt.isspace ⟨#[c]⟩ = false ∧ (Builtin.Str.occurrences (Str.ofString "()[]{},:") ⟨#[c]⟩ 0 (Str.ofString "()[]{},:").length 1).isEmpty = true
theorem isspace_no {prog : Program} {w : World} {A : Around} {E : Value → Shared → Prop} {s : Shared} {x : Str} {t : Tok} {Q : Value → Shared → Prop} (e : Txt.isspace x = false) (h : Q (.bool false) s) : wpAny (model prog w) A (call (.builtin "str.isspace") [.str x t]) Q E s := PySem.SC.isspace (by rw [e]; exact h)
theorem in_no {prog : Program} {w : World} {A : Around} {E : Value → Shared → Prop} {s : Shared} {x y : Str} {t u : Tok} {Q : Value → Shared → Prop} (e : (Builtin.Str.occurrences x y 0 x.length 1).isEmpty = true) (h : Q (.bool false) s) : wpAny (model prog w) A (compareOp .In (.str y u) (.str x t)) Q E s := in_str (by rw [e]; exact h)
example : True := by
  k_with "call builtin:str.isspace" => (k_here; refine isspace_no (by with_reducible assumption) ?_)
  trivial
example : True := by
  k_with "compareOp In str str" => (k_here; refine in_no (by with_reducible assumption) ?_)
  trivial
theorem isop_con {w : World} (x : Str) (tx : Tok) (hx : x ≠ Str.ofString "") (ha : x.cps.all (· < 128) = true) (hz : x.cps.size < 1000) (hok : ∀ c ∈ x.cps, okSign c) :
    Con w 149 [.str x tx] 20 200 (fun _ => True) (fun news news' r => r = .bool true ∧ news' = news) := by
  intro mean mg mb dp un gd env outer A₀ base h₀ L m news s Q E B F X N T hf hk hd hu _ hret
  refine wpAny_call ?_
  ((refine' code_def (binds := ([("text", .str x tx)])) ?k1 ?k2 ?k3 ?k4 ?k5 ?kA ?kF ?kK ?k6 ?k7 ?k8 ?k9 ?kB ?_ ?c2 ?c3 ?c4 ?c5; (case kA => exact rfl); (case kF => assumption); (case kK => assumption); (case k1 => k_asm); (case k2 => k_asm); (case k3 => k_asm); (case k4 => k_asm); (case k5 => k_asm); (case k6 => k_is); (case k7 => k_is); (case k8 => first | omega | ktr_room | (dsimp only; omega)); (case k9 => exact BindsTo.of_eq rfl); (case c5 => decide); (case kB => exact locs rfl); (case c2 => exact rfl); (case c3 => exact rfl); (case c4 => exact rfl); k_whole; intro g' L' h' FG' F' N' B' X' T'; (try dsimp only); (try k_lift B'); (try k_fold)))
  k_steps
  · refine Hold.done (comp_str_none rfl (by k_asm) (by k_asm) ha (by omega) ?_ ?_)
    · intro c u I oI C oC D m₂ h tk E' hc hC hxx F1 N1 off
      obtain ⟨ho1, ho2⟩ := hok c hc
      clear hok ha
      k_steps
      exact ⟨_, _, _, rfl, F1, N1, off, trivial, rfl⟩
    · intro D h tk F1 N1 hD
      k_steps
      rename News h₀ L _ _ => kN
      exact hret _ _ _ _ (by assumption) (News.sub kN fun p hp => .tail _ (.tail _ hp)) ⟨rfl, rfl⟩
  · have hb : (x != Str.ofString "") = true := by simpa using hx
    rename (x != _) = false => h9
    rw [hb] at h9
    cases h9
end
section
example : True := by
  w_top off
  k_with_none
  k_with "ktr_room" => ((try simp only [depth_under_make, depth_under_kw, depth_in1, depth_deeper, depth_caller]); (try dsimp only); first | exact room_up2 (by with_reducible assumption) rfl | exact room_up (by with_reducible assumption) rfl | exact room_0 (by with_reducible assumption) rfl | omega)
  k_with "ktr_units" => ((try simp only [units_in1, units_deeper, Around.mark_units, units_caller, units_under_make]); (try dsimp only); first | exact room_up2 (by with_reducible assumption) rfl | exact room_up (by with_reducible assumption) rfl | exact room_0 (by with_reducible assumption) rfl | omega)
  k_with "tb_start" => ((case kB => k_asm); (case kF => k_asm); (case kX => k_asm); (case kN => k_asm); (case kT => k_asm); (case kA => exact rfl); (case kH => exact rfl); (case kf => exact rfl); (case kk => exact rfl); (case kd => ktr_room); (case ku => ktr_units))
  k_with "call ref" => (k_here; (with_reducible show wpAny _ _ (call (Value.ref 97) _) _ _ _); k_dflt (refine' con_use (find_con _ _ _ _ _ _ _ _ ?kzFO) ?kB ?kF ?kX ?kN ?kT ?kA ?kH ?kf ?kk ?kd ?ku ?hp ?_; (case kzFO => assumption); (case hp => exact ⟨by assumption, by first | assumption | omega, by first | assumption | omega⟩); tb_start);  intro _ _ _ _ _ _ hp'; obtain ⟨e', _, e2'⟩ := hp'; subst e'; subst e2'; (try dsimp only))
  k_with "subscriptTail" => (k_here; (with_reducible show wpAny _ _ (subscriptTail _ _ (Value.ref _) (Value.int _ _)) _ _ _); k_dflt (refine' item_ref ?kzN ?kzm ?kzh0 ?kzhk ?kzhh ?_ ?kzhs; (case kzN => k_asm); (case kzhk => assumption); (case kzm => k_mem); (case kzh0 => omega); (case kzhh => omega); (case kzhs => with_unfolding_all rfl); k_whole))
  k_with "newList" => (k_here; k_dflt (refine' newList_led ?kzF ?kzN ?_ ?kzz; (case kzF => k_asm); (case kzN => k_asm); (case kzz => first | decide | kso_len)); intro _ _ _ _ _; (try k_sweep))
  k_with "call builtin:sorted" => (k_here; (with_reducible show wpAny _ _ (call (Value.builtin _) [Value.ref _]) _ _ _); k_dflt (with_unfolding_all refine' kso_sorted ?kzk1 ?kzk2 (is_listN ?kzk2 ?kzk3) ?kzk4 ?kzk5 ?_; (case kzk1 => k_asm); (case kzk2 => k_asm); (case kzk3 => k_mem); (case kzk4 => l_ints); (case kzk5 => omega); k_whole); intro _ _ _ _ _ _ _ _ _ _ _ _ _; (try k_sweep))
  k_with "kso_len" => first | omega | (simp only [List.length_append, List.length_map, List.length_cons, List.length_nil, List.length_set]; omega)
  k_with "call builtin:len" => (k_here; (with_reducible show wpAny _ _ (call (Value.builtin "len") [Value.ref _]) _ _ _); k_dflt (refine' len_led ?kzN ?kzm ?kzk ?kzz ?_; (case kzN => k_asm); (case kzm => k_mem); (case kzk => first | exact IntsAre.length (by with_reducible assumption) | exact List.length_map _ | ((try simp only [List.length_append, List.length_map, List.length_cons, List.length_nil, List.length_set]); exact rfl)); (case kzz => kso_len)); intro _ _)
  k_with "call builtin:list.append" => (k_here; (with_reducible show wpAny _ _ (call (Value.builtin _) [Value.ref _, _]) _ _ _); k_dflt (refine' append_led ?kzF ?kzN ?kzm ?kzz ?_; (case kzF => k_asm); (case kzN => k_asm); (case kzm => k_mem); (case kzz => kso_len)); intro _ _ _; (try k_sweep))
  k_with "call builtin:list.extend" => (k_here; (with_reducible show wpAny _ _ (call (Value.builtin _) [Value.ref _, Value.ref _]) _ _ _); k_dflt (refine' extend_led ?kzF ?kzN ?kzm ?kzb ?kzz ?kzy ?_; (case kzF => k_asm); (case kzN => k_asm); (case kzm => k_mem); (case kzb => k_mem); (case kzz => kso_len); (case kzy => kso_len)); intro _ _ _ _; (try k_sweep))
  k_with "call type:list" => (k_here; (with_reducible show wpAny _ _ (call (Value.type _) [Value.ref _]) _ _ _); k_dflt (refine' list_led ?kzF ?kzN ?kzm ?kzz ?_; (case kzF => k_asm); (case kzN => k_asm); (case kzm => k_mem); (case kzz => kso_len)); intro _ _ _ _ _ _; (try k_sweep))
  k_with "setItem ref int" => (k_here; (with_reducible show wpAny _ _ (setItem (Value.ref _) (Value.int _ _) (Value.int _ _)) _ _ _); k_dflt (refine' set_led ?kzF ?kzN ?kzm ?kzi ?kza ?kzb ?kzz ?_; (case kzF => k_asm); (case kzN => k_asm); (case kzm => k_mem); (case kzi => with_reducible assumption); (case kza => omega); (case kzb => omega); (case kzz => omega)); intro _ _ _ _; (try k_sweep))
  k_with "call builtin:sorted" => (k_here; (with_reducible show wpAny _ _ (call (Value.builtin _) [Value.ref _]) _ _ _); k_dflt (refine' sorted_two ?kzF ?kzN ?kzm ?_; (case kzF => k_asm); (case kzN => k_asm); (case kzm => k_mem)); intro _ _ _ _ _ _ _ _; (try k_sweep))
  k_with "k_mem" => first | with_reducible assumption | ktr_member | ((with_reducible refine' mem_setL_self ?kya); (case kya => k_mem)) | ((with_reducible refine' mem_setL_ne ?kya ?kyb); (case kyb => first | with_reducible assumption | exact Ne.symm (by with_reducible assumption) | omega); (case kya => k_mem)) | exact List.Mem.head _ | (refine' List.mem_cons_of_mem _ ?_; k_mem)
  k_with "newTuple" => (k_here; k_dflt (refine' newTuple_led ?kzF ?kzN ?_ ?kzz; (case kzF => k_asm); (case kzN => k_asm); (case kzz => first | decide | kso_len)); intro _ _ _ _ _; (try k_sweep))
  k_with "CompSrc" => refine Hold.out ?_
  k_with "CompSrcT" => refine Hold.out ?_
  k_with "Src3" => refine Hold.out ?_
  k_with "eval ListComp" => (k_here; (fail_if_success lct_look); k_dflt (refine ListComp_3 (F₀ := by k_asm) (by with_unfolding_all rfl) (by decide) (by rfl) (by decide) (by rfl) ?_))
  k_with "eval ListComp" => (k_here; lct_look; k_dflt (refine LCt.ListComp_T (F₀ := by k_asm) (by with_unfolding_all rfl) (by decide) (by rfl) (by decide) (by rfl) ?_))
  k_with "StrSrc" => refine Hold.out ?_
  k_with "ktr_rel" => first | with_reducible assumption | exact tupIn_s (by k_mem) | exact tupIn_si (by k_mem) | ((with_reducible refine DH.cons ?_); ktr_rel) | ((with_reducible refine DI.cons ?_); ktr_rel) | ((with_reducible refine TupIn.cons ?_); ktr_rel)
  k_with "call type:tuple" => (k_here; (with_reducible show wpAny _ _ (call (Value.type _) [Value.ref _]) _ _ _); k_dflt (first | (refine' tup_same ?kzN ?kzm ?_; (case kzN => k_asm); (case kzm => k_mem)) | (refine' tup_list ?kzF ?kzN ?kzm ?kzz ?_; (case kzF => k_asm); (case kzN => k_asm); (case kzm => k_mem); (case kzz => first | decide | kso_len); intro _ _ _ _ _; (try k_sweep))))
  k_with "binaryOp Add" => (k_here; (with_reducible show wpAny _ _ (binaryOp _ (Value.ref _) (Value.ref _)) _ _ _); k_dflt (first | (refine' tup_add0 ?kzF ?kzN ?kzm ?kzb ?kzv ?kzz ?_; (case kzF => k_asm); (case kzN => k_asm); (case kzm => k_mem); (case kzb => k_mem); (case kzv => simp); (case kzz => first | decide | kso_len)) | (refine' tup_add ?kzF ?kzN ?kzm ?kzb ?kzv ?kzy ?kzz ?kzx ?_; (case kzF => k_asm); (case kzN => k_asm); (case kzm => k_mem); (case kzb => k_mem); (case kzv => simp); (case kzy => simp); (case kzz => first | decide | kso_len); (case kzx => first | decide | kso_len); intro _ _ _ _ _; (try k_sweep))))
  k_with "subscriptTail" => (k_here; (with_reducible show wpAny _ _ (subscriptTail _ (Expr.Slice _ _ _ _) (Value.ref _) (Value.ref _)) _ _ _); k_dflt (refine' tup_slice1 ?kzF ?kzN ?kzm ?kzz ?_ ?kzs; (case kzs => with_unfolding_all rfl); (case kzF => k_asm); (case kzN => k_asm); (case kzm => k_mem); (case kzz => first | decide | kso_len)); intro _ _ _ _ _; (try k_sweep))
  k_with "compareOp In" => (k_here; (with_reducible show wpAny _ _ (compareOp CmpOp.In (Value.ref _) (Value.ref _)) _ _ _); k_dflt (refine' dh_in ?kzu ?kzN ?kzH ?kzT ?_; (case kzN => k_asm); (case kzH => ktr_rel); (case kzT => ktr_rel); (case kzu => ktr_units)); intro _; (try dsimp only))
  k_with "compareOp In" => (k_here; (with_reducible show wpAny _ _ (compareOp CmpOp.In (Value.ref _) (Value.ref _)) _ _ _); k_dflt (refine' dh_in_none ?kzu ?kzN ?kzH ?kzT ?kzK ?_; (case kzN => k_asm); (case kzH => ktr_rel); (case kzT => ktr_rel); (case kzK => with_reducible assumption); (case kzu => ktr_units)); intro _; (try dsimp only))
  k_with "setItem ref ref" => (k_here; k_dflt (refine' dh_set ?kzu ?kzF ?kzN ?kzH ?kzT ?kzz ?_; (case kzF => k_asm); (case kzN => k_asm); (case kzH => ktr_rel); (case kzT => ktr_rel); (case kzu => ktr_units); (case kzz => omega)); intro _ _ _ _ _ _; (try k_sweep))
  k_with "getMethod ref" => (k_here; (with_reducible show wpAny _ _ (getMethod (Value.ref _) (Str.ofString "setdefault") _) _ _ _); k_dflt (refine' dh_method PySem.F.slot_dict_setdefault PySem.F.type_dict_setdefault ?kzN ?kzH ?_; (case kzN => k_asm); (case kzH => ktr_rel)))
  k_with "getMethod ref" => (k_here; (with_reducible show wpAny _ _ (getMethod (Value.ref _) (Str.ofString "get") _) _ _ _); k_dflt (refine' dh_method PySem.F.slot_dict_get PySem.F.type_dict_get ?kzN ?kzH ?_; (case kzN => k_asm); (case kzH => ktr_rel)))
  k_with "getMethod ref" => (k_here; (with_reducible show wpAny _ _ (getMethod (Value.ref _) (Str.ofString "pop") _) _ _ _); k_dflt (refine' di_method PySem.F.slot_dict_pop PySem.F.type_dict_pop ?kzN ?kzH ?_; (case kzN => k_asm); (case kzH => ktr_rel)))
  k_with "omega" => lia
  trivial
theorem eq_no {prog : Program} {w : World} {A : Around} {E : Value → Shared → Prop} {s : Shared} {x y : Str} {t u : Tok} {Q : Value → Shared → Prop} (e : (x == y) = false) (h : Q (.bool false) s) : wpAny (model prog w) A (compareOp .Eq (.str x t) (.str y u)) Q E s := eq_str (by rw [e]; exact h)
example : True := by
  k_with "compareOp Eq str str" => (k_here; refine eq_no (by with_reducible assumption) ?_)
  trivial
theorem require_con {w : World} (b : Addr) (x : Str) (tx : Tok) (hx : x ≠ Str.ofString "") (ha : x.cps.all (· < 128) = true) (hz : x.cps.size < 1000) (hok : ∀ c ∈ x.cps, okSign c) (h0 : 0 < x.length) (hz2 : x.length < 1000) (hq : (Txt.item x 0 == Str.ofString "?") = false) :
    Con w 187 [.ref b, .str x tx] 40 400 (fun _ => True) (fun news news' r => r = .none ∧ news' = news) := by
  intro mean mg mb dp un gd env outer A₀ base h₀ L m news s Q E B F X N T hf hk hd hu _ hret
  refine wpAny_call ?_
  ((refine' code_def (binds := ([("self", .ref b), ("op", .str x tx)])) ?k1 ?k2 ?k3 ?k4 ?k5 ?kA ?kF ?kK ?k6 ?k7 ?k8 ?k9 ?kB ?_ ?c2 ?c3 ?c4 ?c5; (case kA => exact rfl); (case kF => assumption); (case kK => assumption); (case k1 => k_asm); (case k2 => k_asm); (case k3 => k_asm); (case k4 => k_asm); (case k5 => k_asm); (case k6 => k_is); (case k7 => k_is); (case k8 => first | omega | ktr_room | (dsimp only; omega)); (case k9 => exact BindsTo.of_eq rfl); (case c5 => decide); (case kB => exact locs rfl); (case c2 => exact rfl); (case c3 => exact rfl); (case c4 => exact rfl); k_whole; intro g' L' h' FG' F' N' B' X' T'; (try dsimp only); (try k_lift B'); (try k_fold)))
  iterate 13 walk1
  refine' con_use (isop_con x tx hx ha hz hok) ?kB ?kF ?kX ?kN ?kT ?kA ?kH ?kf ?kk ?kd ?ku ?hp ?_
  case hp => trivial
  tb_start
  intro r' h' tk' l' F' N' hp'
  obtain ⟨rfl, rfl⟩ := hp'
  clear ha hok
  walk1
  iterate 6 walk1
  refine KXi.item rfl (by omega) (by omega) (by omega) (fun _ => ?_)
  k_steps
  · exact hret _ _ _ _ (by assumption) (by assumption) ⟨rfl, rfl⟩
structure OkOp (x : Str) : Prop where
  ne : x ≠ Str.ofString ""
  asc : x.cps.all (· < 128) = true
  size : x.cps.size < 1000
  signs : ∀ c ∈ x.cps, okSign c
  pos : 0 < x.length
  len : x.length < 1000
  first : (Txt.item x 0 == Str.ofString "?") = false
theorem require_ok {w : World} (b : Addr) (x : Str) (tx : Tok) (O : OkOp x) : Con w 187 [.ref b, .str x tx] 40 400 (fun _ => True) (fun news news' r => r = .none ∧ news' = news) :=
  require_con b x tx O.ne O.asc O.size O.signs O.pos O.len O.first
end
section
example : True := by
  w_top off
  k_with_none
  k_with "omega" => lia
  trivial
noncomputable def leafT (k : Nat) : Str := Str.ofString "leaf" ++ Str.ofString (toString ((k : Nat) : Int))
noncomputable def okB (x : Str) : Bool := (x != Str.ofString "") && x.cps.all (· < 128) && decide (x.cps.size < 1000) && x.cps.all (fun c => Txt.isspace ⟨#[c]⟩ == false && (Builtin.Str.occurrences (Str.ofString "()[]{},:") ⟨#[c]⟩ 0 (Str.ofString "()[]{},:").length 1).isEmpty) && decide (0 < x.length) && decide (x.length < 1000) && (Txt.item x 0 == Str.ofString "?") == false
theorem ok_of {x : Str} (h : okB x = true) : OkOp x := by
  unfold okB at h
  simp only [Bool.and_eq_true, decide_eq_true_eq, beq_iff_eq] at h
  obtain ⟨⟨⟨⟨⟨⟨h1, h2⟩, h3⟩, h4⟩, h5⟩, h6⟩, h7⟩ := h
  refine ⟨by simpa using h1, h2, h3, fun c hc => ?_, h5, h6, h7⟩
  have := Array.all_eq_true'.mp h4 c hc
  simp only [Bool.and_eq_true, beq_iff_eq] at this
  exact this
theorem leaf_all : ((List.range 20).all fun k => okB (leafT k)) = true := by decide +kernel
theorem leaf_ok {k : Nat} (h : k < 20) : OkOp (leafT k) := ok_of (List.all_eq_true.mp leaf_all k (List.mem_range.mpr h))
theorem leaf_ne : ((List.range 20).all fun k => (List.range 20).all fun j => k == j || leafT k != leafT j) = true := by decide +kernel
theorem leaf_inj {k j : Nat} (hk : k < 20) (hj : j < 20) (h : leafT k = leafT j) : k = j := by
  have := List.all_eq_true.mp (List.all_eq_true.mp leaf_ne k (List.mem_range.mpr hk)) j (List.mem_range.mpr hj)
  rw [h] at this
  simpa using this
/-- the nodes of as many leaves -/
noncomputable def leafN (n : Nat) : List (List Mix) := (List.range n).map fun i => [.inl (leafT (i + 1))]
noncomputable def leafK (n : Nat) : List (List Mix × Int) := (List.range n).map fun i => ([.inl (leafT (i + 1))], (i : Int))
theorem leafN_succ (n : Nat) : leafN (n + 1) = leafN n ++ [[.inl (leafT (n + 1))]] := by unfold leafN; rw [List.range_succ, List.map_append]; rfl
theorem leafK_succ (n : Nat) : leafK (n + 1) = leafK n ++ [([.inl (leafT (n + 1))], (n : Int))] := by unfold leafK; rw [List.range_succ, List.map_append]; rfl
theorem leafN_len (n : Nat) : (leafN n).length = n := by unfold leafN; rw [List.length_map, List.length_range]
theorem leafK_len (n : Nat) : (leafK n).length = n := by unfold leafK; rw [List.length_map, List.length_range]
theorem leafN_new {n : Nat} (h : n < 18) : [Sum.inl (leafT (n + 1))] ∉ leafN n := fun hm => by
  obtain ⟨i, hi, e⟩ := List.mem_map.mp hm
  have hi := List.mem_range.mp hi
  have e1 : leafT (i + 1) = leafT (n + 1) := by
    have := (List.cons.inj e).1
    exact Sum.inl.inj this
  have := leaf_inj (by omega) (by omega) e1
  omega
theorem leafK_new {n : Nat} (h : n < 18) : ∀ p ∈ leafK n, p.1 ≠ [.inl (leafT (n + 1))] := fun p hp e => by
  obtain ⟨i, hi, rfl⟩ := List.mem_map.mp hp
  have hi := List.mem_range.mp hi
  have e1 : leafT (i + 1) = leafT (n + 1) := Sum.inl.inj (List.cons.inj e).1
  have := leaf_inj (by omega) (by omega) e1
  omega
end
section
example : True := by
  w_top off
  k_with_none
  k_with "omega" => lia
  trivial
/-- the heap in the law: as many leaves as numbers -/
noncomputable def HeapAt (w : World) (hp b u : Addr) (EE : Nat) (ns : List Int) (cs : List (List Int)) (ms : List (Int × Int)) (ft : List Addr) (l : Led) : Prop :=
  ∃ fh fb fu, Trio w hp b u (leafN ns.length) (leafK ns.length) (rootsAb ns) [] ns.length EE ns cs ms fh fb fu l ∧ ft = fh ++ fb ++ fu
theorem HeapAt.move {w : World} {hp b u : Addr} {EE : Nat} {ns : List Int} {cs : List (List Int)} {ms : List (Int × Int)} {ft : List Addr} {l l' : Led} (h : HeapAt w hp b u EE ns cs ms ft l) (k : ∀ p ∈ l, p.1 ∈ ft → p ∈ l') : HeapAt w hp b u EE ns cs ms ft l' := by
  obtain ⟨fh, fb, fu, T, rfl⟩ := h
  refine ⟨fh, fb, fu, T.move fun p hp e => k p hp ?_, rfl⟩
  rcases e with e | e | e <;> simp [e]
theorem HeapAt.footin {w : World} {hp b u : Addr} {EE : Nat} {ns : List Int} {cs : List (List Int)} {ms : List (Int × Int)} {ft : List Addr} {l : Led} (h : HeapAt w hp b u EE ns cs ms ft l) : ∀ a ∈ ft, ∃ o, (a, o) ∈ l := by
  obtain ⟨fh, fb, fu, T, rfl⟩ := h
  intro a ha
  rcases List.mem_append.mp ha with ha | ha
  · rcases List.mem_append.mp ha with ha | ha
    · exact T.h.footin a ha
    · exact T.b.footin a ha
  · exact T.u.foot_in a ha
theorem HeapAt.inst {w : World} {hp b u : Addr} {EE : Nat} {ns : List Int} {cs : List (List Int)} {ms : List (Int × Int)} {ft : List Addr} {l : Led} (h : HeapAt w hp b u EE ns cs ms ft l) : ∃ dh k le lf dk da lw n, (hp, instObj 388 dh) ∈ l ∧ (dh, dictOf (hDict w k b u le lf dk da lw) n) ∈ l ∧ hp ∈ ft ∧ dh ∈ ft := by
  obtain ⟨fh, fb, fu, T, rfl⟩ := h
  obtain ⟨dh, le, lf, dk, da, lw, kk, n1, n2, n3, n4, ve, vf, vw, kxs, fa, I⟩ := T.h
  exact ⟨_, _, _, _, _, _, _, _, I.inst, I.dict, by simp [I.feet.1], by simp [I.feet.2.1]⟩
theorem Step3.keeps {fh fb fu fh' fb' fu' : List Addr} {l l' : Led} (S : Step3 fh fb fu fh' fb' fu' l l') : Keeps (fh ++ fb ++ fu) l l' := fun p hp hn => S.keep p hp (fun h => hn (by simp [h])) (fun h => hn (by simp [h])) fun h => hn (by simp [h])
theorem Step3.grow {fh fb fu fh' fb' fu' : List Addr} {l l' : Led} (S : Step3 fh fb fu fh' fb' fu' l l') : Grow (fh ++ fb ++ fu) (fh' ++ fb' ++ fu') l := fun a ha => by
  rcases List.mem_append.mp ha with ha | ha
  · rcases List.mem_append.mp ha with ha | ha
    · rcases S.gh a ha with h | h
      · exact .inl (by simp [h])
      · exact .inr h
    · rcases S.gb a ha with h | h
      · exact .inl (by simp [h])
      · exact .inr h
  · rcases S.gu a ha with h | h
    · exact .inl (by simp [h])
    · exact .inr h
/-- what the law has made: its unions, its heap, its labels -/
structure LawIn (w : World) (u hp b u2 LA : Addr) (EE : Nat) (lb ns : List Int) (cs : List (List Int)) (ms : List (Int × Int)) (f1 ft : List Addr) (va : List Value) (na : Nat) (l : Led) : Prop where
  lots : UAt w u ns cs ms f1 l
  heap : HeapAt w hp b u2 EE ns cs ms ft l
  labs : (LA, PySem.W.listOf va.toArray na) ∈ l
  lints : IntsAre va lb
  fo : Forest ns lb
  lo : Lots cs lb
  ap : Disj f1 ft
  la1 : LA ∉ f1
  lat : LA ∉ ft
theorem LawIn.move {w : World} {u hp b u2 LA : Addr} {EE : Nat} {lb ns : List Int} {cs : List (List Int)} {ms : List (Int × Int)} {f1 ft : List Addr} {va : List Value} {na : Nat} {l l' : Led} (I : LawIn w u hp b u2 LA EE lb ns cs ms f1 ft va na l) (k : ∀ p ∈ l, (p.1 ∈ f1 ∨ p.1 ∈ ft ∨ p.1 = LA) → p ∈ l') : LawIn w u hp b u2 LA EE lb ns cs ms f1 ft va na l' :=
  ⟨I.lots.move fun p hp e => k p hp (.inl e), I.heap.move fun p hp e => k p hp (.inr (.inl e)), k _ I.labs (.inr (.inr rfl)), I.lints, I.fo, I.lo, I.ap, I.la1, I.lat⟩
theorem LawIn.cons {w : World} {u hp b u2 LA : Addr} {EE : Nat} {lb ns : List Int} {cs : List (List Int)} {ms : List (Int × Int)} {f1 ft : List Addr} {va : List Value} {na : Nat} {l : Led} {p : Addr × Obj} (I : LawIn w u hp b u2 LA EE lb ns cs ms f1 ft va na l) : LawIn w u hp b u2 LA EE lb ns cs ms f1 ft va na (p :: l) := I.move fun _ hq _ => .tail _ hq
/-- a step of the law: what is kept, what may be new -/
structure Step2 (f1 ft : List Addr) (LA : Addr) (f1' ft' : List Addr) (l l' : Led) : Prop where
  keep : ∀ p ∈ l, p.1 ∉ f1 → p.1 ∉ ft → p.1 ≠ LA → p ∈ l'
  g1 : Grow f1 f1' l
  gt : Grow ft ft' l
theorem store_cell_o {M : Model} {A : Around} {E : Value → Shared → Prop} {s : Shared} {h₀ : Heap} {L a : Addr} {m : Str → Option Value} {cn : Str} {cs : Scope} {ccd : Value} {cl : List (Str × Addr)} {x : Str} {v : Value} {Q : Unit → Shared → Prop} {news : Led} {c : Addr} {o : Obj} {v₀ : Option Value}
    (F : Fr h₀ L s.heap m) (N : News h₀ L s.heap news) (hc : cl.lookup x = some c) (hm : (c, o) ∈ news) (hd : o.data = .cell v₀)
    (h : ∀ h' o' l', Fr h₀ L h' m → News h₀ L h' l' → SetTo c o' news l' → o'.data = .cell (some v) → Q () { s with heap := h' })
    (hk : cs.kind = .function := by rfl) (hx : (envX cn cs L a ccd cl).kindOf x = some .cell := by rfl) : wpAny M A (storeName (envX cn cs L a ccd cl) x v) Q E s := by
  obtain ⟨l', ND, hi⟩ := News.nod N
  have N2 : News h₀ L s.heap l' := News.sub N fun p hp => (hi p).mpr hp
  refine storeX_C F N2 hc (updF_setL ND ((hi _).mp hm)) hd (fun h' o' F' N' d' => ?_) hk hx
  exact h h' o' _ F' (News.sub N' fun p hp => (mem_setL_iff hi p).mp hp) (.of _ _ _) d'
noncomputable abbrev rangeObj (n : Int) (t u v : Tok) : Obj := { cls := .type "range", dict := none, data := .fields #[.int 0 t, .int n u, .int 1 v], slots := #[] }
theorem range_led {prog : Program} {w : World} {A : Around} {E : Value → Shared → Prop} {s : Shared} {h₀ : Heap} {L : Addr} {m : Str → Option Value} {news : Led} {n : Int} {t : Tok} {Q : Value → Shared → Prop} (F : Fr h₀ L s.heap m) (N : News h₀ L s.heap news)
    (h : ∀ D h' tk t₁ u₁ v₁, Fr h₀ L h' m → News h₀ L h' ((D, rangeObj n t₁ u₁ v₁) :: news) → (∀ p ∈ news, p.1 < D) → Q (.ref D) { s with heap := h', toks := tk }) :
    wpAny (model prog w) A (call (.type "range") [.int n t]) Q E s :=
  call_range_1 (h _ _ _ _ _ _ (F.push _) (News.push F N _ rfl) fun p hp => Heap.lt_size (N p hp).1)
theorem isRange_of {h₀ h : Heap} {L D : Addr} {news : Led} {n : Int} {t u v : Tok} (N : News h₀ L h news) (hm : (D, rangeObj n t u v) ∈ news) : IsRange h D 0 n 1 t u v := (N _ hm).1
theorem ne_ints_led {prog : Program} {w : World} {A : Around} {E : Value → Shared → Prop} {s : Shared} {h₀ : Heap} {L a b : Addr} {news : Led} {xs ys : List Value} {ns ms : List Int} {n n2 : Nat} {Q : Value → Shared → Prop} (N : News h₀ L s.heap news) (ha : (a, PySem.W.listOf xs.toArray n) ∈ news) (hb : (b, PySem.W.listOf ys.toArray n2) ∈ news) (hi : IntsAre xs ns) (hj : IntsAre ys ms) (hu : A.units + 64 < cLine) (h : Q (.bool (!decide (ns = ms))) s) :
    wpAny (model prog w) A (compareOp .NotEq (.ref a) (.ref b)) Q E s := ke_ne_ints (is_listN N ha) (is_listN N hb) hi hj hu h
theorem eq_ints_led {prog : Program} {w : World} {A : Around} {E : Value → Shared → Prop} {s : Shared} {h₀ : Heap} {L a b : Addr} {news : Led} {xs ys : List Value} {ns ms : List Int} {n n2 : Nat} {Q : Value → Shared → Prop} (N : News h₀ L s.heap news) (ha : (a, PySem.W.listOf xs.toArray n) ∈ news) (hb : (b, PySem.W.listOf ys.toArray n2) ∈ news) (hi : IntsAre xs ns) (hj : IntsAre ys ms) (hu : A.units + 64 < cLine) (h : Q (.bool (decide (ns = ms))) s) :
    wpAny (model prog w) A (compareOp .Eq (.ref a) (.ref b)) Q E s := ke_eq_ints (is_listN N ha) (is_listN N hb) hi hj hu h
theorem Lists.snoc {as : List Addr} {cs : List (List Int)} {l l' : Led} {D : Addr} {vs : List Value} {n : Nat} {c : List Int} (h : Lists as cs l) (k : ∀ p ∈ l, p ∈ l') (hm : (D, PySem.W.listOf vs.toArray n) ∈ l') (hi : IntsAre vs c) : Lists (as ++ [D]) (cs ++ [c]) l' := by
  refine ⟨by simp [h.1], fun i hlt => ?_⟩
  have hl := h.1
  rw [List.length_append, List.length_singleton] at hlt
  by_cases e : i < as.length
  · obtain ⟨v, n', h1, h2⟩ := h.2 i e
    exact ⟨v, n', by rw [getD_app_lt e]; exact k _ h1, by rw [getD_app_lt (by omega)]; exact h2⟩
  · have e2 : i = as.length := by omega
    exact ⟨vs, n, by rw [getD_app_last e2]; exact hm, by rw [getD_app_last (by omega)]; exact hi⟩
theorem Lists.up {as : List Addr} {cs : List (List Int)} {l l' : Led} (h : Lists as cs l) (k : ∀ p ∈ l, p ∈ l') : Lists as cs l' :=
  ⟨h.1, fun i hi => by obtain ⟨v, n, h1, h2⟩ := h.2 i hi; exact ⟨v, n, k _ h1, h2⟩⟩
end
section
example : True := by
  w_top off
  k_with_none
  k_with "omega" => lia
  trivial
noncomputable def listsData (cs : List (List Int)) : PyData := .list (cs.map fun c => .list (c.map .int))
noncomputable def pairsData (ms : List (Int × Int)) : PyData := .list (ms.map fun p => .tuple [.int p.1, .int p.2])
theorem listsAll {h₀ hp : Heap} {L : Addr} {l : Led} (N : News h₀ L hp l) : ∀ (as : List Addr) (cs : List (List Int)), Lists as cs l → ∃ ads, ReadsAll hp (as.map Value.ref) (cs.map fun c => PyData.list (c.map .int)) ads
  | [], [], _ => ⟨_, .nil⟩
  | [], _ :: _, h => absurd h.1 (by simp)
  | _ :: _, [], h => absurd h.1 (by simp)
  | a :: as, c :: cs, h => by
    obtain ⟨ads, ih⟩ := listsAll N as cs ⟨by simpa using h.1, fun i hi => by
      have := h.2 (i + 1) (by simp; omega)
      simpa using this⟩
    obtain ⟨vs, n, hm, hi⟩ := h.2 0 (by simp)
    have hm' : (a, PySem.W.listOf vs.toArray n) ∈ l := by simpa using hm
    have hi' : IntsAre vs c := by simpa using hi
    have hl : hp.IsList a vs.toArray := ⟨_, (N _ hm').1, rfl, n, rfl⟩
    exact ⟨_, .cons (reads_newData hl (ke_carried hi')) ih⟩
theorem pairsAll {h₀ hp : Heap} {L : Addr} {l : Led} (N : News h₀ L hp l) : ∀ (bs : List Addr) (ms : List (Int × Int)), Tups bs ms l → ∃ ads, ReadsAll hp (bs.map Value.ref) (ms.map fun p => PyData.tuple [.int p.1, .int p.2]) ads
  | [], [], _ => ⟨_, .nil⟩
  | [], _ :: _, h => absurd h.1 (by simp)
  | _ :: _, [], h => absurd h.1 (by simp)
  | a :: as, c :: cs, h => by
    obtain ⟨ads, ih⟩ := pairsAll N as cs ⟨by simpa using h.1, fun i hi => by
      have := h.2 (i + 1) (by simp; omega)
      simpa using this⟩
    obtain ⟨t1, t2, n, hm⟩ := h.2 0 (by simp)
    have hm' : (a, tupOf #[.int c.1 t1, .int c.2 t2] n) ∈ l := by simpa using hm
    exact ⟨_, .cons (reads_tuple_at (N _ hm').1 rfl rfl (.cons (.int _ _) (.cons (.int _ _) .nil))) ih⟩
theorem lay_lists : ∀ cs : List (List Int), PyData.canLayAll0 (cs.map fun c => PyData.list (c.map .int)) = true
  | [] => rfl
  | c :: r => by simp [PyData.canLayAll0, PyData.canLay0, lay_lists r, ke_canLayAll0]
theorem depth_lists : ∀ cs : List (List Int), PyData.depthAll (cs.map fun c => PyData.list (c.map .int)) ≤ 1
  | [] => by simp [PyData.depthAll]
  | c :: r => by
    have := depth_lists r
    simp only [List.map_cons, PyData.depthAll, PyData.depth, ke_depthAll]
    omega
theorem shaped_lists (cs : List (List Int)) : SeqAt.shaped (listsData cs) = true := by
  have := depth_lists cs
  simp only [SeqAt.shaped, listsData, PyData.canLay0, PyData.depth, lay_lists, Bool.true_and, decide_eq_true_eq]
  omega
theorem lay_pairs : ∀ cs : List (Int × Int), PyData.canLayAll0 (cs.map fun p => PyData.tuple [.int p.1, .int p.2]) = true
  | [] => rfl
  | c :: r => by simp [PyData.canLayAll0, PyData.canLay0, lay_pairs r]
theorem depth_pairs : ∀ cs : List (Int × Int), PyData.depthAll (cs.map fun p => PyData.tuple [.int p.1, .int p.2]) ≤ 1
  | [] => by simp [PyData.depthAll]
  | c :: r => by
    have := depth_pairs r
    simp only [List.map_cons, PyData.depthAll, PyData.depth]
    omega
theorem shaped_pairs (cs : List (Int × Int)) : SeqAt.shaped (pairsData cs) = true := by
  have := depth_pairs cs
  simp only [SeqAt.shaped, pairsData, PyData.canLay0, PyData.depth, lay_pairs, Bool.true_and, decide_eq_true_eq]
  omega
theorem mix_lists (cs : List (List Int)) : SeqAt.noMix (listsData cs) (listsData cs) = true :=
  SeqAt.noMix_of_shape (.list (.list .int)) rfl _ _ (list_map_has fun _ => list_map_has fun _ => rfl) (list_map_has fun _ => list_map_has fun _ => rfl)
theorem Tups.up {as : List Addr} {cs : List (Int × Int)} {l l' : Led} (h : Tups as cs l) (k : ∀ p ∈ l, p ∈ l') : Tups as cs l' :=
  ⟨h.1, fun i hi => by obtain ⟨t1, t2, n, h1⟩ := h.2 i hi; exact ⟨t1, t2, n, k _ h1⟩⟩
section
variable {prog : Program} {w : World} {A : Around} {E : Value → Shared → Prop} {s : Shared} {h₀ : Heap} {L a b : Addr} {news : Led} {as bs : List Addr} {n n2 : Nat} {Q : Value → Shared → Prop}
theorem ne_lists_led {cs : List (List Int)} (N : News h₀ L s.heap news) (ha : (a, PySem.W.listOf (as.map Value.ref).toArray n) ∈ news) (hb : (b, PySem.W.listOf (bs.map Value.ref).toArray n2) ∈ news) (hi : Lists as cs news) (hj : Lists bs cs news) (hu : A.units + 64 < cLine) (h : Q (.bool false) s) :
    wpAny (model prog w) A (compareOp .NotEq (.ref a) (.ref b)) Q E s := by
  obtain ⟨d1, r1⟩ := listsAll N as cs hi
  obtain ⟨d2, r2⟩ := listsAll N bs cs hj
  refine ne_dataH_same (da := listsData cs) (db := listsData cs) (reads_list_at (N _ ha).1 rfl rfl r1) (reads_list_at (N _ hb).1 rfl rfl r2) (shaped_lists cs) (shaped_lists cs) hu (mix_lists cs) ?_
  rw [PySem.Spec.same_self]; exact h
theorem eq_ints_yes {xs ys : List Value} {ns ms : List Int} (N : News h₀ L s.heap news) (ha : (a, PySem.W.listOf xs.toArray n) ∈ news) (hb : (b, PySem.W.listOf ys.toArray n2) ∈ news) (hi : IntsAre xs ns) (hj : IntsAre ys ms) (e : ns = ms) (hu : A.units + 64 < cLine) (h : Q (.bool true) s) :
    wpAny (model prog w) A (compareOp .Eq (.ref a) (.ref b)) Q E s := eq_ints_led N ha hb hi hj hu (by rw [show decide (ns = ms) = true from decide_eq_true e]; exact h)
theorem eq_pairs_led {ms : List (Int × Int)} (N : News h₀ L s.heap news) (ha : (a, PySem.W.listOf (as.map Value.ref).toArray n) ∈ news) (hb : (b, PySem.W.listOf (bs.map Value.ref).toArray n2) ∈ news) (hi : Tups as ms news) (hj : Tups bs ms news) (hu : A.units + 64 < cLine) (h : Q (.bool true) s) :
    wpAny (model prog w) A (compareOp .Eq (.ref a) (.ref b)) Q E s := by
  obtain ⟨d1, r1⟩ := pairsAll N as ms hi
  obtain ⟨d2, r2⟩ := pairsAll N bs ms hj
  have mix : SeqAt.noMix (pairsData ms) (pairsData ms) = true :=
    SeqAt.noMix_of_shape (.list (.tuple [.int, .int])) rfl _ _ (list_map_has fun _ => rfl) (list_map_has fun _ => rfl)
  refine eq_dataH_same (da := pairsData ms) (db := pairsData ms) (reads_list_at (N _ ha).1 rfl rfl r1) (reads_list_at (N _ hb).1 rfl rfl r2) (shaped_pairs ms) (shaped_pairs ms) hu mix ?_
  rw [PySem.Spec.same_self]; exact h
end
end
section
example : True := by
  w_top off
  k_with_none
  k_with "omega" => lia
  trivial
/-- all that the law keeps between its turns -/
structure LawS (w : World) (cP cL cD P C u hp b u2 ML LA : Addr) (p : Int) (EE : Nat) (lb ns : List Int) (cs : List (List Int)) (ms : List (Int × Int)) (f1 ft : List Addr) (va : List Value) (na : Nat) (bs : List Addr) (l : Led) : Prop where
  law : LawIn w u hp b u2 LA EE lb ns cs ms f1 ft va na l
  pool : ∃ vs cells n n2 t, PoolIn P C p vs cells n n2 t l
  mer : ∃ nm, (ML, PySem.W.listOf (bs.map Value.ref).toArray nm) ∈ l
  tups : Tups bs ms l
  kP : ∃ o, (cP, o) ∈ l ∧ o.data = .cell (some (.ref P))
  kL : ∃ o, (cL, o) ∈ l ∧ o.data = .cell (some (.ref LA))
  kD : ∃ o v, (cD, o) ∈ l ∧ o.data = .cell v
  out : ∀ a, a ∈ [cP, cL, cD, P, C, ML] ++ bs → a ∉ f1 ∧ a ∉ ft ∧ a ≠ LA
  nod : [cP, cL, cD, P, C, ML].Nodup
  nbs : ∀ a ∈ bs, a ∉ [cP, cL, cD, P, C, ML]
theorem LawS.foot {w : World} {cP cL cD P C u hp b u2 ML LA : Addr} {p : Int} {EE : Nat} {lb ns : List Int} {cs : List (List Int)} {ms : List (Int × Int)} {f1 ft : List Addr} {va : List Value} {na : Nat} {bs : List Addr} {l : Led}
    (S : LawS w cP cL cD P C u hp b u2 ML LA p EE lb ns cs ms f1 ft va na bs l) : ∀ a, a ∈ [cP, cL, cD, P, C, ML] ++ bs → ∃ o, (a, o) ∈ l := by
  obtain ⟨vs, cells, n, n2, t, PI⟩ := S.pool
  obtain ⟨nm, hm⟩ := S.mer
  obtain ⟨o1, h1, _⟩ := S.kP
  obtain ⟨o2, h2, _⟩ := S.kL
  obtain ⟨o3, v3, h3, _⟩ := S.kD
  intro a ha
  simp only [List.cons_append, List.nil_append, List.mem_cons] at ha
  rcases ha with rfl | rfl | rfl | rfl | rfl | rfl | ha
  · exact ⟨_, h1⟩
  · exact ⟨_, h2⟩
  · exact ⟨_, h3⟩
  · exact ⟨_, PI.mp⟩
  · exact ⟨_, PI.mc⟩
  · exact ⟨_, hm⟩
  · obtain ⟨i, hi, e⟩ := List.getElem_of_mem ha
    obtain ⟨t1, t2, n, h⟩ := S.tups.2 i hi
    have e2 : bs.getD i 0 = a := by rw [← e]; simp [hi]
    exact ⟨_, e2 ▸ h⟩
/-- one more number -/
theorem LawS.more {w : World} {cP cL cD P C u hp b u2 ML LA : Addr} {p : Int} {EE : Nat} {lb ns lb' ns' : List Int} {cs cs' : List (List Int)} {ms : List (Int × Int)} {f1 ft f1' ft' : List Addr} {va va' : List Value} {na na' : Nat} {bs : List Addr} {l l' : Led}
    (S : LawS w cP cL cD P C u hp b u2 ML LA p EE lb ns cs ms f1 ft va na bs l) (H : LawIn w u hp b u2 LA EE lb' ns' cs' ms f1' ft' va' na' l') (T : Step2 f1 ft LA f1' ft' l l') :
    LawS w cP cL cD P C u hp b u2 ML LA p EE lb' ns' cs' ms f1' ft' va' na' bs l' := by
  have kp : ∀ q ∈ l, q.1 ∈ [cP, cL, cD, P, C, ML] ++ bs → q ∈ l' := fun q hq hin => by
    obtain ⟨a1, a2, a3⟩ := S.out _ hin
    exact T.keep q hq a1 a2 a3
  obtain ⟨vs, cells, n, n2, t, PI⟩ := S.pool
  obtain ⟨nm, hm⟩ := S.mer
  obtain ⟨o1, h1, d1⟩ := S.kP
  obtain ⟨o2, h2, d2⟩ := S.kL
  obtain ⟨o3, v3, h3, d3⟩ := S.kD
  refine ⟨H, ⟨vs, cells, n, n2, t, kp _ PI.mp (by simp), kp _ PI.mc (by simp), PI.ne, PI.hi, PI.pos, PI.hlen, PI.rng, PI.p0, PI.p1⟩, ⟨nm, kp _ hm (by simp)⟩, ⟨S.tups.1, fun i hi => ?_⟩, ⟨o1, kp _ h1 (by simp), d1⟩, ⟨o2, kp _ h2 (by simp), d2⟩, ⟨o3, v3, kp _ h3 (by simp), d3⟩, fun a ha => ?_, S.nod, S.nbs⟩
  · obtain ⟨t1, t2, n, h⟩ := S.tups.2 i hi
    exact ⟨t1, t2, n, kp _ h (List.mem_append_right _ (getD_mem hi))⟩
  · obtain ⟨a1, a2, a3⟩ := S.out a ha
    obtain ⟨o, ho⟩ := S.foot a ha
    refine ⟨fun h => ?_, fun h => ?_, a3⟩
    · rcases T.g1 a h with h | h
      · exact a1 h
      · exact h _ ho rfl
    · rcases T.gt a h with h | h
      · exact a2 h
      · exact h _ ho rfl
/-- what lies apart from the law's own may change -/
theorem LawS.move {w : World} {cP cL cD P C u hp b u2 ML LA : Addr} {p : Int} {EE : Nat} {lb ns : List Int} {cs : List (List Int)} {ms : List (Int × Int)} {f1 ft : List Addr} {va : List Value} {na : Nat} {bs : List Addr} {l l' : Led}
    (S : LawS w cP cL cD P C u hp b u2 ML LA p EE lb ns cs ms f1 ft va na bs l) (kp : ∀ q ∈ l, (q.1 ∈ [cP, cL, cD, P, C, ML] ++ bs ∨ q.1 ∈ f1 ∨ q.1 ∈ ft ∨ q.1 = LA) → q ∈ l') : LawS w cP cL cD P C u hp b u2 ML LA p EE lb ns cs ms f1 ft va na bs l' := by
  obtain ⟨vs, cells, n, n2, t, PI⟩ := S.pool
  obtain ⟨nm, hm⟩ := S.mer
  obtain ⟨o1, h1, d1⟩ := S.kP
  obtain ⟨o2, h2, d2⟩ := S.kL
  obtain ⟨o3, v3, h3, d3⟩ := S.kD
  refine ⟨S.law.move fun q hq e => kp q hq (.inr e), ⟨vs, cells, n, n2, t, kp _ PI.mp (by simp), kp _ PI.mc (by simp), PI.ne, PI.hi, PI.pos, PI.hlen, PI.rng, PI.p0, PI.p1⟩, ⟨nm, kp _ hm (by simp)⟩, ⟨S.tups.1, fun i hi => ?_⟩, ⟨o1, kp _ h1 (by simp), d1⟩, ⟨o2, kp _ h2 (by simp), d2⟩, ⟨o3, v3, kp _ h3 (by simp), d3⟩, S.out, S.nod, S.nbs⟩
  obtain ⟨t1, t2, n, h⟩ := S.tups.2 i hi
  exact ⟨t1, t2, n, kp _ h (.inl (List.mem_append_right _ (getD_mem hi)))⟩
theorem LawS.cons {w : World} {cP cL cD P C u hp b u2 ML LA : Addr} {p : Int} {EE : Nat} {lb ns : List Int} {cs : List (List Int)} {ms : List (Int × Int)} {f1 ft : List Addr} {va : List Value} {na : Nat} {bs : List Addr} {l : Led} {q : Addr × Obj}
    (S : LawS w cP cL cD P C u hp b u2 ML LA p EE lb ns cs ms f1 ft va na bs l) : LawS w cP cL cD P C u hp b u2 ML LA p EE lb ns cs ms f1 ft va na bs (q :: l) := S.move fun _ hq _ => .tail _ hq
/-- one draw -/
theorem LawS.pull {w : World} {cP cL cD P C u hp b u2 ML LA : Addr} {p p' : Int} {EE : Nat} {lb ns : List Int} {cs : List (List Int)} {ms : List (Int × Int)} {f1 ft : List Addr} {va : List Value} {na : Nat} {bs : List Addr} {l l' : Led} {vs : List Value} {cells : List Int} {n n2 : Nat} {t : Tok}
    (S : LawS w cP cL cD P C u hp b u2 ML LA p EE lb ns cs ms f1 ft va na bs l) (kp : ∀ q ∈ l, q.1 ≠ P → q ∈ l') (PI : PoolIn P C p' vs cells n n2 t l') : LawS w cP cL cD P C u hp b u2 ML LA p' EE lb ns cs ms f1 ft va na bs l' := by
  obtain ⟨nm, hm⟩ := S.mer
  obtain ⟨o1, h1, d1⟩ := S.kP
  obtain ⟨o2, h2, d2⟩ := S.kL
  obtain ⟨o3, v3, h3, d3⟩ := S.kD
  have nd := S.nod
  simp only [List.nodup_cons, List.mem_cons, List.not_mem_nil, or_false, not_or] at nd
  obtain ⟨⟨z1, z2, z3, z4, z5⟩, ⟨z6, z7, z8, z9⟩, ⟨z10, z11, z12⟩, ⟨z13, z14⟩, z15, _⟩ := nd
  have oP := S.out P (by simp)
  refine ⟨S.law.move fun q hq e => kp q hq fun e2 => ?_, ⟨vs, cells, n, n2, t, PI⟩, ⟨nm, kp _ hm (Ne.symm z14)⟩, ⟨S.tups.1, fun i hi => ?_⟩, ⟨o1, kp _ h1 z3, d1⟩, ⟨o2, kp _ h2 z7, d2⟩, ⟨o3, v3, kp _ h3 z10, d3⟩, S.out, S.nod, S.nbs⟩
  · rw [e2] at e
    rcases e with e | e | e
    · exact oP.1 e
    · exact oP.2.1 e
    · exact oP.2.2 e
  · obtain ⟨t1, t2, n, h⟩ := S.tups.2 i hi
    refine ⟨t1, t2, n, kp _ h fun e => S.nbs _ (getD_mem (d := 0) hi) ?_⟩
    rw [show bs.getD i 0 = P from e]; simp
end
section
open PyProof.Rows.LCg
example : True := by
  w_top off
  k_with_none
  k_with "omega" => lia
  trivial
theorem LawS.setD {w : World} {cP cL cD P C u hp b u2 ML LA : Addr} {p : Int} {EE : Nat} {lb ns : List Int} {cs : List (List Int)} {ms : List (Int × Int)} {f1 ft : List Addr} {va : List Value} {na : Nat} {bs : List Addr} {l l' : Led} {o' : Obj} {v : Option Value}
    (S : LawS w cP cL cD P C u hp b u2 ML LA p EE lb ns cs ms f1 ft va na bs l) (T : SetTo cD o' l l') (hd : o'.data = .cell v) : LawS w cP cL cD P C u hp b u2 ML LA p EE lb ns cs ms f1 ft va na bs l' := by
  obtain ⟨vs, cells, n, n2, t, PI⟩ := S.pool
  obtain ⟨nm, hm⟩ := S.mer
  obtain ⟨o1, h1, d1⟩ := S.kP
  obtain ⟨o2, h2, d2⟩ := S.kL
  obtain ⟨o3, v3, h3, d3⟩ := S.kD
  have nd := S.nod
  simp only [List.nodup_cons, List.mem_cons, List.not_mem_nil, or_false, not_or] at nd
  obtain ⟨⟨z1, z2, z3, z4, z5⟩, ⟨z6, z7, z8, z9⟩, ⟨z10, z11, z12⟩, ⟨z13, z14⟩, z15, _⟩ := nd
  have oP := S.out cD (by simp)
  refine ⟨S.law.move fun q hq e => T.keep q hq fun e2 => ?_, ⟨vs, cells, n, n2, t, T.keep _ PI.mp (Ne.symm z10), T.keep _ PI.mc (Ne.symm z11), PI.ne, PI.hi, PI.pos, PI.hlen, PI.rng, PI.p0, PI.p1⟩, ⟨nm, T.keep _ hm (Ne.symm z12)⟩, ⟨S.tups.1, fun i hi => ?_⟩, ⟨o1, T.keep _ h1 z2, d1⟩, ⟨o2, T.keep _ h2 z6, d2⟩, ⟨o', v, T.self _ h3, hd⟩, S.out, S.nod, S.nbs⟩
  · rw [e2] at e
    rcases e with e | e | e
    · exact oP.1 e
    · exact oP.2.1 e
    · exact oP.2.2 e
  · obtain ⟨t1, t2, n, h⟩ := S.tups.2 i hi
    refine ⟨t1, t2, n, T.keep _ h fun e => S.nbs _ (getD_mem (d := 0) hi) ?_⟩
    rw [show bs.getD i 0 = cD from e]; simp
/-- the heap in the law joins two -/
theorem HeapAt.merged {w : World} {hp b u : Addr} {EE : Nat} {ns : List Int} {cs cs' : List (List Int)} {ms ms' : List (Int × Int)} {k g : Int} {fh fb fu fh' fu' : List Addr} {l l' : Led}
    (T : Trio w hp b u (leafN ns.length) (leafK ns.length) (rootsAb ns) [] ns.length EE ns cs ms fh fb fu l)
    (H : HAt w hp b u (leafK ns.length) (fun j => if j = k then some (([] : List Int) ++ []) else if j = g then none else rootsAb ns j) ([] ++ []) ns.length (EE + 1) fh' l')
    (U : UAt w u (ns.set g.toNat k) cs' ms' fu' l') (dj : ∀ a ∈ fh', a ∉ fu') (kp : ∀ p ∈ l, p.1 ∉ fh → p.1 ∉ fu → p ∈ l') (gh : Grow fh fh' l) (gu : Grow fu fu' l)
    (hk0 : 0 ≤ k) (hkg : k < g) (hg : g < ns.length) (rk : ns.getD k.toNat 0 = k) :
    HeapAt w hp b u (EE + 1) (ns.set g.toNat k) cs' ms' (fh' ++ fb ++ fu') l' ∧ Grow (fh ++ fb ++ fu) (fh' ++ fb ++ fu') l ∧ ∀ p ∈ l, p.1 ∉ fh ++ fb ++ fu → p ∈ l' := by
  have hbx : ∀ a ∈ fb, a ∉ fh' := fun a ha h => by
    rcases gh a h with h | h
    · exact T.hb a h ha
    · obtain ⟨o, ho⟩ := T.b.footin a ha
      exact h _ ho rfl
  have hux : ∀ a ∈ fb, a ∉ fu' := fun a ha h => by
    rcases gu a h with h | h
    · exact T.bu a ha h
    · obtain ⟨o, ho⟩ := T.b.footin a ha
      exact h _ ho rfl
  refine ⟨⟨fh', fb, fu', ⟨?_, ?_, U, fun a h1 h2 => hbx a h2 h1, dj, hux⟩, rfl⟩, fun a ha => ?_, fun p hp hn => kp p hp (fun h => hn (by simp [h])) fun h => hn (by simp [h])⟩
  · rw [List.length_set, ← rootsAb_merge hk0 hkg hg rk]
    exact H
  · rw [List.length_set]
    exact T.b.move fun p hp e => kp p hp (fun h => T.hb _ h e) fun h => T.bu _ e h
  · rcases List.mem_append.mp ha with ha | ha
    · rcases List.mem_append.mp ha with ha | ha
      · rcases gh a ha with h | h
        · exact .inl (by simp [h])
        · exact .inr h
      · exact .inl (by simp [ha])
    · rcases gu a ha with h | h
      · exact .inl (by simp [h])
      · exact .inr h
theorem Tups.snoc {bs : List Addr} {ms : List (Int × Int)} {l l' : Led} {D : Addr} {k g : Int} {t1 t2 : Tok} {n : Nat} (h : Tups bs ms l) (kp : ∀ i, i < bs.length → ∀ o, (bs.getD i 0, o) ∈ l → (bs.getD i 0, o) ∈ l')
    (hm : (D, ({ cls := .type "tuple", data := .seq #[.int k t1, .int g t2] n } : Obj)) ∈ l') : Tups (bs ++ [D]) (ms ++ [(k, g)]) l' := by
  refine ⟨by simp [h.1], fun i hlt => ?_⟩
  have hl := h.1
  rw [List.length_append, List.length_singleton] at hlt
  by_cases e : i < bs.length
  · obtain ⟨a1, a2, a3, h1⟩ := h.2 i e
    exact ⟨a1, a2, a3, by rw [getD_app_lt e, getD_app_lt (by omega)]; exact kp i e _ h1⟩
  · have e2 : i = bs.length := by omega
    exact ⟨t1, t2, n, by rw [getD_app_last e2, getD_app_last (by omega)]; exact hm⟩
/-- both have joined two -/
theorem LawS.merged {w : World} {cP cL cD P C u hp b u2 ML LA LA' D : Addr} {p : Int} {EE : Nat} {lb ns lb' ns' : List Int} {cs cs' : List (List Int)} {ms : List (Int × Int)} {f1 ft f1' ft' : List Addr} {va va' : List Value} {na na' : Nat} {bs : List Addr} {l lm ln lh : Led} {k g : Int} {t1 t2 : Tok} {n nm : Nat}
    (S : LawS w cP cL cD P C u hp b u2 ML LA p EE lb ns cs ms f1 ft va na bs l)
    (kp : ∀ q ∈ l, q.1 ≠ cL → q.1 ≠ cD → q.1 ≠ ML → q ∈ lm) (ad : ∀ q ∈ l, ∃ o, (q.1, o) ∈ lm)
    (hD : (D, ({ cls := .type "tuple", data := .seq #[.int k t1, .int g t2] n } : Obj)) ∈ lm) (nD : ∀ q ∈ l, q.1 ≠ D)
    (hA : (LA', PySem.W.listOf va'.toArray na') ∈ lm) (nA : ∀ q ∈ l, q.1 ≠ LA') (hAD : D ≠ LA') (hi : IntsAre va' lb')
    (mer : (ML, PySem.W.listOf ((bs ++ [D]).map Value.ref).toArray nm) ∈ lm)
    (mL : ∃ o, (cL, o) ∈ lm ∧ o.data = .cell (some (.ref LA'))) (mD : ∃ o v, (cD, o) ∈ lm ∧ o.data = .cell v)
    (U : UAt w u ns' cs' (ms ++ [(k, g)]) f1' ln) (kU : Keeps f1 lm ln) (gU : Grow f1 f1' lm)
    (H : HeapAt w hp b u2 (EE + 1) ns' cs' (ms ++ [(k, g)]) ft' lh) (kH : ∀ q ∈ ln, q.1 ∉ ft → q ∈ lh) (gH : Grow ft ft' ln) (ad2 : ∀ q ∈ lm, ∃ o, (q.1, o) ∈ ln)
    (Fo : Forest ns' lb') (Lo : Lots cs' lb') :
    LawS w cP cL cD P C u hp b u2 ML LA' p (EE + 1) lb' ns' cs' (ms ++ [(k, g)]) f1' ft' va' na' (bs ++ [D]) lh := by
  obtain ⟨vs, cells, n1, n2, t, PI⟩ := S.pool
  obtain ⟨o1, h1, d1⟩ := S.kP
  obtain ⟨o2, h2, d2⟩ := mL
  obtain ⟨o3, v3, h3, d3⟩ := mD
  have nd := S.nod
  simp only [List.nodup_cons, List.mem_cons, List.not_mem_nil, or_false, not_or] at nd
  obtain ⟨⟨z1, z2, z3, z4, z5⟩, ⟨z6, z7, z8, z9⟩, ⟨z10, z11, z12⟩, ⟨z13, z14⟩, z15, _⟩ := nd
  have f1l : ∀ a ∈ f1, ∃ o, (a, o) ∈ l := fun a ha => S.law.lots.foot_in a ha
  have ftl : ∀ a ∈ ft, ∃ o, (a, o) ∈ l := fun a ha => S.law.heap.footin a ha
  -- an address of lm that is new to l, or one of the law's own, is in no new foot
  have o1' : ∀ a o, (a, o) ∈ lm → a ∉ f1 → a ∉ f1' := fun a o hm h h' => by
    rcases gU a h' with q | q
    · exact h q
    · exact q _ hm rfl
  have ot' : ∀ a o, (a, o) ∈ lm → a ∉ ft → a ∉ ft' := fun a o hm h h' => by
    rcases gH a h' with q | q
    · exact h q
    · obtain ⟨o', ho⟩ := ad2 _ hm
      exact q _ ho rfl
  have nf1 : ∀ a, (∀ q ∈ l, q.1 ≠ a) → a ∉ f1 := fun a h h' => by obtain ⟨o, ho⟩ := f1l a h'; exact h _ ho rfl
  have nft : ∀ a, (∀ q ∈ l, q.1 ≠ a) → a ∉ ft := fun a h h' => by obtain ⟨o, ho⟩ := ftl a h'; exact h _ ho rfl
  have up : ∀ q ∈ lm, q.1 ∉ f1 → q.1 ∉ ft → q ∈ lh := fun q hq a1 a2 => kH q (kU q hq a1) a2
  have own : ∀ a o, a ∈ [cP, cL, cD, P, C, ML] ++ bs → (a, o) ∈ lm → (a, o) ∈ lh := fun a o ha hm => by
    obtain ⟨a1, a2, a3⟩ := S.out a ha
    exact up _ hm a1 a2
  have lnin : ∀ a ∈ f1', ∃ o, (a, o) ∈ ln := fun a ha => U.foot_in a ha
  have bsn : ∀ i, i < bs.length → bs.getD i 0 ∉ [cP, cL, cD, P, C, ML] := fun i hi => S.nbs _ (getD_mem hi)
  refine ⟨⟨?_, H, up _ hA (nf1 _ nA) (nft _ nA), hi, Fo, Lo, fun a h1 h2 => ?_, o1' _ _ hA (nf1 _ nA), ot' _ _ hA (nft _ nA)⟩, ⟨vs, cells, n1, n2, t, own _ _ (by simp) (kp _ PI.mp ?_ ?_ ?_), own _ _ (by simp) (kp _ PI.mc ?_ ?_ ?_), PI.ne, PI.hi, PI.pos, PI.hlen, PI.rng, PI.p0, PI.p1⟩, ⟨nm, own _ _ (by simp) mer⟩, Tups.snoc S.tups (fun i hi o ho => ?_) (up _ hD (nf1 _ nD) (nft _ nD)), ⟨o1, own _ _ (by simp) (kp _ h1 ?_ ?_ ?_), d1⟩, ⟨o2, own _ _ (by simp) h2, d2⟩, ⟨o3, v3, own _ _ (by simp) h3, d3⟩, fun a ha => ?_, S.nod, fun a ha => ?_⟩
  · refine U.move fun q hq e => kH q hq fun e2 => ?_
    rcases gU _ e with x | x
    · exact S.law.ap _ x e2
    · obtain ⟨o, ho⟩ := ftl _ e2
      obtain ⟨o', ho'⟩ := ad _ ho
      exact x _ ho' rfl
  · obtain ⟨o, ho⟩ := lnin a h1
    rcases gH a h2 with x | x
    · rcases gU a h1 with y | y
      · exact S.law.ap _ y x
      · obtain ⟨o2, ho2⟩ := ftl _ x
        obtain ⟨o', ho'⟩ := ad _ ho2
        exact y _ ho' rfl
    · exact x _ ho rfl
  · exact Ne.symm z7
  · exact Ne.symm z10
  · exact z14
  · exact Ne.symm z8
  · exact Ne.symm z11
  · exact z15
  · have hb := bsn i hi
    simp only [List.mem_cons, List.not_mem_nil, or_false, not_or] at hb
    exact own _ _ (List.mem_append_right _ (getD_mem hi)) (kp _ ho hb.2.1 hb.2.2.1 hb.2.2.2.2.2)
  · exact z1
  · exact z2
  · exact z5
  · rw [← List.append_assoc] at ha
    rcases List.mem_append.mp ha with ha | ha
    · obtain ⟨a1, a2, a3⟩ := S.out a ha
      obtain ⟨o, ho⟩ := S.foot a ha
      obtain ⟨o', ho'⟩ := ad _ ho
      exact ⟨o1' _ _ ho' a1, ot' _ _ ho' a2, nA _ ho⟩
    · rw [List.mem_singleton.mp ha]
      exact ⟨o1' _ _ hD (nf1 _ nD), ot' _ _ hD (nft _ nD), hAD⟩
  · rcases List.mem_append.mp ha with ha | ha
    · exact S.nbs a ha
    · rw [List.mem_singleton.mp ha]
      intro h
      obtain ⟨o, ho⟩ := S.foot D (List.mem_append_left _ h)
      exact nD _ ho rfl
/-- the heap told of one class -/
theorem LawS.tell {w : World} {cP cL cD P C u hp b u2 ML LA : Addr} {p : Int} {EE EE' : Nat} {lb ns : List Int} {cs : List (List Int)} {ms : List (Int × Int)} {f1 ft : List Addr} {va : List Value} {na : Nat} {bs : List Addr} {l l' : Led}
    (S : LawS w cP cL cD P C u hp b u2 ML LA p EE lb ns cs ms f1 ft va na bs l) (H : HeapAt w hp b u2 EE' ns cs ms ft l') (kH : ∀ q ∈ l, q.1 ∉ ft → q ∈ l') : LawS w cP cL cD P C u hp b u2 ML LA p EE' lb ns cs ms f1 ft va na bs l' := by
  have T : Step2 f1 ft LA f1 ft l l' := ⟨fun q hq _ h _ => kH q hq h, Grow.rfl, Grow.rfl⟩
  obtain ⟨vs, cells, n, n2, t, PI⟩ := S.pool
  obtain ⟨nm, hm⟩ := S.mer
  obtain ⟨o1, h1, d1⟩ := S.kP
  obtain ⟨o2, h2, d2⟩ := S.kL
  obtain ⟨o3, v3, h3, d3⟩ := S.kD
  have kp : ∀ q ∈ l, q.1 ∈ [cP, cL, cD, P, C, ML] ++ bs → q ∈ l' := fun q hq hin => kH q hq (S.out _ hin).2.1
  refine ⟨⟨S.law.lots.move fun q hq e => kH q hq (S.law.ap _ e), H, kH _ S.law.labs S.law.lat, S.law.lints, S.law.fo, S.law.lo, S.law.ap, S.law.la1, S.law.lat⟩, ⟨vs, cells, n, n2, t, kp _ PI.mp (by simp), kp _ PI.mc (by simp), PI.ne, PI.hi, PI.pos, PI.hlen, PI.rng, PI.p0, PI.p1⟩, ⟨nm, kp _ hm (by simp)⟩, ⟨S.tups.1, fun i hi => ?_⟩, ⟨o1, kp _ h1 (by simp), d1⟩, ⟨o2, kp _ h2 (by simp), d2⟩, ⟨o3, v3, kp _ h3 (by simp), d3⟩, S.out, S.nod, S.nbs⟩
  obtain ⟨t1, t2, n, h⟩ := S.tups.2 i hi
  exact ⟨t1, t2, n, kp _ h (List.mem_append_right _ (getD_mem hi))⟩
theorem HeapAt.told {w : World} {hp b u : Addr} {EE : Nat} {ns : List Int} {cs : List (List Int)} {ms : List (Int × Int)} {fh fb fu : List Addr} {l l' : Led}
    (T : Trio w hp b u (leafN ns.length) (leafK ns.length) (rootsAb ns) [] ns.length EE ns cs ms fh fb fu l)
    (H : HAt w hp b u (leafK ns.length) (rootsAb ns) [] ns.length (EE + 1) fh l') (U : UAt w u ns cs ms fu l') (kp : Keeps fh l l') :
    HeapAt w hp b u (EE + 1) ns cs ms (fh ++ fb ++ fu) l' ∧ ∀ p ∈ l, p.1 ∉ fh ++ fb ++ fu → p ∈ l' :=
  ⟨⟨fh, fb, fu, ⟨H, T.b.move fun p hp e => kp p hp fun h => T.hb _ h e, U, T.hb, T.hu, T.bu⟩, rfl⟩, fun p hp hn => kp p hp fun h => hn (by simp [h])⟩
theorem LawS.foots {w : World} {cP cL cD P C u hp b u2 ML LA : Addr} {p : Int} {EE : Nat} {lb ns : List Int} {cs : List (List Int)} {ms : List (Int × Int)} {f1 ft : List Addr} {va : List Value} {na : Nat} {bs : List Addr} {l : Led}
    (S : LawS w cP cL cD P C u hp b u2 ML LA p EE lb ns cs ms f1 ft va na bs l) : ∀ a, (a ∈ [cP, cL, cD, P, C, ML] ++ bs ∨ a ∈ f1 ∨ a ∈ ft ∨ a = LA) → ∃ o, (a, o) ∈ l := by
  rintro a (h | h | h | h)
  · exact S.foot a h
  · exact S.law.lots.foot_in a h
  · exact S.law.heap.footin a h
  · exact ⟨_, h ▸ S.law.labs⟩
theorem CompEnd.mkS {h₀ : Heap} {L I C D : Addr} {m : Str → Option Value} {s₁ : Shared} {oI oC oD : Obj} {rest : Value → Led → Prop} {y : Value} {h' : Heap} {tk : Nat} {l' : Led} (F : Fr h₀ L h' m) (N : News h₀ L h' l') (mI : (I, oI) ∈ l') (mC : (C, oC) ∈ l') (mD : (D, oD) ∈ l')
    (hJ : ∀ l'', (∀ p ∈ l', p.1 ≠ I → p.1 ≠ C → p.1 ≠ D → p ∈ l'') → rest y l'') :
    CompEnd h₀ L m s₁ I oI C oC D oD (fun _ => True) rest y { s₁ with heap := h', toks := tk } := by
  refine CompEnd.intro F N (l'.filter fun p => decide (p.1 ≠ I ∧ p.1 ≠ C ∧ p.1 ≠ D)) (fun p hp => ?_) (Off3.of fun p hp => ?_) trivial (hJ _ fun p hp h1 h2 h3 => ?_)
  · rcases List.mem_cons.mp hp with rfl | h
    · exact mI
    rcases List.mem_cons.mp h with rfl | h
    · exact mC
    rcases List.mem_cons.mp h with rfl | h
    · exact mD
    exact (List.mem_filter.mp h).1
  · have := of_decide_eq_true (List.mem_filter.mp hp).2
    exact this
  · exact List.mem_filter.mpr ⟨hp, decide_eq_true ⟨h1, h2, h3⟩⟩
theorem tup_item1 {prog : Program} {w : World} {A : Around} {E : Value → Shared → Prop} {s : Shared} {h₀ : Heap} {L l : Addr} {news : Led} {value slice : PySem.Expr} {x y : Value} {vs : List Value} {n : Nat} {u : Tok} {Q : Value → Shared → Prop}
    (N : News h₀ L s.heap news) (hm : (l, tupOf (x :: y :: vs).toArray n) ∈ news) (h : Q y s)
    (hs : subscripted slice false (.ref l) (.int 1 u) = operate [.ref l, .int 1 u] (getItem (.ref l) (.int 1 u)) := by with_unfolding_all rfl) :
    wpAny (model prog w) A (subscriptTail value slice (.ref l) (.int 1 u)) Q E s := by
  have hl : IsTup s.heap l (x :: y :: vs).toArray := ⟨_, (N _ hm).1, rfl, n, rfl⟩
  exact tail_any hl.typeIs PySem.F.slot_tuple_getitem.lookup (getItem_tuple (j := 1) hl (by decide) (by decide) (seqIndex_of (by decide) (by simp; omega)) (by simp) h) hs
theorem ne_tup_same {prog : Program} {w : World} {A : Around} {E : Value → Shared → Prop} {s : Shared} {h₀ : Heap} {L a b : Addr} {news : Led} {k g : Int} {t1 t2 t3 t4 : Tok} {n n2 : Nat} {Q : Value → Shared → Prop}
    (N : News h₀ L s.heap news) (ha : (a, ({ cls := .type "tuple", data := .seq #[.int k t1, .int g t2] n } : Obj)) ∈ news) (hb : (b, ({ cls := .type "tuple", data := .seq #[.int k t3, .int g t4] n2 } : Obj)) ∈ news) (hu : A.units + 64 < cLine) (h : Q (.bool false) s) :
    wpAny (model prog w) A (compareOp .NotEq (.ref a) (.ref b)) Q E s := by
  have mix : SeqAt.noMix (.tuple [.int k, .int g]) (.tuple [.int k, .int g]) = true :=
    SeqAt.noMix_of_shape (.tuple [.int, .int]) rfl _ _ rfl rfl
  refine ne_dataH_same (da := .tuple [.int k, .int g]) (db := .tuple [.int k, .int g]) (reads_tuple_at (N _ ha).1 rfl rfl (.cons (.int _ _) (.cons (.int _ _) .nil))) (reads_tuple_at (N _ hb).1 rfl rfl (.cons (.int _ _) (.cons (.int _ _) .nil))) (by simp [SeqAt.shaped, PyData.canLay0, PyData.canLayAll0, PyData.depth, PyData.depthAll]) (by simp [SeqAt.shaped, PyData.canLay0, PyData.canLayAll0, PyData.depth, PyData.depthAll]) hu mix ?_
  rw [PySem.Spec.same_self]; exact h
theorem due_led {l l3 l1 l' : Led} {cD ML D2 Lx Dx D : Addr} {o2 o1 oM oX oY oT oN : Obj} (S2 : SetTo cD o1 ((D2, o2) :: l) l3) (lx : ∀ p ∈ l3, p.1 < Lx) (lD : ∀ q ∈ (Lx, oX) :: l3, q.1 < Dx) (l0 : ∀ p ∈ (Dx, oY) :: (Lx, oX) :: l3, p.1 < D)
    (SM : SetTo cD oM ((D, oT) :: (Dx, oY) :: (Lx, oX) :: l3) l1) (SN : SetTo ML oN l1 l') {x y : Obj} (kD : (cD, x) ∈ l) (mM : (ML, y) ∈ l) (hne : cD ≠ ML) :
    (∀ q ∈ l, q.1 ≠ cD → q.1 ≠ ML → q ∈ l') ∧ (∀ q ∈ l, ∃ o, (q.1, o) ∈ l') ∧ (∀ q ∈ l, q.1 ≠ D) ∧ (D, oT) ∈ l' ∧ (cD, oM) ∈ l' ∧ (ML, oN) ∈ l' ∧ D ≠ cD ∧ D ≠ ML := by
  have a3 : ∀ q ∈ l, ∃ o, (q.1, o) ∈ l3 := fun q hq => S2.addr (.tail _ hq)
  have nD : ∀ q ∈ l, q.1 ≠ D := fun q hq => by
    obtain ⟨o, ho⟩ := a3 q hq
    have := l0 (q.1, o) (.tail _ (.tail _ ho))
    exact Nat.ne_of_lt this
  have c3 := S2.self _ (.tail _ kD)
  have m3 := S2.keep _ (.tail _ mM) (Ne.symm hne)
  have c1 := SM.self _ (.tail _ (.tail _ (.tail _ c3)))
  have m1 := SM.keep _ (.tail _ (.tail _ (.tail _ m3))) (Ne.symm hne)
  have D1 := SM.keep _ (.head _) (nD _ kD).symm
  refine ⟨fun q hq e1 e2 => SN.keep _ (SM.keep _ (.tail _ (.tail _ (.tail _ (S2.keep _ (.tail _ hq) e1)))) e1) e2, fun q hq => ?_, nD, SN.keep _ D1 (nD _ mM).symm, SN.keep _ c1 hne, SN.self _ m1, (nD _ kD).symm, (nD _ mM).symm⟩
  obtain ⟨o, ho⟩ := a3 q hq
  obtain ⟨o', ho'⟩ := SM.addr (.tail _ (.tail _ (.tail _ ho)) : (q.1, o) ∈ (D, oT) :: (Dx, oY) :: (Lx, oX) :: l3)
  exact SN.addr (p := (q.1, o')) ho'
theorem relab_take {lb : List Int} {i : Nat} (h : i < lb.length) (k g : Int) : relab k g (lb.take (i + 1)) = relab k g (lb.take i) ++ [if lb.getD i 0 = g then k else lb.getD i 0] := by
  unfold relab
  rw [List.take_add_one, List.getElem?_eq_getElem h, List.map_append, List.getD_eq_getElem?_getD, List.getElem?_eq_getElem h]; rfl
theorem two_roots {ns lb : List Int} (F : Forest ns lb) {a c : Int} (ha : 0 ≤ a) (ha1 : a < ns.length) (hc : 0 ≤ c) (hc1 : c < ns.length) (hne : lb.getD a.toNat 0 ≠ lb.getD c.toNat 0) {k g : Int} (hk : k = min (lb.getD a.toNat 0) (lb.getD c.toNat 0)) (hg : g = max (lb.getD a.toNat 0) (lb.getD c.toNat 0)) :
    0 ≤ k ∧ k < g ∧ g < ns.length ∧ ns.getD k.toNat 0 = k ∧ ns.getD g.toNat 0 = g ∧ lb.getD k.toNat 0 = k ∧ lb.getD g.toNat 0 = g := by
  obtain ⟨a1, a2⟩ := F.rng a.toNat (by omega)
  obtain ⟨c1, c2⟩ := F.rng c.toNat (by omega)
  obtain ⟨a3, a4⟩ := F.root a.toNat (by omega)
  obtain ⟨c3, c4⟩ := F.root c.toNat (by omega)
  have hl := F.len
  generalize lb.getD a.toNat 0 = A at *
  generalize lb.getD c.toNat 0 = B at *
  by_cases h : A < B
  · have e1 : k = A := hk.trans (Int.min_eq_left (Int.le_of_lt h))
    have e2 : g = B := hg.trans (Int.max_eq_right (Int.le_of_lt h))
    clear hk hg
    subst e1 e2
    exact ⟨a1, h, Int.lt_of_le_of_lt c2 (by rw [Int.toNat_of_nonneg hc]; exact hc1), a3, c3, a4, c4⟩
  · have h' : B ≤ A := Int.not_lt.mp h
    have e1 : k = B := hk.trans (Int.min_eq_right h')
    have e2 : g = A := hg.trans (Int.max_eq_left h')
    clear hk hg
    subst e1 e2
    exact ⟨c1, Int.lt_iff_le_and_ne.mpr ⟨h', fun e => hne e.symm⟩, Int.lt_of_le_of_lt a2 (by rw [Int.toNat_of_nonneg ha]; exact ha1), c3, a3, c4, a4⟩
theorem law_map {m0 : Str → Option Value} {ML hp u : Addr} {x y z x' y' z' : Option Value} (m : Str → Option Value) (hm : ∀ n, m n = if n = Str.ofString "other" then z else if n = Str.ofString "one" then y else if n = Str.ofString "turn" then x else if n = Str.ofString "turn" then x' else if n = Str.ofString "one" then y' else if n = Str.ofString "other" then z' else if n = Str.ofString "merges" then some (Value.ref ML) else if n = Str.ofString "heap" then some (Value.ref hp) else if n = Str.ofString "lots" then some (Value.ref u) else m0 n) :
    ∃ o1 o2 o3, m = fun y => if y = Str.ofString "turn" then o1 else if y = Str.ofString "one" then o2 else if y = Str.ofString "other" then o3 else if y = Str.ofString "merges" then some (Value.ref ML) else if y = Str.ofString "heap" then some (Value.ref hp) else if y = Str.ofString "lots" then some (Value.ref u) else m0 y := by
  refine ⟨x, y, z, funext fun n => ?_⟩
  rw [hm]
  by_cases e1 : n = Str.ofString "turn"
  · subst e1; rfl
  by_cases e2 : n = Str.ofString "one"
  · subst e2; rfl
  by_cases e3 : n = Str.ofString "other"
  · subst e3; rfl
  simp only [if_neg e1, if_neg e2, if_neg e3]
end
section
example : True := by
  w_top off
  k_with_none
  k_with "ktr_room" => ((try simp only [depth_under_make, depth_under_kw, depth_in1, depth_deeper, depth_caller]); (try dsimp only); first | exact room_up2 (by with_reducible assumption) rfl | exact room_up (by with_reducible assumption) rfl | exact room_0 (by with_reducible assumption) rfl | omega)
  k_with "ktr_units" => ((try simp only [units_in1, units_deeper, Around.mark_units, units_caller, units_under_make]); (try dsimp only); first | exact room_up2 (by with_reducible assumption) rfl | exact room_up (by with_reducible assumption) rfl | exact room_0 (by with_reducible assumption) rfl | omega)
  k_with "tb_start" => ((case kB => k_asm); (case kF => k_asm); (case kX => k_asm); (case kN => k_asm); (case kT => k_asm); (case kA => exact rfl); (case kH => exact rfl); (case kf => exact rfl); (case kk => exact rfl); (case kd => ktr_room); (case ku => ktr_units))
  k_with "call ref" => (k_here; (with_reducible show wpAny _ _ (call (Value.ref 97) _) _ _ _); k_dflt (refine' con_use (find_con _ _ _ _ _ _ _ _ ?kzFO) ?kB ?kF ?kX ?kN ?kT ?kA ?kH ?kf ?kk ?kd ?ku ?hp ?_; (case kzFO => assumption); (case hp => exact ⟨by assumption, by first | assumption | omega, by first | assumption | omega⟩); tb_start);  intro _ _ _ _ _ _ hp'; obtain ⟨e', _, e2'⟩ := hp'; subst e'; subst e2'; (try dsimp only))
  k_with "subscriptTail" => (k_here; (with_reducible show wpAny _ _ (subscriptTail _ _ (Value.ref _) (Value.int _ _)) _ _ _); k_dflt (refine' item_ref ?kzN ?kzm ?kzh0 ?kzhk ?kzhh ?_ ?kzhs; (case kzN => k_asm); (case kzhk => assumption); (case kzm => k_mem); (case kzh0 => omega); (case kzhh => omega); (case kzhs => with_unfolding_all rfl); k_whole))
  k_with "newList" => (k_here; k_dflt (refine' newList_led ?kzF ?kzN ?_ ?kzz; (case kzF => k_asm); (case kzN => k_asm); (case kzz => first | decide | kso_len)); intro _ _ _ _ _; (try k_sweep))
  k_with "call builtin:sorted" => (k_here; (with_reducible show wpAny _ _ (call (Value.builtin _) [Value.ref _]) _ _ _); k_dflt (with_unfolding_all refine' kso_sorted ?kzk1 ?kzk2 (is_listN ?kzk2 ?kzk3) ?kzk4 ?kzk5 ?_; (case kzk1 => k_asm); (case kzk2 => k_asm); (case kzk3 => k_mem); (case kzk4 => l_ints); (case kzk5 => omega); k_whole); intro _ _ _ _ _ _ _ _ _ _ _ _ _; (try k_sweep))
  k_with "kso_len" => first | omega | (simp only [List.length_append, List.length_map, List.length_cons, List.length_nil, List.length_set]; omega)
  k_with "call builtin:len" => (k_here; (with_reducible show wpAny _ _ (call (Value.builtin "len") [Value.ref _]) _ _ _); k_dflt (refine' len_led ?kzN ?kzm ?kzk ?kzz ?_; (case kzN => k_asm); (case kzm => k_mem); (case kzk => first | exact IntsAre.length (by with_reducible assumption) | exact List.length_map _ | ((try simp only [List.length_append, List.length_map, List.length_cons, List.length_nil, List.length_set]); exact rfl)); (case kzz => kso_len)); intro _ _)
  k_with "call builtin:list.append" => (k_here; (with_reducible show wpAny _ _ (call (Value.builtin _) [Value.ref _, _]) _ _ _); k_dflt (refine' append_led ?kzF ?kzN ?kzm ?kzz ?_; (case kzF => k_asm); (case kzN => k_asm); (case kzm => k_mem); (case kzz => kso_len)); intro _ _ _; (try k_sweep))
  k_with "call builtin:list.extend" => (k_here; (with_reducible show wpAny _ _ (call (Value.builtin _) [Value.ref _, Value.ref _]) _ _ _); k_dflt (refine' extend_led ?kzF ?kzN ?kzm ?kzb ?kzz ?kzy ?_; (case kzF => k_asm); (case kzN => k_asm); (case kzm => k_mem); (case kzb => k_mem); (case kzz => kso_len); (case kzy => kso_len)); intro _ _ _ _; (try k_sweep))
  k_with "call type:list" => (k_here; (with_reducible show wpAny _ _ (call (Value.type _) [Value.ref _]) _ _ _); k_dflt (refine' list_led ?kzF ?kzN ?kzm ?kzz ?_; (case kzF => k_asm); (case kzN => k_asm); (case kzm => k_mem); (case kzz => kso_len)); intro _ _ _ _ _ _; (try k_sweep))
  k_with "setItem ref int" => (k_here; (with_reducible show wpAny _ _ (setItem (Value.ref _) (Value.int _ _) (Value.int _ _)) _ _ _); k_dflt (refine' set_led ?kzF ?kzN ?kzm ?kzi ?kza ?kzb ?kzz ?_; (case kzF => k_asm); (case kzN => k_asm); (case kzm => k_mem); (case kzi => with_reducible assumption); (case kza => omega); (case kzb => omega); (case kzz => omega)); intro _ _ _ _; (try k_sweep))
  k_with "call builtin:sorted" => (k_here; (with_reducible show wpAny _ _ (call (Value.builtin _) [Value.ref _]) _ _ _); k_dflt (refine' sorted_two ?kzF ?kzN ?kzm ?_; (case kzF => k_asm); (case kzN => k_asm); (case kzm => k_mem)); intro _ _ _ _ _ _ _ _; (try k_sweep))
  k_with "k_mem" => first | with_reducible assumption | ktr_member | ((with_reducible refine' mem_setL_self ?kya); (case kya => k_mem)) | ((with_reducible refine' mem_setL_ne ?kya ?kyb); (case kyb => first | with_reducible assumption | exact Ne.symm (by with_reducible assumption) | omega); (case kya => k_mem)) | exact List.Mem.head _ | (refine' List.mem_cons_of_mem _ ?_; k_mem)
  k_with "newTuple" => (k_here; k_dflt (refine' newTuple_led ?kzF ?kzN ?_ ?kzz; (case kzF => k_asm); (case kzN => k_asm); (case kzz => first | decide | kso_len)); intro _ _ _ _ _; (try k_sweep))
  k_with "CompSrc" => refine Hold.out ?_
  k_with "CompSrcT" => refine Hold.out ?_
  k_with "Src3" => refine Hold.out ?_
  k_with "eval ListComp" => (k_here; (fail_if_success lct_look); k_dflt (refine ListComp_3 (F₀ := by k_asm) (by with_unfolding_all rfl) (by decide) (by rfl) (by decide) (by rfl) ?_))
  k_with "eval ListComp" => (k_here; lct_look; k_dflt (refine LCt.ListComp_T (F₀ := by k_asm) (by with_unfolding_all rfl) (by decide) (by rfl) (by decide) (by rfl) ?_))
  k_with "StrSrc" => refine Hold.out ?_
  k_with "ktr_rel" => first | with_reducible assumption | exact tupIn_s (by k_mem) | exact tupIn_si (by k_mem) | ((with_reducible refine DH.cons ?_); ktr_rel) | ((with_reducible refine DI.cons ?_); ktr_rel) | ((with_reducible refine TupIn.cons ?_); ktr_rel)
  k_with "call type:tuple" => (k_here; (with_reducible show wpAny _ _ (call (Value.type _) [Value.ref _]) _ _ _); k_dflt (first | (refine' tup_same ?kzN ?kzm ?_; (case kzN => k_asm); (case kzm => k_mem)) | (refine' tup_list ?kzF ?kzN ?kzm ?kzz ?_; (case kzF => k_asm); (case kzN => k_asm); (case kzm => k_mem); (case kzz => first | decide | kso_len); intro _ _ _ _ _; (try k_sweep))))
  k_with "binaryOp Add" => (k_here; (with_reducible show wpAny _ _ (binaryOp _ (Value.ref _) (Value.ref _)) _ _ _); k_dflt (first | (refine' tup_add0 ?kzF ?kzN ?kzm ?kzb ?kzv ?kzz ?_; (case kzF => k_asm); (case kzN => k_asm); (case kzm => k_mem); (case kzb => k_mem); (case kzv => simp); (case kzz => first | decide | kso_len)) | (refine' tup_add ?kzF ?kzN ?kzm ?kzb ?kzv ?kzy ?kzz ?kzx ?_; (case kzF => k_asm); (case kzN => k_asm); (case kzm => k_mem); (case kzb => k_mem); (case kzv => simp); (case kzy => simp); (case kzz => first | decide | kso_len); (case kzx => first | decide | kso_len); intro _ _ _ _ _; (try k_sweep))))
  k_with "subscriptTail" => (k_here; (with_reducible show wpAny _ _ (subscriptTail _ (Expr.Slice _ _ _ _) (Value.ref _) (Value.ref _)) _ _ _); k_dflt (refine' tup_slice1 ?kzF ?kzN ?kzm ?kzz ?_ ?kzs; (case kzs => with_unfolding_all rfl); (case kzF => k_asm); (case kzN => k_asm); (case kzm => k_mem); (case kzz => first | decide | kso_len)); intro _ _ _ _ _; (try k_sweep))
  k_with "compareOp In" => (k_here; (with_reducible show wpAny _ _ (compareOp CmpOp.In (Value.ref _) (Value.ref _)) _ _ _); k_dflt (refine' dh_in ?kzu ?kzN ?kzH ?kzT ?_; (case kzN => k_asm); (case kzH => ktr_rel); (case kzT => ktr_rel); (case kzu => ktr_units)); intro _; (try dsimp only))
  k_with "compareOp In" => (k_here; (with_reducible show wpAny _ _ (compareOp CmpOp.In (Value.ref _) (Value.ref _)) _ _ _); k_dflt (refine' dh_in_none ?kzu ?kzN ?kzH ?kzT ?kzK ?_; (case kzN => k_asm); (case kzH => ktr_rel); (case kzT => ktr_rel); (case kzK => with_reducible assumption); (case kzu => ktr_units)); intro _; (try dsimp only))
  k_with "setItem ref ref" => (k_here; k_dflt (refine' dh_set ?kzu ?kzF ?kzN ?kzH ?kzT ?kzz ?_; (case kzF => k_asm); (case kzN => k_asm); (case kzH => ktr_rel); (case kzT => ktr_rel); (case kzu => ktr_units); (case kzz => omega)); intro _ _ _ _ _ _; (try k_sweep))
  k_with "getMethod ref" => (k_here; (with_reducible show wpAny _ _ (getMethod (Value.ref _) (Str.ofString "setdefault") _) _ _ _); k_dflt (refine' dh_method PySem.F.slot_dict_setdefault PySem.F.type_dict_setdefault ?kzN ?kzH ?_; (case kzN => k_asm); (case kzH => ktr_rel)))
  k_with "getMethod ref" => (k_here; (with_reducible show wpAny _ _ (getMethod (Value.ref _) (Str.ofString "get") _) _ _ _); k_dflt (refine' dh_method PySem.F.slot_dict_get PySem.F.type_dict_get ?kzN ?kzH ?_; (case kzN => k_asm); (case kzH => ktr_rel)))
  k_with "getMethod ref" => (k_here; (with_reducible show wpAny _ _ (getMethod (Value.ref _) (Str.ofString "pop") _) _ _ _); k_dflt (refine' di_method PySem.F.slot_dict_pop PySem.F.type_dict_pop ?kzN ?kzH ?_; (case kzN => k_asm); (case kzH => ktr_rel)))
  k_with "omega" => lia
  trivial
theorem usize_con {w : World} (u : Addr) (ns : List Int) (cs : List (List Int)) (ms : List (Int × Int)) (foot : List Addr) :
    Con w 90 [.ref u] 10 100 (fun news => UAt w u ns cs ms foot news) (fun news news' r => news' = news ∧ ∃ t, r = .int ns.length t) := by
  intro mean mg mb dp un gd env outer A₀ base h₀ L m news s Q E B F X N T hf hk hd hu U hret
  obtain ⟨du, la, ll, lm, nd, na, nl, nm, k1, k2, k3, vs, as, bs, I, hfoot⟩ := U
  have m1 := I.inst
  have m2 := I.dict
  have m3 := I.above
  have hi := I.vints
  have hsm := I.small
  have hvl := hi.length
  refine wpAny_call ?_
  ((refine' code_def (binds := ([("self", .ref u)])) ?k1 ?k2 ?k3 ?k4 ?k5 ?kA ?kF ?kK ?k6 ?k7 ?k8 ?k9 ?kB ?_ ?c2 ?c3 ?c4 ?c5; (case kA => exact rfl); (case kF => assumption); (case kK => assumption); (case k1 => k_asm); (case k2 => k_asm); (case k3 => k_asm); (case k4 => k_asm); (case k5 => k_asm); (case k6 => k_is); (case k7 => k_is); (case k8 => first | omega | ktr_room | (dsimp only; omega)); (case k9 => exact BindsTo.of_eq rfl); (case c5 => decide); (case kB => exact locs rfl); (case c2 => exact rfl); (case c3 => exact rfl); (case c4 => exact rfl); k_whole; intro g' L' h' FG' F' N' B' X' T'; (try dsimp only); (try k_lift B'); (try k_fold)))
  k_steps
  exact hret _ _ _ _ (by assumption) (by assumption) ⟨rfl, _, rfl⟩
end
section
example : True := by
  w_top off
  k_with_none
  k_with "ktr_room" => ((try simp only [depth_under_make, depth_under_kw, depth_in1, depth_deeper, depth_caller]); (try dsimp only); first | exact room_up2 (by with_reducible assumption) rfl | exact room_up (by with_reducible assumption) rfl | exact room_0 (by with_reducible assumption) rfl | omega)
  k_with "ktr_units" => ((try simp only [units_in1, units_deeper, Around.mark_units, units_caller, units_under_make]); (try dsimp only); first | exact room_up2 (by with_reducible assumption) rfl | exact room_up (by with_reducible assumption) rfl | exact room_0 (by with_reducible assumption) rfl | omega)
  k_with "tb_start" => ((case kB => k_asm); (case kF => k_asm); (case kX => k_asm); (case kN => k_asm); (case kT => k_asm); (case kA => exact rfl); (case kH => exact rfl); (case kf => exact rfl); (case kk => exact rfl); (case kd => ktr_room); (case ku => ktr_units))
  k_with "call ref" => (k_here; (with_reducible show wpAny _ _ (call (Value.ref 97) _) _ _ _); k_dflt (refine' con_use (find_con _ _ _ _ _ _ _ _ ?kzFO) ?kB ?kF ?kX ?kN ?kT ?kA ?kH ?kf ?kk ?kd ?ku ?hp ?_; (case kzFO => assumption); (case hp => exact ⟨by assumption, by first | assumption | omega, by first | assumption | omega⟩); tb_start);  intro _ _ _ _ _ _ hp'; obtain ⟨e', _, e2'⟩ := hp'; subst e'; subst e2'; (try dsimp only))
  k_with "subscriptTail" => (k_here; (with_reducible show wpAny _ _ (subscriptTail _ _ (Value.ref _) (Value.int _ _)) _ _ _); k_dflt (refine' item_ref ?kzN ?kzm ?kzh0 ?kzhk ?kzhh ?_ ?kzhs; (case kzN => k_asm); (case kzhk => assumption); (case kzm => k_mem); (case kzh0 => omega); (case kzhh => omega); (case kzhs => with_unfolding_all rfl); k_whole))
  k_with "newList" => (k_here; k_dflt (refine' newList_led ?kzF ?kzN ?_ ?kzz; (case kzF => k_asm); (case kzN => k_asm); (case kzz => first | decide | kso_len)); intro _ _ _ _ _; (try k_sweep))
  k_with "call builtin:sorted" => (k_here; (with_reducible show wpAny _ _ (call (Value.builtin _) [Value.ref _]) _ _ _); k_dflt (with_unfolding_all refine' kso_sorted ?kzk1 ?kzk2 (is_listN ?kzk2 ?kzk3) ?kzk4 ?kzk5 ?_; (case kzk1 => k_asm); (case kzk2 => k_asm); (case kzk3 => k_mem); (case kzk4 => l_ints); (case kzk5 => omega); k_whole); intro _ _ _ _ _ _ _ _ _ _ _ _ _; (try k_sweep))
  k_with "kso_len" => first | omega | (simp only [List.length_append, List.length_map, List.length_cons, List.length_nil, List.length_set]; omega)
  k_with "call builtin:len" => (k_here; (with_reducible show wpAny _ _ (call (Value.builtin "len") [Value.ref _]) _ _ _); k_dflt (refine' len_led ?kzN ?kzm ?kzk ?kzz ?_; (case kzN => k_asm); (case kzm => k_mem); (case kzk => first | exact IntsAre.length (by with_reducible assumption) | exact List.length_map _ | ((try simp only [List.length_append, List.length_map, List.length_cons, List.length_nil, List.length_set]); exact rfl)); (case kzz => kso_len)); intro _ _)
  k_with "call builtin:list.append" => (k_here; (with_reducible show wpAny _ _ (call (Value.builtin _) [Value.ref _, _]) _ _ _); k_dflt (refine' append_led ?kzF ?kzN ?kzm ?kzz ?_; (case kzF => k_asm); (case kzN => k_asm); (case kzm => k_mem); (case kzz => kso_len)); intro _ _ _; (try k_sweep))
  k_with "call builtin:list.extend" => (k_here; (with_reducible show wpAny _ _ (call (Value.builtin _) [Value.ref _, Value.ref _]) _ _ _); k_dflt (refine' extend_led ?kzF ?kzN ?kzm ?kzb ?kzz ?kzy ?_; (case kzF => k_asm); (case kzN => k_asm); (case kzm => k_mem); (case kzb => k_mem); (case kzz => kso_len); (case kzy => kso_len)); intro _ _ _ _; (try k_sweep))
  k_with "call type:list" => (k_here; (with_reducible show wpAny _ _ (call (Value.type _) [Value.ref _]) _ _ _); k_dflt (refine' list_led ?kzF ?kzN ?kzm ?kzz ?_; (case kzF => k_asm); (case kzN => k_asm); (case kzm => k_mem); (case kzz => kso_len)); intro _ _ _ _ _ _; (try k_sweep))
  k_with "setItem ref int" => (k_here; (with_reducible show wpAny _ _ (setItem (Value.ref _) (Value.int _ _) (Value.int _ _)) _ _ _); k_dflt (refine' set_led ?kzF ?kzN ?kzm ?kzi ?kza ?kzb ?kzz ?_; (case kzF => k_asm); (case kzN => k_asm); (case kzm => k_mem); (case kzi => with_reducible assumption); (case kza => omega); (case kzb => omega); (case kzz => omega)); intro _ _ _ _; (try k_sweep))
  k_with "call builtin:sorted" => (k_here; (with_reducible show wpAny _ _ (call (Value.builtin _) [Value.ref _]) _ _ _); k_dflt (refine' sorted_two ?kzF ?kzN ?kzm ?_; (case kzF => k_asm); (case kzN => k_asm); (case kzm => k_mem)); intro _ _ _ _ _ _ _ _; (try k_sweep))
  k_with "k_mem" => first | with_reducible assumption | ktr_member | ((with_reducible refine' mem_setL_self ?kya); (case kya => k_mem)) | ((with_reducible refine' mem_setL_ne ?kya ?kyb); (case kyb => first | with_reducible assumption | exact Ne.symm (by with_reducible assumption) | omega); (case kya => k_mem)) | exact List.Mem.head _ | (refine' List.mem_cons_of_mem _ ?_; k_mem)
  k_with "newTuple" => (k_here; k_dflt (refine' newTuple_led ?kzF ?kzN ?_ ?kzz; (case kzF => k_asm); (case kzN => k_asm); (case kzz => first | decide | kso_len)); intro _ _ _ _ _; (try k_sweep))
  k_with "CompSrc" => refine Hold.out ?_
  k_with "CompSrcT" => refine Hold.out ?_
  k_with "Src3" => refine Hold.out ?_
  k_with "eval ListComp" => (k_here; (fail_if_success lct_look); k_dflt (refine ListComp_3 (F₀ := by k_asm) (by with_unfolding_all rfl) (by decide) (by rfl) (by decide) (by rfl) ?_))
  k_with "eval ListComp" => (k_here; lct_look; k_dflt (refine LCt.ListComp_T (F₀ := by k_asm) (by with_unfolding_all rfl) (by decide) (by rfl) (by decide) (by rfl) ?_))
  k_with "StrSrc" => refine Hold.out ?_
  k_with "ktr_rel" => first | with_reducible assumption | exact tupIn_s (by k_mem) | exact tupIn_si (by k_mem) | ((with_reducible refine DH.cons ?_); ktr_rel) | ((with_reducible refine DI.cons ?_); ktr_rel) | ((with_reducible refine TupIn.cons ?_); ktr_rel)
  k_with "call type:tuple" => (k_here; (with_reducible show wpAny _ _ (call (Value.type _) [Value.ref _]) _ _ _); k_dflt (first | (refine' tup_same ?kzN ?kzm ?_; (case kzN => k_asm); (case kzm => k_mem)) | (refine' tup_list ?kzF ?kzN ?kzm ?kzz ?_; (case kzF => k_asm); (case kzN => k_asm); (case kzm => k_mem); (case kzz => first | decide | kso_len); intro _ _ _ _ _; (try k_sweep))))
  k_with "binaryOp Add" => (k_here; (with_reducible show wpAny _ _ (binaryOp _ (Value.ref _) (Value.ref _)) _ _ _); k_dflt (first | (refine' tup_add0 ?kzF ?kzN ?kzm ?kzb ?kzv ?kzz ?_; (case kzF => k_asm); (case kzN => k_asm); (case kzm => k_mem); (case kzb => k_mem); (case kzv => simp); (case kzz => first | decide | kso_len)) | (refine' tup_add ?kzF ?kzN ?kzm ?kzb ?kzv ?kzy ?kzz ?kzx ?_; (case kzF => k_asm); (case kzN => k_asm); (case kzm => k_mem); (case kzb => k_mem); (case kzv => simp); (case kzy => simp); (case kzz => first | decide | kso_len); (case kzx => first | decide | kso_len); intro _ _ _ _ _; (try k_sweep))))
  k_with "subscriptTail" => (k_here; (with_reducible show wpAny _ _ (subscriptTail _ (Expr.Slice _ _ _ _) (Value.ref _) (Value.ref _)) _ _ _); k_dflt (refine' tup_slice1 ?kzF ?kzN ?kzm ?kzz ?_ ?kzs; (case kzs => with_unfolding_all rfl); (case kzF => k_asm); (case kzN => k_asm); (case kzm => k_mem); (case kzz => first | decide | kso_len)); intro _ _ _ _ _; (try k_sweep))
  k_with "compareOp In" => (k_here; (with_reducible show wpAny _ _ (compareOp CmpOp.In (Value.ref _) (Value.ref _)) _ _ _); k_dflt (refine' dh_in ?kzu ?kzN ?kzH ?kzT ?_; (case kzN => k_asm); (case kzH => ktr_rel); (case kzT => ktr_rel); (case kzu => ktr_units)); intro _; (try dsimp only))
  k_with "compareOp In" => (k_here; (with_reducible show wpAny _ _ (compareOp CmpOp.In (Value.ref _) (Value.ref _)) _ _ _); k_dflt (refine' dh_in_none ?kzu ?kzN ?kzH ?kzT ?kzK ?_; (case kzN => k_asm); (case kzH => ktr_rel); (case kzT => ktr_rel); (case kzK => with_reducible assumption); (case kzu => ktr_units)); intro _; (try dsimp only))
  k_with "setItem ref ref" => (k_here; k_dflt (refine' dh_set ?kzu ?kzF ?kzN ?kzH ?kzT ?kzz ?_; (case kzF => k_asm); (case kzN => k_asm); (case kzH => ktr_rel); (case kzT => ktr_rel); (case kzu => ktr_units); (case kzz => omega)); intro _ _ _ _ _ _; (try k_sweep))
  k_with "getMethod ref" => (k_here; (with_reducible show wpAny _ _ (getMethod (Value.ref _) (Str.ofString "setdefault") _) _ _ _); k_dflt (refine' dh_method PySem.F.slot_dict_setdefault PySem.F.type_dict_setdefault ?kzN ?kzH ?_; (case kzN => k_asm); (case kzH => ktr_rel)))
  k_with "getMethod ref" => (k_here; (with_reducible show wpAny _ _ (getMethod (Value.ref _) (Str.ofString "get") _) _ _ _); k_dflt (refine' dh_method PySem.F.slot_dict_get PySem.F.type_dict_get ?kzN ?kzH ?_; (case kzN => k_asm); (case kzH => ktr_rel)))
  k_with "getMethod ref" => (k_here; (with_reducible show wpAny _ _ (getMethod (Value.ref _) (Str.ofString "pop") _) _ _ _); k_dflt (refine' di_method PySem.F.slot_dict_pop PySem.F.type_dict_pop ?kzN ?kzH ?_; (case kzN => k_asm); (case kzH => ktr_rel)))
  k_with "k_mem" => first | with_reducible assumption | ktr_member | (refine' SetTo.it ?kys ?kya; (case kys => with_reducible assumption); (case kya => k_mem)) | (refine' SetTo.mem ?kys ?kya ?kyb; (case kys => with_reducible assumption); (case kyb => first | with_reducible assumption | exact Ne.symm (by with_reducible assumption) | (refine nen ?_; omega)); (case kya => k_mem)) | exact List.Mem.head _ | (refine' List.mem_cons_of_mem _ ?_; k_mem)
  k_with "ktr_rel" => (refine' TupIn.setTo ?kya ?kys ?kyb; (case kys => with_reducible assumption); (case kyb => first | with_reducible assumption | exact Ne.symm (by with_reducible assumption) | (refine nen ?_; omega)); (case kya => ktr_rel))
  k_with "call builtin:list.append" => (k_here; (with_reducible show wpAny _ _ (call (Value.builtin _) [Value.ref _, _]) _ _ _); k_dflt (refine' append_o ?kzF ?kzN ?kzm ?kzz ?_; (case kzF => k_asm); (case kzN => k_asm); (case kzm => k_mem); (case kzz => kso_len)); intro _ _ _ _ _; (try k_sweep))
  k_with "call builtin:list.extend" => (k_here; (with_reducible show wpAny _ _ (call (Value.builtin _) [Value.ref _, Value.ref _]) _ _ _); k_dflt (refine' extend_o ?kzF ?kzN ?kzm ?kzb ?kzz ?kzy ?_; (case kzF => k_asm); (case kzN => k_asm); (case kzm => k_mem); (case kzb => k_mem); (case kzz => kso_len); (case kzy => kso_len)); intro _ _ _ _ _ _; (try k_sweep))
  k_with "setItem ref int" => (k_here; (with_reducible show wpAny _ _ (setItem (Value.ref _) (Value.int _ _) (Value.int _ _)) _ _ _); k_dflt (refine' set_o ?kzF ?kzN ?kzm ?kzi ?kza ?kzb ?kzz ?_; (case kzF => k_asm); (case kzN => k_asm); (case kzm => k_mem); (case kzi => with_reducible assumption); (case kza => omega); (case kzb => omega); (case kzz => omega)); intro _ _ _ _ _ _; (try k_sweep))
  k_with "setItem ref ref" => (k_here; k_dflt (refine' dh_set_o ?kzu ?kzF ?kzN ?kzH ?kzT ?kzz ?_; (case kzF => k_asm); (case kzN => k_asm); (case kzH => ktr_rel); (case kzT => ktr_rel); (case kzu => ktr_units); (case kzz => omega)); intro _ _ _ _ _ _ _ _; (try k_sweep))
  k_with "subscriptTail" => (k_here; (with_reducible show wpAny _ _ (subscriptTail _ _ (Value.ref _) (Value.int 0 _)) _ _ _); k_dflt (refine' tup_item0 ?kzN ?kzm ?_ ?kzs; (case kzN => k_asm); (case kzm => k_mem); (case kzs => with_unfolding_all rfl)); k_whole)
  k_with "omega" => lia
  trivial
theorem pool_con {w : World} (sa : Addr) (vs : List Value) (ns : List Int) (hi : IntsAre vs ns) (hz : ns.length < 100) :
    ConB w (fun h => h.IsList sa vs.toArray) 397 [.ref sa] 20 200 (fun _ => True)
      (fun news news' r => ∃ P C vs cells n n2 t, r = .ref P ∧ PoolIn P C 0 vs cells n n2 t news' ∧ (∀ p ∈ news, p ∈ news') ∧ (∀ p ∈ news, p.1 ≠ P) ∧ ∀ p ∈ news, p.1 ≠ C) := by
  intro mean mg mb dp un gd env outer A₀ base h₀ L m news s Q E B F X N T hf hk hd hu _ hl hret
  refine wpAny_call ?_
  ((refine' code_def (binds := ([("script", .ref sa)])) ?k1 ?k2 ?k3 ?k4 ?k5 ?kA ?kF ?kK ?k6 ?k7 ?k8 ?k9 ?kB ?_ ?c2 ?c3 ?c4 ?c5; (case kA => exact rfl); (case kF => assumption); (case kK => assumption); (case k1 => k_asm); (case k2 => k_asm); (case k3 => k_asm); (case k4 => k_asm); (case k5 => k_asm); (case k6 => k_is); (case k7 => k_is); (case k8 => first | omega | ktr_room | (dsimp only; omega)); (case k9 => exact BindsTo.of_eq rfl); (case c5 => decide); (case kB => exact locs rfl); (case c2 => exact rfl); (case c3 => exact rfl); (case c4 => exact rfl); k_whole; intro g' L' h' FG' F' N' B' X' T'; (try dsimp only); (try k_lift B'); (try k_fold)))
  have hl1 : g'.IsList sa vs.toArray := FG'.lst hl
  k_steps
  rename_i D ws h1 F1 N1 l1 hI hC hL
  have hwl := hI.length
  have hlv := hi.length
  refine Hold.done (.inl (comp_list (vs := ws) (fun i ys l => l = (D, PySem.W.listOf ws.toArray 0) :: news ∧ IntsAre ys (((ns.take 40).take i).map (Int.fmod · 1000003))) rfl (by k_asm) (by k_asm) (by k_mem) (by omega) ⟨rfl, .nil⟩ ?_ ?_ ?_))
  · rintro i ys l ⟨rfl, _⟩
    exact .head _
  · rintro i v I oI C oC D2 m₂ ys l h tk E' hv ⟨rfl, hys⟩ hC2 hx F3 N3 off
    obtain ⟨tv, rfl⟩ := IntsAre.int_at hI i v hv
    k_steps
    refine ⟨_, _, _, rfl, F3, N3, off, trivial, rfl, ?_⟩
    have hil : i < ws.length := (List.getElem?_eq_some_iff.mp hv).1
    have e1 : (ns.take 40).take (i + 1) = (ns.take 40).take i ++ [(ns.take 40).getD i 0] := by
      rw [List.take_add_one (l := ns.take 40), List.getD_eq_getElem?_getD, List.getElem?_eq_getElem (by omega)]; rfl
    rw [e1, List.map_append]
    exact hys.append (.cons _ _ .nil)
  · rintro D2 ys l h tk ⟨rfl, hys⟩ F3 N3 hD
    k_steps
    rename_i la ha l2 lb hb i1 n1 s1 e1 e2 e3 l3 C cv hc hcI l4 P hp F4 N4 l5 kF kN Tc kX
    have c1 := ltn l4.2.2.2.1
    have c2 := ltn (l5 _ (.head _))
    dsimp only at c2
    refine hret _ _ _ _ kF kN ⟨P, C, cv, _, _, _, _, rfl, ⟨.head _, .tail _ (.head _), nen (by omega), hcI, ?_, ?_, ?_, by omega, by omega⟩, fun p hp => by repeat (first | assumption | refine List.mem_cons_of_mem _ ?_), fun p hp => ?_, fun p hp => ?_⟩
    · by_cases h0 : ns.length = 0
      · rw [h0]; simp
      · rw [List.length_append, List.length_map, List.length_take]; omega
    · rw [List.length_append, List.length_map, List.length_take, hC, e1]
      have : (n1 : Int) = (0 + 1 : Nat) * (if (↑ns.length == (0:Int)) = true then 1 else 0) := e3 (by split <;> omega)
      split at this <;> omega
    · intro c hc2
      rcases List.mem_append.mp hc2 with h | h
      · obtain ⟨x, _, rfl⟩ := List.mem_map.mp h
        exact ⟨Int.fmod_nonneg_of_pos _ (by decide), Int.fmod_lt_of_pos _ (by decide)⟩
      · have : c = 0 := by
          obtain ⟨l9, h1, h2⟩ := List.mem_flatten.mp h
          rw [List.eq_of_mem_replicate h1] at h2
          exact List.mem_singleton.mp h2
        omega
    · have c3 := ltn (l1 p hp)
      exact nen (by omega)
    · have c3 := ltn (l1 p hp)
      exact nen (by omega)
end
section
example : True := by
  w_top off
  k_with_none
  k_with "ktr_room" => ((try simp only [depth_under_make, depth_under_kw, depth_in1, depth_deeper, depth_caller]); (try dsimp only); first | exact room_up2 (by with_reducible assumption) rfl | exact room_up (by with_reducible assumption) rfl | exact room_0 (by with_reducible assumption) rfl | omega)
  k_with "ktr_units" => ((try simp only [units_in1, units_deeper, Around.mark_units, units_caller, units_under_make]); (try dsimp only); first | exact room_up2 (by with_reducible assumption) rfl | exact room_up (by with_reducible assumption) rfl | exact room_0 (by with_reducible assumption) rfl | omega)
  k_with "tb_start" => ((case kB => k_asm); (case kF => k_asm); (case kX => k_asm); (case kN => k_asm); (case kT => k_asm); (case kA => exact rfl); (case kH => exact rfl); (case kf => exact rfl); (case kk => exact rfl); (case kd => ktr_room); (case ku => ktr_units))
  k_with "call ref" => (k_here; (with_reducible show wpAny _ _ (call (Value.ref 97) _) _ _ _); k_dflt (refine' con_use (find_con _ _ _ _ _ _ _ _ ?kzFO) ?kB ?kF ?kX ?kN ?kT ?kA ?kH ?kf ?kk ?kd ?ku ?hp ?_; (case kzFO => assumption); (case hp => exact ⟨by assumption, by first | assumption | omega, by first | assumption | omega⟩); tb_start);  intro _ _ _ _ _ _ hp'; obtain ⟨e', _, e2'⟩ := hp'; subst e'; subst e2'; (try dsimp only))
  k_with "subscriptTail" => (k_here; (with_reducible show wpAny _ _ (subscriptTail _ _ (Value.ref _) (Value.int _ _)) _ _ _); k_dflt (refine' item_ref ?kzN ?kzm ?kzh0 ?kzhk ?kzhh ?_ ?kzhs; (case kzN => k_asm); (case kzhk => assumption); (case kzm => k_mem); (case kzh0 => omega); (case kzhh => omega); (case kzhs => with_unfolding_all rfl); k_whole))
  k_with "newList" => (k_here; k_dflt (refine' newList_led ?kzF ?kzN ?_ ?kzz; (case kzF => k_asm); (case kzN => k_asm); (case kzz => first | decide | kso_len)); intro _ _ _ _ _; (try k_sweep))
  k_with "call builtin:sorted" => (k_here; (with_reducible show wpAny _ _ (call (Value.builtin _) [Value.ref _]) _ _ _); k_dflt (with_unfolding_all refine' kso_sorted ?kzk1 ?kzk2 (is_listN ?kzk2 ?kzk3) ?kzk4 ?kzk5 ?_; (case kzk1 => k_asm); (case kzk2 => k_asm); (case kzk3 => k_mem); (case kzk4 => l_ints); (case kzk5 => omega); k_whole); intro _ _ _ _ _ _ _ _ _ _ _ _ _; (try k_sweep))
  k_with "kso_len" => first | omega | (simp only [List.length_append, List.length_map, List.length_cons, List.length_nil, List.length_set]; omega)
  k_with "call builtin:len" => (k_here; (with_reducible show wpAny _ _ (call (Value.builtin "len") [Value.ref _]) _ _ _); k_dflt (refine' len_led ?kzN ?kzm ?kzk ?kzz ?_; (case kzN => k_asm); (case kzm => k_mem); (case kzk => first | exact IntsAre.length (by with_reducible assumption) | exact List.length_map _ | ((try simp only [List.length_append, List.length_map, List.length_cons, List.length_nil, List.length_set]); exact rfl)); (case kzz => kso_len)); intro _ _)
  k_with "call builtin:list.append" => (k_here; (with_reducible show wpAny _ _ (call (Value.builtin _) [Value.ref _, _]) _ _ _); k_dflt (refine' append_led ?kzF ?kzN ?kzm ?kzz ?_; (case kzF => k_asm); (case kzN => k_asm); (case kzm => k_mem); (case kzz => kso_len)); intro _ _ _; (try k_sweep))
  k_with "call builtin:list.extend" => (k_here; (with_reducible show wpAny _ _ (call (Value.builtin _) [Value.ref _, Value.ref _]) _ _ _); k_dflt (refine' extend_led ?kzF ?kzN ?kzm ?kzb ?kzz ?kzy ?_; (case kzF => k_asm); (case kzN => k_asm); (case kzm => k_mem); (case kzb => k_mem); (case kzz => kso_len); (case kzy => kso_len)); intro _ _ _ _; (try k_sweep))
  k_with "call type:list" => (k_here; (with_reducible show wpAny _ _ (call (Value.type _) [Value.ref _]) _ _ _); k_dflt (refine' list_led ?kzF ?kzN ?kzm ?kzz ?_; (case kzF => k_asm); (case kzN => k_asm); (case kzm => k_mem); (case kzz => kso_len)); intro _ _ _ _ _ _; (try k_sweep))
  k_with "setItem ref int" => (k_here; (with_reducible show wpAny _ _ (setItem (Value.ref _) (Value.int _ _) (Value.int _ _)) _ _ _); k_dflt (refine' set_led ?kzF ?kzN ?kzm ?kzi ?kza ?kzb ?kzz ?_; (case kzF => k_asm); (case kzN => k_asm); (case kzm => k_mem); (case kzi => with_reducible assumption); (case kza => omega); (case kzb => omega); (case kzz => omega)); intro _ _ _ _; (try k_sweep))
  k_with "call builtin:sorted" => (k_here; (with_reducible show wpAny _ _ (call (Value.builtin _) [Value.ref _]) _ _ _); k_dflt (refine' sorted_two ?kzF ?kzN ?kzm ?_; (case kzF => k_asm); (case kzN => k_asm); (case kzm => k_mem)); intro _ _ _ _ _ _ _ _; (try k_sweep))
  k_with "k_mem" => first | with_reducible assumption | ktr_member | ((with_reducible refine' mem_setL_self ?kya); (case kya => k_mem)) | ((with_reducible refine' mem_setL_ne ?kya ?kyb); (case kyb => first | with_reducible assumption | exact Ne.symm (by with_reducible assumption) | omega); (case kya => k_mem)) | exact List.Mem.head _ | (refine' List.mem_cons_of_mem _ ?_; k_mem)
  k_with "newTuple" => (k_here; k_dflt (refine' newTuple_led ?kzF ?kzN ?_ ?kzz; (case kzF => k_asm); (case kzN => k_asm); (case kzz => first | decide | kso_len)); intro _ _ _ _ _; (try k_sweep))
  k_with "CompSrc" => refine Hold.out ?_
  k_with "CompSrcT" => refine Hold.out ?_
  k_with "Src3" => refine Hold.out ?_
  k_with "eval ListComp" => (k_here; (fail_if_success lct_look); k_dflt (refine ListComp_3 (F₀ := by k_asm) (by with_unfolding_all rfl) (by decide) (by rfl) (by decide) (by rfl) ?_))
  k_with "eval ListComp" => (k_here; lct_look; k_dflt (refine LCt.ListComp_T (F₀ := by k_asm) (by with_unfolding_all rfl) (by decide) (by rfl) (by decide) (by rfl) ?_))
  k_with "StrSrc" => refine Hold.out ?_
  k_with "ktr_rel" => first | with_reducible assumption | exact tupIn_s (by k_mem) | exact tupIn_si (by k_mem) | ((with_reducible refine DH.cons ?_); ktr_rel) | ((with_reducible refine DI.cons ?_); ktr_rel) | ((with_reducible refine TupIn.cons ?_); ktr_rel)
  k_with "call type:tuple" => (k_here; (with_reducible show wpAny _ _ (call (Value.type _) [Value.ref _]) _ _ _); k_dflt (first | (refine' tup_same ?kzN ?kzm ?_; (case kzN => k_asm); (case kzm => k_mem)) | (refine' tup_list ?kzF ?kzN ?kzm ?kzz ?_; (case kzF => k_asm); (case kzN => k_asm); (case kzm => k_mem); (case kzz => first | decide | kso_len); intro _ _ _ _ _; (try k_sweep))))
  k_with "binaryOp Add" => (k_here; (with_reducible show wpAny _ _ (binaryOp _ (Value.ref _) (Value.ref _)) _ _ _); k_dflt (first | (refine' tup_add0 ?kzF ?kzN ?kzm ?kzb ?kzv ?kzz ?_; (case kzF => k_asm); (case kzN => k_asm); (case kzm => k_mem); (case kzb => k_mem); (case kzv => simp); (case kzz => first | decide | kso_len)) | (refine' tup_add ?kzF ?kzN ?kzm ?kzb ?kzv ?kzy ?kzz ?kzx ?_; (case kzF => k_asm); (case kzN => k_asm); (case kzm => k_mem); (case kzb => k_mem); (case kzv => simp); (case kzy => simp); (case kzz => first | decide | kso_len); (case kzx => first | decide | kso_len); intro _ _ _ _ _; (try k_sweep))))
  k_with "subscriptTail" => (k_here; (with_reducible show wpAny _ _ (subscriptTail _ (Expr.Slice _ _ _ _) (Value.ref _) (Value.ref _)) _ _ _); k_dflt (refine' tup_slice1 ?kzF ?kzN ?kzm ?kzz ?_ ?kzs; (case kzs => with_unfolding_all rfl); (case kzF => k_asm); (case kzN => k_asm); (case kzm => k_mem); (case kzz => first | decide | kso_len)); intro _ _ _ _ _; (try k_sweep))
  k_with "compareOp In" => (k_here; (with_reducible show wpAny _ _ (compareOp CmpOp.In (Value.ref _) (Value.ref _)) _ _ _); k_dflt (refine' dh_in ?kzu ?kzN ?kzH ?kzT ?_; (case kzN => k_asm); (case kzH => ktr_rel); (case kzT => ktr_rel); (case kzu => ktr_units)); intro _; (try dsimp only))
  k_with "compareOp In" => (k_here; (with_reducible show wpAny _ _ (compareOp CmpOp.In (Value.ref _) (Value.ref _)) _ _ _); k_dflt (refine' dh_in_none ?kzu ?kzN ?kzH ?kzT ?kzK ?_; (case kzN => k_asm); (case kzH => ktr_rel); (case kzT => ktr_rel); (case kzK => with_reducible assumption); (case kzu => ktr_units)); intro _; (try dsimp only))
  k_with "setItem ref ref" => (k_here; k_dflt (refine' dh_set ?kzu ?kzF ?kzN ?kzH ?kzT ?kzz ?_; (case kzF => k_asm); (case kzN => k_asm); (case kzH => ktr_rel); (case kzT => ktr_rel); (case kzu => ktr_units); (case kzz => omega)); intro _ _ _ _ _ _; (try k_sweep))
  k_with "getMethod ref" => (k_here; (with_reducible show wpAny _ _ (getMethod (Value.ref _) (Str.ofString "setdefault") _) _ _ _); k_dflt (refine' dh_method PySem.F.slot_dict_setdefault PySem.F.type_dict_setdefault ?kzN ?kzH ?_; (case kzN => k_asm); (case kzH => ktr_rel)))
  k_with "getMethod ref" => (k_here; (with_reducible show wpAny _ _ (getMethod (Value.ref _) (Str.ofString "get") _) _ _ _); k_dflt (refine' dh_method PySem.F.slot_dict_get PySem.F.type_dict_get ?kzN ?kzH ?_; (case kzN => k_asm); (case kzH => ktr_rel)))
  k_with "getMethod ref" => (k_here; (with_reducible show wpAny _ _ (getMethod (Value.ref _) (Str.ofString "pop") _) _ _ _); k_dflt (refine' di_method PySem.F.slot_dict_pop PySem.F.type_dict_pop ?kzN ?kzH ?_; (case kzN => k_asm); (case kzH => ktr_rel)))
  k_with "k_mem" => first | with_reducible assumption | ktr_member | (refine' SetTo.it ?kys ?kya; (case kys => with_reducible assumption); (case kya => k_mem)) | (refine' SetTo.mem ?kys ?kya ?kyb; (case kys => with_reducible assumption); (case kyb => first | with_reducible assumption | exact Ne.symm (by with_reducible assumption) | (refine nen ?_; omega)); (case kya => k_mem)) | exact List.Mem.head _ | (refine' List.mem_cons_of_mem _ ?_; k_mem)
  k_with "ktr_rel" => (refine' TupIn.setTo ?kya ?kys ?kyb; (case kys => with_reducible assumption); (case kyb => first | with_reducible assumption | exact Ne.symm (by with_reducible assumption) | (refine nen ?_; omega)); (case kya => ktr_rel))
  k_with "call builtin:list.append" => (k_here; (with_reducible show wpAny _ _ (call (Value.builtin _) [Value.ref _, _]) _ _ _); k_dflt (refine' append_o ?kzF ?kzN ?kzm ?kzz ?_; (case kzF => k_asm); (case kzN => k_asm); (case kzm => k_mem); (case kzz => kso_len)); intro _ _ _ _ _; (try k_sweep))
  k_with "call builtin:list.extend" => (k_here; (with_reducible show wpAny _ _ (call (Value.builtin _) [Value.ref _, Value.ref _]) _ _ _); k_dflt (refine' extend_o ?kzF ?kzN ?kzm ?kzb ?kzz ?kzy ?_; (case kzF => k_asm); (case kzN => k_asm); (case kzm => k_mem); (case kzb => k_mem); (case kzz => kso_len); (case kzy => kso_len)); intro _ _ _ _ _ _; (try k_sweep))
  k_with "setItem ref int" => (k_here; (with_reducible show wpAny _ _ (setItem (Value.ref _) (Value.int _ _) (Value.int _ _)) _ _ _); k_dflt (refine' set_o ?kzF ?kzN ?kzm ?kzi ?kza ?kzb ?kzz ?_; (case kzF => k_asm); (case kzN => k_asm); (case kzm => k_mem); (case kzi => with_reducible assumption); (case kza => omega); (case kzb => omega); (case kzz => omega)); intro _ _ _ _ _ _; (try k_sweep))
  k_with "setItem ref ref" => (k_here; k_dflt (refine' dh_set_o ?kzu ?kzF ?kzN ?kzH ?kzT ?kzz ?_; (case kzF => k_asm); (case kzN => k_asm); (case kzH => ktr_rel); (case kzT => ktr_rel); (case kzu => ktr_units); (case kzz => omega)); intro _ _ _ _ _ _ _ _; (try k_sweep))
  k_with "subscriptTail" => (k_here; (with_reducible show wpAny _ _ (subscriptTail _ _ (Value.ref _) (Value.int 0 _)) _ _ _); k_dflt (refine' tup_item0 ?kzN ?kzm ?_ ?kzs; (case kzN => k_asm); (case kzm => k_mem); (case kzs => with_unfolding_all rfl)); k_whole)
  k_with "setAttr ref" => (k_here; k_dflt (refine' set_attr_o ?kzk1 ?kzk2 ?kzk3 ?kzmx ?kzmd ?kzk6 ?kzk7 ?kzk8 ?kzk9 ?kzk10 ?kzk11 ?kzk13 ?_; (case kzk1 => k_asm); (case kzk2 => k_asm); (case kzk3 => k_asm); (case kzmx => k_mem); (case kzmd => k_mem); (case kzk6 => k_is); (case kzk7 => k_is); (case kzk8 => k_is); (case kzk9 => k_is); (case kzk10 => k_get); (case kzk11 => k_put); (case kzk13 => exact Nat.le_of_ble_eq_true rfl); k_whole); intro _ _ _ _ _; (try k_sweep))
  k_with "omega" => lia
  trivial
theorem unew_con {w : World} :
    Con w 140 [] 20 200 (fun _ => True) (fun news news' r => ∃ u foot, r = .ref u ∧ UAt w u [] [] [] foot news' ∧ (∀ p ∈ news, p ∈ news') ∧ ∀ a ∈ foot, ∀ p ∈ news, p.1 ≠ a) := by
  intro mean mg mb dp un gd env outer A₀ base h₀ L m news s Q E B F X N T hf hk hd hu _ hret
  refine' call_cls ?k1 ?k2 ?k3 ?k4 ?k5 ?k6 ?_
  (case k1 => k_asm); (case k2 => k_asm); (case k3 => k_asm); (case k4 => k_is); (case k5 => k_is); (case k6 => k_is); k_whole
  intro x d h1 F1 N1 l1 l2
  have g1 := ltn l2
  have g2 : x ≠ d := Nat.ne_of_gt g1
  ((refine' code_def (binds := ([("self", .ref x)])) ?k1 ?k2 ?k3 ?k4 ?k5 ?kA ?kF ?kK ?k6 ?k7 ?k8 ?k9 ?kB ?_ ?c2 ?c3 ?c4 ?c5; (case kA => exact rfl); (case kF => assumption); (case kK => assumption); (case k1 => k_asm); (case k2 => k_asm); (case k3 => k_asm); (case k4 => k_asm); (case k5 => k_asm); (case k6 => k_is); (case k7 => k_is); (case k8 => first | omega | ktr_room | (dsimp only; omega)); (case k9 => exact BindsTo.of_eq rfl); (case c5 => decide); (case kB => exact locs rfl); (case c2 => exact rfl); (case c3 => exact rfl); (case c4 => exact rfl); k_whole; intro g' L' h' FG' F' N' B' X' T'; (try dsimp only); (try k_lift B'); (try k_fold)))
  k_steps
  rename_i tka la ha lt1 hb lb S1 tkb ll hc lt2 hd' lc S2 tkc lm he lt3 hf' ld F2 N2 S3 kF kN Tc kX
  have b1 := ltn (lt1 _ (.head _))
  dsimp only at b1
  have mla : (la, PySem.W.listOf #[] 0) ∈ lb := S1.keep _ (.head _) (nen (by show @Ne Nat la d; omega))
  have b3 := ltn (lt2 _ mla)
  dsimp only at b3
  have mll : (ll, PySem.W.listOf #[] 0) ∈ lc := S2.keep _ (.head _) (nen (by show @Ne Nat ll d; omega))
  have b4 := ltn (lt3 _ mll)
  dsimp only at b4
  have mlm : (lm, PySem.W.listOf #[] 0) ∈ ld := S3.keep _ (.head _) (nen (by show @Ne Nat lm d; omega))
  have ne : ∀ p ∈ news, p.1 ≠ d := fun p hp => Nat.ne_of_lt (l1 p hp)
  have md : (d, dictOf _ _) ∈ ld := S3.self _ (.tail _ (S2.self _ (.tail _ (S1.self _ (.tail _ (.tail _ (.head _)))))))
  refine hret _ _ _ _ kF kN ⟨x, x :: d :: la :: ll :: lm :: ([] ++ []), rfl, ⟨d, la, ll, lm, _, 0, 0, 0, _, _, _, [], [], [], ⟨?_, S3.keep _ (.tail _ (S2.keep _ (.tail _ (S1.keep _ (.tail _ (.head _)) g2)) g2)) g2, md, S3.keep _ (.tail _ (S2.keep _ (.tail _ mla) (nen (by show @Ne Nat la d; omega)))) (nen (by show @Ne Nat la d; omega)), .nil, S3.keep _ (.tail _ mll) (nen (by show @Ne Nat ll d; omega)), ⟨rfl, fun i h => absurd h (Nat.not_lt_zero _)⟩, mlm, ⟨rfl, fun i h => absurd h (Nat.not_lt_zero _)⟩, rfl, by show 0 < 60; omega, by show 0 < 60; omega, fun c h => absurd h List.not_mem_nil⟩, rfl⟩, fun p hp => S3.keep p (.tail _ (S2.keep p (.tail _ (S1.keep p (.tail _ (.tail _ (.tail _ hp))) (ne p hp))) (ne p hp))) (ne p hp), fun a ha p hp => ?_⟩
  · simp only [List.append_nil, List.nodup_cons, List.mem_cons, List.not_mem_nil, or_false, not_or, not_false_eq_true, List.nodup_nil, and_true]
    refine ⟨⟨?_, ?_, ?_, ?_⟩, ⟨?_, ?_, ?_⟩, ⟨?_, ?_⟩, ?_⟩ <;> (refine nen ?_; omega)
  · have h1 := ltn (l1 p hp)
    simp only [List.append_nil, List.mem_cons, List.not_mem_nil, or_false] at ha
    rcases ha with rfl | rfl | rfl | rfl | rfl <;> (refine nen ?_; omega)
end
section
example : True := by
  w_top off
  k_with_none
  k_with "ktr_room" => ((try simp only [depth_under_make, depth_under_kw, depth_in1, depth_deeper, depth_caller]); (try dsimp only); first | exact room_up2 (by with_reducible assumption) rfl | exact room_up (by with_reducible assumption) rfl | exact room_0 (by with_reducible assumption) rfl | omega)
  k_with "ktr_units" => ((try simp only [units_in1, units_deeper, Around.mark_units, units_caller, units_under_make]); (try dsimp only); first | exact room_up2 (by with_reducible assumption) rfl | exact room_up (by with_reducible assumption) rfl | exact room_0 (by with_reducible assumption) rfl | omega)
  k_with "tb_start" => ((case kB => k_asm); (case kF => k_asm); (case kX => k_asm); (case kN => k_asm); (case kT => k_asm); (case kA => exact rfl); (case kH => exact rfl); (case kf => exact rfl); (case kk => exact rfl); (case kd => ktr_room); (case ku => ktr_units))
  k_with "call ref" => (k_here; (with_reducible show wpAny _ _ (call (Value.ref 97) _) _ _ _); k_dflt (refine' con_use (find_con _ _ _ _ _ _ _ _ ?kzFO) ?kB ?kF ?kX ?kN ?kT ?kA ?kH ?kf ?kk ?kd ?ku ?hp ?_; (case kzFO => assumption); (case hp => exact ⟨by assumption, by first | assumption | omega, by first | assumption | omega⟩); tb_start);  intro _ _ _ _ _ _ hp'; obtain ⟨e', _, e2'⟩ := hp'; subst e'; subst e2'; (try dsimp only))
  k_with "subscriptTail" => (k_here; (with_reducible show wpAny _ _ (subscriptTail _ _ (Value.ref _) (Value.int _ _)) _ _ _); k_dflt (refine' item_ref ?kzN ?kzm ?kzh0 ?kzhk ?kzhh ?_ ?kzhs; (case kzN => k_asm); (case kzhk => assumption); (case kzm => k_mem); (case kzh0 => omega); (case kzhh => omega); (case kzhs => with_unfolding_all rfl); k_whole))
  k_with "newList" => (k_here; k_dflt (refine' newList_led ?kzF ?kzN ?_ ?kzz; (case kzF => k_asm); (case kzN => k_asm); (case kzz => first | decide | kso_len)); intro _ _ _ _ _; (try k_sweep))
  k_with "call builtin:sorted" => (k_here; (with_reducible show wpAny _ _ (call (Value.builtin _) [Value.ref _]) _ _ _); k_dflt (with_unfolding_all refine' kso_sorted ?kzk1 ?kzk2 (is_listN ?kzk2 ?kzk3) ?kzk4 ?kzk5 ?_; (case kzk1 => k_asm); (case kzk2 => k_asm); (case kzk3 => k_mem); (case kzk4 => l_ints); (case kzk5 => omega); k_whole); intro _ _ _ _ _ _ _ _ _ _ _ _ _; (try k_sweep))
  k_with "kso_len" => first | omega | (simp only [List.length_append, List.length_map, List.length_cons, List.length_nil, List.length_set]; omega)
  k_with "call builtin:len" => (k_here; (with_reducible show wpAny _ _ (call (Value.builtin "len") [Value.ref _]) _ _ _); k_dflt (refine' len_led ?kzN ?kzm ?kzk ?kzz ?_; (case kzN => k_asm); (case kzm => k_mem); (case kzk => first | exact IntsAre.length (by with_reducible assumption) | exact List.length_map _ | ((try simp only [List.length_append, List.length_map, List.length_cons, List.length_nil, List.length_set]); exact rfl)); (case kzz => kso_len)); intro _ _)
  k_with "call builtin:list.append" => (k_here; (with_reducible show wpAny _ _ (call (Value.builtin _) [Value.ref _, _]) _ _ _); k_dflt (refine' append_led ?kzF ?kzN ?kzm ?kzz ?_; (case kzF => k_asm); (case kzN => k_asm); (case kzm => k_mem); (case kzz => kso_len)); intro _ _ _; (try k_sweep))
  k_with "call builtin:list.extend" => (k_here; (with_reducible show wpAny _ _ (call (Value.builtin _) [Value.ref _, Value.ref _]) _ _ _); k_dflt (refine' extend_led ?kzF ?kzN ?kzm ?kzb ?kzz ?kzy ?_; (case kzF => k_asm); (case kzN => k_asm); (case kzm => k_mem); (case kzb => k_mem); (case kzz => kso_len); (case kzy => kso_len)); intro _ _ _ _; (try k_sweep))
  k_with "call type:list" => (k_here; (with_reducible show wpAny _ _ (call (Value.type _) [Value.ref _]) _ _ _); k_dflt (refine' list_led ?kzF ?kzN ?kzm ?kzz ?_; (case kzF => k_asm); (case kzN => k_asm); (case kzm => k_mem); (case kzz => kso_len)); intro _ _ _ _ _ _; (try k_sweep))
  k_with "setItem ref int" => (k_here; (with_reducible show wpAny _ _ (setItem (Value.ref _) (Value.int _ _) (Value.int _ _)) _ _ _); k_dflt (refine' set_led ?kzF ?kzN ?kzm ?kzi ?kza ?kzb ?kzz ?_; (case kzF => k_asm); (case kzN => k_asm); (case kzm => k_mem); (case kzi => with_reducible assumption); (case kza => omega); (case kzb => omega); (case kzz => omega)); intro _ _ _ _; (try k_sweep))
  k_with "call builtin:sorted" => (k_here; (with_reducible show wpAny _ _ (call (Value.builtin _) [Value.ref _]) _ _ _); k_dflt (refine' sorted_two ?kzF ?kzN ?kzm ?_; (case kzF => k_asm); (case kzN => k_asm); (case kzm => k_mem)); intro _ _ _ _ _ _ _ _; (try k_sweep))
  k_with "k_mem" => first | with_reducible assumption | ktr_member | ((with_reducible refine' mem_setL_self ?kya); (case kya => k_mem)) | ((with_reducible refine' mem_setL_ne ?kya ?kyb); (case kyb => first | with_reducible assumption | exact Ne.symm (by with_reducible assumption) | omega); (case kya => k_mem)) | exact List.Mem.head _ | (refine' List.mem_cons_of_mem _ ?_; k_mem)
  k_with "newTuple" => (k_here; k_dflt (refine' newTuple_led ?kzF ?kzN ?_ ?kzz; (case kzF => k_asm); (case kzN => k_asm); (case kzz => first | decide | kso_len)); intro _ _ _ _ _; (try k_sweep))
  k_with "CompSrc" => refine Hold.out ?_
  k_with "CompSrcT" => refine Hold.out ?_
  k_with "Src3" => refine Hold.out ?_
  k_with "eval ListComp" => (k_here; (fail_if_success lct_look); k_dflt (refine ListComp_3 (F₀ := by k_asm) (by with_unfolding_all rfl) (by decide) (by rfl) (by decide) (by rfl) ?_))
  k_with "eval ListComp" => (k_here; lct_look; k_dflt (refine LCt.ListComp_T (F₀ := by k_asm) (by with_unfolding_all rfl) (by decide) (by rfl) (by decide) (by rfl) ?_))
  k_with "StrSrc" => refine Hold.out ?_
  k_with "ktr_rel" => first | with_reducible assumption | exact tupIn_s (by k_mem) | exact tupIn_si (by k_mem) | ((with_reducible refine DH.cons ?_); ktr_rel) | ((with_reducible refine DI.cons ?_); ktr_rel) | ((with_reducible refine TupIn.cons ?_); ktr_rel)
  k_with "call type:tuple" => (k_here; (with_reducible show wpAny _ _ (call (Value.type _) [Value.ref _]) _ _ _); k_dflt (first | (refine' tup_same ?kzN ?kzm ?_; (case kzN => k_asm); (case kzm => k_mem)) | (refine' tup_list ?kzF ?kzN ?kzm ?kzz ?_; (case kzF => k_asm); (case kzN => k_asm); (case kzm => k_mem); (case kzz => first | decide | kso_len); intro _ _ _ _ _; (try k_sweep))))
  k_with "binaryOp Add" => (k_here; (with_reducible show wpAny _ _ (binaryOp _ (Value.ref _) (Value.ref _)) _ _ _); k_dflt (first | (refine' tup_add0 ?kzF ?kzN ?kzm ?kzb ?kzv ?kzz ?_; (case kzF => k_asm); (case kzN => k_asm); (case kzm => k_mem); (case kzb => k_mem); (case kzv => simp); (case kzz => first | decide | kso_len)) | (refine' tup_add ?kzF ?kzN ?kzm ?kzb ?kzv ?kzy ?kzz ?kzx ?_; (case kzF => k_asm); (case kzN => k_asm); (case kzm => k_mem); (case kzb => k_mem); (case kzv => simp); (case kzy => simp); (case kzz => first | decide | kso_len); (case kzx => first | decide | kso_len); intro _ _ _ _ _; (try k_sweep))))
  k_with "subscriptTail" => (k_here; (with_reducible show wpAny _ _ (subscriptTail _ (Expr.Slice _ _ _ _) (Value.ref _) (Value.ref _)) _ _ _); k_dflt (refine' tup_slice1 ?kzF ?kzN ?kzm ?kzz ?_ ?kzs; (case kzs => with_unfolding_all rfl); (case kzF => k_asm); (case kzN => k_asm); (case kzm => k_mem); (case kzz => first | decide | kso_len)); intro _ _ _ _ _; (try k_sweep))
  k_with "compareOp In" => (k_here; (with_reducible show wpAny _ _ (compareOp CmpOp.In (Value.ref _) (Value.ref _)) _ _ _); k_dflt (refine' dh_in ?kzu ?kzN ?kzH ?kzT ?_; (case kzN => k_asm); (case kzH => ktr_rel); (case kzT => ktr_rel); (case kzu => ktr_units)); intro _; (try dsimp only))
  k_with "compareOp In" => (k_here; (with_reducible show wpAny _ _ (compareOp CmpOp.In (Value.ref _) (Value.ref _)) _ _ _); k_dflt (refine' dh_in_none ?kzu ?kzN ?kzH ?kzT ?kzK ?_; (case kzN => k_asm); (case kzH => ktr_rel); (case kzT => ktr_rel); (case kzK => with_reducible assumption); (case kzu => ktr_units)); intro _; (try dsimp only))
  k_with "setItem ref ref" => (k_here; k_dflt (refine' dh_set ?kzu ?kzF ?kzN ?kzH ?kzT ?kzz ?_; (case kzF => k_asm); (case kzN => k_asm); (case kzH => ktr_rel); (case kzT => ktr_rel); (case kzu => ktr_units); (case kzz => omega)); intro _ _ _ _ _ _; (try k_sweep))
  k_with "getMethod ref" => (k_here; (with_reducible show wpAny _ _ (getMethod (Value.ref _) (Str.ofString "setdefault") _) _ _ _); k_dflt (refine' dh_method PySem.F.slot_dict_setdefault PySem.F.type_dict_setdefault ?kzN ?kzH ?_; (case kzN => k_asm); (case kzH => ktr_rel)))
  k_with "getMethod ref" => (k_here; (with_reducible show wpAny _ _ (getMethod (Value.ref _) (Str.ofString "get") _) _ _ _); k_dflt (refine' dh_method PySem.F.slot_dict_get PySem.F.type_dict_get ?kzN ?kzH ?_; (case kzN => k_asm); (case kzH => ktr_rel)))
  k_with "getMethod ref" => (k_here; (with_reducible show wpAny _ _ (getMethod (Value.ref _) (Str.ofString "pop") _) _ _ _); k_dflt (refine' di_method PySem.F.slot_dict_pop PySem.F.type_dict_pop ?kzN ?kzH ?_; (case kzN => k_asm); (case kzH => ktr_rel)))
  k_with "k_mem" => first | with_reducible assumption | ktr_member | (refine' SetTo.it ?kys ?kya; (case kys => with_reducible assumption); (case kya => k_mem)) | (refine' SetTo.mem ?kys ?kya ?kyb; (case kys => with_reducible assumption); (case kyb => first | with_reducible assumption | exact Ne.symm (by with_reducible assumption) | (refine nen ?_; omega)); (case kya => k_mem)) | exact List.Mem.head _ | (refine' List.mem_cons_of_mem _ ?_; k_mem)
  k_with "ktr_rel" => (refine' TupIn.setTo ?kya ?kys ?kyb; (case kys => with_reducible assumption); (case kyb => first | with_reducible assumption | exact Ne.symm (by with_reducible assumption) | (refine nen ?_; omega)); (case kya => ktr_rel))
  k_with "call builtin:list.append" => (k_here; (with_reducible show wpAny _ _ (call (Value.builtin _) [Value.ref _, _]) _ _ _); k_dflt (refine' append_o ?kzF ?kzN ?kzm ?kzz ?_; (case kzF => k_asm); (case kzN => k_asm); (case kzm => k_mem); (case kzz => kso_len)); intro _ _ _ _ _; (try k_sweep))
  k_with "call builtin:list.extend" => (k_here; (with_reducible show wpAny _ _ (call (Value.builtin _) [Value.ref _, Value.ref _]) _ _ _); k_dflt (refine' extend_o ?kzF ?kzN ?kzm ?kzb ?kzz ?kzy ?_; (case kzF => k_asm); (case kzN => k_asm); (case kzm => k_mem); (case kzb => k_mem); (case kzz => kso_len); (case kzy => kso_len)); intro _ _ _ _ _ _; (try k_sweep))
  k_with "setItem ref int" => (k_here; (with_reducible show wpAny _ _ (setItem (Value.ref _) (Value.int _ _) (Value.int _ _)) _ _ _); k_dflt (refine' set_o ?kzF ?kzN ?kzm ?kzi ?kza ?kzb ?kzz ?_; (case kzF => k_asm); (case kzN => k_asm); (case kzm => k_mem); (case kzi => with_reducible assumption); (case kza => omega); (case kzb => omega); (case kzz => omega)); intro _ _ _ _ _ _; (try k_sweep))
  k_with "setItem ref ref" => (k_here; k_dflt (refine' dh_set_o ?kzu ?kzF ?kzN ?kzH ?kzT ?kzz ?_; (case kzF => k_asm); (case kzN => k_asm); (case kzH => ktr_rel); (case kzT => ktr_rel); (case kzu => ktr_units); (case kzz => omega)); intro _ _ _ _ _ _ _ _; (try k_sweep))
  k_with "subscriptTail" => (k_here; (with_reducible show wpAny _ _ (subscriptTail _ _ (Value.ref _) (Value.int 0 _)) _ _ _); k_dflt (refine' tup_item0 ?kzN ?kzm ?_ ?kzs; (case kzN => k_asm); (case kzm => k_mem); (case kzs => with_unfolding_all rfl)); k_whole)
  k_with "setAttr ref" => (k_here; k_dflt (refine' set_attr_o ?kzk1 ?kzk2 ?kzk3 ?kzmx ?kzmd ?kzk6 ?kzk7 ?kzk8 ?kzk9 ?kzk10 ?kzk11 ?kzk13 ?_; (case kzk1 => k_asm); (case kzk2 => k_asm); (case kzk3 => k_asm); (case kzmx => k_mem); (case kzmd => k_mem); (case kzk6 => k_is); (case kzk7 => k_is); (case kzk8 => k_is); (case kzk9 => k_is); (case kzk10 => k_get); (case kzk11 => k_put); (case kzk13 => exact Nat.le_of_ble_eq_true rfl); k_whole); intro _ _ _ _ _; (try k_sweep))
  k_with "eval Dict nil nil" => (k_here; k_dflt (refine' dh_new ?kzk1 ?kzk2 (TopRead.nolimit (by k_asm)) ?_; (case kzk1 => k_asm); (case kzk2 => k_asm); k_whole); intro _ _ _ _ _ _ _ _ _; (try k_sweep))
  k_with "omega" => lia
  trivial
noncomputable def k4 (a b c d : Tok) : Nat → Tok
  | 0 => a
  | 1 => b
  | 2 => c
  | _ => d
theorem bnew_con {w : World} :
    Con w 256 [] 20 200 (fun _ => True) (fun news news' r => ∃ b foot, r = .ref b ∧ BAt w b [] foot news' ∧ (∀ p ∈ news, p ∈ news') ∧ ∀ a ∈ foot, ∀ p ∈ news, p.1 ≠ a) := by
  intro mean mg mb dp un gd env outer A₀ base h₀ L m news s Q E B F X N T hf hk hd hu _ hret
  refine' call_cls ?k1 ?k2 ?k3 ?k4 ?k5 ?k6 ?_
  (case k1 => k_asm); (case k2 => k_asm); (case k3 => k_asm); (case k4 => k_is); (case k5 => k_is); (case k6 => k_is); k_whole
  intro x d h1 F1 N1 l1 l2
  have g1 := ltn l2
  have g2 : x ≠ d := Nat.ne_of_gt g1
  ((refine' code_def (binds := ([("self", .ref x)])) ?k1 ?k2 ?k3 ?k4 ?k5 ?kA ?kF ?kK ?k6 ?k7 ?k8 ?k9 ?kB ?_ ?c2 ?c3 ?c4 ?c5; (case kA => exact rfl); (case kF => assumption); (case kK => assumption); (case k1 => k_asm); (case k2 => k_asm); (case k3 => k_asm); (case k4 => k_asm); (case k5 => k_asm); (case k6 => k_is); (case k7 => k_is); (case k8 => first | omega | ktr_room | (dsimp only; omega)); (case k9 => exact BindsTo.of_eq rfl); (case c5 => decide); (case kB => exact locs rfl); (case c2 => exact rfl); (case c3 => exact rfl); (case c4 => exact rfl); k_whole; intro g' L' h' FG' F' N' B' X' T'; (try dsimp only); (try k_lift B'); (try k_fold)))
  k_steps
  rename_i tka ln ha lt1 hb lb S1 tkb dn hc od lt2 lo di dd hd' lc S2 lw he lt3 hf' le S3 tkc ld hg lt4 hi' lf F2 N2 S4 kF kN Tc kX
  have b1 := ltn (lt1 _ (.head _))
  dsimp only at b1
  have mln : (ln, PySem.W.listOf #[] 0) ∈ lb := S1.keep _ (.head _) (nen (by show @Ne Nat ln d; omega))
  have b3 := ltn (lt2 _ mln)
  dsimp only at b3
  have mln2 : (ln, PySem.W.listOf #[] 0) ∈ lc := S2.keep _ (.tail _ mln) (nen (by show @Ne Nat ln d; omega))
  have ndn : dn ≠ d := nen (by show @Ne Nat dn d; omega)
  have ddc : DH PySem.Challenge.rw_pq0123_02.row.prog w dn [] lc := dd.setTo S2 ndn (fun a h => absurd h List.not_mem_nil)
  have b4 := ltn (lt3 _ (S2.keep _ (.head _) ndn))
  dsimp only at b4
  have mlw : (lw, PySem.W.listOf #[] 0) ∈ le := S3.keep _ (.head _) (nen (by show @Ne Nat lw d; omega))
  have b5 := ltn (lt4 _ mlw)
  dsimp only at b5
  have mln3 : (ln, PySem.W.listOf #[] 0) ∈ le := S3.keep _ (.tail _ mln2) (nen (by show @Ne Nat ln d; omega))
  have dde : DH PySem.Challenge.rw_pq0123_02.row.prog w dn [] le := (ddc.cons).setTo S3 ndn (fun a h => absurd h List.not_mem_nil)
  have mlnf : (ln, PySem.W.listOf #[] 0) ∈ lf := S4.keep _ (.tail _ mln3) (nen (by show @Ne Nat ln d; omega))
  have ddf : DH PySem.Challenge.rw_pq0123_02.row.prog w dn [] lf := (dde.cons).setTo S4 ndn (fun a h => absurd h List.not_mem_nil)
  have mlwf : (lw, PySem.W.listOf #[] 0) ∈ lf := S4.keep _ (.tail _ mlw) (nen (by show @Ne Nat lw d; omega))
  have mldf : (ld, PySem.W.listOf #[] 0) ∈ lf := S4.keep _ (.head _) (nen (by show @Ne Nat ld d; omega))
  have ne : ∀ p ∈ news, p.1 ≠ d := fun p hp => Nat.ne_of_lt (l1 p hp)
  have mx : (x, instObj 256 d) ∈ lf := S4.keep _ (.tail _ (S3.keep _ (.tail _ (S2.keep _ (.tail _ (S1.keep _ (.tail _ (.head _)) g2)) g2)) g2)) g2
  have md : (d, dictOf _ _) ∈ lf := S4.self _ (.tail _ (S3.self _ (.tail _ (S2.self _ (.tail _ (S1.self _ (.tail _ (.tail _ (.head _)))))))))
  obtain ⟨odf, mdn⟩ := ddf.obj
  refine hret _ _ _ _ kF kN ⟨x, [x, d, ln, dn, lw, ld], rfl, ⟨d, ln, dn, lw, ld, k4 _ _ _ _, _, 0, 0, 0, [], [], [], [], [], [], ⟨mx, md, mlnf, ⟨rfl, fun i h => absurd h (Nat.not_lt_zero _)⟩, ddf, ⟨rfl, fun i h => absurd h (Nat.not_lt_zero _)⟩, mlwf, .nil, mldf, .nil, rfl, rfl, by show 0 < 60; omega, ?_, ?_, ?_, ?_⟩⟩, fun p hp => S4.keep p (.tail _ (S3.keep p (.tail _ (S2.keep p (.tail _ (S1.keep p (.tail _ (.tail _ (.tail _ hp))) (ne p hp))) (ne p hp))) (ne p hp))) (ne p hp), fun a ha p hp => ?_⟩
  · simp only [List.nodup_cons, List.mem_cons, List.not_mem_nil, or_false, not_or, not_false_eq_true, List.nodup_nil, and_true]
    refine ⟨⟨?_, ?_, ?_, ?_, ?_⟩, ⟨?_, ?_, ?_, ?_⟩, ⟨?_, ?_, ?_⟩, ⟨?_, ?_⟩, ?_⟩ <;> (refine nen ?_; omega)
  · intro a ha
    rcases ha with h | h <;> exact absurd h List.not_mem_nil
  · refine ⟨by simp, by simp, by simp, by simp, by simp, by simp, fun a h => absurd h List.not_mem_nil, fun a h => absurd h List.not_mem_nil⟩
  · intro a ha
    simp only [List.mem_cons, List.not_mem_nil, or_false] at ha
    rcases ha with rfl | rfl | rfl | rfl | rfl | rfl
    · exact ⟨_, mx⟩
    · exact ⟨_, md⟩
    · exact ⟨_, mlnf⟩
    · exact ⟨_, mdn⟩
    · exact ⟨_, mlwf⟩
    · exact ⟨_, mldf⟩
  · have h1 := ltn (l1 p hp)
    simp only [List.mem_cons, List.not_mem_nil, or_false] at ha
    rcases ha with rfl | rfl | rfl | rfl | rfl | rfl <;> (refine nen ?_; omega)
end
section
example : True := by
  w_top off
  k_with_none
  k_with "ktr_room" => ((try simp only [depth_under_make, depth_under_kw, depth_in1, depth_deeper, depth_caller]); (try dsimp only); first | exact room_up2 (by with_reducible assumption) rfl | exact room_up (by with_reducible assumption) rfl | exact room_0 (by with_reducible assumption) rfl | omega)
  k_with "ktr_units" => ((try simp only [units_in1, units_deeper, Around.mark_units, units_caller, units_under_make]); (try dsimp only); first | exact room_up2 (by with_reducible assumption) rfl | exact room_up (by with_reducible assumption) rfl | exact room_0 (by with_reducible assumption) rfl | omega)
  k_with "tb_start" => ((case kB => k_asm); (case kF => k_asm); (case kX => k_asm); (case kN => k_asm); (case kT => k_asm); (case kA => exact rfl); (case kH => exact rfl); (case kf => exact rfl); (case kk => exact rfl); (case kd => ktr_room); (case ku => ktr_units))
  k_with "call ref" => (k_here; (with_reducible show wpAny _ _ (call (Value.ref 97) _) _ _ _); k_dflt (refine' con_use (find_con _ _ _ _ _ _ _ _ ?kzFO) ?kB ?kF ?kX ?kN ?kT ?kA ?kH ?kf ?kk ?kd ?ku ?hp ?_; (case kzFO => assumption); (case hp => exact ⟨by assumption, by first | assumption | omega, by first | assumption | omega⟩); tb_start);  intro _ _ _ _ _ _ hp'; obtain ⟨e', _, e2'⟩ := hp'; subst e'; subst e2'; (try dsimp only))
  k_with "subscriptTail" => (k_here; (with_reducible show wpAny _ _ (subscriptTail _ _ (Value.ref _) (Value.int _ _)) _ _ _); k_dflt (refine' item_ref ?kzN ?kzm ?kzh0 ?kzhk ?kzhh ?_ ?kzhs; (case kzN => k_asm); (case kzhk => assumption); (case kzm => k_mem); (case kzh0 => omega); (case kzhh => omega); (case kzhs => with_unfolding_all rfl); k_whole))
  k_with "newList" => (k_here; k_dflt (refine' newList_led ?kzF ?kzN ?_ ?kzz; (case kzF => k_asm); (case kzN => k_asm); (case kzz => first | decide | kso_len)); intro _ _ _ _ _; (try k_sweep))
  k_with "call builtin:sorted" => (k_here; (with_reducible show wpAny _ _ (call (Value.builtin _) [Value.ref _]) _ _ _); k_dflt (with_unfolding_all refine' kso_sorted ?kzk1 ?kzk2 (is_listN ?kzk2 ?kzk3) ?kzk4 ?kzk5 ?_; (case kzk1 => k_asm); (case kzk2 => k_asm); (case kzk3 => k_mem); (case kzk4 => l_ints); (case kzk5 => omega); k_whole); intro _ _ _ _ _ _ _ _ _ _ _ _ _; (try k_sweep))
  k_with "kso_len" => first | omega | (simp only [List.length_append, List.length_map, List.length_cons, List.length_nil, List.length_set]; omega)
  k_with "call builtin:len" => (k_here; (with_reducible show wpAny _ _ (call (Value.builtin "len") [Value.ref _]) _ _ _); k_dflt (refine' len_led ?kzN ?kzm ?kzk ?kzz ?_; (case kzN => k_asm); (case kzm => k_mem); (case kzk => first | exact IntsAre.length (by with_reducible assumption) | exact List.length_map _ | ((try simp only [List.length_append, List.length_map, List.length_cons, List.length_nil, List.length_set]); exact rfl)); (case kzz => kso_len)); intro _ _)
  k_with "call builtin:list.append" => (k_here; (with_reducible show wpAny _ _ (call (Value.builtin _) [Value.ref _, _]) _ _ _); k_dflt (refine' append_led ?kzF ?kzN ?kzm ?kzz ?_; (case kzF => k_asm); (case kzN => k_asm); (case kzm => k_mem); (case kzz => kso_len)); intro _ _ _; (try k_sweep))
  k_with "call builtin:list.extend" => (k_here; (with_reducible show wpAny _ _ (call (Value.builtin _) [Value.ref _, Value.ref _]) _ _ _); k_dflt (refine' extend_led ?kzF ?kzN ?kzm ?kzb ?kzz ?kzy ?_; (case kzF => k_asm); (case kzN => k_asm); (case kzm => k_mem); (case kzb => k_mem); (case kzz => kso_len); (case kzy => kso_len)); intro _ _ _ _; (try k_sweep))
  k_with "call type:list" => (k_here; (with_reducible show wpAny _ _ (call (Value.type _) [Value.ref _]) _ _ _); k_dflt (refine' list_led ?kzF ?kzN ?kzm ?kzz ?_; (case kzF => k_asm); (case kzN => k_asm); (case kzm => k_mem); (case kzz => kso_len)); intro _ _ _ _ _ _; (try k_sweep))
  k_with "setItem ref int" => (k_here; (with_reducible show wpAny _ _ (setItem (Value.ref _) (Value.int _ _) (Value.int _ _)) _ _ _); k_dflt (refine' set_led ?kzF ?kzN ?kzm ?kzi ?kza ?kzb ?kzz ?_; (case kzF => k_asm); (case kzN => k_asm); (case kzm => k_mem); (case kzi => with_reducible assumption); (case kza => omega); (case kzb => omega); (case kzz => omega)); intro _ _ _ _; (try k_sweep))
  k_with "call builtin:sorted" => (k_here; (with_reducible show wpAny _ _ (call (Value.builtin _) [Value.ref _]) _ _ _); k_dflt (refine' sorted_two ?kzF ?kzN ?kzm ?_; (case kzF => k_asm); (case kzN => k_asm); (case kzm => k_mem)); intro _ _ _ _ _ _ _ _; (try k_sweep))
  k_with "k_mem" => first | with_reducible assumption | ktr_member | ((with_reducible refine' mem_setL_self ?kya); (case kya => k_mem)) | ((with_reducible refine' mem_setL_ne ?kya ?kyb); (case kyb => first | with_reducible assumption | exact Ne.symm (by with_reducible assumption) | omega); (case kya => k_mem)) | exact List.Mem.head _ | (refine' List.mem_cons_of_mem _ ?_; k_mem)
  k_with "newTuple" => (k_here; k_dflt (refine' newTuple_led ?kzF ?kzN ?_ ?kzz; (case kzF => k_asm); (case kzN => k_asm); (case kzz => first | decide | kso_len)); intro _ _ _ _ _; (try k_sweep))
  k_with "CompSrc" => refine Hold.out ?_
  k_with "CompSrcT" => refine Hold.out ?_
  k_with "Src3" => refine Hold.out ?_
  k_with "eval ListComp" => (k_here; (fail_if_success lct_look); k_dflt (refine ListComp_3 (F₀ := by k_asm) (by with_unfolding_all rfl) (by decide) (by rfl) (by decide) (by rfl) ?_))
  k_with "eval ListComp" => (k_here; lct_look; k_dflt (refine LCt.ListComp_T (F₀ := by k_asm) (by with_unfolding_all rfl) (by decide) (by rfl) (by decide) (by rfl) ?_))
  k_with "StrSrc" => refine Hold.out ?_
  k_with "ktr_rel" => first | with_reducible assumption | exact tupIn_s (by k_mem) | exact tupIn_si (by k_mem) | ((with_reducible refine DH.cons ?_); ktr_rel) | ((with_reducible refine DI.cons ?_); ktr_rel) | ((with_reducible refine TupIn.cons ?_); ktr_rel)
  k_with "call type:tuple" => (k_here; (with_reducible show wpAny _ _ (call (Value.type _) [Value.ref _]) _ _ _); k_dflt (first | (refine' tup_same ?kzN ?kzm ?_; (case kzN => k_asm); (case kzm => k_mem)) | (refine' tup_list ?kzF ?kzN ?kzm ?kzz ?_; (case kzF => k_asm); (case kzN => k_asm); (case kzm => k_mem); (case kzz => first | decide | kso_len); intro _ _ _ _ _; (try k_sweep))))
  k_with "binaryOp Add" => (k_here; (with_reducible show wpAny _ _ (binaryOp _ (Value.ref _) (Value.ref _)) _ _ _); k_dflt (first | (refine' tup_add0 ?kzF ?kzN ?kzm ?kzb ?kzv ?kzz ?_; (case kzF => k_asm); (case kzN => k_asm); (case kzm => k_mem); (case kzb => k_mem); (case kzv => simp); (case kzz => first | decide | kso_len)) | (refine' tup_add ?kzF ?kzN ?kzm ?kzb ?kzv ?kzy ?kzz ?kzx ?_; (case kzF => k_asm); (case kzN => k_asm); (case kzm => k_mem); (case kzb => k_mem); (case kzv => simp); (case kzy => simp); (case kzz => first | decide | kso_len); (case kzx => first | decide | kso_len); intro _ _ _ _ _; (try k_sweep))))
  k_with "subscriptTail" => (k_here; (with_reducible show wpAny _ _ (subscriptTail _ (Expr.Slice _ _ _ _) (Value.ref _) (Value.ref _)) _ _ _); k_dflt (refine' tup_slice1 ?kzF ?kzN ?kzm ?kzz ?_ ?kzs; (case kzs => with_unfolding_all rfl); (case kzF => k_asm); (case kzN => k_asm); (case kzm => k_mem); (case kzz => first | decide | kso_len)); intro _ _ _ _ _; (try k_sweep))
  k_with "compareOp In" => (k_here; (with_reducible show wpAny _ _ (compareOp CmpOp.In (Value.ref _) (Value.ref _)) _ _ _); k_dflt (refine' dh_in ?kzu ?kzN ?kzH ?kzT ?_; (case kzN => k_asm); (case kzH => ktr_rel); (case kzT => ktr_rel); (case kzu => ktr_units)); intro _; (try dsimp only))
  k_with "compareOp In" => (k_here; (with_reducible show wpAny _ _ (compareOp CmpOp.In (Value.ref _) (Value.ref _)) _ _ _); k_dflt (refine' dh_in_none ?kzu ?kzN ?kzH ?kzT ?kzK ?_; (case kzN => k_asm); (case kzH => ktr_rel); (case kzT => ktr_rel); (case kzK => with_reducible assumption); (case kzu => ktr_units)); intro _; (try dsimp only))
  k_with "setItem ref ref" => (k_here; k_dflt (refine' dh_set ?kzu ?kzF ?kzN ?kzH ?kzT ?kzz ?_; (case kzF => k_asm); (case kzN => k_asm); (case kzH => ktr_rel); (case kzT => ktr_rel); (case kzu => ktr_units); (case kzz => omega)); intro _ _ _ _ _ _; (try k_sweep))
  k_with "getMethod ref" => (k_here; (with_reducible show wpAny _ _ (getMethod (Value.ref _) (Str.ofString "setdefault") _) _ _ _); k_dflt (refine' dh_method PySem.F.slot_dict_setdefault PySem.F.type_dict_setdefault ?kzN ?kzH ?_; (case kzN => k_asm); (case kzH => ktr_rel)))
  k_with "getMethod ref" => (k_here; (with_reducible show wpAny _ _ (getMethod (Value.ref _) (Str.ofString "get") _) _ _ _); k_dflt (refine' dh_method PySem.F.slot_dict_get PySem.F.type_dict_get ?kzN ?kzH ?_; (case kzN => k_asm); (case kzH => ktr_rel)))
  k_with "getMethod ref" => (k_here; (with_reducible show wpAny _ _ (getMethod (Value.ref _) (Str.ofString "pop") _) _ _ _); k_dflt (refine' di_method PySem.F.slot_dict_pop PySem.F.type_dict_pop ?kzN ?kzH ?_; (case kzN => k_asm); (case kzH => ktr_rel)))
  k_with "k_mem" => first | with_reducible assumption | ktr_member | (refine' SetTo.it ?kys ?kya; (case kys => with_reducible assumption); (case kya => k_mem)) | (refine' SetTo.mem ?kys ?kya ?kyb; (case kys => with_reducible assumption); (case kyb => first | with_reducible assumption | exact Ne.symm (by with_reducible assumption) | (refine nen ?_; omega)); (case kya => k_mem)) | exact List.Mem.head _ | (refine' List.mem_cons_of_mem _ ?_; k_mem)
  k_with "ktr_rel" => (refine' TupIn.setTo ?kya ?kys ?kyb; (case kys => with_reducible assumption); (case kyb => first | with_reducible assumption | exact Ne.symm (by with_reducible assumption) | (refine nen ?_; omega)); (case kya => ktr_rel))
  k_with "call builtin:list.append" => (k_here; (with_reducible show wpAny _ _ (call (Value.builtin _) [Value.ref _, _]) _ _ _); k_dflt (refine' append_o ?kzF ?kzN ?kzm ?kzz ?_; (case kzF => k_asm); (case kzN => k_asm); (case kzm => k_mem); (case kzz => kso_len)); intro _ _ _ _ _; (try k_sweep))
  k_with "call builtin:list.extend" => (k_here; (with_reducible show wpAny _ _ (call (Value.builtin _) [Value.ref _, Value.ref _]) _ _ _); k_dflt (refine' extend_o ?kzF ?kzN ?kzm ?kzb ?kzz ?kzy ?_; (case kzF => k_asm); (case kzN => k_asm); (case kzm => k_mem); (case kzb => k_mem); (case kzz => kso_len); (case kzy => kso_len)); intro _ _ _ _ _ _; (try k_sweep))
  k_with "setItem ref int" => (k_here; (with_reducible show wpAny _ _ (setItem (Value.ref _) (Value.int _ _) (Value.int _ _)) _ _ _); k_dflt (refine' set_o ?kzF ?kzN ?kzm ?kzi ?kza ?kzb ?kzz ?_; (case kzF => k_asm); (case kzN => k_asm); (case kzm => k_mem); (case kzi => with_reducible assumption); (case kza => omega); (case kzb => omega); (case kzz => omega)); intro _ _ _ _ _ _; (try k_sweep))
  k_with "setItem ref ref" => (k_here; k_dflt (refine' dh_set_o ?kzu ?kzF ?kzN ?kzH ?kzT ?kzz ?_; (case kzF => k_asm); (case kzN => k_asm); (case kzH => ktr_rel); (case kzT => ktr_rel); (case kzu => ktr_units); (case kzz => omega)); intro _ _ _ _ _ _ _ _; (try k_sweep))
  k_with "subscriptTail" => (k_here; (with_reducible show wpAny _ _ (subscriptTail _ _ (Value.ref _) (Value.int 0 _)) _ _ _); k_dflt (refine' tup_item0 ?kzN ?kzm ?_ ?kzs; (case kzN => k_asm); (case kzm => k_mem); (case kzs => with_unfolding_all rfl)); k_whole)
  k_with "setAttr ref" => (k_here; k_dflt (refine' set_attr_o ?kzk1 ?kzk2 ?kzk3 ?kzmx ?kzmd ?kzk6 ?kzk7 ?kzk8 ?kzk9 ?kzk10 ?kzk11 ?kzk13 ?_; (case kzk1 => k_asm); (case kzk2 => k_asm); (case kzk3 => k_asm); (case kzmx => k_mem); (case kzmd => k_mem); (case kzk6 => k_is); (case kzk7 => k_is); (case kzk8 => k_is); (case kzk9 => k_is); (case kzk10 => k_get); (case kzk11 => k_put); (case kzk13 => exact Nat.le_of_ble_eq_true rfl); k_whole); intro _ _ _ _ _; (try k_sweep))
  k_with "eval Dict nil nil" => (k_here; k_dflt (refine' dh_new ?kzk1 ?kzk2 (TopRead.nolimit (by k_asm)) ?_; (case kzk1 => k_asm); (case kzk2 => k_asm); k_whole); intro _ _ _ _ _ _ _ _ _; (try k_sweep))
  k_with "omega" => lia
  trivial
noncomputable def k7 (a b c d e f g : Tok) : Nat → Tok
  | 0 => a
  | 1 => b
  | 2 => c
  | 3 => d
  | 4 => e
  | 5 => f
  | _ => g
example : True := by
  k_with "call ref" => (k_here; (with_reducible show wpAny _ _ (call (Value.ref 140) _) _ _ _); k_dflt (refine' con_use (unew_con) ?kB ?kF ?kX ?kN ?kT ?kA ?kH ?kf ?kk ?kd ?ku ?hp ?_; (case hp => trivial); tb_start); intro _ _ _ _ _ _ hp'; obtain ⟨_, _, e', _, _, _⟩ := hp'; subst e'; (try dsimp only))
  trivial
example : True := by
  k_with "call ref" => (k_here; (with_reducible show wpAny _ _ (call (Value.ref 256) _) _ _ _); k_dflt (refine' con_use (bnew_con) ?kB ?kF ?kX ?kN ?kT ?kA ?kH ?kf ?kk ?kd ?ku ?hp ?_; (case hp => trivial); tb_start); intro _ _ _ _ _ _ hp'; obtain ⟨_, _, e', _, _, _⟩ := hp'; subst e'; (try dsimp only))
  trivial
example : True := by
  k_with "k_mem" => first | with_reducible assumption | ktr_member | (refine' SetTo.it ?kys ?kya; (case kys => with_reducible assumption); (case kya => k_mem)) | (refine' SetTo.mem ?kys ?kya ?kyb; (case kys => with_reducible assumption); (case kyb => first | with_reducible assumption | exact Ne.symm (by with_reducible assumption) | (refine nen ?_; omega)); (case kya => k_mem)) | exact List.Mem.head _ | (refine' List.mem_cons_of_mem _ ?_; k_mem) | (refine' kp_use ?kys ?kya; (case kys => with_reducible assumption); (case kya => k_mem))
  trivial
theorem hnew_con {w : World} :
    Con w 388 [] 60 600 (fun _ => True) (fun news news' r => ∃ hp b u fh fb fu, r = .ref hp ∧ Trio w hp b u [] [] (fun _ => none) [] 0 0 [] [] [] fh fb fu news' ∧ (∀ p ∈ news, p ∈ news') ∧ ∀ a, (a ∈ fh ∨ a ∈ fb ∨ a ∈ fu) → ∀ p ∈ news, p.1 ≠ a) := by
  intro mean mg mb dp un gd env outer A₀ base h₀ L m news s Q E B F X N T hf hk hd hu _ hret
  refine' call_cls ?k1 ?k2 ?k3 ?k4 ?k5 ?k6 ?_
  (case k1 => k_asm); (case k2 => k_asm); (case k3 => k_asm); (case k4 => k_is); (case k5 => k_is); (case k6 => k_is); k_whole
  intro x d h1 F1 N1 l1 l2
  have g1 := ltn l2
  have g2 : x ≠ d := Nat.ne_of_gt g1
  ((refine' code_def (binds := ([("self", .ref x)])) ?k1 ?k2 ?k3 ?k4 ?k5 ?kA ?kF ?kK ?k6 ?k7 ?k8 ?k9 ?kB ?_ ?c2 ?c3 ?c4 ?c5; (case kA => exact rfl); (case kF => assumption); (case kK => assumption); (case k1 => k_asm); (case k2 => k_asm); (case k3 => k_asm); (case k4 => k_asm); (case k5 => k_asm); (case k6 => k_is); (case k7 => k_is); (case k8 => first | omega | ktr_room | (dsimp only; omega)); (case k9 => exact BindsTo.of_eq rfl); (case c5 => decide); (case kB => exact locs rfl); (case c2 => exact rfl); (case c3 => exact rfl); (case c4 => exact rfl); k_whole; intro g' L' h' FG' F' N' B' X' T'; (try dsimp only); (try k_lift B'); (try k_fold)))
  k_steps
  rename_i tka ha tkb a1 bb fb BB kp1 nf1 hb a2 S1 tkc hc tkd a3 uu fu UU kp2 nf2 hd' a4 S2 tke le he l3 hf' a5 S3 tkf lf hg l4 hi' a6 S4 tkg dk hj ok l5 lo1 di1 dd1 hk' a7 S5 da hl oa l6 lo2 di2 dd2 hm a8 S6 lw hn l7 ho a9 F2 N2 S7 kF kN Tc kX
  have u7 : ∀ p ∈ a8, p.1 ≠ d → p ∈ a9 := fun p hp e => S7.keep p (.tail _ hp) e
  have u6 : ∀ p ∈ a7, p.1 ≠ d → p ∈ a9 := fun p hp e => u7 p (S6.keep p (.tail _ hp) e) e
  have u5 : ∀ p ∈ a6, p.1 ≠ d → p ∈ a9 := fun p hp e => u6 p (S5.keep p (.tail _ hp) e) e
  have u4 : ∀ p ∈ a5, p.1 ≠ d → p ∈ a9 := fun p hp e => u5 p (S4.keep p (.tail _ hp) e) e
  have u3 : ∀ p ∈ a4, p.1 ≠ d → p ∈ a9 := fun p hp e => u4 p (S3.keep p (.tail _ hp) e) e
  have u2 : ∀ p ∈ a3, p.1 ≠ d → p ∈ a9 := fun p hp e => u3 p (S2.keep p hp e) e
  have u1 : ∀ p ∈ a2, p.1 ≠ d → p ∈ a9 := fun p hp e => u2 p (kp2 p hp) e
  have u0 : ∀ p ∈ a1, p.1 ≠ d → p ∈ a9 := fun p hp e => u1 p (S1.keep p hp e) e
  have ne : ∀ p ∈ news, p.1 ≠ d := fun p hp => Nat.ne_of_lt (l1 p hp)
  have md1 : (d, dictOf [] 0) ∈ a1 := kp1 _ (.tail _ (.head _))
  have mx1 : (x, instObj 388 d) ∈ a1 := kp1 _ (.head _)
  have md4 := S2.self _ (kp2 _ (S1.self _ md1))
  have mx2 : (x, instObj 388 d) ∈ a2 := S1.keep _ mx1 g2
  have mx4 : (x, instObj 388 d) ∈ a4 := S2.keep _ (kp2 _ mx2) g2
  have q1 := ltn (l3 _ mx4)
  dsimp only at q1
  have nle : le ≠ d := nen (by show @Ne Nat le d; omega)
  have m5 : (le, PySem.W.listOf #[] 0) ∈ a5 := S3.keep _ (.head _) nle
  have q2 := ltn (l4 _ m5)
  dsimp only at q2
  have nlf : lf ≠ d := nen (by show @Ne Nat lf d; omega)
  have m6 : (lf, PySem.W.listOf #[] 0) ∈ a6 := S4.keep _ (.head _) nlf
  have q3 := ltn (l5 _ m6)
  dsimp only at q3
  have ndk : dk ≠ d := nen (by show @Ne Nat dk d; omega)
  have dd7 : DH PySem.Challenge.rw_pq0123_02.row.prog w dk [] a7 := dd1.setTo S5 ndk (fun a h => absurd h List.not_mem_nil)
  obtain ⟨od7, mdk7⟩ := dd7.obj
  have q4 := ltn (l6 _ mdk7)
  dsimp only at q4
  have nda : da ≠ d := nen (by show @Ne Nat da d; omega)
  have dd8 : DH PySem.Challenge.rw_pq0123_02.row.prog w dk [] a8 := (dd7.cons).setTo S6 ndk (fun a h => absurd h List.not_mem_nil)
  have di7 : DI PySem.Challenge.rw_pq0123_02.row.prog w da 0 (fun _ => none) ((da, oa) :: a7) := ⟨lo2, oa, [], .head _, di2, Nat.le_refl _, fun k => rfl⟩
  have di8 := di7.setTo S6 nda
  obtain ⟨oa8, mda8⟩ := di8.obj
  have q5 := ltn (l7 _ mda8)
  dsimp only at q5
  have nlw : lw ≠ d := nen (by show @Ne Nat lw d; omega)
  have dd9 : DH PySem.Challenge.rw_pq0123_02.row.prog w dk [] a9 := (dd8.cons).setTo S7 ndk (fun a h => absurd h List.not_mem_nil)
  have di9 := (DI.cons (p := (lw, PySem.W.listOf #[] 0)) di8).setTo S7 nda
  have mlw : (lw, PySem.W.listOf #[] 0) ∈ a9 := S7.keep _ (.head _) nlw
  have mle := u4 _ m5 nle
  have mlf := u5 _ m6 nlf
  have mx9 := u1 _ mx2 g2
  have md9 : (d, dictOf _ _) ∈ a9 := S7.self _ (.tail _ (S6.self _ (.tail _ (S5.self _ (.tail _ (S4.self _ (.tail _ (S3.self _ (.tail _ md4)))))))))
  obtain ⟨odk, mdk⟩ := dd9.obj
  obtain ⟨oda, mda⟩ := di9.obj
  have fbd : ∀ a ∈ fb, a ≠ d ∧ a ≠ x ∧ @LT.lt Nat _ a le := fun a h => by
    have h1 : d ≠ a := nf1 a h _ (.tail _ (.head _))
    have h2 : x ≠ a := nf1 a h _ (.head _)
    obtain ⟨o, ho⟩ := BB.footin a h
    exact ⟨h1.symm, h2.symm, l3 _ (S2.keep _ (kp2 _ (S1.keep _ ho h1.symm)) h1.symm)⟩
  have fud : ∀ a ∈ fu, a ≠ d ∧ a ≠ x ∧ @LT.lt Nat _ a le := fun a h => by
    have h1 : d ≠ a := nf2 a h _ (S1.self _ md1)
    have h2 : x ≠ a := nf2 a h _ mx2
    obtain ⟨o, ho⟩ := UU.foot_in a h
    exact ⟨h1.symm, h2.symm, l3 _ (S2.keep _ ho h1.symm)⟩
  have far : ∀ a, (a ≠ d ∧ a ≠ x ∧ @LT.lt Nat _ a le) → ∀ c ∈ [x, d, le, lf, dk, da, lw], c ≠ a := fun a h c hc e => by
    obtain ⟨h1, h2, h3⟩ := h
    simp only [List.mem_cons, List.not_mem_nil, or_false] at hc
    subst e
    rcases hc with e | e | e | e | e | e | e
    · exact h2 e
    · exact h1 e
    all_goals (rw [e] at h3; omega)
  refine hret _ _ _ _ kF kN ⟨x, bb, uu, [x, d, le, lf, dk, da, lw], fb, fu, rfl, ⟨⟨d, le, lf, dk, da, lw, k7 _ _ _ _ _ _ _, _, 0, 0, 0, [], [], [], [], fun _ => none, ⟨mx9, md9, mle, Nat.le_refl _, mlf, Nat.le_refl _, dd9, ⟨rfl, fun i h => absurd h (Nat.not_lt_zero _)⟩, di9, fun j => .inl ⟨rfl, rfl⟩, (fun i j a h => nomatch h), mlw, .nil, ⟨by omega, by omega, by show 0 < 1000; omega, by show 0 < 1000; omega⟩, ?_, (fun j a h => nomatch h), fun a h => absurd h List.not_mem_nil, ?_, ?_⟩⟩, BB.move fun p hp hf => u0 p hp (fbd _ hf).1, UU.move fun p hp hf => u2 p hp (fud _ hf).1, fun a h1 h2 => far a (fbd a h2) a h1 rfl, fun a h1 h2 => far a (fud a h2) a h1 rfl, fun a h1 h2 => ?_⟩, fun p hp => u0 p (kp1 p (.tail _ (.tail _ hp))) (ne p hp), fun a ha p hp => ?_⟩
  · simp only [List.nodup_cons, List.mem_cons, List.not_mem_nil, or_false, not_or, not_false_eq_true, List.nodup_nil, and_true]
    refine ⟨⟨?_, ?_, ?_, ?_, ?_, ?_⟩, ⟨?_, ?_, ?_, ?_, ?_⟩, ⟨?_, ?_, ?_, ?_⟩, ⟨?_, ?_, ?_⟩, ⟨?_, ?_⟩, ?_⟩ <;> (refine nen ?_; omega)
  · refine ⟨by simp, by simp, by simp, by simp, by simp, by simp, by simp, fun a h => absurd h List.not_mem_nil, (fun j a h => nomatch h)⟩
  · intro a ha
    simp only [List.mem_cons, List.not_mem_nil, or_false] at ha
    rcases ha with rfl | rfl | rfl | rfl | rfl | rfl | rfl
    · exact ⟨_, mx9⟩
    · exact ⟨_, md9⟩
    · exact ⟨_, mle⟩
    · exact ⟨_, mlf⟩
    · exact ⟨_, mdk⟩
    · exact ⟨_, mda⟩
    · exact ⟨_, mlw⟩
  · obtain ⟨o, ho⟩ := BB.footin a h1
    exact nf2 a h2 _ (S1.keep _ ho (fbd a h1).1) rfl
  · rcases ha with ha | ha | ha
    · have h1 := ltn (l1 p hp)
      simp only [List.mem_cons, List.not_mem_nil, or_false] at ha
      rcases ha with rfl | rfl | rfl | rfl | rfl | rfl | rfl <;> (refine nen ?_; omega)
    · exact nf1 a ha p (.tail _ (.tail _ hp))
    · exact nf2 a ha p (S1.keep p (kp1 p (.tail _ (.tail _ hp))) (ne p hp))
end
section
example : True := by
  w_top off
  k_with_none
  k_with "ktr_room" => ((try simp only [depth_under_make, depth_under_kw, depth_in1, depth_deeper, depth_caller]); (try dsimp only); first | exact room_up2 (by with_reducible assumption) rfl | exact room_up (by with_reducible assumption) rfl | exact room_0 (by with_reducible assumption) rfl | omega)
  k_with "ktr_units" => ((try simp only [units_in1, units_deeper, Around.mark_units, units_caller, units_under_make]); (try dsimp only); first | exact room_up2 (by with_reducible assumption) rfl | exact room_up (by with_reducible assumption) rfl | exact room_0 (by with_reducible assumption) rfl | omega)
  k_with "tb_start" => ((case kB => k_asm); (case kF => k_asm); (case kX => k_asm); (case kN => k_asm); (case kT => k_asm); (case kA => exact rfl); (case kH => exact rfl); (case kf => exact rfl); (case kk => exact rfl); (case kd => ktr_room); (case ku => ktr_units))
  k_with "call ref" => (k_here; (with_reducible show wpAny _ _ (call (Value.ref 97) _) _ _ _); k_dflt (refine' con_use (find_con _ _ _ _ _ _ _ _ ?kzFO) ?kB ?kF ?kX ?kN ?kT ?kA ?kH ?kf ?kk ?kd ?ku ?hp ?_; (case kzFO => assumption); (case hp => exact ⟨by assumption, by first | assumption | omega, by first | assumption | omega⟩); tb_start);  intro _ _ _ _ _ _ hp'; obtain ⟨e', _, e2'⟩ := hp'; subst e'; subst e2'; (try dsimp only))
  k_with "subscriptTail" => (k_here; (with_reducible show wpAny _ _ (subscriptTail _ _ (Value.ref _) (Value.int _ _)) _ _ _); k_dflt (refine' item_ref ?kzN ?kzm ?kzh0 ?kzhk ?kzhh ?_ ?kzhs; (case kzN => k_asm); (case kzhk => assumption); (case kzm => k_mem); (case kzh0 => omega); (case kzhh => omega); (case kzhs => with_unfolding_all rfl); k_whole))
  k_with "newList" => (k_here; k_dflt (refine' newList_led ?kzF ?kzN ?_ ?kzz; (case kzF => k_asm); (case kzN => k_asm); (case kzz => first | decide | kso_len)); intro _ _ _ _ _; (try k_sweep))
  k_with "call builtin:sorted" => (k_here; (with_reducible show wpAny _ _ (call (Value.builtin _) [Value.ref _]) _ _ _); k_dflt (with_unfolding_all refine' kso_sorted ?kzk1 ?kzk2 (is_listN ?kzk2 ?kzk3) ?kzk4 ?kzk5 ?_; (case kzk1 => k_asm); (case kzk2 => k_asm); (case kzk3 => k_mem); (case kzk4 => l_ints); (case kzk5 => omega); k_whole); intro _ _ _ _ _ _ _ _ _ _ _ _ _; (try k_sweep))
  k_with "kso_len" => first | omega | (simp only [List.length_append, List.length_map, List.length_cons, List.length_nil, List.length_set]; omega)
  k_with "call builtin:len" => (k_here; (with_reducible show wpAny _ _ (call (Value.builtin "len") [Value.ref _]) _ _ _); k_dflt (refine' len_led ?kzN ?kzm ?kzk ?kzz ?_; (case kzN => k_asm); (case kzm => k_mem); (case kzk => first | exact IntsAre.length (by with_reducible assumption) | exact List.length_map _ | ((try simp only [List.length_append, List.length_map, List.length_cons, List.length_nil, List.length_set]); exact rfl)); (case kzz => kso_len)); intro _ _)
  k_with "call builtin:list.append" => (k_here; (with_reducible show wpAny _ _ (call (Value.builtin _) [Value.ref _, _]) _ _ _); k_dflt (refine' append_led ?kzF ?kzN ?kzm ?kzz ?_; (case kzF => k_asm); (case kzN => k_asm); (case kzm => k_mem); (case kzz => kso_len)); intro _ _ _; (try k_sweep))
  k_with "call builtin:list.extend" => (k_here; (with_reducible show wpAny _ _ (call (Value.builtin _) [Value.ref _, Value.ref _]) _ _ _); k_dflt (refine' extend_led ?kzF ?kzN ?kzm ?kzb ?kzz ?kzy ?_; (case kzF => k_asm); (case kzN => k_asm); (case kzm => k_mem); (case kzb => k_mem); (case kzz => kso_len); (case kzy => kso_len)); intro _ _ _ _; (try k_sweep))
  k_with "call type:list" => (k_here; (with_reducible show wpAny _ _ (call (Value.type _) [Value.ref _]) _ _ _); k_dflt (refine' list_led ?kzF ?kzN ?kzm ?kzz ?_; (case kzF => k_asm); (case kzN => k_asm); (case kzm => k_mem); (case kzz => kso_len)); intro _ _ _ _ _ _; (try k_sweep))
  k_with "setItem ref int" => (k_here; (with_reducible show wpAny _ _ (setItem (Value.ref _) (Value.int _ _) (Value.int _ _)) _ _ _); k_dflt (refine' set_led ?kzF ?kzN ?kzm ?kzi ?kza ?kzb ?kzz ?_; (case kzF => k_asm); (case kzN => k_asm); (case kzm => k_mem); (case kzi => with_reducible assumption); (case kza => omega); (case kzb => omega); (case kzz => omega)); intro _ _ _ _; (try k_sweep))
  k_with "call builtin:sorted" => (k_here; (with_reducible show wpAny _ _ (call (Value.builtin _) [Value.ref _]) _ _ _); k_dflt (refine' sorted_two ?kzF ?kzN ?kzm ?_; (case kzF => k_asm); (case kzN => k_asm); (case kzm => k_mem)); intro _ _ _ _ _ _ _ _; (try k_sweep))
  k_with "k_mem" => first | with_reducible assumption | ktr_member | ((with_reducible refine' mem_setL_self ?kya); (case kya => k_mem)) | ((with_reducible refine' mem_setL_ne ?kya ?kyb); (case kyb => first | with_reducible assumption | exact Ne.symm (by with_reducible assumption) | omega); (case kya => k_mem)) | exact List.Mem.head _ | (refine' List.mem_cons_of_mem _ ?_; k_mem)
  k_with "newTuple" => (k_here; k_dflt (refine' newTuple_led ?kzF ?kzN ?_ ?kzz; (case kzF => k_asm); (case kzN => k_asm); (case kzz => first | decide | kso_len)); intro _ _ _ _ _; (try k_sweep))
  k_with "CompSrc" => refine Hold.out ?_
  k_with "CompSrcT" => refine Hold.out ?_
  k_with "Src3" => refine Hold.out ?_
  k_with "eval ListComp" => (k_here; (fail_if_success lct_look); k_dflt (refine ListComp_3 (F₀ := by k_asm) (by with_unfolding_all rfl) (by decide) (by rfl) (by decide) (by rfl) ?_))
  k_with "eval ListComp" => (k_here; lct_look; k_dflt (refine LCt.ListComp_T (F₀ := by k_asm) (by with_unfolding_all rfl) (by decide) (by rfl) (by decide) (by rfl) ?_))
  k_with "StrSrc" => refine Hold.out ?_
  k_with "ktr_rel" => first | with_reducible assumption | exact tupIn_s (by k_mem) | exact tupIn_si (by k_mem) | ((with_reducible refine DH.cons ?_); ktr_rel) | ((with_reducible refine DI.cons ?_); ktr_rel) | ((with_reducible refine TupIn.cons ?_); ktr_rel)
  k_with "call type:tuple" => (k_here; (with_reducible show wpAny _ _ (call (Value.type _) [Value.ref _]) _ _ _); k_dflt (first | (refine' tup_same ?kzN ?kzm ?_; (case kzN => k_asm); (case kzm => k_mem)) | (refine' tup_list ?kzF ?kzN ?kzm ?kzz ?_; (case kzF => k_asm); (case kzN => k_asm); (case kzm => k_mem); (case kzz => first | decide | kso_len); intro _ _ _ _ _; (try k_sweep))))
  k_with "binaryOp Add" => (k_here; (with_reducible show wpAny _ _ (binaryOp _ (Value.ref _) (Value.ref _)) _ _ _); k_dflt (first | (refine' tup_add0 ?kzF ?kzN ?kzm ?kzb ?kzv ?kzz ?_; (case kzF => k_asm); (case kzN => k_asm); (case kzm => k_mem); (case kzb => k_mem); (case kzv => simp); (case kzz => first | decide | kso_len)) | (refine' tup_add ?kzF ?kzN ?kzm ?kzb ?kzv ?kzy ?kzz ?kzx ?_; (case kzF => k_asm); (case kzN => k_asm); (case kzm => k_mem); (case kzb => k_mem); (case kzv => simp); (case kzy => simp); (case kzz => first | decide | kso_len); (case kzx => first | decide | kso_len); intro _ _ _ _ _; (try k_sweep))))
  k_with "subscriptTail" => (k_here; (with_reducible show wpAny _ _ (subscriptTail _ (Expr.Slice _ _ _ _) (Value.ref _) (Value.ref _)) _ _ _); k_dflt (refine' tup_slice1 ?kzF ?kzN ?kzm ?kzz ?_ ?kzs; (case kzs => with_unfolding_all rfl); (case kzF => k_asm); (case kzN => k_asm); (case kzm => k_mem); (case kzz => first | decide | kso_len)); intro _ _ _ _ _; (try k_sweep))
  k_with "compareOp In" => (k_here; (with_reducible show wpAny _ _ (compareOp CmpOp.In (Value.ref _) (Value.ref _)) _ _ _); k_dflt (refine' dh_in ?kzu ?kzN ?kzH ?kzT ?_; (case kzN => k_asm); (case kzH => ktr_rel); (case kzT => ktr_rel); (case kzu => ktr_units)); intro _; (try dsimp only))
  k_with "compareOp In" => (k_here; (with_reducible show wpAny _ _ (compareOp CmpOp.In (Value.ref _) (Value.ref _)) _ _ _); k_dflt (refine' dh_in_none ?kzu ?kzN ?kzH ?kzT ?kzK ?_; (case kzN => k_asm); (case kzH => ktr_rel); (case kzT => ktr_rel); (case kzK => with_reducible assumption); (case kzu => ktr_units)); intro _; (try dsimp only))
  k_with "setItem ref ref" => (k_here; k_dflt (refine' dh_set ?kzu ?kzF ?kzN ?kzH ?kzT ?kzz ?_; (case kzF => k_asm); (case kzN => k_asm); (case kzH => ktr_rel); (case kzT => ktr_rel); (case kzu => ktr_units); (case kzz => omega)); intro _ _ _ _ _ _; (try k_sweep))
  k_with "getMethod ref" => (k_here; (with_reducible show wpAny _ _ (getMethod (Value.ref _) (Str.ofString "setdefault") _) _ _ _); k_dflt (refine' dh_method PySem.F.slot_dict_setdefault PySem.F.type_dict_setdefault ?kzN ?kzH ?_; (case kzN => k_asm); (case kzH => ktr_rel)))
  k_with "getMethod ref" => (k_here; (with_reducible show wpAny _ _ (getMethod (Value.ref _) (Str.ofString "get") _) _ _ _); k_dflt (refine' dh_method PySem.F.slot_dict_get PySem.F.type_dict_get ?kzN ?kzH ?_; (case kzN => k_asm); (case kzH => ktr_rel)))
  k_with "getMethod ref" => (k_here; (with_reducible show wpAny _ _ (getMethod (Value.ref _) (Str.ofString "pop") _) _ _ _); k_dflt (refine' di_method PySem.F.slot_dict_pop PySem.F.type_dict_pop ?kzN ?kzH ?_; (case kzN => k_asm); (case kzH => ktr_rel)))
  k_with "k_mem" => first | with_reducible assumption | ktr_member | (refine' SetTo.it ?kys ?kya; (case kys => with_reducible assumption); (case kya => k_mem)) | (refine' SetTo.mem ?kys ?kya ?kyb; (case kys => with_reducible assumption); (case kyb => first | with_reducible assumption | exact Ne.symm (by with_reducible assumption) | (refine nen ?_; omega)); (case kya => k_mem)) | exact List.Mem.head _ | (refine' List.mem_cons_of_mem _ ?_; k_mem)
  k_with "ktr_rel" => (refine' TupIn.setTo ?kya ?kys ?kyb; (case kys => with_reducible assumption); (case kyb => first | with_reducible assumption | exact Ne.symm (by with_reducible assumption) | (refine nen ?_; omega)); (case kya => ktr_rel))
  k_with "call builtin:list.append" => (k_here; (with_reducible show wpAny _ _ (call (Value.builtin _) [Value.ref _, _]) _ _ _); k_dflt (refine' append_o ?kzF ?kzN ?kzm ?kzz ?_; (case kzF => k_asm); (case kzN => k_asm); (case kzm => k_mem); (case kzz => kso_len)); intro _ _ _ _ _; (try k_sweep))
  k_with "call builtin:list.extend" => (k_here; (with_reducible show wpAny _ _ (call (Value.builtin _) [Value.ref _, Value.ref _]) _ _ _); k_dflt (refine' extend_o ?kzF ?kzN ?kzm ?kzb ?kzz ?kzy ?_; (case kzF => k_asm); (case kzN => k_asm); (case kzm => k_mem); (case kzb => k_mem); (case kzz => kso_len); (case kzy => kso_len)); intro _ _ _ _ _ _; (try k_sweep))
  k_with "setItem ref int" => (k_here; (with_reducible show wpAny _ _ (setItem (Value.ref _) (Value.int _ _) (Value.int _ _)) _ _ _); k_dflt (refine' set_o ?kzF ?kzN ?kzm ?kzi ?kza ?kzb ?kzz ?_; (case kzF => k_asm); (case kzN => k_asm); (case kzm => k_mem); (case kzi => with_reducible assumption); (case kza => omega); (case kzb => omega); (case kzz => omega)); intro _ _ _ _ _ _; (try k_sweep))
  k_with "setItem ref ref" => (k_here; k_dflt (refine' dh_set_o ?kzu ?kzF ?kzN ?kzH ?kzT ?kzz ?_; (case kzF => k_asm); (case kzN => k_asm); (case kzH => ktr_rel); (case kzT => ktr_rel); (case kzu => ktr_units); (case kzz => omega)); intro _ _ _ _ _ _ _ _; (try k_sweep))
  k_with "subscriptTail" => (k_here; (with_reducible show wpAny _ _ (subscriptTail _ _ (Value.ref _) (Value.int 0 _)) _ _ _); k_dflt (refine' tup_item0 ?kzN ?kzm ?_ ?kzs; (case kzN => k_asm); (case kzm => k_mem); (case kzs => with_unfolding_all rfl)); k_whole)
  k_with "exec For" => (k_here; (rename Fr _ _ _ _ => lF'); k_dflt ((with_unfolding_all refine' For_invVF lF' ?kzk1 ?kzk2 ?_); (case kzk1 => exact rfl); (case kzk2 => exact rfl)); k_whole)
  k_with "pyIter ref" => ((with_reducible show wpAny _ _ (pyIter (Value.ref _)) (fun it s₂ => LoopAtV _ _ _ _ _ _ _ _ _ it s₂) _ _); refine Hold.out ?_)
  k_with "eval Name" => (k_here; name_kind "cell"; k_dflt (refine' ldCN ?kzN ?kzc ?kzm ?kzd ?_ ?kzk ?kzl ?kzb; (case kzk => rfl); (case kzl => rfl); (case kzb => decide); (case kzN => k_asm); (case kzc => exact rfl); (case kzm => k_mem); (case kzd => with_reducible assumption)); k_whole)
  k_with "omega" => lia
  trivial
theorem op_con {w : World} (b : Addr) (nks : List (List Mix)) (foot : List Addr) (n : Int) (tn : Tok) (x : Str) (hx : nks[n.toNat]? = some [.inl x]) (h0 : 0 ≤ n) :
    Con w 213 [.ref b, .int n tn] 10 100 (fun news => BAt w b nks foot news) (fun news news' r => news' = news ∧ ∃ t, r = .str x t) := by
  intro mean mg mb dp un gd env outer A₀ base h₀ L m news s Q E B F X N T hf hk hd hu U hret
  obtain ⟨db, ln, dn, lw, ld, kk, n1, n2, n3, n4, nas, xs, vw, vd, ws, ds, I⟩ := U
  have m1 := I.inst
  have m2 := I.dict
  have m3 := I.nodes
  have hnl : nas.length = nks.length := I.tups.1
  have hsm := I.small
  have hlt : n.toNat < nks.length := (List.getElem?_eq_some_iff.mp hx).1
  have ha := ref_at (as := nas) (k := n) (by omega)
  have ht := I.tups.2 n.toNat (by omega)
  have e1 : nks.getD n.toNat [] = [.inl x] := by simp [hx]
  rw [e1] at ht
  obtain ⟨tx, nx, m4⟩ := tupIn_s_inv ht
  refine wpAny_call ?_
  ((refine' code_def (binds := ([("self", .ref b), ("n", .int n tn)])) ?k1 ?k2 ?k3 ?k4 ?k5 ?kA ?kF ?kK ?k6 ?k7 ?k8 ?k9 ?kB ?_ ?c2 ?c3 ?c4 ?c5; (case kA => exact rfl); (case kF => assumption); (case kK => assumption); (case k1 => k_asm); (case k2 => k_asm); (case k3 => k_asm); (case k4 => k_asm); (case k5 => k_asm); (case k6 => k_is); (case k7 => k_is); (case k8 => first | omega | ktr_room | (dsimp only; omega)); (case k9 => exact BindsTo.of_eq rfl); (case c5 => decide); (case kB => exact locs rfl); (case c2 => exact rfl); (case c3 => exact rfl); (case c4 => exact rfl); k_whole; intro g' L' h' FG' F' N' B' X' T'; (try dsimp only); (try k_lift B'); (try k_fold)))
  k_steps
  exact hret _ _ _ _ (by assumption) (by assumption) ⟨rfl, _, rfl⟩
theorem kids_con {w : World} (b : Addr) (nks : List (List Mix)) (foot : List Addr) (n : Int) (tn : Tok) (x : Str) (hx : nks[n.toNat]? = some [.inl x]) (h0 : 0 ≤ n) :
    Con w 220 [.ref b, .int n tn] 10 100 (fun news => BAt w b nks foot news) (fun news news' r => ∃ D, r = .ref D ∧ news' = (D, tupOf #[] 0) :: news ∧ ∀ p ∈ news, p.1 < D) := by
  intro mean mg mb dp un gd env outer A₀ base h₀ L m news s Q E B F X N T hf hk hd hu U hret
  obtain ⟨db, ln, dn, lw, ld, kk, n1, n2, n3, n4, nas, xs, vw, vd, ws, ds, I⟩ := U
  have m1 := I.inst
  have m2 := I.dict
  have m3 := I.nodes
  have hnl : nas.length = nks.length := I.tups.1
  have hsm := I.small
  have hlt : n.toNat < nks.length := (List.getElem?_eq_some_iff.mp hx).1
  have ha := ref_at (as := nas) (k := n) (by omega)
  have ht := I.tups.2 n.toNat (by omega)
  have e1 : nks.getD n.toNat [] = [.inl x] := by simp [hx]
  rw [e1] at ht
  obtain ⟨tx, nx, m4⟩ := tupIn_s_inv ht
  refine wpAny_call ?_
  ((refine' code_def (binds := ([("self", .ref b), ("n", .int n tn)])) ?k1 ?k2 ?k3 ?k4 ?k5 ?kA ?kF ?kK ?k6 ?k7 ?k8 ?k9 ?kB ?_ ?c2 ?c3 ?c4 ?c5; (case kA => exact rfl); (case kF => assumption); (case kK => assumption); (case k1 => k_asm); (case k2 => k_asm); (case k3 => k_asm); (case k4 => k_asm); (case k5 => k_asm); (case k6 => k_is); (case k7 => k_is); (case k8 => first | omega | ktr_room | (dsimp only; omega)); (case k9 => exact BindsTo.of_eq rfl); (case c5 => decide); (case kB => exact locs rfl); (case c2 => exact rfl); (case c3 => exact rfl); (case c4 => exact rfl); k_whole; intro g' L' h' FG' F' N' B' X' T'; (try dsimp only); (try k_lift B'); (try k_fold)))
  k_steps
  exact hret _ _ _ _ (by assumption) (by assumption) ⟨_, rfl, rfl, by assumption⟩
end
section
example : True := by
  w_top off
  k_with_none
  k_with "ktr_room" => ((try simp only [depth_under_make, depth_under_kw, depth_in1, depth_deeper, depth_caller]); (try dsimp only); first | exact room_up2 (by with_reducible assumption) rfl | exact room_up (by with_reducible assumption) rfl | exact room_0 (by with_reducible assumption) rfl | omega)
  k_with "ktr_units" => ((try simp only [units_in1, units_deeper, Around.mark_units, units_caller, units_under_make]); (try dsimp only); first | exact room_up2 (by with_reducible assumption) rfl | exact room_up (by with_reducible assumption) rfl | exact room_0 (by with_reducible assumption) rfl | omega)
  k_with "tb_start" => ((case kB => k_asm); (case kF => k_asm); (case kX => k_asm); (case kN => k_asm); (case kT => k_asm); (case kA => exact rfl); (case kH => exact rfl); (case kf => exact rfl); (case kk => exact rfl); (case kd => ktr_room); (case ku => ktr_units))
  k_with "call ref" => (k_here; (with_reducible show wpAny _ _ (call (Value.ref 97) _) _ _ _); k_dflt (refine' con_use (find_con _ _ _ _ _ _ _ _ ?kzFO) ?kB ?kF ?kX ?kN ?kT ?kA ?kH ?kf ?kk ?kd ?ku ?hp ?_; (case kzFO => assumption); (case hp => exact ⟨by assumption, by first | assumption | omega, by first | assumption | omega⟩); tb_start);  intro _ _ _ _ _ _ hp'; obtain ⟨e', _, e2'⟩ := hp'; subst e'; subst e2'; (try dsimp only))
  k_with "subscriptTail" => (k_here; (with_reducible show wpAny _ _ (subscriptTail _ _ (Value.ref _) (Value.int _ _)) _ _ _); k_dflt (refine' item_ref ?kzN ?kzm ?kzh0 ?kzhk ?kzhh ?_ ?kzhs; (case kzN => k_asm); (case kzhk => assumption); (case kzm => k_mem); (case kzh0 => omega); (case kzhh => omega); (case kzhs => with_unfolding_all rfl); k_whole))
  k_with "newList" => (k_here; k_dflt (refine' newList_led ?kzF ?kzN ?_ ?kzz; (case kzF => k_asm); (case kzN => k_asm); (case kzz => first | decide | kso_len)); intro _ _ _ _ _; (try k_sweep))
  k_with "call builtin:sorted" => (k_here; (with_reducible show wpAny _ _ (call (Value.builtin _) [Value.ref _]) _ _ _); k_dflt (with_unfolding_all refine' kso_sorted ?kzk1 ?kzk2 (is_listN ?kzk2 ?kzk3) ?kzk4 ?kzk5 ?_; (case kzk1 => k_asm); (case kzk2 => k_asm); (case kzk3 => k_mem); (case kzk4 => l_ints); (case kzk5 => omega); k_whole); intro _ _ _ _ _ _ _ _ _ _ _ _ _; (try k_sweep))
  k_with "kso_len" => first | omega | (simp only [List.length_append, List.length_map, List.length_cons, List.length_nil, List.length_set]; omega)
  k_with "call builtin:len" => (k_here; (with_reducible show wpAny _ _ (call (Value.builtin "len") [Value.ref _]) _ _ _); k_dflt (refine' len_led ?kzN ?kzm ?kzk ?kzz ?_; (case kzN => k_asm); (case kzm => k_mem); (case kzk => first | exact IntsAre.length (by with_reducible assumption) | exact List.length_map _ | ((try simp only [List.length_append, List.length_map, List.length_cons, List.length_nil, List.length_set]); exact rfl)); (case kzz => kso_len)); intro _ _)
  k_with "call builtin:list.append" => (k_here; (with_reducible show wpAny _ _ (call (Value.builtin _) [Value.ref _, _]) _ _ _); k_dflt (refine' append_led ?kzF ?kzN ?kzm ?kzz ?_; (case kzF => k_asm); (case kzN => k_asm); (case kzm => k_mem); (case kzz => kso_len)); intro _ _ _; (try k_sweep))
  k_with "call builtin:list.extend" => (k_here; (with_reducible show wpAny _ _ (call (Value.builtin _) [Value.ref _, Value.ref _]) _ _ _); k_dflt (refine' extend_led ?kzF ?kzN ?kzm ?kzb ?kzz ?kzy ?_; (case kzF => k_asm); (case kzN => k_asm); (case kzm => k_mem); (case kzb => k_mem); (case kzz => kso_len); (case kzy => kso_len)); intro _ _ _ _; (try k_sweep))
  k_with "call type:list" => (k_here; (with_reducible show wpAny _ _ (call (Value.type _) [Value.ref _]) _ _ _); k_dflt (refine' list_led ?kzF ?kzN ?kzm ?kzz ?_; (case kzF => k_asm); (case kzN => k_asm); (case kzm => k_mem); (case kzz => kso_len)); intro _ _ _ _ _ _; (try k_sweep))
  k_with "setItem ref int" => (k_here; (with_reducible show wpAny _ _ (setItem (Value.ref _) (Value.int _ _) (Value.int _ _)) _ _ _); k_dflt (refine' set_led ?kzF ?kzN ?kzm ?kzi ?kza ?kzb ?kzz ?_; (case kzF => k_asm); (case kzN => k_asm); (case kzm => k_mem); (case kzi => with_reducible assumption); (case kza => omega); (case kzb => omega); (case kzz => omega)); intro _ _ _ _; (try k_sweep))
  k_with "call builtin:sorted" => (k_here; (with_reducible show wpAny _ _ (call (Value.builtin _) [Value.ref _]) _ _ _); k_dflt (refine' sorted_two ?kzF ?kzN ?kzm ?_; (case kzF => k_asm); (case kzN => k_asm); (case kzm => k_mem)); intro _ _ _ _ _ _ _ _; (try k_sweep))
  k_with "k_mem" => first | with_reducible assumption | ktr_member | ((with_reducible refine' mem_setL_self ?kya); (case kya => k_mem)) | ((with_reducible refine' mem_setL_ne ?kya ?kyb); (case kyb => first | with_reducible assumption | exact Ne.symm (by with_reducible assumption) | omega); (case kya => k_mem)) | exact List.Mem.head _ | (refine' List.mem_cons_of_mem _ ?_; k_mem)
  k_with "newTuple" => (k_here; k_dflt (refine' newTuple_led ?kzF ?kzN ?_ ?kzz; (case kzF => k_asm); (case kzN => k_asm); (case kzz => first | decide | kso_len)); intro _ _ _ _ _; (try k_sweep))
  k_with "CompSrc" => refine Hold.out ?_
  k_with "CompSrcT" => refine Hold.out ?_
  k_with "Src3" => refine Hold.out ?_
  k_with "eval ListComp" => (k_here; (fail_if_success lct_look); k_dflt (refine ListComp_3 (F₀ := by k_asm) (by with_unfolding_all rfl) (by decide) (by rfl) (by decide) (by rfl) ?_))
  k_with "eval ListComp" => (k_here; lct_look; k_dflt (refine LCt.ListComp_T (F₀ := by k_asm) (by with_unfolding_all rfl) (by decide) (by rfl) (by decide) (by rfl) ?_))
  k_with "StrSrc" => refine Hold.out ?_
  k_with "ktr_rel" => first | with_reducible assumption | exact tupIn_s (by k_mem) | exact tupIn_si (by k_mem) | ((with_reducible refine DH.cons ?_); ktr_rel) | ((with_reducible refine DI.cons ?_); ktr_rel) | ((with_reducible refine TupIn.cons ?_); ktr_rel)
  k_with "call type:tuple" => (k_here; (with_reducible show wpAny _ _ (call (Value.type _) [Value.ref _]) _ _ _); k_dflt (first | (refine' tup_same ?kzN ?kzm ?_; (case kzN => k_asm); (case kzm => k_mem)) | (refine' tup_list ?kzF ?kzN ?kzm ?kzz ?_; (case kzF => k_asm); (case kzN => k_asm); (case kzm => k_mem); (case kzz => first | decide | kso_len); intro _ _ _ _ _; (try k_sweep))))
  k_with "binaryOp Add" => (k_here; (with_reducible show wpAny _ _ (binaryOp _ (Value.ref _) (Value.ref _)) _ _ _); k_dflt (first | (refine' tup_add0 ?kzF ?kzN ?kzm ?kzb ?kzv ?kzz ?_; (case kzF => k_asm); (case kzN => k_asm); (case kzm => k_mem); (case kzb => k_mem); (case kzv => simp); (case kzz => first | decide | kso_len)) | (refine' tup_add ?kzF ?kzN ?kzm ?kzb ?kzv ?kzy ?kzz ?kzx ?_; (case kzF => k_asm); (case kzN => k_asm); (case kzm => k_mem); (case kzb => k_mem); (case kzv => simp); (case kzy => simp); (case kzz => first | decide | kso_len); (case kzx => first | decide | kso_len); intro _ _ _ _ _; (try k_sweep))))
  k_with "subscriptTail" => (k_here; (with_reducible show wpAny _ _ (subscriptTail _ (Expr.Slice _ _ _ _) (Value.ref _) (Value.ref _)) _ _ _); k_dflt (refine' tup_slice1 ?kzF ?kzN ?kzm ?kzz ?_ ?kzs; (case kzs => with_unfolding_all rfl); (case kzF => k_asm); (case kzN => k_asm); (case kzm => k_mem); (case kzz => first | decide | kso_len)); intro _ _ _ _ _; (try k_sweep))
  k_with "compareOp In" => (k_here; (with_reducible show wpAny _ _ (compareOp CmpOp.In (Value.ref _) (Value.ref _)) _ _ _); k_dflt (refine' dh_in ?kzu ?kzN ?kzH ?kzT ?_; (case kzN => k_asm); (case kzH => ktr_rel); (case kzT => ktr_rel); (case kzu => ktr_units)); intro _; (try dsimp only))
  k_with "compareOp In" => (k_here; (with_reducible show wpAny _ _ (compareOp CmpOp.In (Value.ref _) (Value.ref _)) _ _ _); k_dflt (refine' dh_in_none ?kzu ?kzN ?kzH ?kzT ?kzK ?_; (case kzN => k_asm); (case kzH => ktr_rel); (case kzT => ktr_rel); (case kzK => with_reducible assumption); (case kzu => ktr_units)); intro _; (try dsimp only))
  k_with "setItem ref ref" => (k_here; k_dflt (refine' dh_set ?kzu ?kzF ?kzN ?kzH ?kzT ?kzz ?_; (case kzF => k_asm); (case kzN => k_asm); (case kzH => ktr_rel); (case kzT => ktr_rel); (case kzu => ktr_units); (case kzz => omega)); intro _ _ _ _ _ _; (try k_sweep))
  k_with "getMethod ref" => (k_here; (with_reducible show wpAny _ _ (getMethod (Value.ref _) (Str.ofString "setdefault") _) _ _ _); k_dflt (refine' dh_method PySem.F.slot_dict_setdefault PySem.F.type_dict_setdefault ?kzN ?kzH ?_; (case kzN => k_asm); (case kzH => ktr_rel)))
  k_with "getMethod ref" => (k_here; (with_reducible show wpAny _ _ (getMethod (Value.ref _) (Str.ofString "get") _) _ _ _); k_dflt (refine' dh_method PySem.F.slot_dict_get PySem.F.type_dict_get ?kzN ?kzH ?_; (case kzN => k_asm); (case kzH => ktr_rel)))
  k_with "getMethod ref" => (k_here; (with_reducible show wpAny _ _ (getMethod (Value.ref _) (Str.ofString "pop") _) _ _ _); k_dflt (refine' di_method PySem.F.slot_dict_pop PySem.F.type_dict_pop ?kzN ?kzH ?_; (case kzN => k_asm); (case kzH => ktr_rel)))
  k_with "k_mem" => first | with_reducible assumption | ktr_member | (refine' SetTo.it ?kys ?kya; (case kys => with_reducible assumption); (case kya => k_mem)) | (refine' SetTo.mem ?kys ?kya ?kyb; (case kys => with_reducible assumption); (case kyb => first | with_reducible assumption | exact Ne.symm (by with_reducible assumption) | (refine nen ?_; omega)); (case kya => k_mem)) | exact List.Mem.head _ | (refine' List.mem_cons_of_mem _ ?_; k_mem)
  k_with "ktr_rel" => (refine' TupIn.setTo ?kya ?kys ?kyb; (case kys => with_reducible assumption); (case kyb => first | with_reducible assumption | exact Ne.symm (by with_reducible assumption) | (refine nen ?_; omega)); (case kya => ktr_rel))
  k_with "call builtin:list.append" => (k_here; (with_reducible show wpAny _ _ (call (Value.builtin _) [Value.ref _, _]) _ _ _); k_dflt (refine' append_o ?kzF ?kzN ?kzm ?kzz ?_; (case kzF => k_asm); (case kzN => k_asm); (case kzm => k_mem); (case kzz => kso_len)); intro _ _ _ _ _; (try k_sweep))
  k_with "call builtin:list.extend" => (k_here; (with_reducible show wpAny _ _ (call (Value.builtin _) [Value.ref _, Value.ref _]) _ _ _); k_dflt (refine' extend_o ?kzF ?kzN ?kzm ?kzb ?kzz ?kzy ?_; (case kzF => k_asm); (case kzN => k_asm); (case kzm => k_mem); (case kzb => k_mem); (case kzz => kso_len); (case kzy => kso_len)); intro _ _ _ _ _ _; (try k_sweep))
  k_with "setItem ref int" => (k_here; (with_reducible show wpAny _ _ (setItem (Value.ref _) (Value.int _ _) (Value.int _ _)) _ _ _); k_dflt (refine' set_o ?kzF ?kzN ?kzm ?kzi ?kza ?kzb ?kzz ?_; (case kzF => k_asm); (case kzN => k_asm); (case kzm => k_mem); (case kzi => with_reducible assumption); (case kza => omega); (case kzb => omega); (case kzz => omega)); intro _ _ _ _ _ _; (try k_sweep))
  k_with "setItem ref ref" => (k_here; k_dflt (refine' dh_set_o ?kzu ?kzF ?kzN ?kzH ?kzT ?kzz ?_; (case kzF => k_asm); (case kzN => k_asm); (case kzH => ktr_rel); (case kzT => ktr_rel); (case kzu => ktr_units); (case kzz => omega)); intro _ _ _ _ _ _ _ _; (try k_sweep))
  k_with "subscriptTail" => (k_here; (with_reducible show wpAny _ _ (subscriptTail _ _ (Value.ref _) (Value.int 0 _)) _ _ _); k_dflt (refine' tup_item0 ?kzN ?kzm ?_ ?kzs; (case kzN => k_asm); (case kzm => k_mem); (case kzs => with_unfolding_all rfl)); k_whole)
  k_with "subscriptTail" => (k_here; (with_reducible show wpAny _ _ (subscriptTail _ _ (Value.ref _) (Value.int _ _)) _ _ _); k_dflt (refine' item_ref (vs := [_, _]) ?kzN ?kzm ?kzh0 ?kzhk ?kzhh ?_ ?kzhs; (case kzN => k_asm); (case kzm => k_mem); (case kzhk => exact rfl); (case kzh0 => decide); (case kzhh => decide); (case kzhs => with_unfolding_all rfl); k_whole))
  k_with "setItem ref int" => (k_here; k_dflt (refine' set_any_o (vs := [_, _]) ?kzF ?kzN ?kzm ?kza ?kzb ?kzz ?_; (case kzF => k_asm); (case kzN => k_asm); (case kzm => k_mem); (case kza => decide); (case kzb => (show (1:Int) < ((2:Nat):Int); decide)); (case kzz => decide)); intro _ _ _ _ S'; (try dsimp only [Int.toNat_one, List.set] at S'); (try k_sweep))
  k_with "subscriptTail" => (k_here; (with_reducible show wpAny _ _ (subscriptTail _ _ (Value.ref _) (Value.int _ _)) _ _ _); k_dflt (refine' ksa_sub ?kzN ?kzm ?kzi ?kza ?kzb ?kzz ?_ ?kzhs; (case kzN => k_asm); (case kzm => k_mem); (case kzi => with_reducible assumption); (case kza => first | with_reducible assumption | omega); (case kzb => first | with_reducible assumption | omega); (case kzz => omega); (case kzhs => with_unfolding_all rfl)); intro _)
  k_with "omega" => lia
  trivial
theorem pull_con {w : World} (P C : Addr) (p : Int) (vs : List Value) (cells : List Int) (n n2 : Nat) (tp : Tok) (lim : Int) (tl : Tok) (hlim : 0 < lim) (hlim2 : lim < 1000) (hp2 : p < 900) :
    Con w 404 [.ref P, .int lim tl] 20 200 (fun news => PoolIn P C p vs cells n n2 tp news)
      (fun news news' r => ∃ v t n' tp', r = .int v t ∧ 0 ≤ v ∧ v < lim ∧ (∀ q ∈ news, q.1 ≠ P → q ∈ news') ∧ PoolIn P C (p + 1) vs cells n' n2 tp' news') := by
  intro mean mg mb dp un gd env outer A₀ base h₀ L m news s Q E B F X N T hf hk hd hu I hret
  have m1 := I.mp
  have m2 := I.mc
  have hi := I.hi
  have hl := I.hlen
  have hps := I.pos
  have hvl := hi.length
  have hp0 := I.p0
  have hp1 := I.p1
  have hne := I.ne
  have f1 : 0 ≤ p.fmod cells.length := Int.fmod_nonneg_of_pos p (by omega)
  have f2 : p.fmod cells.length < cells.length := Int.fmod_lt_of_pos p (by omega)
  have g1 : 0 ≤ p.fdiv cells.length := Int.fdiv_nonneg hp0 (by omega)
  have g2 : p.fdiv cells.length ≤ 900 := by
    rw [Int.fdiv_eq_ediv_of_nonneg _ (by omega)]
    exact Int.le_trans (Int.ediv_le_self _ hp0) (by omega)
  refine wpAny_call ?_
  ((refine' code_def (binds := ([("pool", .ref P), ("limit", .int lim tl)])) ?k1 ?k2 ?k3 ?k4 ?k5 ?kA ?kF ?kK ?k6 ?k7 ?k8 ?k9 ?kB ?_ ?c2 ?c3 ?c4 ?c5; (case kA => exact rfl); (case kF => assumption); (case kK => assumption); (case k1 => k_asm); (case k2 => k_asm); (case k3 => k_asm); (case k4 => k_asm); (case k5 => k_asm); (case k6 => k_is); (case k7 => k_is); (case k8 => first | omega | ktr_room | (dsimp only; omega)); (case k9 => exact BindsTo.of_eq rfl); (case c5 => decide); (case kB => exact locs rfl); (case c2 => exact rfl); (case c3 => exact rfl); (case c4 => exact rfl); k_whole; intro g' L' h' FG' F' N' B' X' T'; (try dsimp only); (try k_lift B'); (try k_fold)))
  k_steps
  rename SetTo P _ _ _ => S1
  exact hret _ _ _ _ (by assumption) (by assumption) ⟨_, _, _, _, rfl, Int.fmod_nonneg_of_pos _ hlim, Int.fmod_lt_of_pos _ hlim, fun q hq e => S1.keep q (.tail _ hq) e, S1.self _ (.tail _ m1), S1.keep _ (.tail _ m2) hne.symm, hne, hi, hps, hl, I.rng, by omega, by omega⟩
end
section
example : True := by
  w_top off
  k_with_none
  k_with "ktr_room" => ((try simp only [depth_under_make, depth_under_kw, depth_in1, depth_deeper, depth_caller]); (try dsimp only); first | exact room_up2 (by with_reducible assumption) rfl | exact room_up (by with_reducible assumption) rfl | exact room_0 (by with_reducible assumption) rfl | omega)
  k_with "ktr_units" => ((try simp only [units_in1, units_deeper, Around.mark_units, units_caller, units_under_make]); (try dsimp only); first | exact room_up2 (by with_reducible assumption) rfl | exact room_up (by with_reducible assumption) rfl | exact room_0 (by with_reducible assumption) rfl | omega)
  k_with "tb_start" => ((case kB => k_asm); (case kF => k_asm); (case kX => k_asm); (case kN => k_asm); (case kT => k_asm); (case kA => exact rfl); (case kH => exact rfl); (case kf => exact rfl); (case kk => exact rfl); (case kd => ktr_room); (case ku => ktr_units))
  k_with "call ref" => (k_here; (with_reducible show wpAny _ _ (call (Value.ref 97) _) _ _ _); k_dflt (refine' con_use (find_con _ _ _ _ _ _ _ _ ?kzFO) ?kB ?kF ?kX ?kN ?kT ?kA ?kH ?kf ?kk ?kd ?ku ?hp ?_; (case kzFO => assumption); (case hp => exact ⟨by assumption, by first | assumption | omega, by first | assumption | omega⟩); tb_start);  intro _ _ _ _ _ _ hp'; obtain ⟨e', _, e2'⟩ := hp'; subst e'; subst e2'; (try dsimp only))
  k_with "subscriptTail" => (k_here; (with_reducible show wpAny _ _ (subscriptTail _ _ (Value.ref _) (Value.int _ _)) _ _ _); k_dflt (refine' item_ref ?kzN ?kzm ?kzh0 ?kzhk ?kzhh ?_ ?kzhs; (case kzN => k_asm); (case kzhk => assumption); (case kzm => k_mem); (case kzh0 => omega); (case kzhh => omega); (case kzhs => with_unfolding_all rfl); k_whole))
  k_with "newList" => (k_here; k_dflt (refine' newList_led ?kzF ?kzN ?_ ?kzz; (case kzF => k_asm); (case kzN => k_asm); (case kzz => first | decide | kso_len)); intro _ _ _ _ _; (try k_sweep))
  k_with "call builtin:sorted" => (k_here; (with_reducible show wpAny _ _ (call (Value.builtin _) [Value.ref _]) _ _ _); k_dflt (with_unfolding_all refine' kso_sorted ?kzk1 ?kzk2 (is_listN ?kzk2 ?kzk3) ?kzk4 ?kzk5 ?_; (case kzk1 => k_asm); (case kzk2 => k_asm); (case kzk3 => k_mem); (case kzk4 => l_ints); (case kzk5 => omega); k_whole); intro _ _ _ _ _ _ _ _ _ _ _ _ _; (try k_sweep))
  k_with "kso_len" => first | omega | (simp only [List.length_append, List.length_map, List.length_cons, List.length_nil, List.length_set]; omega)
  k_with "call builtin:len" => (k_here; (with_reducible show wpAny _ _ (call (Value.builtin "len") [Value.ref _]) _ _ _); k_dflt (refine' len_led ?kzN ?kzm ?kzk ?kzz ?_; (case kzN => k_asm); (case kzm => k_mem); (case kzk => first | exact IntsAre.length (by with_reducible assumption) | exact List.length_map _ | ((try simp only [List.length_append, List.length_map, List.length_cons, List.length_nil, List.length_set]); exact rfl)); (case kzz => kso_len)); intro _ _)
  k_with "call builtin:list.append" => (k_here; (with_reducible show wpAny _ _ (call (Value.builtin _) [Value.ref _, _]) _ _ _); k_dflt (refine' append_led ?kzF ?kzN ?kzm ?kzz ?_; (case kzF => k_asm); (case kzN => k_asm); (case kzm => k_mem); (case kzz => kso_len)); intro _ _ _; (try k_sweep))
  k_with "call builtin:list.extend" => (k_here; (with_reducible show wpAny _ _ (call (Value.builtin _) [Value.ref _, Value.ref _]) _ _ _); k_dflt (refine' extend_led ?kzF ?kzN ?kzm ?kzb ?kzz ?kzy ?_; (case kzF => k_asm); (case kzN => k_asm); (case kzm => k_mem); (case kzb => k_mem); (case kzz => kso_len); (case kzy => kso_len)); intro _ _ _ _; (try k_sweep))
  k_with "call type:list" => (k_here; (with_reducible show wpAny _ _ (call (Value.type _) [Value.ref _]) _ _ _); k_dflt (refine' list_led ?kzF ?kzN ?kzm ?kzz ?_; (case kzF => k_asm); (case kzN => k_asm); (case kzm => k_mem); (case kzz => kso_len)); intro _ _ _ _ _ _; (try k_sweep))
  k_with "setItem ref int" => (k_here; (with_reducible show wpAny _ _ (setItem (Value.ref _) (Value.int _ _) (Value.int _ _)) _ _ _); k_dflt (refine' set_led ?kzF ?kzN ?kzm ?kzi ?kza ?kzb ?kzz ?_; (case kzF => k_asm); (case kzN => k_asm); (case kzm => k_mem); (case kzi => with_reducible assumption); (case kza => omega); (case kzb => omega); (case kzz => omega)); intro _ _ _ _; (try k_sweep))
  k_with "call builtin:sorted" => (k_here; (with_reducible show wpAny _ _ (call (Value.builtin _) [Value.ref _]) _ _ _); k_dflt (refine' sorted_two ?kzF ?kzN ?kzm ?_; (case kzF => k_asm); (case kzN => k_asm); (case kzm => k_mem)); intro _ _ _ _ _ _ _ _; (try k_sweep))
  k_with "k_mem" => first | with_reducible assumption | ktr_member | ((with_reducible refine' mem_setL_self ?kya); (case kya => k_mem)) | ((with_reducible refine' mem_setL_ne ?kya ?kyb); (case kyb => first | with_reducible assumption | exact Ne.symm (by with_reducible assumption) | omega); (case kya => k_mem)) | exact List.Mem.head _ | (refine' List.mem_cons_of_mem _ ?_; k_mem)
  k_with "newTuple" => (k_here; k_dflt (refine' newTuple_led ?kzF ?kzN ?_ ?kzz; (case kzF => k_asm); (case kzN => k_asm); (case kzz => first | decide | kso_len)); intro _ _ _ _ _; (try k_sweep))
  k_with "CompSrc" => refine Hold.out ?_
  k_with "CompSrcT" => refine Hold.out ?_
  k_with "Src3" => refine Hold.out ?_
  k_with "eval ListComp" => (k_here; (fail_if_success lct_look); k_dflt (refine ListComp_3 (F₀ := by k_asm) (by with_unfolding_all rfl) (by decide) (by rfl) (by decide) (by rfl) ?_))
  k_with "eval ListComp" => (k_here; lct_look; k_dflt (refine LCt.ListComp_T (F₀ := by k_asm) (by with_unfolding_all rfl) (by decide) (by rfl) (by decide) (by rfl) ?_))
  k_with "StrSrc" => refine Hold.out ?_
  k_with "ktr_rel" => first | with_reducible assumption | exact tupIn_s (by k_mem) | exact tupIn_si (by k_mem) | ((with_reducible refine DH.cons ?_); ktr_rel) | ((with_reducible refine DI.cons ?_); ktr_rel) | ((with_reducible refine TupIn.cons ?_); ktr_rel)
  k_with "call type:tuple" => (k_here; (with_reducible show wpAny _ _ (call (Value.type _) [Value.ref _]) _ _ _); k_dflt (first | (refine' tup_same ?kzN ?kzm ?_; (case kzN => k_asm); (case kzm => k_mem)) | (refine' tup_list ?kzF ?kzN ?kzm ?kzz ?_; (case kzF => k_asm); (case kzN => k_asm); (case kzm => k_mem); (case kzz => first | decide | kso_len); intro _ _ _ _ _; (try k_sweep))))
  k_with "binaryOp Add" => (k_here; (with_reducible show wpAny _ _ (binaryOp _ (Value.ref _) (Value.ref _)) _ _ _); k_dflt (first | (refine' tup_add0 ?kzF ?kzN ?kzm ?kzb ?kzv ?kzz ?_; (case kzF => k_asm); (case kzN => k_asm); (case kzm => k_mem); (case kzb => k_mem); (case kzv => simp); (case kzz => first | decide | kso_len)) | (refine' tup_add ?kzF ?kzN ?kzm ?kzb ?kzv ?kzy ?kzz ?kzx ?_; (case kzF => k_asm); (case kzN => k_asm); (case kzm => k_mem); (case kzb => k_mem); (case kzv => simp); (case kzy => simp); (case kzz => first | decide | kso_len); (case kzx => first | decide | kso_len); intro _ _ _ _ _; (try k_sweep))))
  k_with "subscriptTail" => (k_here; (with_reducible show wpAny _ _ (subscriptTail _ (Expr.Slice _ _ _ _) (Value.ref _) (Value.ref _)) _ _ _); k_dflt (refine' tup_slice1 ?kzF ?kzN ?kzm ?kzz ?_ ?kzs; (case kzs => with_unfolding_all rfl); (case kzF => k_asm); (case kzN => k_asm); (case kzm => k_mem); (case kzz => first | decide | kso_len)); intro _ _ _ _ _; (try k_sweep))
  k_with "compareOp In" => (k_here; (with_reducible show wpAny _ _ (compareOp CmpOp.In (Value.ref _) (Value.ref _)) _ _ _); k_dflt (refine' dh_in ?kzu ?kzN ?kzH ?kzT ?_; (case kzN => k_asm); (case kzH => ktr_rel); (case kzT => ktr_rel); (case kzu => ktr_units)); intro _; (try dsimp only))
  k_with "compareOp In" => (k_here; (with_reducible show wpAny _ _ (compareOp CmpOp.In (Value.ref _) (Value.ref _)) _ _ _); k_dflt (refine' dh_in_none ?kzu ?kzN ?kzH ?kzT ?kzK ?_; (case kzN => k_asm); (case kzH => ktr_rel); (case kzT => ktr_rel); (case kzK => with_reducible assumption); (case kzu => ktr_units)); intro _; (try dsimp only))
  k_with "setItem ref ref" => (k_here; k_dflt (refine' dh_set ?kzu ?kzF ?kzN ?kzH ?kzT ?kzz ?_; (case kzF => k_asm); (case kzN => k_asm); (case kzH => ktr_rel); (case kzT => ktr_rel); (case kzu => ktr_units); (case kzz => omega)); intro _ _ _ _ _ _; (try k_sweep))
  k_with "getMethod ref" => (k_here; (with_reducible show wpAny _ _ (getMethod (Value.ref _) (Str.ofString "setdefault") _) _ _ _); k_dflt (refine' dh_method PySem.F.slot_dict_setdefault PySem.F.type_dict_setdefault ?kzN ?kzH ?_; (case kzN => k_asm); (case kzH => ktr_rel)))
  k_with "getMethod ref" => (k_here; (with_reducible show wpAny _ _ (getMethod (Value.ref _) (Str.ofString "get") _) _ _ _); k_dflt (refine' dh_method PySem.F.slot_dict_get PySem.F.type_dict_get ?kzN ?kzH ?_; (case kzN => k_asm); (case kzH => ktr_rel)))
  k_with "getMethod ref" => (k_here; (with_reducible show wpAny _ _ (getMethod (Value.ref _) (Str.ofString "pop") _) _ _ _); k_dflt (refine' di_method PySem.F.slot_dict_pop PySem.F.type_dict_pop ?kzN ?kzH ?_; (case kzN => k_asm); (case kzH => ktr_rel)))
  k_with "k_mem" => first | with_reducible assumption | ktr_member | (refine' SetTo.it ?kys ?kya; (case kys => with_reducible assumption); (case kya => k_mem)) | (refine' SetTo.mem ?kys ?kya ?kyb; (case kys => with_reducible assumption); (case kyb => first | with_reducible assumption | exact Ne.symm (by with_reducible assumption) | (refine nen ?_; omega)); (case kya => k_mem)) | exact List.Mem.head _ | (refine' List.mem_cons_of_mem _ ?_; k_mem)
  k_with "ktr_rel" => (refine' TupIn.setTo ?kya ?kys ?kyb; (case kys => with_reducible assumption); (case kyb => first | with_reducible assumption | exact Ne.symm (by with_reducible assumption) | (refine nen ?_; omega)); (case kya => ktr_rel))
  k_with "call builtin:list.append" => (k_here; (with_reducible show wpAny _ _ (call (Value.builtin _) [Value.ref _, _]) _ _ _); k_dflt (refine' append_o ?kzF ?kzN ?kzm ?kzz ?_; (case kzF => k_asm); (case kzN => k_asm); (case kzm => k_mem); (case kzz => kso_len)); intro _ _ _ _ _; (try k_sweep))
  k_with "call builtin:list.extend" => (k_here; (with_reducible show wpAny _ _ (call (Value.builtin _) [Value.ref _, Value.ref _]) _ _ _); k_dflt (refine' extend_o ?kzF ?kzN ?kzm ?kzb ?kzz ?kzy ?_; (case kzF => k_asm); (case kzN => k_asm); (case kzm => k_mem); (case kzb => k_mem); (case kzz => kso_len); (case kzy => kso_len)); intro _ _ _ _ _ _; (try k_sweep))
  k_with "setItem ref int" => (k_here; (with_reducible show wpAny _ _ (setItem (Value.ref _) (Value.int _ _) (Value.int _ _)) _ _ _); k_dflt (refine' set_o ?kzF ?kzN ?kzm ?kzi ?kza ?kzb ?kzz ?_; (case kzF => k_asm); (case kzN => k_asm); (case kzm => k_mem); (case kzi => with_reducible assumption); (case kza => omega); (case kzb => omega); (case kzz => omega)); intro _ _ _ _ _ _; (try k_sweep))
  k_with "setItem ref ref" => (k_here; k_dflt (refine' dh_set_o ?kzu ?kzF ?kzN ?kzH ?kzT ?kzz ?_; (case kzF => k_asm); (case kzN => k_asm); (case kzH => ktr_rel); (case kzT => ktr_rel); (case kzu => ktr_units); (case kzz => omega)); intro _ _ _ _ _ _ _ _; (try k_sweep))
  k_with "subscriptTail" => (k_here; (with_reducible show wpAny _ _ (subscriptTail _ _ (Value.ref _) (Value.int 0 _)) _ _ _); k_dflt (refine' tup_item0 ?kzN ?kzm ?_ ?kzs; (case kzN => k_asm); (case kzm => k_mem); (case kzs => with_unfolding_all rfl)); k_whole)
  k_with "exec For" => (k_here; (rename Fr _ _ _ _ => lF'); k_dflt ((with_unfolding_all refine' For_invVF lF' ?kzk1 ?kzk2 ?_); (case kzk1 => exact rfl); (case kzk2 => exact rfl)); k_whole)
  k_with "pyIter ref" => ((with_reducible show wpAny _ _ (pyIter (Value.ref _)) (fun it s₂ => LoopAtV _ _ _ _ _ _ _ _ _ it s₂) _ _); refine Hold.out ?_)
  k_with "eval Name" => (k_here; name_kind "cell"; k_dflt (refine' ldCN ?kzN ?kzc ?kzm ?kzd ?_ ?kzk ?kzl ?kzb; (case kzk => rfl); (case kzl => rfl); (case kzb => decide); (case kzN => k_asm); (case kzc => exact rfl); (case kzm => k_mem); (case kzd => with_reducible assumption)); k_whole)
  k_with "ktr_rel" => first | assumption | exact tupIn_s (by k_mem) | exact tupIn_si (by k_mem) | exact DH.cons (by ktr_rel) | exact DI.cons (by ktr_rel) | exact TupIn.cons (by ktr_rel)
  k_with "call ref" => (k_here; (with_reducible show wpAny _ _ (call (Value.ref 187) _) _ _ _); k_dflt (refine' con_use (require_ok _ _ _ ?kzO) ?kB ?kF ?kX ?kN ?kT ?kA ?kH ?kf ?kk ?kd ?ku ?hp ?_; (case kzO => assumption); (case hp => trivial); tb_start); intro _ _ _ _ _ _ hp'; obtain ⟨e', e2'⟩ := hp'; subst e'; subst e2'; (try dsimp only))
  k_with "omega" => lia
  trivial
theorem take_con {w : World} (b : Addr) (nks : List (List Mix)) (foot : List Addr) (kt : Addr) (x : Str) (tx : Tok) (nt : Nat) (O : OkOp x) (hnew : [Sum.inl x] ∉ nks) (hl : nks.length < 50) :
    Con w 180 [.ref b, .str x tx, .ref kt] 80 800 (fun news => BAt w b nks foot news ∧ (kt, tupOf #[] nt) ∈ news)
      (fun news news' r => ∃ t foot', r = .int nks.length t ∧ BAt w b (nks ++ [[.inl x]]) foot' news' ∧ Keeps foot news news' ∧ Grow foot foot' news ∧ ∀ a ∈ foot, a ∈ foot') := by
  rintro mean mg mb dp un gd env outer A₀ base h₀ L m news s Q E B F X N T hf hk hd hu ⟨U, mkt⟩ hret
  obtain ⟨db, ln, dn, lw, ld, kk, n1, n2, n3, n4, nas, xs, vw, vd, ws, ds, I⟩ := U
  have m1 := I.inst
  have m2 := I.dict
  have m3 := I.nodes
  have m5 := I.weights
  have m6 := I.depths
  have hiw := I.wints
  have hid := I.dints
  have hDH := I.numbers
  have hnl : nas.length = nks.length := I.tups.1
  have hwl : vw.length = nks.length := hiw.length.trans I.wlen
  have hdl : vd.length = nks.length := hid.length.trans I.dlen
  have hxl : xs.length = nks.length := I.num.1
  have hnod := I.nod
  simp only [List.nodup_cons, List.mem_cons, List.not_mem_nil, or_false, not_or] at hnod
  obtain ⟨⟨z1, z2, z3, z4, z5⟩, ⟨z6, z7, z8, z9⟩, ⟨z10, z11, z12⟩, ⟨z13, z14⟩, z15, _⟩ := hnod
  have hnone : atKey xs [Sum.inl x] = none := by
    refine atKey_none_of_get fun j p hj => hnew ?_
    have hjl : j < xs.length := (List.getElem?_eq_some_iff.mp hj).1
    obtain ⟨t, e1, _⟩ := I.num.2 j hjl
    have e2 : (xs.getD j ([], 0, .none)).1 = [Sum.inl x] := by simp [hj]
    rw [e2] at e1
    rw [e1]
    exact getD_mem (by rw [← I.num.1]; exact hjl)
  refine wpAny_call ?_
  ((refine' code_defC (binds := ([("self", .ref b), ("op", .str x tx), ("kids", .ref kt)])) ?k1 ?k2 ?k3 ?k4 ?k5 ?kA ?kF ?kK ?k6 ?k7 ?k8 ?k9 ?kB ?kD ?_ ?c2 ?c3 ?c4; (case kA => exact rfl); (case kF => assumption); (case kK => assumption); (case k1 => k_asm); (case k2 => k_asm); (case k3 => k_asm); (case k4 => k_asm); (case k5 => k_asm); (case k6 => k_is); (case k7 => k_is); (case k8 => first | omega | ktr_room | (dsimp only; omega)); (case k9 => exact BindsTo.of_eq rfl); (case kB => exact rfl); (case kD => decide +kernel); (case c2 => exact rfl); (case c3 => exact rfl); (case c4 => exact rfl); k_whole; intro g' L' h' tk' cells' FG' F' N' Y' B' X' T' l1; k_cells Y'; (try simp only [List.cons_append, List.nil_append] at N'); (try dsimp only); (try k_fold)))
  k_steps
  refine Hold.done (for_tup0 rfl (by k_asm) (by k_asm) (by k_mem) ?_)
  intro h1 tk1 F1 N1
  rename ∀ p ∈ news, p.1 < _ => lD
  rename ∀ p ∈ (_, _) :: news, p.1 < _ => lD1
  obtain ⟨odn, m4⟩ := hDH.obj
  have a1 := ltn (lD _ m4)
  have a2 := ltn (lD _ m3)
  have a3 := ltn (lD _ m5)
  have a4 := ltn (lD _ m6)
  have a5 := ltn (lD1 _ (.head _))
  dsimp only at a1 a2 a3 a4 a5
  k_steps
  refine Hold.done (comp_tup0 rfl (by k_asm) (by k_asm) (by k_mem) ?_)
  intro D2 h2 tk2 F2 N2 l2
  k_steps
  refine Hold.done (comp_tup0 rfl (by k_asm) (by k_asm) (by k_mem) ?_)
  intro D3 h3 tk3 F3 N3 l3
  k_steps
  rename SetTo dn _ _ _ => S1
  rename SetTo ln _ _ _ => S2
  rename SetTo lw _ _ _ => S3
  rename SetTo ld _ _ _ => S4
  rename DH _ _ dn (storedH _ _ _ _) _ => H2
  have e9 : ((nas.length + (0 + 1) : Nat) : Int) - 1 = (nks.length : Nat) := by omega
  rw [e9]
  rw [storedH_new hnone] at H2
  have H3 := H2.setTo S2 (Ne.symm z10) (entAddrs_snoc (fun a ha => (I.tne a (.inr ha)).2.1) (nen (by omega)))
  have H4 := DH.setTo (by first | exact H3 | exact H3.cons | exact H3.cons.cons | exact H3.cons.cons.cons) S3 z13 (entAddrs_snoc (fun a ha => (I.tne a (.inr ha)).2.2.1) (nen (by omega)))
  have H5 := DH.setTo (by first | exact H4 | exact H4.cons | exact H4.cons.cons | exact H4.cons.cons.cons | exact H4.cons.cons.cons.cons) S4 z14 (entAddrs_snoc (fun a ha => (I.tne a (.inr ha)).2.2.2) (nen (by omega)))
  refine hret _ _ _ _ (by assumption) (by assumption) ⟨_, _, rfl, I.take hl (fun p hp e1 e2 e3 e4 => by repeat (first | assumption | (refine' SetTo.keep (by assumption) _ ?_ (by assumption)) | (refine' List.mem_cons_of_mem _ ?_))) (by k_mem) H5 (by k_mem) (by k_mem) (tupIn_s (by k_mem)) (fun p hp e => absurd (lD1 p (.tail _ hp)) (by rw [e]; exact Nat.lt_irrefl _))⟩
end
section
example : True := by
  w_top off
  k_with_none
  k_with "ktr_room" => ((try simp only [depth_under_make, depth_under_kw, depth_in1, depth_deeper, depth_caller]); (try dsimp only); first | exact room_up2 (by with_reducible assumption) rfl | exact room_up (by with_reducible assumption) rfl | exact room_0 (by with_reducible assumption) rfl | omega)
  k_with "ktr_units" => ((try simp only [units_in1, units_deeper, Around.mark_units, units_caller, units_under_make]); (try dsimp only); first | exact room_up2 (by with_reducible assumption) rfl | exact room_up (by with_reducible assumption) rfl | exact room_0 (by with_reducible assumption) rfl | omega)
  k_with "tb_start" => ((case kB => k_asm); (case kF => k_asm); (case kX => k_asm); (case kN => k_asm); (case kT => k_asm); (case kA => exact rfl); (case kH => exact rfl); (case kf => exact rfl); (case kk => exact rfl); (case kd => ktr_room); (case ku => ktr_units))
  k_with "call ref" => (k_here; (with_reducible show wpAny _ _ (call (Value.ref 97) _) _ _ _); k_dflt (refine' con_use (find_con _ _ _ _ _ _ _ _ ?kzFO) ?kB ?kF ?kX ?kN ?kT ?kA ?kH ?kf ?kk ?kd ?ku ?hp ?_; (case kzFO => assumption); (case hp => exact ⟨by assumption, by first | assumption | omega, by first | assumption | omega⟩); tb_start);  intro _ _ _ _ _ _ hp'; obtain ⟨e', _, e2'⟩ := hp'; subst e'; subst e2'; (try dsimp only))
  k_with "subscriptTail" => (k_here; (with_reducible show wpAny _ _ (subscriptTail _ _ (Value.ref _) (Value.int _ _)) _ _ _); k_dflt (refine' item_ref ?kzN ?kzm ?kzh0 ?kzhk ?kzhh ?_ ?kzhs; (case kzN => k_asm); (case kzhk => assumption); (case kzm => k_mem); (case kzh0 => omega); (case kzhh => omega); (case kzhs => with_unfolding_all rfl); k_whole))
  k_with "newList" => (k_here; k_dflt (refine' newList_led ?kzF ?kzN ?_ ?kzz; (case kzF => k_asm); (case kzN => k_asm); (case kzz => first | decide | kso_len)); intro _ _ _ _ _; (try k_sweep))
  k_with "call builtin:sorted" => (k_here; (with_reducible show wpAny _ _ (call (Value.builtin _) [Value.ref _]) _ _ _); k_dflt (with_unfolding_all refine' kso_sorted ?kzk1 ?kzk2 (is_listN ?kzk2 ?kzk3) ?kzk4 ?kzk5 ?_; (case kzk1 => k_asm); (case kzk2 => k_asm); (case kzk3 => k_mem); (case kzk4 => l_ints); (case kzk5 => omega); k_whole); intro _ _ _ _ _ _ _ _ _ _ _ _ _; (try k_sweep))
  k_with "kso_len" => first | omega | (simp only [List.length_append, List.length_map, List.length_cons, List.length_nil, List.length_set]; omega)
  k_with "call builtin:len" => (k_here; (with_reducible show wpAny _ _ (call (Value.builtin "len") [Value.ref _]) _ _ _); k_dflt (refine' len_led ?kzN ?kzm ?kzk ?kzz ?_; (case kzN => k_asm); (case kzm => k_mem); (case kzk => first | exact IntsAre.length (by with_reducible assumption) | exact List.length_map _ | ((try simp only [List.length_append, List.length_map, List.length_cons, List.length_nil, List.length_set]); exact rfl)); (case kzz => kso_len)); intro _ _)
  k_with "call builtin:list.append" => (k_here; (with_reducible show wpAny _ _ (call (Value.builtin _) [Value.ref _, _]) _ _ _); k_dflt (refine' append_led ?kzF ?kzN ?kzm ?kzz ?_; (case kzF => k_asm); (case kzN => k_asm); (case kzm => k_mem); (case kzz => kso_len)); intro _ _ _; (try k_sweep))
  k_with "call builtin:list.extend" => (k_here; (with_reducible show wpAny _ _ (call (Value.builtin _) [Value.ref _, Value.ref _]) _ _ _); k_dflt (refine' extend_led ?kzF ?kzN ?kzm ?kzb ?kzz ?kzy ?_; (case kzF => k_asm); (case kzN => k_asm); (case kzm => k_mem); (case kzb => k_mem); (case kzz => kso_len); (case kzy => kso_len)); intro _ _ _ _; (try k_sweep))
  k_with "call type:list" => (k_here; (with_reducible show wpAny _ _ (call (Value.type _) [Value.ref _]) _ _ _); k_dflt (refine' list_led ?kzF ?kzN ?kzm ?kzz ?_; (case kzF => k_asm); (case kzN => k_asm); (case kzm => k_mem); (case kzz => kso_len)); intro _ _ _ _ _ _; (try k_sweep))
  k_with "setItem ref int" => (k_here; (with_reducible show wpAny _ _ (setItem (Value.ref _) (Value.int _ _) (Value.int _ _)) _ _ _); k_dflt (refine' set_led ?kzF ?kzN ?kzm ?kzi ?kza ?kzb ?kzz ?_; (case kzF => k_asm); (case kzN => k_asm); (case kzm => k_mem); (case kzi => with_reducible assumption); (case kza => omega); (case kzb => omega); (case kzz => omega)); intro _ _ _ _; (try k_sweep))
  k_with "call builtin:sorted" => (k_here; (with_reducible show wpAny _ _ (call (Value.builtin _) [Value.ref _]) _ _ _); k_dflt (refine' sorted_two ?kzF ?kzN ?kzm ?_; (case kzF => k_asm); (case kzN => k_asm); (case kzm => k_mem)); intro _ _ _ _ _ _ _ _; (try k_sweep))
  k_with "k_mem" => first | with_reducible assumption | ktr_member | ((with_reducible refine' mem_setL_self ?kya); (case kya => k_mem)) | ((with_reducible refine' mem_setL_ne ?kya ?kyb); (case kyb => first | with_reducible assumption | exact Ne.symm (by with_reducible assumption) | omega); (case kya => k_mem)) | exact List.Mem.head _ | (refine' List.mem_cons_of_mem _ ?_; k_mem)
  k_with "newTuple" => (k_here; k_dflt (refine' newTuple_led ?kzF ?kzN ?_ ?kzz; (case kzF => k_asm); (case kzN => k_asm); (case kzz => first | decide | kso_len)); intro _ _ _ _ _; (try k_sweep))
  k_with "CompSrc" => refine Hold.out ?_
  k_with "CompSrcT" => refine Hold.out ?_
  k_with "Src3" => refine Hold.out ?_
  k_with "eval ListComp" => (k_here; (fail_if_success lct_look); k_dflt (refine ListComp_3 (F₀ := by k_asm) (by with_unfolding_all rfl) (by decide) (by rfl) (by decide) (by rfl) ?_))
  k_with "eval ListComp" => (k_here; lct_look; k_dflt (refine LCt.ListComp_T (F₀ := by k_asm) (by with_unfolding_all rfl) (by decide) (by rfl) (by decide) (by rfl) ?_))
  k_with "StrSrc" => refine Hold.out ?_
  k_with "ktr_rel" => first | with_reducible assumption | exact tupIn_s (by k_mem) | exact tupIn_si (by k_mem) | ((with_reducible refine DH.cons ?_); ktr_rel) | ((with_reducible refine DI.cons ?_); ktr_rel) | ((with_reducible refine TupIn.cons ?_); ktr_rel)
  k_with "call type:tuple" => (k_here; (with_reducible show wpAny _ _ (call (Value.type _) [Value.ref _]) _ _ _); k_dflt (first | (refine' tup_same ?kzN ?kzm ?_; (case kzN => k_asm); (case kzm => k_mem)) | (refine' tup_list ?kzF ?kzN ?kzm ?kzz ?_; (case kzF => k_asm); (case kzN => k_asm); (case kzm => k_mem); (case kzz => first | decide | kso_len); intro _ _ _ _ _; (try k_sweep))))
  k_with "binaryOp Add" => (k_here; (with_reducible show wpAny _ _ (binaryOp _ (Value.ref _) (Value.ref _)) _ _ _); k_dflt (first | (refine' tup_add0 ?kzF ?kzN ?kzm ?kzb ?kzv ?kzz ?_; (case kzF => k_asm); (case kzN => k_asm); (case kzm => k_mem); (case kzb => k_mem); (case kzv => simp); (case kzz => first | decide | kso_len)) | (refine' tup_add ?kzF ?kzN ?kzm ?kzb ?kzv ?kzy ?kzz ?kzx ?_; (case kzF => k_asm); (case kzN => k_asm); (case kzm => k_mem); (case kzb => k_mem); (case kzv => simp); (case kzy => simp); (case kzz => first | decide | kso_len); (case kzx => first | decide | kso_len); intro _ _ _ _ _; (try k_sweep))))
  k_with "subscriptTail" => (k_here; (with_reducible show wpAny _ _ (subscriptTail _ (Expr.Slice _ _ _ _) (Value.ref _) (Value.ref _)) _ _ _); k_dflt (refine' tup_slice1 ?kzF ?kzN ?kzm ?kzz ?_ ?kzs; (case kzs => with_unfolding_all rfl); (case kzF => k_asm); (case kzN => k_asm); (case kzm => k_mem); (case kzz => first | decide | kso_len)); intro _ _ _ _ _; (try k_sweep))
  k_with "compareOp In" => (k_here; (with_reducible show wpAny _ _ (compareOp CmpOp.In (Value.ref _) (Value.ref _)) _ _ _); k_dflt (refine' dh_in ?kzu ?kzN ?kzH ?kzT ?_; (case kzN => k_asm); (case kzH => ktr_rel); (case kzT => ktr_rel); (case kzu => ktr_units)); intro _; (try dsimp only))
  k_with "compareOp In" => (k_here; (with_reducible show wpAny _ _ (compareOp CmpOp.In (Value.ref _) (Value.ref _)) _ _ _); k_dflt (refine' dh_in_none ?kzu ?kzN ?kzH ?kzT ?kzK ?_; (case kzN => k_asm); (case kzH => ktr_rel); (case kzT => ktr_rel); (case kzK => with_reducible assumption); (case kzu => ktr_units)); intro _; (try dsimp only))
  k_with "setItem ref ref" => (k_here; k_dflt (refine' dh_set ?kzu ?kzF ?kzN ?kzH ?kzT ?kzz ?_; (case kzF => k_asm); (case kzN => k_asm); (case kzH => ktr_rel); (case kzT => ktr_rel); (case kzu => ktr_units); (case kzz => omega)); intro _ _ _ _ _ _; (try k_sweep))
  k_with "getMethod ref" => (k_here; (with_reducible show wpAny _ _ (getMethod (Value.ref _) (Str.ofString "setdefault") _) _ _ _); k_dflt (refine' dh_method PySem.F.slot_dict_setdefault PySem.F.type_dict_setdefault ?kzN ?kzH ?_; (case kzN => k_asm); (case kzH => ktr_rel)))
  k_with "getMethod ref" => (k_here; (with_reducible show wpAny _ _ (getMethod (Value.ref _) (Str.ofString "get") _) _ _ _); k_dflt (refine' dh_method PySem.F.slot_dict_get PySem.F.type_dict_get ?kzN ?kzH ?_; (case kzN => k_asm); (case kzH => ktr_rel)))
  k_with "getMethod ref" => (k_here; (with_reducible show wpAny _ _ (getMethod (Value.ref _) (Str.ofString "pop") _) _ _ _); k_dflt (refine' di_method PySem.F.slot_dict_pop PySem.F.type_dict_pop ?kzN ?kzH ?_; (case kzN => k_asm); (case kzH => ktr_rel)))
  k_with "k_mem" => first | with_reducible assumption | ktr_member | (refine' SetTo.it ?kys ?kya; (case kys => with_reducible assumption); (case kya => k_mem)) | (refine' SetTo.mem ?kys ?kya ?kyb; (case kys => with_reducible assumption); (case kyb => first | with_reducible assumption | exact Ne.symm (by with_reducible assumption) | (refine nen ?_; omega)); (case kya => k_mem)) | exact List.Mem.head _ | (refine' List.mem_cons_of_mem _ ?_; k_mem)
  k_with "ktr_rel" => (refine' TupIn.setTo ?kya ?kys ?kyb; (case kys => with_reducible assumption); (case kyb => first | with_reducible assumption | exact Ne.symm (by with_reducible assumption) | (refine nen ?_; omega)); (case kya => ktr_rel))
  k_with "call builtin:list.append" => (k_here; (with_reducible show wpAny _ _ (call (Value.builtin _) [Value.ref _, _]) _ _ _); k_dflt (refine' append_o ?kzF ?kzN ?kzm ?kzz ?_; (case kzF => k_asm); (case kzN => k_asm); (case kzm => k_mem); (case kzz => kso_len)); intro _ _ _ _ _; (try k_sweep))
  k_with "call builtin:list.extend" => (k_here; (with_reducible show wpAny _ _ (call (Value.builtin _) [Value.ref _, Value.ref _]) _ _ _); k_dflt (refine' extend_o ?kzF ?kzN ?kzm ?kzb ?kzz ?kzy ?_; (case kzF => k_asm); (case kzN => k_asm); (case kzm => k_mem); (case kzb => k_mem); (case kzz => kso_len); (case kzy => kso_len)); intro _ _ _ _ _ _; (try k_sweep))
  k_with "setItem ref int" => (k_here; (with_reducible show wpAny _ _ (setItem (Value.ref _) (Value.int _ _) (Value.int _ _)) _ _ _); k_dflt (refine' set_o ?kzF ?kzN ?kzm ?kzi ?kza ?kzb ?kzz ?_; (case kzF => k_asm); (case kzN => k_asm); (case kzm => k_mem); (case kzi => with_reducible assumption); (case kza => omega); (case kzb => omega); (case kzz => omega)); intro _ _ _ _ _ _; (try k_sweep))
  k_with "setItem ref ref" => (k_here; k_dflt (refine' dh_set_o ?kzu ?kzF ?kzN ?kzH ?kzT ?kzz ?_; (case kzF => k_asm); (case kzN => k_asm); (case kzH => ktr_rel); (case kzT => ktr_rel); (case kzu => ktr_units); (case kzz => omega)); intro _ _ _ _ _ _ _ _; (try k_sweep))
  k_with "subscriptTail" => (k_here; (with_reducible show wpAny _ _ (subscriptTail _ _ (Value.ref _) (Value.int 0 _)) _ _ _); k_dflt (refine' tup_item0 ?kzN ?kzm ?_ ?kzs; (case kzN => k_asm); (case kzm => k_mem); (case kzs => with_unfolding_all rfl)); k_whole)
  k_with "exec For" => (k_here; (rename Fr _ _ _ _ => lF'); k_dflt ((with_unfolding_all refine' For_invVF lF' ?kzk1 ?kzk2 ?_); (case kzk1 => exact rfl); (case kzk2 => exact rfl)); k_whole)
  k_with "pyIter ref" => ((with_reducible show wpAny _ _ (pyIter (Value.ref _)) (fun it s₂ => LoopAtV _ _ _ _ _ _ _ _ _ it s₂) _ _); refine Hold.out ?_)
  k_with "eval Name" => (k_here; name_kind "cell"; k_dflt (refine' ldCN ?kzN ?kzc ?kzm ?kzd ?_ ?kzk ?kzl ?kzb; (case kzk => rfl); (case kzl => rfl); (case kzb => decide); (case kzN => k_asm); (case kzc => exact rfl); (case kzm => k_mem); (case kzd => with_reducible assumption)); k_whole)
  k_with "ktr_rel" => first | with_reducible assumption | ((with_reducible refine BAt.cons ?_); ktr_rel) | ((with_reducible refine HAt.cons ?_); ktr_rel)
  k_with "omega" => lia
  trivial
theorem node_fin {h₀ h : Heap} {L D : Addr} {x : Str} {t : Tok} {g1 g2 g3 c : Addr × Obj} {news : Led} (N : News h₀ L h (g1 :: g2 :: g3 :: (D, tupOf #[.str x t] 0) :: c :: news)) : ∃ t, News h₀ L h ((D, tupOf #[.str x t] 0) :: news) :=
  ⟨t, News.sub N fun p hp => by rcases List.mem_cons.mp hp with h | h <;> simp [h]⟩
example : True := by
  k_with "call ref" => (k_here; (with_reducible show wpAny _ _ (call (Value.ref 213) _) _ _ _); k_dflt (refine' con_use (op_con _ _ _ _ _ _ ?kzO ?kzH) ?kB ?kF ?kX ?kN ?kT ?kA ?kH ?kf ?kk ?kd ?ku ?hp ?_; (case kzO => assumption); (case kzH => assumption); tb_start; (case hp => ktr_rel));  intro _ _ _ _ _ _ hp'; obtain ⟨e', _, e2'⟩ := hp'; subst e'; subst e2'; (try dsimp only))
  trivial
example : True := by
  k_with "call ref" => (k_here; (with_reducible show wpAny _ _ (call (Value.ref 220) _) _ _ _); k_dflt (refine' con_use (kids_con _ _ _ _ _ _ ?kzO ?kzH) ?kB ?kF ?kX ?kN ?kT ?kA ?kH ?kf ?kk ?kd ?ku ?hp ?_; (case kzO => assumption); (case kzH => assumption); tb_start; (case hp => ktr_rel));  intro _ _ _ _ _ _ hp'; obtain ⟨_, e', e2', _⟩ := hp'; subst e'; subst e2'; (try dsimp only))
  trivial
theorem node_con {w : World} (hp b u : Addr) (nks : List (List Mix)) (footb : List Addr) (kn : List (List Mix × Int)) (ab : Int → Option (List Int)) (wt : List Int) (NN EE : Nat) (footh : List Addr) (n : Int) (tn : Tok) (x : Str) (hx : nks[n.toNat]? = some [.inl x]) (h0 : 0 ≤ n) :
    Con w 286 [.ref hp, .int n tn] 40 400 (fun news => HAt w hp b u kn ab wt NN EE footh news ∧ BAt w b nks footb news) (fun news news' r => ∃ D t, r = .ref D ∧ news' = (D, tupOf #[.str x t] 0) :: news ∧ ∀ p ∈ news, p.1 < D) := by
  rintro mean mg mb dp un gd env outer A₀ base h₀ L m news s Q E B F X N T hf hk hd hu ⟨U, UB⟩ hret
  obtain ⟨dh, le, lf, dk, da, lw, k, n1, n2, n3, n4, ve, vf, vw, kxs, fa, I⟩ := U
  have m1 := I.inst
  have m2 := I.dict
  have UB' := UB
  obtain ⟨db, ln, dn, lw, ld, kk, n1, n2, n3, n4, nas, xs, vw, vd, ws, ds, I2⟩ := UB'
  have mb1 := I2.inst
  have mb2 := I2.dict
  refine wpAny_call ?_
  ((refine' code_defC (binds := ([("self", .ref hp), ("n", .int n tn)])) ?k1 ?k2 ?k3 ?k4 ?k5 ?kA ?kF ?kK ?k6 ?k7 ?k8 ?k9 ?kB ?kD ?_ ?c2 ?c3 ?c4; (case kA => exact rfl); (case kF => assumption); (case kK => assumption); (case k1 => k_asm); (case k2 => k_asm); (case k3 => k_asm); (case k4 => k_asm); (case k5 => k_asm); (case k6 => k_is); (case k7 => k_is); (case k8 => first | omega | ktr_room | (dsimp only; omega)); (case k9 => exact BindsTo.of_eq rfl); (case kB => exact rfl); (case kD => decide +kernel); (case c2 => exact rfl); (case c3 => exact rfl); (case c4 => exact rfl); k_whole; intro g' L' h' tk' cells' FG' F' N' Y' B' X' T' l1; k_cells Y'; (try simp only [List.cons_append, List.nil_append] at N'); (try dsimp only); (try k_fold)))
  k_steps
  refine Hold.done (comp_tup0 rfl (by k_asm) (by k_asm) (by k_mem) ?_)
  intro D3 h3 tk3 F3 N3 l3
  k_steps
  rename ∀ p ∈ (_, _) :: news, p.1 < _ => lD1
  rename News h₀ L _ _ => kN
  obtain ⟨t9, kN9⟩ := node_fin kN
  exact hret _ _ _ _ (by assumption) kN9 ⟨_, _, rfl, rfl, fun p hp => lD1 p (.tail _ hp)⟩
end
section
example : True := by
  w_top off
  k_with_none
  k_with "ktr_room" => ((try simp only [depth_under_make, depth_under_kw, depth_in1, depth_deeper, depth_caller]); (try dsimp only); first | exact room_up2 (by with_reducible assumption) rfl | exact room_up (by with_reducible assumption) rfl | exact room_0 (by with_reducible assumption) rfl | omega)
  k_with "ktr_units" => ((try simp only [units_in1, units_deeper, Around.mark_units, units_caller, units_under_make]); (try dsimp only); first | exact room_up2 (by with_reducible assumption) rfl | exact room_up (by with_reducible assumption) rfl | exact room_0 (by with_reducible assumption) rfl | omega)
  k_with "tb_start" => ((case kB => k_asm); (case kF => k_asm); (case kX => k_asm); (case kN => k_asm); (case kT => k_asm); (case kA => exact rfl); (case kH => exact rfl); (case kf => exact rfl); (case kk => exact rfl); (case kd => ktr_room); (case ku => ktr_units))
  k_with "call ref" => (k_here; (with_reducible show wpAny _ _ (call (Value.ref 97) _) _ _ _); k_dflt (refine' con_use (find_con _ _ _ _ _ _ _ _ ?kzFO) ?kB ?kF ?kX ?kN ?kT ?kA ?kH ?kf ?kk ?kd ?ku ?hp ?_; (case kzFO => assumption); (case hp => exact ⟨by assumption, by first | assumption | omega, by first | assumption | omega⟩); tb_start);  intro _ _ _ _ _ _ hp'; obtain ⟨e', _, e2'⟩ := hp'; subst e'; subst e2'; (try dsimp only))
  k_with "subscriptTail" => (k_here; (with_reducible show wpAny _ _ (subscriptTail _ _ (Value.ref _) (Value.int _ _)) _ _ _); k_dflt (refine' item_ref ?kzN ?kzm ?kzh0 ?kzhk ?kzhh ?_ ?kzhs; (case kzN => k_asm); (case kzhk => assumption); (case kzm => k_mem); (case kzh0 => omega); (case kzhh => omega); (case kzhs => with_unfolding_all rfl); k_whole))
  k_with "newList" => (k_here; k_dflt (refine' newList_led ?kzF ?kzN ?_ ?kzz; (case kzF => k_asm); (case kzN => k_asm); (case kzz => first | decide | kso_len)); intro _ _ _ _ _; (try k_sweep))
  k_with "call builtin:sorted" => (k_here; (with_reducible show wpAny _ _ (call (Value.builtin _) [Value.ref _]) _ _ _); k_dflt (with_unfolding_all refine' kso_sorted ?kzk1 ?kzk2 (is_listN ?kzk2 ?kzk3) ?kzk4 ?kzk5 ?_; (case kzk1 => k_asm); (case kzk2 => k_asm); (case kzk3 => k_mem); (case kzk4 => l_ints); (case kzk5 => omega); k_whole); intro _ _ _ _ _ _ _ _ _ _ _ _ _; (try k_sweep))
  k_with "kso_len" => first | omega | (simp only [List.length_append, List.length_map, List.length_cons, List.length_nil, List.length_set]; omega)
  k_with "call builtin:len" => (k_here; (with_reducible show wpAny _ _ (call (Value.builtin "len") [Value.ref _]) _ _ _); k_dflt (refine' len_led ?kzN ?kzm ?kzk ?kzz ?_; (case kzN => k_asm); (case kzm => k_mem); (case kzk => first | exact IntsAre.length (by with_reducible assumption) | exact List.length_map _ | ((try simp only [List.length_append, List.length_map, List.length_cons, List.length_nil, List.length_set]); exact rfl)); (case kzz => kso_len)); intro _ _)
  k_with "call builtin:list.append" => (k_here; (with_reducible show wpAny _ _ (call (Value.builtin _) [Value.ref _, _]) _ _ _); k_dflt (refine' append_led ?kzF ?kzN ?kzm ?kzz ?_; (case kzF => k_asm); (case kzN => k_asm); (case kzm => k_mem); (case kzz => kso_len)); intro _ _ _; (try k_sweep))
  k_with "call builtin:list.extend" => (k_here; (with_reducible show wpAny _ _ (call (Value.builtin _) [Value.ref _, Value.ref _]) _ _ _); k_dflt (refine' extend_led ?kzF ?kzN ?kzm ?kzb ?kzz ?kzy ?_; (case kzF => k_asm); (case kzN => k_asm); (case kzm => k_mem); (case kzb => k_mem); (case kzz => kso_len); (case kzy => kso_len)); intro _ _ _ _; (try k_sweep))
  k_with "call type:list" => (k_here; (with_reducible show wpAny _ _ (call (Value.type _) [Value.ref _]) _ _ _); k_dflt (refine' list_led ?kzF ?kzN ?kzm ?kzz ?_; (case kzF => k_asm); (case kzN => k_asm); (case kzm => k_mem); (case kzz => kso_len)); intro _ _ _ _ _ _; (try k_sweep))
  k_with "setItem ref int" => (k_here; (with_reducible show wpAny _ _ (setItem (Value.ref _) (Value.int _ _) (Value.int _ _)) _ _ _); k_dflt (refine' set_led ?kzF ?kzN ?kzm ?kzi ?kza ?kzb ?kzz ?_; (case kzF => k_asm); (case kzN => k_asm); (case kzm => k_mem); (case kzi => with_reducible assumption); (case kza => omega); (case kzb => omega); (case kzz => omega)); intro _ _ _ _; (try k_sweep))
  k_with "call builtin:sorted" => (k_here; (with_reducible show wpAny _ _ (call (Value.builtin _) [Value.ref _]) _ _ _); k_dflt (refine' sorted_two ?kzF ?kzN ?kzm ?_; (case kzF => k_asm); (case kzN => k_asm); (case kzm => k_mem)); intro _ _ _ _ _ _ _ _; (try k_sweep))
  k_with "k_mem" => first | with_reducible assumption | ktr_member | ((with_reducible refine' mem_setL_self ?kya); (case kya => k_mem)) | ((with_reducible refine' mem_setL_ne ?kya ?kyb); (case kyb => first | with_reducible assumption | exact Ne.symm (by with_reducible assumption) | omega); (case kya => k_mem)) | exact List.Mem.head _ | (refine' List.mem_cons_of_mem _ ?_; k_mem)
  k_with "newTuple" => (k_here; k_dflt (refine' newTuple_led ?kzF ?kzN ?_ ?kzz; (case kzF => k_asm); (case kzN => k_asm); (case kzz => first | decide | kso_len)); intro _ _ _ _ _; (try k_sweep))
  k_with "CompSrc" => refine Hold.out ?_
  k_with "CompSrcT" => refine Hold.out ?_
  k_with "Src3" => refine Hold.out ?_
  k_with "eval ListComp" => (k_here; (fail_if_success lct_look); k_dflt (refine ListComp_3 (F₀ := by k_asm) (by with_unfolding_all rfl) (by decide) (by rfl) (by decide) (by rfl) ?_))
  k_with "eval ListComp" => (k_here; lct_look; k_dflt (refine LCt.ListComp_T (F₀ := by k_asm) (by with_unfolding_all rfl) (by decide) (by rfl) (by decide) (by rfl) ?_))
  k_with "StrSrc" => refine Hold.out ?_
  k_with "ktr_rel" => first | with_reducible assumption | exact tupIn_s (by k_mem) | exact tupIn_si (by k_mem) | ((with_reducible refine DH.cons ?_); ktr_rel) | ((with_reducible refine DI.cons ?_); ktr_rel) | ((with_reducible refine TupIn.cons ?_); ktr_rel)
  k_with "call type:tuple" => (k_here; (with_reducible show wpAny _ _ (call (Value.type _) [Value.ref _]) _ _ _); k_dflt (first | (refine' tup_same ?kzN ?kzm ?_; (case kzN => k_asm); (case kzm => k_mem)) | (refine' tup_list ?kzF ?kzN ?kzm ?kzz ?_; (case kzF => k_asm); (case kzN => k_asm); (case kzm => k_mem); (case kzz => first | decide | kso_len); intro _ _ _ _ _; (try k_sweep))))
  k_with "binaryOp Add" => (k_here; (with_reducible show wpAny _ _ (binaryOp _ (Value.ref _) (Value.ref _)) _ _ _); k_dflt (first | (refine' tup_add0 ?kzF ?kzN ?kzm ?kzb ?kzv ?kzz ?_; (case kzF => k_asm); (case kzN => k_asm); (case kzm => k_mem); (case kzb => k_mem); (case kzv => simp); (case kzz => first | decide | kso_len)) | (refine' tup_add ?kzF ?kzN ?kzm ?kzb ?kzv ?kzy ?kzz ?kzx ?_; (case kzF => k_asm); (case kzN => k_asm); (case kzm => k_mem); (case kzb => k_mem); (case kzv => simp); (case kzy => simp); (case kzz => first | decide | kso_len); (case kzx => first | decide | kso_len); intro _ _ _ _ _; (try k_sweep))))
  k_with "subscriptTail" => (k_here; (with_reducible show wpAny _ _ (subscriptTail _ (Expr.Slice _ _ _ _) (Value.ref _) (Value.ref _)) _ _ _); k_dflt (refine' tup_slice1 ?kzF ?kzN ?kzm ?kzz ?_ ?kzs; (case kzs => with_unfolding_all rfl); (case kzF => k_asm); (case kzN => k_asm); (case kzm => k_mem); (case kzz => first | decide | kso_len)); intro _ _ _ _ _; (try k_sweep))
  k_with "compareOp In" => (k_here; (with_reducible show wpAny _ _ (compareOp CmpOp.In (Value.ref _) (Value.ref _)) _ _ _); k_dflt (refine' dh_in ?kzu ?kzN ?kzH ?kzT ?_; (case kzN => k_asm); (case kzH => ktr_rel); (case kzT => ktr_rel); (case kzu => ktr_units)); intro _; (try dsimp only))
  k_with "compareOp In" => (k_here; (with_reducible show wpAny _ _ (compareOp CmpOp.In (Value.ref _) (Value.ref _)) _ _ _); k_dflt (refine' dh_in_none ?kzu ?kzN ?kzH ?kzT ?kzK ?_; (case kzN => k_asm); (case kzH => ktr_rel); (case kzT => ktr_rel); (case kzK => with_reducible assumption); (case kzu => ktr_units)); intro _; (try dsimp only))
  k_with "setItem ref ref" => (k_here; k_dflt (refine' dh_set ?kzu ?kzF ?kzN ?kzH ?kzT ?kzz ?_; (case kzF => k_asm); (case kzN => k_asm); (case kzH => ktr_rel); (case kzT => ktr_rel); (case kzu => ktr_units); (case kzz => omega)); intro _ _ _ _ _ _; (try k_sweep))
  k_with "getMethod ref" => (k_here; (with_reducible show wpAny _ _ (getMethod (Value.ref _) (Str.ofString "setdefault") _) _ _ _); k_dflt (refine' dh_method PySem.F.slot_dict_setdefault PySem.F.type_dict_setdefault ?kzN ?kzH ?_; (case kzN => k_asm); (case kzH => ktr_rel)))
  k_with "getMethod ref" => (k_here; (with_reducible show wpAny _ _ (getMethod (Value.ref _) (Str.ofString "get") _) _ _ _); k_dflt (refine' dh_method PySem.F.slot_dict_get PySem.F.type_dict_get ?kzN ?kzH ?_; (case kzN => k_asm); (case kzH => ktr_rel)))
  k_with "getMethod ref" => (k_here; (with_reducible show wpAny _ _ (getMethod (Value.ref _) (Str.ofString "pop") _) _ _ _); k_dflt (refine' di_method PySem.F.slot_dict_pop PySem.F.type_dict_pop ?kzN ?kzH ?_; (case kzN => k_asm); (case kzH => ktr_rel)))
  k_with "k_mem" => first | with_reducible assumption | ktr_member | (refine' SetTo.it ?kys ?kya; (case kys => with_reducible assumption); (case kya => k_mem)) | (refine' SetTo.mem ?kys ?kya ?kyb; (case kys => with_reducible assumption); (case kyb => first | with_reducible assumption | exact Ne.symm (by with_reducible assumption) | (refine nen ?_; omega)); (case kya => k_mem)) | exact List.Mem.head _ | (refine' List.mem_cons_of_mem _ ?_; k_mem)
  k_with "ktr_rel" => (refine' TupIn.setTo ?kya ?kys ?kyb; (case kys => with_reducible assumption); (case kyb => first | with_reducible assumption | exact Ne.symm (by with_reducible assumption) | (refine nen ?_; omega)); (case kya => ktr_rel))
  k_with "call builtin:list.append" => (k_here; (with_reducible show wpAny _ _ (call (Value.builtin _) [Value.ref _, _]) _ _ _); k_dflt (refine' append_o ?kzF ?kzN ?kzm ?kzz ?_; (case kzF => k_asm); (case kzN => k_asm); (case kzm => k_mem); (case kzz => kso_len)); intro _ _ _ _ _; (try k_sweep))
  k_with "call builtin:list.extend" => (k_here; (with_reducible show wpAny _ _ (call (Value.builtin _) [Value.ref _, Value.ref _]) _ _ _); k_dflt (refine' extend_o ?kzF ?kzN ?kzm ?kzb ?kzz ?kzy ?_; (case kzF => k_asm); (case kzN => k_asm); (case kzm => k_mem); (case kzb => k_mem); (case kzz => kso_len); (case kzy => kso_len)); intro _ _ _ _ _ _; (try k_sweep))
  k_with "setItem ref int" => (k_here; (with_reducible show wpAny _ _ (setItem (Value.ref _) (Value.int _ _) (Value.int _ _)) _ _ _); k_dflt (refine' set_o ?kzF ?kzN ?kzm ?kzi ?kza ?kzb ?kzz ?_; (case kzF => k_asm); (case kzN => k_asm); (case kzm => k_mem); (case kzi => with_reducible assumption); (case kza => omega); (case kzb => omega); (case kzz => omega)); intro _ _ _ _ _ _; (try k_sweep))
  k_with "setItem ref ref" => (k_here; k_dflt (refine' dh_set_o ?kzu ?kzF ?kzN ?kzH ?kzT ?kzz ?_; (case kzF => k_asm); (case kzN => k_asm); (case kzH => ktr_rel); (case kzT => ktr_rel); (case kzu => ktr_units); (case kzz => omega)); intro _ _ _ _ _ _ _ _; (try k_sweep))
  k_with "subscriptTail" => (k_here; (with_reducible show wpAny _ _ (subscriptTail _ _ (Value.ref _) (Value.int 0 _)) _ _ _); k_dflt (refine' tup_item0 ?kzN ?kzm ?_ ?kzs; (case kzN => k_asm); (case kzm => k_mem); (case kzs => with_unfolding_all rfl)); k_whole)
  k_with "exec For" => (k_here; (rename Fr _ _ _ _ => lF'); k_dflt ((with_unfolding_all refine' For_invVF lF' ?kzk1 ?kzk2 ?_); (case kzk1 => exact rfl); (case kzk2 => exact rfl)); k_whole)
  k_with "pyIter ref" => ((with_reducible show wpAny _ _ (pyIter (Value.ref _)) (fun it s₂ => LoopAtV _ _ _ _ _ _ _ _ _ it s₂) _ _); refine Hold.out ?_)
  k_with "eval Name" => (k_here; name_kind "cell"; k_dflt (refine' ldCN ?kzN ?kzc ?kzm ?kzd ?_ ?kzk ?kzl ?kzb; (case kzk => rfl); (case kzl => rfl); (case kzb => decide); (case kzN => k_asm); (case kzc => exact rfl); (case kzm => k_mem); (case kzd => with_reducible assumption)); k_whole)
  k_with "omega" => lia
  trivial
theorem hfind_con {w : World} (hp b u : Addr) (kn : List (List Mix × Int)) (ab : Int → Option (List Int)) (wt : List Int) (NN EE : Nat) (footh : List Addr) (ns ls : List Int) (cs : List (List Int)) (ms : List (Int × Int)) (footu : List Addr) (FO : Forest ns ls) (a : Int) (ta : Tok) :
    Con w 310 [.ref hp, .int a ta] 20 200 (fun news => HAt w hp b u kn ab wt NN EE footh news ∧ UAt w u ns cs ms footu news ∧ 0 ≤ a ∧ a < ns.length) (fun news news' r => news' = news ∧ ∃ t, r = .int (ls.getD a.toNat 0) t) := by
  rintro mean mg mb dp un gd env outer A₀ base h₀ L m news s Q E B F X N T hf hk hd hu ⟨U, UU, h0, h1⟩ hret
  obtain ⟨dh, le, lf, dk, da, lw, k, n1, n2, n3, n4, ve, vf, vw, kxs, fa, I⟩ := U
  have m1 := I.inst
  have m2 := I.dict
  have UU' := UU
  obtain ⟨du, la, ll, lm, nd, na, nl, nm, k1, k2, k3, vs, as, bs, I2, hfoot⟩ := UU'
  have mu1 := I2.inst
  have mu2 := I2.dict
  refine wpAny_call ?_
  ((refine' code_def (binds := ([("self", .ref hp), ("n", .int a ta)])) ?k1 ?k2 ?k3 ?k4 ?k5 ?kA ?kF ?kK ?k6 ?k7 ?k8 ?k9 ?kB ?_ ?c2 ?c3 ?c4 ?c5; (case kA => exact rfl); (case kF => assumption); (case kK => assumption); (case k1 => k_asm); (case k2 => k_asm); (case k3 => k_asm); (case k4 => k_asm); (case k5 => k_asm); (case k6 => k_is); (case k7 => k_is); (case k8 => first | omega | ktr_room | (dsimp only; omega)); (case k9 => exact BindsTo.of_eq rfl); (case c5 => decide); (case kB => exact locs rfl); (case c2 => exact rfl); (case c3 => exact rfl); (case c4 => exact rfl); k_whole; intro g' L' h' FG' F' N' B' X' T'; (try dsimp only); (try k_lift B'); (try k_fold)))
  k_steps
  exact hret _ _ _ _ (by assumption) (by assumption) ⟨rfl, _, rfl⟩
end
section
example : True := by
  w_top off
  k_with_none
  k_with "ktr_room" => ((try simp only [depth_under_make, depth_under_kw, depth_in1, depth_deeper, depth_caller]); (try dsimp only); first | exact room_up2 (by with_reducible assumption) rfl | exact room_up (by with_reducible assumption) rfl | exact room_0 (by with_reducible assumption) rfl | omega)
  k_with "ktr_units" => ((try simp only [units_in1, units_deeper, Around.mark_units, units_caller, units_under_make]); (try dsimp only); first | exact room_up2 (by with_reducible assumption) rfl | exact room_up (by with_reducible assumption) rfl | exact room_0 (by with_reducible assumption) rfl | omega)
  k_with "tb_start" => ((case kB => k_asm); (case kF => k_asm); (case kX => k_asm); (case kN => k_asm); (case kT => k_asm); (case kA => exact rfl); (case kH => exact rfl); (case kf => exact rfl); (case kk => exact rfl); (case kd => ktr_room); (case ku => ktr_units))
  k_with "call ref" => (k_here; (with_reducible show wpAny _ _ (call (Value.ref 97) _) _ _ _); k_dflt (refine' con_use (find_con _ _ _ _ _ _ _ _ ?kzFO) ?kB ?kF ?kX ?kN ?kT ?kA ?kH ?kf ?kk ?kd ?ku ?hp ?_; (case kzFO => assumption); (case hp => exact ⟨by assumption, by first | assumption | omega, by first | assumption | omega⟩); tb_start);  intro _ _ _ _ _ _ hp'; obtain ⟨e', _, e2'⟩ := hp'; subst e'; subst e2'; (try dsimp only))
  k_with "subscriptTail" => (k_here; (with_reducible show wpAny _ _ (subscriptTail _ _ (Value.ref _) (Value.int _ _)) _ _ _); k_dflt (refine' item_ref ?kzN ?kzm ?kzh0 ?kzhk ?kzhh ?_ ?kzhs; (case kzN => k_asm); (case kzhk => assumption); (case kzm => k_mem); (case kzh0 => omega); (case kzhh => omega); (case kzhs => with_unfolding_all rfl); k_whole))
  k_with "newList" => (k_here; k_dflt (refine' newList_led ?kzF ?kzN ?_ ?kzz; (case kzF => k_asm); (case kzN => k_asm); (case kzz => first | decide | kso_len)); intro _ _ _ _ _; (try k_sweep))
  k_with "call builtin:sorted" => (k_here; (with_reducible show wpAny _ _ (call (Value.builtin _) [Value.ref _]) _ _ _); k_dflt (with_unfolding_all refine' kso_sorted ?kzk1 ?kzk2 (is_listN ?kzk2 ?kzk3) ?kzk4 ?kzk5 ?_; (case kzk1 => k_asm); (case kzk2 => k_asm); (case kzk3 => k_mem); (case kzk4 => l_ints); (case kzk5 => omega); k_whole); intro _ _ _ _ _ _ _ _ _ _ _ _ _; (try k_sweep))
  k_with "kso_len" => first | omega | (simp only [List.length_append, List.length_map, List.length_cons, List.length_nil, List.length_set]; omega)
  k_with "call builtin:len" => (k_here; (with_reducible show wpAny _ _ (call (Value.builtin "len") [Value.ref _]) _ _ _); k_dflt (refine' len_led ?kzN ?kzm ?kzk ?kzz ?_; (case kzN => k_asm); (case kzm => k_mem); (case kzk => first | exact IntsAre.length (by with_reducible assumption) | exact List.length_map _ | ((try simp only [List.length_append, List.length_map, List.length_cons, List.length_nil, List.length_set]); exact rfl)); (case kzz => kso_len)); intro _ _)
  k_with "call builtin:list.append" => (k_here; (with_reducible show wpAny _ _ (call (Value.builtin _) [Value.ref _, _]) _ _ _); k_dflt (refine' append_led ?kzF ?kzN ?kzm ?kzz ?_; (case kzF => k_asm); (case kzN => k_asm); (case kzm => k_mem); (case kzz => kso_len)); intro _ _ _; (try k_sweep))
  k_with "call builtin:list.extend" => (k_here; (with_reducible show wpAny _ _ (call (Value.builtin _) [Value.ref _, Value.ref _]) _ _ _); k_dflt (refine' extend_led ?kzF ?kzN ?kzm ?kzb ?kzz ?kzy ?_; (case kzF => k_asm); (case kzN => k_asm); (case kzm => k_mem); (case kzb => k_mem); (case kzz => kso_len); (case kzy => kso_len)); intro _ _ _ _; (try k_sweep))
  k_with "call type:list" => (k_here; (with_reducible show wpAny _ _ (call (Value.type _) [Value.ref _]) _ _ _); k_dflt (refine' list_led ?kzF ?kzN ?kzm ?kzz ?_; (case kzF => k_asm); (case kzN => k_asm); (case kzm => k_mem); (case kzz => kso_len)); intro _ _ _ _ _ _; (try k_sweep))
  k_with "setItem ref int" => (k_here; (with_reducible show wpAny _ _ (setItem (Value.ref _) (Value.int _ _) (Value.int _ _)) _ _ _); k_dflt (refine' set_led ?kzF ?kzN ?kzm ?kzi ?kza ?kzb ?kzz ?_; (case kzF => k_asm); (case kzN => k_asm); (case kzm => k_mem); (case kzi => with_reducible assumption); (case kza => omega); (case kzb => omega); (case kzz => omega)); intro _ _ _ _; (try k_sweep))
  k_with "call builtin:sorted" => (k_here; (with_reducible show wpAny _ _ (call (Value.builtin _) [Value.ref _]) _ _ _); k_dflt (refine' sorted_two ?kzF ?kzN ?kzm ?_; (case kzF => k_asm); (case kzN => k_asm); (case kzm => k_mem)); intro _ _ _ _ _ _ _ _; (try k_sweep))
  k_with "k_mem" => first | with_reducible assumption | ktr_member | ((with_reducible refine' mem_setL_self ?kya); (case kya => k_mem)) | ((with_reducible refine' mem_setL_ne ?kya ?kyb); (case kyb => first | with_reducible assumption | exact Ne.symm (by with_reducible assumption) | omega); (case kya => k_mem)) | exact List.Mem.head _ | (refine' List.mem_cons_of_mem _ ?_; k_mem)
  k_with "newTuple" => (k_here; k_dflt (refine' newTuple_led ?kzF ?kzN ?_ ?kzz; (case kzF => k_asm); (case kzN => k_asm); (case kzz => first | decide | kso_len)); intro _ _ _ _ _; (try k_sweep))
  k_with "CompSrc" => refine Hold.out ?_
  k_with "CompSrcT" => refine Hold.out ?_
  k_with "Src3" => refine Hold.out ?_
  k_with "eval ListComp" => (k_here; (fail_if_success lct_look); k_dflt (refine ListComp_3 (F₀ := by k_asm) (by with_unfolding_all rfl) (by decide) (by rfl) (by decide) (by rfl) ?_))
  k_with "eval ListComp" => (k_here; lct_look; k_dflt (refine LCt.ListComp_T (F₀ := by k_asm) (by with_unfolding_all rfl) (by decide) (by rfl) (by decide) (by rfl) ?_))
  k_with "StrSrc" => refine Hold.out ?_
  k_with "ktr_rel" => first | with_reducible assumption | exact tupIn_s (by k_mem) | exact tupIn_si (by k_mem) | ((with_reducible refine DH.cons ?_); ktr_rel) | ((with_reducible refine DI.cons ?_); ktr_rel) | ((with_reducible refine TupIn.cons ?_); ktr_rel)
  k_with "call type:tuple" => (k_here; (with_reducible show wpAny _ _ (call (Value.type _) [Value.ref _]) _ _ _); k_dflt (first | (refine' tup_same ?kzN ?kzm ?_; (case kzN => k_asm); (case kzm => k_mem)) | (refine' tup_list ?kzF ?kzN ?kzm ?kzz ?_; (case kzF => k_asm); (case kzN => k_asm); (case kzm => k_mem); (case kzz => first | decide | kso_len); intro _ _ _ _ _; (try k_sweep))))
  k_with "binaryOp Add" => (k_here; (with_reducible show wpAny _ _ (binaryOp _ (Value.ref _) (Value.ref _)) _ _ _); k_dflt (first | (refine' tup_add0 ?kzF ?kzN ?kzm ?kzb ?kzv ?kzz ?_; (case kzF => k_asm); (case kzN => k_asm); (case kzm => k_mem); (case kzb => k_mem); (case kzv => simp); (case kzz => first | decide | kso_len)) | (refine' tup_add ?kzF ?kzN ?kzm ?kzb ?kzv ?kzy ?kzz ?kzx ?_; (case kzF => k_asm); (case kzN => k_asm); (case kzm => k_mem); (case kzb => k_mem); (case kzv => simp); (case kzy => simp); (case kzz => first | decide | kso_len); (case kzx => first | decide | kso_len); intro _ _ _ _ _; (try k_sweep))))
  k_with "subscriptTail" => (k_here; (with_reducible show wpAny _ _ (subscriptTail _ (Expr.Slice _ _ _ _) (Value.ref _) (Value.ref _)) _ _ _); k_dflt (refine' tup_slice1 ?kzF ?kzN ?kzm ?kzz ?_ ?kzs; (case kzs => with_unfolding_all rfl); (case kzF => k_asm); (case kzN => k_asm); (case kzm => k_mem); (case kzz => first | decide | kso_len)); intro _ _ _ _ _; (try k_sweep))
  k_with "compareOp In" => (k_here; (with_reducible show wpAny _ _ (compareOp CmpOp.In (Value.ref _) (Value.ref _)) _ _ _); k_dflt (refine' dh_in ?kzu ?kzN ?kzH ?kzT ?_; (case kzN => k_asm); (case kzH => ktr_rel); (case kzT => ktr_rel); (case kzu => ktr_units)); intro _; (try dsimp only))
  k_with "compareOp In" => (k_here; (with_reducible show wpAny _ _ (compareOp CmpOp.In (Value.ref _) (Value.ref _)) _ _ _); k_dflt (refine' dh_in_none ?kzu ?kzN ?kzH ?kzT ?kzK ?_; (case kzN => k_asm); (case kzH => ktr_rel); (case kzT => ktr_rel); (case kzK => with_reducible assumption); (case kzu => ktr_units)); intro _; (try dsimp only))
  k_with "setItem ref ref" => (k_here; k_dflt (refine' dh_set ?kzu ?kzF ?kzN ?kzH ?kzT ?kzz ?_; (case kzF => k_asm); (case kzN => k_asm); (case kzH => ktr_rel); (case kzT => ktr_rel); (case kzu => ktr_units); (case kzz => omega)); intro _ _ _ _ _ _; (try k_sweep))
  k_with "getMethod ref" => (k_here; (with_reducible show wpAny _ _ (getMethod (Value.ref _) (Str.ofString "setdefault") _) _ _ _); k_dflt (refine' dh_method PySem.F.slot_dict_setdefault PySem.F.type_dict_setdefault ?kzN ?kzH ?_; (case kzN => k_asm); (case kzH => ktr_rel)))
  k_with "getMethod ref" => (k_here; (with_reducible show wpAny _ _ (getMethod (Value.ref _) (Str.ofString "get") _) _ _ _); k_dflt (refine' dh_method PySem.F.slot_dict_get PySem.F.type_dict_get ?kzN ?kzH ?_; (case kzN => k_asm); (case kzH => ktr_rel)))
  k_with "getMethod ref" => (k_here; (with_reducible show wpAny _ _ (getMethod (Value.ref _) (Str.ofString "pop") _) _ _ _); k_dflt (refine' di_method PySem.F.slot_dict_pop PySem.F.type_dict_pop ?kzN ?kzH ?_; (case kzN => k_asm); (case kzH => ktr_rel)))
  k_with "k_mem" => first | with_reducible assumption | ktr_member | (refine' SetTo.it ?kys ?kya; (case kys => with_reducible assumption); (case kya => k_mem)) | (refine' SetTo.mem ?kys ?kya ?kyb; (case kys => with_reducible assumption); (case kyb => first | with_reducible assumption | exact Ne.symm (by with_reducible assumption) | (refine nen ?_; omega)); (case kya => k_mem)) | exact List.Mem.head _ | (refine' List.mem_cons_of_mem _ ?_; k_mem)
  k_with "ktr_rel" => (refine' TupIn.setTo ?kya ?kys ?kyb; (case kys => with_reducible assumption); (case kyb => first | with_reducible assumption | exact Ne.symm (by with_reducible assumption) | (refine nen ?_; omega)); (case kya => ktr_rel))
  k_with "call builtin:list.append" => (k_here; (with_reducible show wpAny _ _ (call (Value.builtin _) [Value.ref _, _]) _ _ _); k_dflt (refine' append_o ?kzF ?kzN ?kzm ?kzz ?_; (case kzF => k_asm); (case kzN => k_asm); (case kzm => k_mem); (case kzz => kso_len)); intro _ _ _ _ _; (try k_sweep))
  k_with "call builtin:list.extend" => (k_here; (with_reducible show wpAny _ _ (call (Value.builtin _) [Value.ref _, Value.ref _]) _ _ _); k_dflt (refine' extend_o ?kzF ?kzN ?kzm ?kzb ?kzz ?kzy ?_; (case kzF => k_asm); (case kzN => k_asm); (case kzm => k_mem); (case kzb => k_mem); (case kzz => kso_len); (case kzy => kso_len)); intro _ _ _ _ _ _; (try k_sweep))
  k_with "setItem ref int" => (k_here; (with_reducible show wpAny _ _ (setItem (Value.ref _) (Value.int _ _) (Value.int _ _)) _ _ _); k_dflt (refine' set_o ?kzF ?kzN ?kzm ?kzi ?kza ?kzb ?kzz ?_; (case kzF => k_asm); (case kzN => k_asm); (case kzm => k_mem); (case kzi => with_reducible assumption); (case kza => omega); (case kzb => omega); (case kzz => omega)); intro _ _ _ _ _ _; (try k_sweep))
  k_with "setItem ref ref" => (k_here; k_dflt (refine' dh_set_o ?kzu ?kzF ?kzN ?kzH ?kzT ?kzz ?_; (case kzF => k_asm); (case kzN => k_asm); (case kzH => ktr_rel); (case kzT => ktr_rel); (case kzu => ktr_units); (case kzz => omega)); intro _ _ _ _ _ _ _ _; (try k_sweep))
  k_with "subscriptTail" => (k_here; (with_reducible show wpAny _ _ (subscriptTail _ _ (Value.ref _) (Value.int 0 _)) _ _ _); k_dflt (refine' tup_item0 ?kzN ?kzm ?_ ?kzs; (case kzN => k_asm); (case kzm => k_mem); (case kzs => with_unfolding_all rfl)); k_whole)
  k_with "exec For" => (k_here; (rename Fr _ _ _ _ => lF'); k_dflt ((with_unfolding_all refine' For_invVF lF' ?kzk1 ?kzk2 ?_); (case kzk1 => exact rfl); (case kzk2 => exact rfl)); k_whole)
  k_with "pyIter ref" => ((with_reducible show wpAny _ _ (pyIter (Value.ref _)) (fun it s₂ => LoopAtV _ _ _ _ _ _ _ _ _ it s₂) _ _); refine Hold.out ?_)
  k_with "eval Name" => (k_here; name_kind "cell"; k_dflt (refine' ldCN ?kzN ?kzc ?kzm ?kzd ?_ ?kzk ?kzl ?kzb; (case kzk => rfl); (case kzl => rfl); (case kzb => decide); (case kzN => k_asm); (case kzc => exact rfl); (case kzm => k_mem); (case kzd => with_reducible assumption)); k_whole)
  k_with "ktr_rel" => first | with_reducible assumption | ((with_reducible refine BAt.cons ?_); ktr_rel) | ((with_reducible refine HAt.cons ?_); ktr_rel) | ((with_reducible refine UAt.cons ?_); ktr_rel)
  k_with "call ref" => (k_here; (with_reducible show wpAny _ _ (call (Value.ref 286) _) _ _ _); k_dflt (refine' con_use (node_con _ _ _ _ _ _ _ _ _ _ _ _ _ _ ?kzO ?kzH) ?kB ?kF ?kX ?kN ?kT ?kA ?kH ?kf ?kk ?kd ?ku ?hp ?_; (case kzO => assumption); (case kzH => assumption); tb_start; (case hp => exact ⟨by ktr_rel, by ktr_rel⟩));  intro _ _ _ _ _ _ hp'; obtain ⟨_, _, e', e2', _⟩ := hp'; subst e'; subst e2'; (try dsimp only))
  k_with "call ref" => (k_here; (with_reducible show wpAny _ _ (call (Value.ref 310) _) _ _ _); k_dflt (refine' con_use (hfind_con _ _ _ _ _ _ _ _ _ _ _ _ _ _ ?kzFO _ _) ?kB ?kF ?kX ?kN ?kT ?kA ?kH ?kf ?kk ?kd ?ku ?hp ?_; (case kzFO => assumption); tb_start; (case hp => exact ⟨by ktr_rel, by ktr_rel, by omega, by omega⟩));  intro _ _ _ _ _ _ hp'; obtain ⟨e', _, e2'⟩ := hp'; subst e'; subst e2'; (try dsimp only))
  k_with "call builtin:dict.setdefault" => refine Hold.out ?_
  trivial
theorem look_con {w : World} (hp b u : Addr) (nks : List (List Mix)) (footb : List Addr) (kn : List (List Mix × Int)) (ab : Int → Option (List Int)) (wt : List Int) (NN EE : Nat) (footh : List Addr) (ns ls : List Int) (cs : List (List Int)) (ms : List (Int × Int)) (footu : List Addr) (FO : Forest ns ls)
    (n : Int) (tn : Tok) (x : Str) (hx : nks[n.toNat]? = some [.inl x]) (hnk : ∀ p ∈ kn, p.1 ≠ [.inl x]) (hkz : kn.length < 900) (hdu : ∀ a ∈ footh, a ∉ footu) :
    Con w 303 [.ref hp, .int n tn] 60 600 (fun news => HAt w hp b u kn ab wt NN EE footh news ∧ BAt w b nks footb news ∧ UAt w u ns cs ms footu news ∧ 0 ≤ n ∧ n < ns.length)
      (fun news news' r => r = .none ∧ ∃ foot', HAt w hp b u (kn ++ [([.inl x], n)]) ab wt NN EE foot' news' ∧ Keeps footh news news' ∧ Grow footh foot' news ∧ ∀ a ∈ footh, a ∈ foot') := by
  rintro mean mg mb dp un gd env outer A₀ base h₀ L m news s Q E B F X N T hf hk hd hu ⟨U, UB, UU, h0, h1⟩ hret
  have U' := U
  obtain ⟨dh, le, lf, dk, da, lw, k, n1, n2, n3, n4, ve, vf, vw, kxs, fa, I⟩ := U'
  have m1 := I.inst
  have m2 := I.dict
  have hDH := I.known
  have hxl : kxs.length = kn.length := I.knis.1
  have hnod := I.nod
  simp only [List.nodup_cons, List.mem_cons, List.not_mem_nil, or_false, not_or] at hnod
  obtain ⟨⟨z1, z2, z3, z4, z5, z6⟩, ⟨z7, z8, z9, z10, z11⟩, _⟩ := hnod
  have hnone : atKey kxs [Sum.inl x] = none := by
    refine atKey_none_of_get fun j p hj => ?_
    have hjl : j < kxs.length := (List.getElem?_eq_some_iff.mp hj).1
    obtain ⟨t, e1, _⟩ := I.knis.2 j hjl
    have e2 : (kxs.getD j ([], 0, .none)).1 = [Sum.inl x] := by simp [hj]
    rw [e2] at e1
    exact hnk _ (getD_mem (d := ([], 0)) (by omega)) e1.symm
  refine wpAny_call ?_
  ((refine' code_def (binds := ([("self", .ref hp), ("n", .int n tn)])) ?k1 ?k2 ?k3 ?k4 ?k5 ?kA ?kF ?kK ?k6 ?k7 ?k8 ?k9 ?kB ?_ ?c2 ?c3 ?c4 ?c5; (case kA => exact rfl); (case kF => assumption); (case kK => assumption); (case k1 => k_asm); (case k2 => k_asm); (case k3 => k_asm); (case k4 => k_asm); (case k5 => k_asm); (case k6 => k_is); (case k7 => k_is); (case k8 => first | omega | ktr_room | (dsimp only; omega)); (case k9 => exact BindsTo.of_eq rfl); (case c5 => decide); (case kB => exact locs rfl); (case c2 => exact rfl); (case c3 => exact rfl); (case c4 => exact rfl); k_whole; intro g' L' h' FG' F' N' B' X' T'; (try dsimp only); (try k_lift B'); (try k_fold)))
  k_steps
  rename ∀ p ∈ news, p.1 < _ => lD
  rename ∀ p ∈ news, p.1 < _ => lD0
  refine Hold.done ?_
  refine' dh_setdefault_o ?u ?F ?N ?H ?T ?z ?args ?h1 ?h2
  case u => ktr_units
  case F => k_asm
  case N => k_asm
  case H => exact DH.cons hDH
  case T => exact tupIn_s (by k_mem)
  case z => omega
  case args => rfl
  case h1 =>
    intro p hp
    rw [hnone] at hp
    exact absurd hp (by simp)
  case h2 =>
    intro _ h2 tk2 o2 l2 F2 N2 S2 H2
    obtain ⟨HA, kk1, gg1, ii1⟩ := I.look S2 H2 (by first | exact lD | exact lD0) hkz
    have UU2 : UAt w u ns cs ms footu l2 := UU.move (fun p hp hf => S2.keep p (.tail _ hp) (fun e => hdu dk I.feet.2.2.2.2.1 (e ▸ hf)))
    have mm1 : (hp, instObj 388 dh) ∈ l2 := S2.keep _ (.tail _ m1) z4
    have mm2 : (dh, dictOf (hDict w k b u le lf dk da lw) n1) ∈ l2 := S2.keep _ (.tail _ m2) z9
    k_steps
    · exfalso
      first | omega | contradiction | (exact absurd rfl (by assumption)) | simp_all
    · exact hret _ _ _ _ (by assumption) (by assumption) ⟨rfl, _, HA, kk1, gg1, ii1⟩
end
section
example : True := by
  w_top off
  k_with_none
  k_with "ktr_room" => ((try simp only [depth_under_make, depth_under_kw, depth_in1, depth_deeper, depth_caller]); (try dsimp only); first | exact room_up2 (by with_reducible assumption) rfl | exact room_up (by with_reducible assumption) rfl | exact room_0 (by with_reducible assumption) rfl | omega)
  k_with "ktr_units" => ((try simp only [units_in1, units_deeper, Around.mark_units, units_caller, units_under_make]); (try dsimp only); first | exact room_up2 (by with_reducible assumption) rfl | exact room_up (by with_reducible assumption) rfl | exact room_0 (by with_reducible assumption) rfl | omega)
  k_with "tb_start" => ((case kB => k_asm); (case kF => k_asm); (case kX => k_asm); (case kN => k_asm); (case kT => k_asm); (case kA => exact rfl); (case kH => exact rfl); (case kf => exact rfl); (case kk => exact rfl); (case kd => ktr_room); (case ku => ktr_units))
  k_with "call ref" => (k_here; (with_reducible show wpAny _ _ (call (Value.ref 97) _) _ _ _); k_dflt (refine' con_use (find_con _ _ _ _ _ _ _ _ ?kzFO) ?kB ?kF ?kX ?kN ?kT ?kA ?kH ?kf ?kk ?kd ?ku ?hp ?_; (case kzFO => assumption); (case hp => exact ⟨by assumption, by first | assumption | omega, by first | assumption | omega⟩); tb_start);  intro _ _ _ _ _ _ hp'; obtain ⟨e', _, e2'⟩ := hp'; subst e'; subst e2'; (try dsimp only))
  k_with "subscriptTail" => (k_here; (with_reducible show wpAny _ _ (subscriptTail _ _ (Value.ref _) (Value.int _ _)) _ _ _); k_dflt (refine' item_ref ?kzN ?kzm ?kzh0 ?kzhk ?kzhh ?_ ?kzhs; (case kzN => k_asm); (case kzhk => assumption); (case kzm => k_mem); (case kzh0 => omega); (case kzhh => omega); (case kzhs => with_unfolding_all rfl); k_whole))
  k_with "newList" => (k_here; k_dflt (refine' newList_led ?kzF ?kzN ?_ ?kzz; (case kzF => k_asm); (case kzN => k_asm); (case kzz => first | decide | kso_len)); intro _ _ _ _ _; (try k_sweep))
  k_with "call builtin:sorted" => (k_here; (with_reducible show wpAny _ _ (call (Value.builtin _) [Value.ref _]) _ _ _); k_dflt (with_unfolding_all refine' kso_sorted ?kzk1 ?kzk2 (is_listN ?kzk2 ?kzk3) ?kzk4 ?kzk5 ?_; (case kzk1 => k_asm); (case kzk2 => k_asm); (case kzk3 => k_mem); (case kzk4 => l_ints); (case kzk5 => omega); k_whole); intro _ _ _ _ _ _ _ _ _ _ _ _ _; (try k_sweep))
  k_with "kso_len" => first | omega | (simp only [List.length_append, List.length_map, List.length_cons, List.length_nil, List.length_set]; omega)
  k_with "call builtin:len" => (k_here; (with_reducible show wpAny _ _ (call (Value.builtin "len") [Value.ref _]) _ _ _); k_dflt (refine' len_led ?kzN ?kzm ?kzk ?kzz ?_; (case kzN => k_asm); (case kzm => k_mem); (case kzk => first | exact IntsAre.length (by with_reducible assumption) | exact List.length_map _ | ((try simp only [List.length_append, List.length_map, List.length_cons, List.length_nil, List.length_set]); exact rfl)); (case kzz => kso_len)); intro _ _)
  k_with "call builtin:list.append" => (k_here; (with_reducible show wpAny _ _ (call (Value.builtin _) [Value.ref _, _]) _ _ _); k_dflt (refine' append_led ?kzF ?kzN ?kzm ?kzz ?_; (case kzF => k_asm); (case kzN => k_asm); (case kzm => k_mem); (case kzz => kso_len)); intro _ _ _; (try k_sweep))
  k_with "call builtin:list.extend" => (k_here; (with_reducible show wpAny _ _ (call (Value.builtin _) [Value.ref _, Value.ref _]) _ _ _); k_dflt (refine' extend_led ?kzF ?kzN ?kzm ?kzb ?kzz ?kzy ?_; (case kzF => k_asm); (case kzN => k_asm); (case kzm => k_mem); (case kzb => k_mem); (case kzz => kso_len); (case kzy => kso_len)); intro _ _ _ _; (try k_sweep))
  k_with "call type:list" => (k_here; (with_reducible show wpAny _ _ (call (Value.type _) [Value.ref _]) _ _ _); k_dflt (refine' list_led ?kzF ?kzN ?kzm ?kzz ?_; (case kzF => k_asm); (case kzN => k_asm); (case kzm => k_mem); (case kzz => kso_len)); intro _ _ _ _ _ _; (try k_sweep))
  k_with "setItem ref int" => (k_here; (with_reducible show wpAny _ _ (setItem (Value.ref _) (Value.int _ _) (Value.int _ _)) _ _ _); k_dflt (refine' set_led ?kzF ?kzN ?kzm ?kzi ?kza ?kzb ?kzz ?_; (case kzF => k_asm); (case kzN => k_asm); (case kzm => k_mem); (case kzi => with_reducible assumption); (case kza => omega); (case kzb => omega); (case kzz => omega)); intro _ _ _ _; (try k_sweep))
  k_with "call builtin:sorted" => (k_here; (with_reducible show wpAny _ _ (call (Value.builtin _) [Value.ref _]) _ _ _); k_dflt (refine' sorted_two ?kzF ?kzN ?kzm ?_; (case kzF => k_asm); (case kzN => k_asm); (case kzm => k_mem)); intro _ _ _ _ _ _ _ _; (try k_sweep))
  k_with "k_mem" => first | with_reducible assumption | ktr_member | ((with_reducible refine' mem_setL_self ?kya); (case kya => k_mem)) | ((with_reducible refine' mem_setL_ne ?kya ?kyb); (case kyb => first | with_reducible assumption | exact Ne.symm (by with_reducible assumption) | omega); (case kya => k_mem)) | exact List.Mem.head _ | (refine' List.mem_cons_of_mem _ ?_; k_mem)
  k_with "newTuple" => (k_here; k_dflt (refine' newTuple_led ?kzF ?kzN ?_ ?kzz; (case kzF => k_asm); (case kzN => k_asm); (case kzz => first | decide | kso_len)); intro _ _ _ _ _; (try k_sweep))
  k_with "CompSrc" => refine Hold.out ?_
  k_with "CompSrcT" => refine Hold.out ?_
  k_with "Src3" => refine Hold.out ?_
  k_with "eval ListComp" => (k_here; (fail_if_success lct_look); k_dflt (refine ListComp_3 (F₀ := by k_asm) (by with_unfolding_all rfl) (by decide) (by rfl) (by decide) (by rfl) ?_))
  k_with "eval ListComp" => (k_here; lct_look; k_dflt (refine LCt.ListComp_T (F₀ := by k_asm) (by with_unfolding_all rfl) (by decide) (by rfl) (by decide) (by rfl) ?_))
  k_with "StrSrc" => refine Hold.out ?_
  k_with "ktr_rel" => first | with_reducible assumption | exact tupIn_s (by k_mem) | exact tupIn_si (by k_mem) | ((with_reducible refine DH.cons ?_); ktr_rel) | ((with_reducible refine DI.cons ?_); ktr_rel) | ((with_reducible refine TupIn.cons ?_); ktr_rel)
  k_with "call type:tuple" => (k_here; (with_reducible show wpAny _ _ (call (Value.type _) [Value.ref _]) _ _ _); k_dflt (first | (refine' tup_same ?kzN ?kzm ?_; (case kzN => k_asm); (case kzm => k_mem)) | (refine' tup_list ?kzF ?kzN ?kzm ?kzz ?_; (case kzF => k_asm); (case kzN => k_asm); (case kzm => k_mem); (case kzz => first | decide | kso_len); intro _ _ _ _ _; (try k_sweep))))
  k_with "binaryOp Add" => (k_here; (with_reducible show wpAny _ _ (binaryOp _ (Value.ref _) (Value.ref _)) _ _ _); k_dflt (first | (refine' tup_add0 ?kzF ?kzN ?kzm ?kzb ?kzv ?kzz ?_; (case kzF => k_asm); (case kzN => k_asm); (case kzm => k_mem); (case kzb => k_mem); (case kzv => simp); (case kzz => first | decide | kso_len)) | (refine' tup_add ?kzF ?kzN ?kzm ?kzb ?kzv ?kzy ?kzz ?kzx ?_; (case kzF => k_asm); (case kzN => k_asm); (case kzm => k_mem); (case kzb => k_mem); (case kzv => simp); (case kzy => simp); (case kzz => first | decide | kso_len); (case kzx => first | decide | kso_len); intro _ _ _ _ _; (try k_sweep))))
  k_with "subscriptTail" => (k_here; (with_reducible show wpAny _ _ (subscriptTail _ (Expr.Slice _ _ _ _) (Value.ref _) (Value.ref _)) _ _ _); k_dflt (refine' tup_slice1 ?kzF ?kzN ?kzm ?kzz ?_ ?kzs; (case kzs => with_unfolding_all rfl); (case kzF => k_asm); (case kzN => k_asm); (case kzm => k_mem); (case kzz => first | decide | kso_len)); intro _ _ _ _ _; (try k_sweep))
  k_with "compareOp In" => (k_here; (with_reducible show wpAny _ _ (compareOp CmpOp.In (Value.ref _) (Value.ref _)) _ _ _); k_dflt (refine' dh_in ?kzu ?kzN ?kzH ?kzT ?_; (case kzN => k_asm); (case kzH => ktr_rel); (case kzT => ktr_rel); (case kzu => ktr_units)); intro _; (try dsimp only))
  k_with "compareOp In" => (k_here; (with_reducible show wpAny _ _ (compareOp CmpOp.In (Value.ref _) (Value.ref _)) _ _ _); k_dflt (refine' dh_in_none ?kzu ?kzN ?kzH ?kzT ?kzK ?_; (case kzN => k_asm); (case kzH => ktr_rel); (case kzT => ktr_rel); (case kzK => with_reducible assumption); (case kzu => ktr_units)); intro _; (try dsimp only))
  k_with "setItem ref ref" => (k_here; k_dflt (refine' dh_set ?kzu ?kzF ?kzN ?kzH ?kzT ?kzz ?_; (case kzF => k_asm); (case kzN => k_asm); (case kzH => ktr_rel); (case kzT => ktr_rel); (case kzu => ktr_units); (case kzz => omega)); intro _ _ _ _ _ _; (try k_sweep))
  k_with "getMethod ref" => (k_here; (with_reducible show wpAny _ _ (getMethod (Value.ref _) (Str.ofString "setdefault") _) _ _ _); k_dflt (refine' dh_method PySem.F.slot_dict_setdefault PySem.F.type_dict_setdefault ?kzN ?kzH ?_; (case kzN => k_asm); (case kzH => ktr_rel)))
  k_with "getMethod ref" => (k_here; (with_reducible show wpAny _ _ (getMethod (Value.ref _) (Str.ofString "get") _) _ _ _); k_dflt (refine' dh_method PySem.F.slot_dict_get PySem.F.type_dict_get ?kzN ?kzH ?_; (case kzN => k_asm); (case kzH => ktr_rel)))
  k_with "getMethod ref" => (k_here; (with_reducible show wpAny _ _ (getMethod (Value.ref _) (Str.ofString "pop") _) _ _ _); k_dflt (refine' di_method PySem.F.slot_dict_pop PySem.F.type_dict_pop ?kzN ?kzH ?_; (case kzN => k_asm); (case kzH => ktr_rel)))
  k_with "k_mem" => first | with_reducible assumption | ktr_member | (refine' SetTo.it ?kys ?kya; (case kys => with_reducible assumption); (case kya => k_mem)) | (refine' SetTo.mem ?kys ?kya ?kyb; (case kys => with_reducible assumption); (case kyb => first | with_reducible assumption | exact Ne.symm (by with_reducible assumption) | (refine nen ?_; omega)); (case kya => k_mem)) | exact List.Mem.head _ | (refine' List.mem_cons_of_mem _ ?_; k_mem)
  k_with "ktr_rel" => (refine' TupIn.setTo ?kya ?kys ?kyb; (case kys => with_reducible assumption); (case kyb => first | with_reducible assumption | exact Ne.symm (by with_reducible assumption) | (refine nen ?_; omega)); (case kya => ktr_rel))
  k_with "call builtin:list.append" => (k_here; (with_reducible show wpAny _ _ (call (Value.builtin _) [Value.ref _, _]) _ _ _); k_dflt (refine' append_o ?kzF ?kzN ?kzm ?kzz ?_; (case kzF => k_asm); (case kzN => k_asm); (case kzm => k_mem); (case kzz => kso_len)); intro _ _ _ _ _; (try k_sweep))
  k_with "call builtin:list.extend" => (k_here; (with_reducible show wpAny _ _ (call (Value.builtin _) [Value.ref _, Value.ref _]) _ _ _); k_dflt (refine' extend_o ?kzF ?kzN ?kzm ?kzb ?kzz ?kzy ?_; (case kzF => k_asm); (case kzN => k_asm); (case kzm => k_mem); (case kzb => k_mem); (case kzz => kso_len); (case kzy => kso_len)); intro _ _ _ _ _ _; (try k_sweep))
  k_with "setItem ref int" => (k_here; (with_reducible show wpAny _ _ (setItem (Value.ref _) (Value.int _ _) (Value.int _ _)) _ _ _); k_dflt (refine' set_o ?kzF ?kzN ?kzm ?kzi ?kza ?kzb ?kzz ?_; (case kzF => k_asm); (case kzN => k_asm); (case kzm => k_mem); (case kzi => with_reducible assumption); (case kza => omega); (case kzb => omega); (case kzz => omega)); intro _ _ _ _ _ _; (try k_sweep))
  k_with "setItem ref ref" => (k_here; k_dflt (refine' dh_set_o ?kzu ?kzF ?kzN ?kzH ?kzT ?kzz ?_; (case kzF => k_asm); (case kzN => k_asm); (case kzH => ktr_rel); (case kzT => ktr_rel); (case kzu => ktr_units); (case kzz => omega)); intro _ _ _ _ _ _ _ _; (try k_sweep))
  k_with "subscriptTail" => (k_here; (with_reducible show wpAny _ _ (subscriptTail _ _ (Value.ref _) (Value.int 0 _)) _ _ _); k_dflt (refine' tup_item0 ?kzN ?kzm ?_ ?kzs; (case kzN => k_asm); (case kzm => k_mem); (case kzs => with_unfolding_all rfl)); k_whole)
  k_with "exec For" => (k_here; (rename Fr _ _ _ _ => lF'); k_dflt ((with_unfolding_all refine' For_invVF lF' ?kzk1 ?kzk2 ?_); (case kzk1 => exact rfl); (case kzk2 => exact rfl)); k_whole)
  k_with "pyIter ref" => ((with_reducible show wpAny _ _ (pyIter (Value.ref _)) (fun it s₂ => LoopAtV _ _ _ _ _ _ _ _ _ it s₂) _ _); refine Hold.out ?_)
  k_with "eval Name" => (k_here; name_kind "cell"; k_dflt (refine' ldCN ?kzN ?kzc ?kzm ?kzd ?_ ?kzk ?kzl ?kzb; (case kzk => rfl); (case kzl => rfl); (case kzb => decide); (case kzN => k_asm); (case kzc => exact rfl); (case kzm => k_mem); (case kzd => with_reducible assumption)); k_whole)
  k_with "ktr_rel" => (refine' DI.setTo ?kya ?kys ?kyb; (case kys => with_reducible assumption); (case kyb => first | with_reducible assumption | exact Ne.symm (by with_reducible assumption) | (refine nen ?_; omega)); (case kya => ktr_rel))
  k_with "subscriptTail" => (k_here; (with_reducible show wpAny _ _ (subscriptTail _ _ (Value.ref _) (Value.int _ _)) _ _ _); k_dflt (refine' di_item ?kzN ?kzH ?kzp ?_ ?kzs; (case kzN => k_asm); (case kzH => ktr_rel); (case kzp => with_reducible assumption); (case kzs => with_unfolding_all rfl)); intro _; (try dsimp only))
  k_with "call builtin:dict.pop" => (k_here; (with_reducible show wpAny _ _ (call (Value.builtin _) [Value.ref _, Value.int _ _]) _ _ _); k_dflt (refine' di_pop_o ?kzF ?kzN ?kzH ?kzz ?kzp ?_; (case kzF => k_asm); (case kzN => k_asm); (case kzH => ktr_rel); (case kzp => with_reducible assumption); (case kzz => omega)); intro _ _ _ _ _ _ _ _; (try k_sweep))
  k_with "binaryOp Add" => (k_here; (with_reducible show wpAny _ _ (binaryOp _ (Value.ref _) (Value.ref _)) _ _ _); k_dflt (refine' list_add ?kzF ?kzN ?kzm ?kzb ?kzy ?kzz ?_; (case kzF => k_asm); (case kzN => k_asm); (case kzm => k_mem); (case kzb => k_mem); (case kzy => kso_len); (case kzz => kso_len)); intro _ _ _ _ _; (try k_sweep))
  k_with "ktr_rel" => first | with_reducible assumption | ((with_reducible refine BAt.cons ?_); ktr_rel) | ((with_reducible refine HAt.cons ?_); ktr_rel) | ((with_reducible refine UAt.cons ?_); ktr_rel)
  k_with "omega" => lia
  trivial
theorem join_con {w : World} (hp b u : Addr) (kn : List (List Mix × Int)) (ab : Int → Option (List Int)) (wt : List Int) (NN EE : Nat) (footh : List Addr) (ns ls : List Int) (cs : List (List Int)) (ms : List (Int × Int)) (footu : List Addr) (FO : Forest ns ls)
    (i j : Int) (ti tj : Tok) (rs : Addr) (k g : Int) (hk' : k = min (ls.getD i.toNat 0) (ls.getD j.toNat 0)) (hg' : g = max (ls.getD i.toNat 0) (ls.getD j.toNat 0)) (uk ug : List Int)
    (hsz : k ≠ g → (cs.getD k.toNat []).length + (cs.getD g.toNat []).length < 60) (hms : ms.length < 50) (hE : EE < 900) (habk : k ≠ g → ab k = some uk) (habg : k ≠ g → ab g = some ug) (hkg : k ≠ g → uk.length + ug.length < 60 ∧ wt.length + ug.length < 1000) (hdu : ∀ a ∈ footh, a ∉ footu) :
    Con w 331 [.ref hp, .int i ti, .int j tj, .ref rs] 60 600 (fun news => HAt w hp b u kn ab wt NN EE footh news ∧ UAt w u ns cs ms footu news ∧ (0 ≤ i ∧ i < ns.length) ∧ 0 ≤ j ∧ j < ns.length)
      (fun news news' r => (k = g ∧ r = .bool false ∧ HAt w hp b u kn ab wt NN (EE + 1) footh news' ∧ UAt w u ns cs ms footu news' ∧ Keeps footh news news') ∨
        (k ≠ g ∧ r = .bool true ∧ ∃ footh' footu', HAt w hp b u kn (fun j => if j = k then some (uk ++ ug) else if j = g then none else ab j) (wt ++ ug) NN (EE + 1) footh' news' ∧
          UAt w u (ns.set g.toNat k) (cs.set k.toNat (cs.getD k.toNat [] ++ cs.getD g.toNat [])) (ms ++ [(k, g)]) footu' news' ∧ (∀ a ∈ footh', a ∉ footu') ∧
          (∀ p ∈ news, p.1 ∉ footh → p.1 ∉ footu → p ∈ news') ∧ Grow footh footh' news ∧ Grow footu footu' news ∧ (∀ a ∈ footh, a ∈ footh') ∧ ∀ a ∈ footu, a ∈ footu')) := by
  rintro mean mg mb dp un gd env outer A₀ base h₀ L m news s Q E B F X N T hf hk hd hu ⟨U, UU, h0, h1⟩ hret
  have U' := U
  obtain ⟨dh, le, lf, dk, da, lw, kk, n1, n2, n3, n4, ve, vf, vw, kxs, fa, I⟩ := U'
  have m1 := I.inst
  have m2 := I.dict
  have m3 := I.edges
  have m4 := I.forest
  have m5 := I.waiting
  have hel := I.elen
  have hfl := I.flen
  have hwl := I.wints.length
  have hDI := I.above
  have hnod := I.nod
  simp only [List.nodup_cons, List.mem_cons, List.not_mem_nil, or_false, not_or] at hnod
  obtain ⟨⟨z1, z2, z3, z4, z5, z6⟩, ⟨z7, z8, z9, z10, z11⟩, ⟨z12, z13, z14, z15⟩, ⟨z16, z17, z18⟩, ⟨z19, z20⟩, z21, _⟩ := hnod
  have hsm := I.small
  have UU' := UU
  obtain ⟨du, la, ll, lm, nd, na, nl, nm, k1, k2, k3, vs, as, bs, I2, hfoot⟩ := UU'
  have mu1 := I2.inst
  have mu2 := I2.dict
  obtain ⟨f1, f2, f3, f4, f5, f6, f7, f8, f9⟩ := I.feet
  have ap : ∀ {a c : Addr}, a ∈ footh → c ∈ footu → c ≠ a := fun {a c} ha hc e => hdu a ha (e ▸ hc)
  have hfu : u ∈ footu := by rw [hfoot]; simp
  have hfdu : du ∈ footu := by rw [hfoot]; simp
  have y1 := ap f3 hfu
  have y2 := ap f3 hfdu
  refine wpAny_call ?_
  ((refine' code_def (binds := ([("self", .ref hp), ("a", .int i ti), ("b", .int j tj), ("reason", .ref rs)])) ?k1 ?k2 ?k3 ?k4 ?k5 ?kA ?kF ?kK ?k6 ?k7 ?k8 ?k9 ?kB ?_ ?c2 ?c3 ?c4 ?c5; (case kA => exact rfl); (case kF => assumption); (case kK => assumption); (case k1 => k_asm); (case k2 => k_asm); (case k3 => k_asm); (case k4 => k_asm); (case k5 => k_asm); (case k6 => k_is); (case k7 => k_is); (case k8 => first | omega | ktr_room | (dsimp only; omega)); (case k9 => exact BindsTo.of_eq rfl); (case c5 => decide); (case kB => exact locs rfl); (case c2 => exact rfl); (case c3 => exact rfl); (case c4 => exact rfl); k_whole; intro g' L' h' FG' F' N' B' X' T'; (try dsimp only); (try k_lift B'); (try k_fold)))
  k_steps
  rename SetTo le _ _ _ => S1
  have UU1 := UU.move (l' := _) fun p hp hf => S1.keep p (.tail _ hp) (ap f3 hf)
  refine' con_use (merge_con u ns ls cs ms footu i j _ _ k g FO hk' hg' hsz hms) ?kB ?kF ?kX ?kN ?kT ?kA ?kH ?kf ?kk ?kd ?ku ?hp ?_
  tb_start
  case hp => exact ⟨UU1, h0, h1⟩
  intro r' h' tk' l' F' N' hp'
  have J1 := (I.cons (l' := news)).setEdges S1 (by omega)
  rcases hp' with ⟨ekg, er, kp⟩ | ⟨nkg, D9, t1, t2, n9, footu', er, mD9, neD9, hD9, UU9, kp9, gr9, in9⟩
  · subst er
    k_steps
    exact hret _ _ _ _ (by assumption) (by assumption) (.inl ⟨ekg, rfl, ⟨_, _, _, _, _, _, _, _, _, _, _, _, _, _, _, _, J1.move fun p hp _ => kp p hp⟩, UU1.move fun p hp _ => kp p hp, fun p hp hn => kp _ (S1.keep _ (.tail _ hp) fun e => hn (e ▸ f3))⟩)
  · subst er
    have J2 := J1.move (l' := l') fun p hp hf => kp9 p hp fun h => hdu _ hf h
    have q1 := J2.inst
    have q2 := J2.dict
    have q3 := J2.edges
    have q4 := J2.forest
    have q5 := J2.waiting
    have hDI2 := J2.above
    obtain ⟨s1, s2⟩ := hkg nkg
    have e1 := habk nkg
    have e2 := habg nkg
    have ⟨ak, ck, mk, p1, p2, p3, p4⟩ : ∃ ak vs n, fa k = some ak ∧ (ak, PySem.W.listOf (List.toArray vs) n) ∈ l' ∧ IntsAre vs uk ∧ uk.length < 60 := by
      rcases J2.users k with ⟨_, h⟩ | ⟨a, us, vs, n, h1, h2, h3, h4, h5⟩
      · rw [e1] at h; cases h
      · rw [e1] at h2; cases h2; exact ⟨a, vs, n, h1, h3, h4, h5⟩
    have ⟨ag, cg, mg, p5, p6, p7, p8⟩ : ∃ ag vs n, fa g = some ag ∧ (ag, PySem.W.listOf (List.toArray vs) n) ∈ l' ∧ IntsAre vs ug ∧ ug.length < 60 := by
      rcases J2.users g with ⟨_, h⟩ | ⟨a, us, vs, n, h1, h2, h3, h4, h5⟩
      · rw [e2] at h; cases h
      · rw [e2] at h2; cases h2; exact ⟨a, vs, n, h1, h3, h4, h5⟩
    have x1 := I.ane _ _ p1
    have x2 := I.ane _ _ p5
    simp only [List.mem_cons, List.not_mem_nil, or_false, not_or] at x1 x2
    obtain ⟨x11, x12, x13, x14, x15, x16, x17⟩ := x1
    obtain ⟨x21, x22, x23, x24, x25, x26, x27⟩ := x2
    have x3 : ak ≠ ag := fun e => nkg (I.inj _ _ _ p1 (e ▸ p5))
    have lk := p3.length
    have lg := p7.length
    k_steps
    rename SetTo lf _ _ _ => S2
    rename SetTo lw _ _ _ => S3
    rename SetTo da _ _ _ => S4
    rename DI _ _ da _ _ _ => H4
    have J3 := J2.setForest S2 (by omega)
    have J4 := J3.setWaiting S3 (I.wints.append p7) (by simp; omega)
    have J5 := J4.pop S4 H4
    rename ∀ p ∈ _, _ < _ => l5
    have ap' : ∀ {a c : Addr}, a ∈ footh → c ∈ footu' → c ≠ a := fun {a c} ha hc e => by
      obtain ⟨o, ho⟩ := J1.footin a ha
      rcases gr9 c hc with h | h
      · exact hdu a ha (e ▸ h)
      · exact h _ ho e.symm
    have UU10 := UU9.move fun p hp hf => S4.keep p (S3.keep p (S2.keep p hp (ap' f4 hf)) (ap' f7 hf)) (ap' f6 hf)
    have kn1 : ∀ p ∈ news, p.1 ∉ footh → p.1 ∉ footu → p ∈ _ := fun p hp hn hn2 => S4.keep p (S3.keep p (S2.keep p (kp9 p (S1.keep _ (.tail _ hp) fun e => hn (e ▸ f3)) hn2) (fun e => hn (e ▸ f4))) (fun e => hn (e ▸ f7))) (fun e => hn (e ▸ f6))
    have adr : ∀ p ∈ news, ∃ o, (p.1, o) ∈ _ := fun p hp => by
      by_cases e1 : p.1 ∈ footh
      · exact J5.footin _ e1
      by_cases e2 : p.1 ∈ footu
      · exact UU10.foot_in _ (in9 _ e2)
      exact ⟨p.2, kn1 p hp e1 e2⟩
    refine di_set_o (n' := NN) (by k_asm) (by k_asm) (DI.cons H4) (by omega) (.inr ⟨by simp [nkg, p1], rfl⟩) ?_
    intro h5 tk5 o5 l6 F5 N5 S5 H5
    have J6 := (J5.cons (l' := news)).put S5 (.head _) (fun h => by obtain ⟨o, ho⟩ := J5.footin _ h; exact absurd (l5 _ ho) (Nat.lt_irrefl _)) (us := uk ++ ug) (by with_reducible assumption) (by rw [List.length_append]; omega) hsm.1 H5
    k_steps
    refine hret _ _ _ _ (by assumption) (by assumption) (.inr ⟨nkg, rfl, _, footu', ⟨_, _, _, _, _, _, _, _, _, _, _, _, _, _, _, _, J6⟩, UU10.move fun p hp hf => S5.keep p (.tail _ hp) (ap' f6 hf), ?_, ?_, ?_, ?_, fun a ha => List.mem_append_left _ ha, in9⟩)
    · intro a ha h
      rcases List.mem_append.mp ha with ha | ha
      · exact ap' ha h rfl
      · obtain ⟨o, ho⟩ := UU10.foot_in _ h
        rw [List.mem_singleton.mp ha] at ho
        exact absurd (l5 _ ho) (Nat.lt_irrefl _)
    · exact fun p hp e1 e2 => S5.keep p (.tail _ (kn1 p hp e1 e2)) fun e => e1 (e ▸ f6)
    · intro a ha
      rcases List.mem_append.mp ha with ha | ha
      · exact .inl ha
      · refine .inr fun p hp e => ?_
        obtain ⟨o, ho⟩ := adr p hp
        rw [e, List.mem_singleton.mp ha] at ho
        exact absurd (l5 _ ho) (Nat.lt_irrefl _)
    · intro a ha
      rcases gr9 a ha with h | h
      · exact .inl h
      · refine .inr fun p hp e => ?_
        obtain ⟨o, ho⟩ := S1.addr (p := p) (.tail _ hp)
        exact h _ ho e
end
section
example : True := by
  w_top off
  k_with_none
  k_with "ktr_room" => ((try simp only [depth_under_make, depth_under_kw, depth_in1, depth_deeper, depth_caller]); (try dsimp only); first | exact room_up2 (by with_reducible assumption) rfl | exact room_up (by with_reducible assumption) rfl | exact room_0 (by with_reducible assumption) rfl | omega)
  k_with "ktr_units" => ((try simp only [units_in1, units_deeper, Around.mark_units, units_caller, units_under_make]); (try dsimp only); first | exact room_up2 (by with_reducible assumption) rfl | exact room_up (by with_reducible assumption) rfl | exact room_0 (by with_reducible assumption) rfl | omega)
  k_with "tb_start" => ((case kB => k_asm); (case kF => k_asm); (case kX => k_asm); (case kN => k_asm); (case kT => k_asm); (case kA => exact rfl); (case kH => exact rfl); (case kf => exact rfl); (case kk => exact rfl); (case kd => ktr_room); (case ku => ktr_units))
  k_with "call ref" => (k_here; (with_reducible show wpAny _ _ (call (Value.ref 97) _) _ _ _); k_dflt (refine' con_use (find_con _ _ _ _ _ _ _ _ ?kzFO) ?kB ?kF ?kX ?kN ?kT ?kA ?kH ?kf ?kk ?kd ?ku ?hp ?_; (case kzFO => assumption); (case hp => exact ⟨by assumption, by first | assumption | omega, by first | assumption | omega⟩); tb_start);  intro _ _ _ _ _ _ hp'; obtain ⟨e', _, e2'⟩ := hp'; subst e'; subst e2'; (try dsimp only))
  k_with "subscriptTail" => (k_here; (with_reducible show wpAny _ _ (subscriptTail _ _ (Value.ref _) (Value.int _ _)) _ _ _); k_dflt (refine' item_ref ?kzN ?kzm ?kzh0 ?kzhk ?kzhh ?_ ?kzhs; (case kzN => k_asm); (case kzhk => assumption); (case kzm => k_mem); (case kzh0 => omega); (case kzhh => omega); (case kzhs => with_unfolding_all rfl); k_whole))
  k_with "newList" => (k_here; k_dflt (refine' newList_led ?kzF ?kzN ?_ ?kzz; (case kzF => k_asm); (case kzN => k_asm); (case kzz => first | decide | kso_len)); intro _ _ _ _ _; (try k_sweep))
  k_with "call builtin:sorted" => (k_here; (with_reducible show wpAny _ _ (call (Value.builtin _) [Value.ref _]) _ _ _); k_dflt (with_unfolding_all refine' kso_sorted ?kzk1 ?kzk2 (is_listN ?kzk2 ?kzk3) ?kzk4 ?kzk5 ?_; (case kzk1 => k_asm); (case kzk2 => k_asm); (case kzk3 => k_mem); (case kzk4 => l_ints); (case kzk5 => omega); k_whole); intro _ _ _ _ _ _ _ _ _ _ _ _ _; (try k_sweep))
  k_with "kso_len" => first | omega | (simp only [List.length_append, List.length_map, List.length_cons, List.length_nil, List.length_set]; omega)
  k_with "call builtin:len" => (k_here; (with_reducible show wpAny _ _ (call (Value.builtin "len") [Value.ref _]) _ _ _); k_dflt (refine' len_led ?kzN ?kzm ?kzk ?kzz ?_; (case kzN => k_asm); (case kzm => k_mem); (case kzk => first | exact IntsAre.length (by with_reducible assumption) | exact List.length_map _ | ((try simp only [List.length_append, List.length_map, List.length_cons, List.length_nil, List.length_set]); exact rfl)); (case kzz => kso_len)); intro _ _)
  k_with "call builtin:list.append" => (k_here; (with_reducible show wpAny _ _ (call (Value.builtin _) [Value.ref _, _]) _ _ _); k_dflt (refine' append_led ?kzF ?kzN ?kzm ?kzz ?_; (case kzF => k_asm); (case kzN => k_asm); (case kzm => k_mem); (case kzz => kso_len)); intro _ _ _; (try k_sweep))
  k_with "call builtin:list.extend" => (k_here; (with_reducible show wpAny _ _ (call (Value.builtin _) [Value.ref _, Value.ref _]) _ _ _); k_dflt (refine' extend_led ?kzF ?kzN ?kzm ?kzb ?kzz ?kzy ?_; (case kzF => k_asm); (case kzN => k_asm); (case kzm => k_mem); (case kzb => k_mem); (case kzz => kso_len); (case kzy => kso_len)); intro _ _ _ _; (try k_sweep))
  k_with "call type:list" => (k_here; (with_reducible show wpAny _ _ (call (Value.type _) [Value.ref _]) _ _ _); k_dflt (refine' list_led ?kzF ?kzN ?kzm ?kzz ?_; (case kzF => k_asm); (case kzN => k_asm); (case kzm => k_mem); (case kzz => kso_len)); intro _ _ _ _ _ _; (try k_sweep))
  k_with "setItem ref int" => (k_here; (with_reducible show wpAny _ _ (setItem (Value.ref _) (Value.int _ _) (Value.int _ _)) _ _ _); k_dflt (refine' set_led ?kzF ?kzN ?kzm ?kzi ?kza ?kzb ?kzz ?_; (case kzF => k_asm); (case kzN => k_asm); (case kzm => k_mem); (case kzi => with_reducible assumption); (case kza => omega); (case kzb => omega); (case kzz => omega)); intro _ _ _ _; (try k_sweep))
  k_with "call builtin:sorted" => (k_here; (with_reducible show wpAny _ _ (call (Value.builtin _) [Value.ref _]) _ _ _); k_dflt (refine' sorted_two ?kzF ?kzN ?kzm ?_; (case kzF => k_asm); (case kzN => k_asm); (case kzm => k_mem)); intro _ _ _ _ _ _ _ _; (try k_sweep))
  k_with "k_mem" => first | with_reducible assumption | ktr_member | ((with_reducible refine' mem_setL_self ?kya); (case kya => k_mem)) | ((with_reducible refine' mem_setL_ne ?kya ?kyb); (case kyb => first | with_reducible assumption | exact Ne.symm (by with_reducible assumption) | omega); (case kya => k_mem)) | exact List.Mem.head _ | (refine' List.mem_cons_of_mem _ ?_; k_mem)
  k_with "newTuple" => (k_here; k_dflt (refine' newTuple_led ?kzF ?kzN ?_ ?kzz; (case kzF => k_asm); (case kzN => k_asm); (case kzz => first | decide | kso_len)); intro _ _ _ _ _; (try k_sweep))
  k_with "CompSrc" => refine Hold.out ?_
  k_with "CompSrcT" => refine Hold.out ?_
  k_with "Src3" => refine Hold.out ?_
  k_with "eval ListComp" => (k_here; (fail_if_success lct_look); k_dflt (refine ListComp_3 (F₀ := by k_asm) (by with_unfolding_all rfl) (by decide) (by rfl) (by decide) (by rfl) ?_))
  k_with "eval ListComp" => (k_here; lct_look; k_dflt (refine LCt.ListComp_T (F₀ := by k_asm) (by with_unfolding_all rfl) (by decide) (by rfl) (by decide) (by rfl) ?_))
  k_with "StrSrc" => refine Hold.out ?_
  k_with "ktr_rel" => first | with_reducible assumption | exact tupIn_s (by k_mem) | exact tupIn_si (by k_mem) | ((with_reducible refine DH.cons ?_); ktr_rel) | ((with_reducible refine DI.cons ?_); ktr_rel) | ((with_reducible refine TupIn.cons ?_); ktr_rel)
  k_with "call type:tuple" => (k_here; (with_reducible show wpAny _ _ (call (Value.type _) [Value.ref _]) _ _ _); k_dflt (first | (refine' tup_same ?kzN ?kzm ?_; (case kzN => k_asm); (case kzm => k_mem)) | (refine' tup_list ?kzF ?kzN ?kzm ?kzz ?_; (case kzF => k_asm); (case kzN => k_asm); (case kzm => k_mem); (case kzz => first | decide | kso_len); intro _ _ _ _ _; (try k_sweep))))
  k_with "binaryOp Add" => (k_here; (with_reducible show wpAny _ _ (binaryOp _ (Value.ref _) (Value.ref _)) _ _ _); k_dflt (first | (refine' tup_add0 ?kzF ?kzN ?kzm ?kzb ?kzv ?kzz ?_; (case kzF => k_asm); (case kzN => k_asm); (case kzm => k_mem); (case kzb => k_mem); (case kzv => simp); (case kzz => first | decide | kso_len)) | (refine' tup_add ?kzF ?kzN ?kzm ?kzb ?kzv ?kzy ?kzz ?kzx ?_; (case kzF => k_asm); (case kzN => k_asm); (case kzm => k_mem); (case kzb => k_mem); (case kzv => simp); (case kzy => simp); (case kzz => first | decide | kso_len); (case kzx => first | decide | kso_len); intro _ _ _ _ _; (try k_sweep))))
  k_with "subscriptTail" => (k_here; (with_reducible show wpAny _ _ (subscriptTail _ (Expr.Slice _ _ _ _) (Value.ref _) (Value.ref _)) _ _ _); k_dflt (refine' tup_slice1 ?kzF ?kzN ?kzm ?kzz ?_ ?kzs; (case kzs => with_unfolding_all rfl); (case kzF => k_asm); (case kzN => k_asm); (case kzm => k_mem); (case kzz => first | decide | kso_len)); intro _ _ _ _ _; (try k_sweep))
  k_with "compareOp In" => (k_here; (with_reducible show wpAny _ _ (compareOp CmpOp.In (Value.ref _) (Value.ref _)) _ _ _); k_dflt (refine' dh_in ?kzu ?kzN ?kzH ?kzT ?_; (case kzN => k_asm); (case kzH => ktr_rel); (case kzT => ktr_rel); (case kzu => ktr_units)); intro _; (try dsimp only))
  k_with "compareOp In" => (k_here; (with_reducible show wpAny _ _ (compareOp CmpOp.In (Value.ref _) (Value.ref _)) _ _ _); k_dflt (refine' dh_in_none ?kzu ?kzN ?kzH ?kzT ?kzK ?_; (case kzN => k_asm); (case kzH => ktr_rel); (case kzT => ktr_rel); (case kzK => with_reducible assumption); (case kzu => ktr_units)); intro _; (try dsimp only))
  k_with "setItem ref ref" => (k_here; k_dflt (refine' dh_set ?kzu ?kzF ?kzN ?kzH ?kzT ?kzz ?_; (case kzF => k_asm); (case kzN => k_asm); (case kzH => ktr_rel); (case kzT => ktr_rel); (case kzu => ktr_units); (case kzz => omega)); intro _ _ _ _ _ _; (try k_sweep))
  k_with "getMethod ref" => (k_here; (with_reducible show wpAny _ _ (getMethod (Value.ref _) (Str.ofString "setdefault") _) _ _ _); k_dflt (refine' dh_method PySem.F.slot_dict_setdefault PySem.F.type_dict_setdefault ?kzN ?kzH ?_; (case kzN => k_asm); (case kzH => ktr_rel)))
  k_with "getMethod ref" => (k_here; (with_reducible show wpAny _ _ (getMethod (Value.ref _) (Str.ofString "get") _) _ _ _); k_dflt (refine' dh_method PySem.F.slot_dict_get PySem.F.type_dict_get ?kzN ?kzH ?_; (case kzN => k_asm); (case kzH => ktr_rel)))
  k_with "getMethod ref" => (k_here; (with_reducible show wpAny _ _ (getMethod (Value.ref _) (Str.ofString "pop") _) _ _ _); k_dflt (refine' di_method PySem.F.slot_dict_pop PySem.F.type_dict_pop ?kzN ?kzH ?_; (case kzN => k_asm); (case kzH => ktr_rel)))
  k_with "k_mem" => first | with_reducible assumption | ktr_member | (refine' SetTo.it ?kys ?kya; (case kys => with_reducible assumption); (case kya => k_mem)) | (refine' SetTo.mem ?kys ?kya ?kyb; (case kys => with_reducible assumption); (case kyb => first | with_reducible assumption | exact Ne.symm (by with_reducible assumption) | (refine nen ?_; omega)); (case kya => k_mem)) | exact List.Mem.head _ | (refine' List.mem_cons_of_mem _ ?_; k_mem)
  k_with "ktr_rel" => (refine' TupIn.setTo ?kya ?kys ?kyb; (case kys => with_reducible assumption); (case kyb => first | with_reducible assumption | exact Ne.symm (by with_reducible assumption) | (refine nen ?_; omega)); (case kya => ktr_rel))
  k_with "call builtin:list.append" => (k_here; (with_reducible show wpAny _ _ (call (Value.builtin _) [Value.ref _, _]) _ _ _); k_dflt (refine' append_o ?kzF ?kzN ?kzm ?kzz ?_; (case kzF => k_asm); (case kzN => k_asm); (case kzm => k_mem); (case kzz => kso_len)); intro _ _ _ _ _; (try k_sweep))
  k_with "call builtin:list.extend" => (k_here; (with_reducible show wpAny _ _ (call (Value.builtin _) [Value.ref _, Value.ref _]) _ _ _); k_dflt (refine' extend_o ?kzF ?kzN ?kzm ?kzb ?kzz ?kzy ?_; (case kzF => k_asm); (case kzN => k_asm); (case kzm => k_mem); (case kzb => k_mem); (case kzz => kso_len); (case kzy => kso_len)); intro _ _ _ _ _ _; (try k_sweep))
  k_with "setItem ref int" => (k_here; (with_reducible show wpAny _ _ (setItem (Value.ref _) (Value.int _ _) (Value.int _ _)) _ _ _); k_dflt (refine' set_o ?kzF ?kzN ?kzm ?kzi ?kza ?kzb ?kzz ?_; (case kzF => k_asm); (case kzN => k_asm); (case kzm => k_mem); (case kzi => with_reducible assumption); (case kza => omega); (case kzb => omega); (case kzz => omega)); intro _ _ _ _ _ _; (try k_sweep))
  k_with "setItem ref ref" => (k_here; k_dflt (refine' dh_set_o ?kzu ?kzF ?kzN ?kzH ?kzT ?kzz ?_; (case kzF => k_asm); (case kzN => k_asm); (case kzH => ktr_rel); (case kzT => ktr_rel); (case kzu => ktr_units); (case kzz => omega)); intro _ _ _ _ _ _ _ _; (try k_sweep))
  k_with "subscriptTail" => (k_here; (with_reducible show wpAny _ _ (subscriptTail _ _ (Value.ref _) (Value.int 0 _)) _ _ _); k_dflt (refine' tup_item0 ?kzN ?kzm ?_ ?kzs; (case kzN => k_asm); (case kzm => k_mem); (case kzs => with_unfolding_all rfl)); k_whole)
  k_with "exec For" => (k_here; (rename Fr _ _ _ _ => lF'); k_dflt ((with_unfolding_all refine' For_invVF lF' ?kzk1 ?kzk2 ?_); (case kzk1 => exact rfl); (case kzk2 => exact rfl)); k_whole)
  k_with "pyIter ref" => ((with_reducible show wpAny _ _ (pyIter (Value.ref _)) (fun it s₂ => LoopAtV _ _ _ _ _ _ _ _ _ it s₂) _ _); refine Hold.out ?_)
  k_with "eval Name" => (k_here; name_kind "cell"; k_dflt (refine' ldCN ?kzN ?kzc ?kzm ?kzd ?_ ?kzk ?kzl ?kzb; (case kzk => rfl); (case kzl => rfl); (case kzb => decide); (case kzN => k_asm); (case kzc => exact rfl); (case kzm => k_mem); (case kzd => with_reducible assumption)); k_whole)
  k_with "ktr_rel" => (refine' DI.setTo ?kya ?kys ?kyb; (case kys => with_reducible assumption); (case kyb => first | with_reducible assumption | exact Ne.symm (by with_reducible assumption) | (refine nen ?_; omega)); (case kya => ktr_rel))
  k_with "subscriptTail" => (k_here; (with_reducible show wpAny _ _ (subscriptTail _ _ (Value.ref _) (Value.int _ _)) _ _ _); k_dflt (refine' di_item ?kzN ?kzH ?kzp ?_ ?kzs; (case kzN => k_asm); (case kzH => ktr_rel); (case kzp => with_reducible assumption); (case kzs => with_unfolding_all rfl)); intro _; (try dsimp only))
  k_with "call builtin:dict.pop" => (k_here; (with_reducible show wpAny _ _ (call (Value.builtin _) [Value.ref _, Value.int _ _]) _ _ _); k_dflt (refine' di_pop_o ?kzF ?kzN ?kzH ?kzz ?kzp ?_; (case kzF => k_asm); (case kzN => k_asm); (case kzH => ktr_rel); (case kzp => with_reducible assumption); (case kzz => omega)); intro _ _ _ _ _ _ _ _; (try k_sweep))
  k_with "binaryOp Add" => (k_here; (with_reducible show wpAny _ _ (binaryOp _ (Value.ref _) (Value.ref _)) _ _ _); k_dflt (refine' list_add ?kzF ?kzN ?kzm ?kzb ?kzy ?kzz ?_; (case kzF => k_asm); (case kzN => k_asm); (case kzm => k_mem); (case kzb => k_mem); (case kzy => kso_len); (case kzz => kso_len)); intro _ _ _ _ _; (try k_sweep))
  k_with "omega" => lia
  trivial
theorem hmerge_con {w : World} (hp b u : Addr) (kn : List (List Mix × Int)) (ab : Int → Option (List Int)) (wt : List Int) (NN EE : Nat) (footh : List Addr) (ns ls : List Int) (cs : List (List Int)) (ms : List (Int × Int)) (footu : List Addr) (FO : Forest ns ls)
    (i j : Int) (ti tj : Tok) (rs : Addr) (k g : Int) (hk' : k = min (ls.getD i.toNat 0) (ls.getD j.toNat 0)) (hg' : g = max (ls.getD i.toNat 0) (ls.getD j.toNat 0)) (uk ug : List Int)
    (hsz : k ≠ g → (cs.getD k.toNat []).length + (cs.getD g.toNat []).length < 60) (hms : ms.length < 50) (hE : EE < 900) (habk : k ≠ g → ab k = some uk) (habg : k ≠ g → ab g = some ug) (hkg : k ≠ g → uk.length + ug.length < 60 ∧ wt.length + ug.length < 1000) (hdu : ∀ a ∈ footh, a ∉ footu) :
    Con w 324 [.ref hp, .int i ti, .int j tj, .ref rs] 80 800 (fun news => HAt w hp b u kn ab wt NN EE footh news ∧ UAt w u ns cs ms footu news ∧ (0 ≤ i ∧ i < ns.length) ∧ 0 ≤ j ∧ j < ns.length)
      (fun news news' r => (k = g ∧ r = .bool false ∧ HAt w hp b u kn ab wt NN (EE + 1) footh news' ∧ UAt w u ns cs ms footu news' ∧ Keeps footh news news') ∨
        (k ≠ g ∧ r = .bool true ∧ ∃ footh' footu', HAt w hp b u kn (fun j => if j = k then some (uk ++ ug) else if j = g then none else ab j) (wt ++ ug) NN (EE + 1) footh' news' ∧
          UAt w u (ns.set g.toNat k) (cs.set k.toNat (cs.getD k.toNat [] ++ cs.getD g.toNat [])) (ms ++ [(k, g)]) footu' news' ∧ (∀ a ∈ footh', a ∉ footu') ∧
          (∀ p ∈ news, p.1 ∉ footh → p.1 ∉ footu → p ∈ news') ∧ Grow footh footh' news ∧ Grow footu footu' news ∧ (∀ a ∈ footh, a ∈ footh') ∧ ∀ a ∈ footu, a ∈ footu')) := by
  rintro mean mg mb dp un gd env outer A₀ base h₀ L m news s Q E B F X N T hf hk hd hu ⟨U, UU, h0, h1⟩ hret
  have U' := U
  obtain ⟨dh, le, lf, dk, da, lw, kk, n1, n2, n3, n4, ve, vf, vw, kxs, fa, I⟩ := U'
  have m1 := I.inst
  have m2 := I.dict
  refine wpAny_call ?_
  ((refine' code_def (binds := ([("self", .ref hp), ("a", .int i ti), ("b", .int j tj), ("reason", .ref rs)])) ?k1 ?k2 ?k3 ?k4 ?k5 ?kA ?kF ?kK ?k6 ?k7 ?k8 ?k9 ?kB ?_ ?c2 ?c3 ?c4 ?c5; (case kA => exact rfl); (case kF => assumption); (case kK => assumption); (case k1 => k_asm); (case k2 => k_asm); (case k3 => k_asm); (case k4 => k_asm); (case k5 => k_asm); (case k6 => k_is); (case k7 => k_is); (case k8 => first | omega | ktr_room | (dsimp only; omega)); (case k9 => exact BindsTo.of_eq rfl); (case c5 => decide); (case kB => exact locs rfl); (case c2 => exact rfl); (case c3 => exact rfl); (case c4 => exact rfl); k_whole; intro g' L' h' FG' F' N' B' X' T'; (try dsimp only); (try k_lift B'); (try k_fold)))
  k_steps
  refine' con_use (join_con hp b u kn ab wt NN EE footh ns ls cs ms footu FO i j _ _ rs k g hk' hg' uk ug hsz hms hE habk habg hkg hdu) ?kB ?kF ?kX ?kN ?kT ?kA ?kH ?kf ?kk ?kd ?ku ?hp ?_
  tb_start
  case hp => exact ⟨U, UU, h0, h1⟩
  intro r' h' tk' l' F' N' hp'
  rcases hp' with ⟨ekg, er, x1, x2, x3⟩ | ⟨nkg, er, fh, fu, x1, x2, x3, x4, x5, x6, x7, x8⟩
  · subst er
    k_steps
    exact hret _ _ _ _ (by assumption) (by assumption) (.inl ⟨ekg, rfl, x1, x2, x3⟩)
  · subst er
    k_steps
    exact hret _ _ _ _ (by assumption) (by assumption) (.inr ⟨nkg, rfl, fh, fu, x1, x2, x3, x4, x5, x6, x7, x8⟩)
end
section
example : True := by
  w_top off
  k_with_none
  k_with "ktr_room" => ((try simp only [depth_under_make, depth_under_kw, depth_in1, depth_deeper, depth_caller]); (try dsimp only); first | exact room_up2 (by with_reducible assumption) rfl | exact room_up (by with_reducible assumption) rfl | exact room_0 (by with_reducible assumption) rfl | omega)
  k_with "ktr_units" => ((try simp only [units_in1, units_deeper, Around.mark_units, units_caller, units_under_make]); (try dsimp only); first | exact room_up2 (by with_reducible assumption) rfl | exact room_up (by with_reducible assumption) rfl | exact room_0 (by with_reducible assumption) rfl | omega)
  k_with "tb_start" => ((case kB => k_asm); (case kF => k_asm); (case kX => k_asm); (case kN => k_asm); (case kT => k_asm); (case kA => exact rfl); (case kH => exact rfl); (case kf => exact rfl); (case kk => exact rfl); (case kd => ktr_room); (case ku => ktr_units))
  k_with "call ref" => (k_here; (with_reducible show wpAny _ _ (call (Value.ref 97) _) _ _ _); k_dflt (refine' con_use (find_con _ _ _ _ _ _ _ _ ?kzFO) ?kB ?kF ?kX ?kN ?kT ?kA ?kH ?kf ?kk ?kd ?ku ?hp ?_; (case kzFO => assumption); (case hp => exact ⟨by assumption, by first | assumption | omega, by first | assumption | omega⟩); tb_start);  intro _ _ _ _ _ _ hp'; obtain ⟨e', _, e2'⟩ := hp'; subst e'; subst e2'; (try dsimp only))
  k_with "subscriptTail" => (k_here; (with_reducible show wpAny _ _ (subscriptTail _ _ (Value.ref _) (Value.int _ _)) _ _ _); k_dflt (refine' item_ref ?kzN ?kzm ?kzh0 ?kzhk ?kzhh ?_ ?kzhs; (case kzN => k_asm); (case kzhk => assumption); (case kzm => k_mem); (case kzh0 => omega); (case kzhh => omega); (case kzhs => with_unfolding_all rfl); k_whole))
  k_with "newList" => (k_here; k_dflt (refine' newList_led ?kzF ?kzN ?_ ?kzz; (case kzF => k_asm); (case kzN => k_asm); (case kzz => first | decide | kso_len)); intro _ _ _ _ _; (try k_sweep))
  k_with "call builtin:sorted" => (k_here; (with_reducible show wpAny _ _ (call (Value.builtin _) [Value.ref _]) _ _ _); k_dflt (with_unfolding_all refine' kso_sorted ?kzk1 ?kzk2 (is_listN ?kzk2 ?kzk3) ?kzk4 ?kzk5 ?_; (case kzk1 => k_asm); (case kzk2 => k_asm); (case kzk3 => k_mem); (case kzk4 => l_ints); (case kzk5 => omega); k_whole); intro _ _ _ _ _ _ _ _ _ _ _ _ _; (try k_sweep))
  k_with "kso_len" => first | omega | (simp only [List.length_append, List.length_map, List.length_cons, List.length_nil, List.length_set]; omega)
  k_with "call builtin:len" => (k_here; (with_reducible show wpAny _ _ (call (Value.builtin "len") [Value.ref _]) _ _ _); k_dflt (refine' len_led ?kzN ?kzm ?kzk ?kzz ?_; (case kzN => k_asm); (case kzm => k_mem); (case kzk => first | exact IntsAre.length (by with_reducible assumption) | exact List.length_map _ | ((try simp only [List.length_append, List.length_map, List.length_cons, List.length_nil, List.length_set]); exact rfl)); (case kzz => kso_len)); intro _ _)
  k_with "call builtin:list.append" => (k_here; (with_reducible show wpAny _ _ (call (Value.builtin _) [Value.ref _, _]) _ _ _); k_dflt (refine' append_led ?kzF ?kzN ?kzm ?kzz ?_; (case kzF => k_asm); (case kzN => k_asm); (case kzm => k_mem); (case kzz => kso_len)); intro _ _ _; (try k_sweep))
  k_with "call builtin:list.extend" => (k_here; (with_reducible show wpAny _ _ (call (Value.builtin _) [Value.ref _, Value.ref _]) _ _ _); k_dflt (refine' extend_led ?kzF ?kzN ?kzm ?kzb ?kzz ?kzy ?_; (case kzF => k_asm); (case kzN => k_asm); (case kzm => k_mem); (case kzb => k_mem); (case kzz => kso_len); (case kzy => kso_len)); intro _ _ _ _; (try k_sweep))
  k_with "call type:list" => (k_here; (with_reducible show wpAny _ _ (call (Value.type _) [Value.ref _]) _ _ _); k_dflt (refine' list_led ?kzF ?kzN ?kzm ?kzz ?_; (case kzF => k_asm); (case kzN => k_asm); (case kzm => k_mem); (case kzz => kso_len)); intro _ _ _ _ _ _; (try k_sweep))
  k_with "setItem ref int" => (k_here; (with_reducible show wpAny _ _ (setItem (Value.ref _) (Value.int _ _) (Value.int _ _)) _ _ _); k_dflt (refine' set_led ?kzF ?kzN ?kzm ?kzi ?kza ?kzb ?kzz ?_; (case kzF => k_asm); (case kzN => k_asm); (case kzm => k_mem); (case kzi => with_reducible assumption); (case kza => omega); (case kzb => omega); (case kzz => omega)); intro _ _ _ _; (try k_sweep))
  k_with "call builtin:sorted" => (k_here; (with_reducible show wpAny _ _ (call (Value.builtin _) [Value.ref _]) _ _ _); k_dflt (refine' sorted_two ?kzF ?kzN ?kzm ?_; (case kzF => k_asm); (case kzN => k_asm); (case kzm => k_mem)); intro _ _ _ _ _ _ _ _; (try k_sweep))
  k_with "k_mem" => first | with_reducible assumption | ktr_member | ((with_reducible refine' mem_setL_self ?kya); (case kya => k_mem)) | ((with_reducible refine' mem_setL_ne ?kya ?kyb); (case kyb => first | with_reducible assumption | exact Ne.symm (by with_reducible assumption) | omega); (case kya => k_mem)) | exact List.Mem.head _ | (refine' List.mem_cons_of_mem _ ?_; k_mem)
  k_with "newTuple" => (k_here; k_dflt (refine' newTuple_led ?kzF ?kzN ?_ ?kzz; (case kzF => k_asm); (case kzN => k_asm); (case kzz => first | decide | kso_len)); intro _ _ _ _ _; (try k_sweep))
  k_with "CompSrc" => refine Hold.out ?_
  k_with "CompSrcT" => refine Hold.out ?_
  k_with "Src3" => refine Hold.out ?_
  k_with "eval ListComp" => (k_here; (fail_if_success lct_look); k_dflt (refine ListComp_3 (F₀ := by k_asm) (by with_unfolding_all rfl) (by decide) (by rfl) (by decide) (by rfl) ?_))
  k_with "eval ListComp" => (k_here; lct_look; k_dflt (refine LCt.ListComp_T (F₀ := by k_asm) (by with_unfolding_all rfl) (by decide) (by rfl) (by decide) (by rfl) ?_))
  k_with "StrSrc" => refine Hold.out ?_
  k_with "ktr_rel" => first | with_reducible assumption | exact tupIn_s (by k_mem) | exact tupIn_si (by k_mem) | ((with_reducible refine DH.cons ?_); ktr_rel) | ((with_reducible refine DI.cons ?_); ktr_rel) | ((with_reducible refine TupIn.cons ?_); ktr_rel)
  k_with "call type:tuple" => (k_here; (with_reducible show wpAny _ _ (call (Value.type _) [Value.ref _]) _ _ _); k_dflt (first | (refine' tup_same ?kzN ?kzm ?_; (case kzN => k_asm); (case kzm => k_mem)) | (refine' tup_list ?kzF ?kzN ?kzm ?kzz ?_; (case kzF => k_asm); (case kzN => k_asm); (case kzm => k_mem); (case kzz => first | decide | kso_len); intro _ _ _ _ _; (try k_sweep))))
  k_with "binaryOp Add" => (k_here; (with_reducible show wpAny _ _ (binaryOp _ (Value.ref _) (Value.ref _)) _ _ _); k_dflt (first | (refine' tup_add0 ?kzF ?kzN ?kzm ?kzb ?kzv ?kzz ?_; (case kzF => k_asm); (case kzN => k_asm); (case kzm => k_mem); (case kzb => k_mem); (case kzv => simp); (case kzz => first | decide | kso_len)) | (refine' tup_add ?kzF ?kzN ?kzm ?kzb ?kzv ?kzy ?kzz ?kzx ?_; (case kzF => k_asm); (case kzN => k_asm); (case kzm => k_mem); (case kzb => k_mem); (case kzv => simp); (case kzy => simp); (case kzz => first | decide | kso_len); (case kzx => first | decide | kso_len); intro _ _ _ _ _; (try k_sweep))))
  k_with "subscriptTail" => (k_here; (with_reducible show wpAny _ _ (subscriptTail _ (Expr.Slice _ _ _ _) (Value.ref _) (Value.ref _)) _ _ _); k_dflt (refine' tup_slice1 ?kzF ?kzN ?kzm ?kzz ?_ ?kzs; (case kzs => with_unfolding_all rfl); (case kzF => k_asm); (case kzN => k_asm); (case kzm => k_mem); (case kzz => first | decide | kso_len)); intro _ _ _ _ _; (try k_sweep))
  k_with "compareOp In" => (k_here; (with_reducible show wpAny _ _ (compareOp CmpOp.In (Value.ref _) (Value.ref _)) _ _ _); k_dflt (refine' dh_in ?kzu ?kzN ?kzH ?kzT ?_; (case kzN => k_asm); (case kzH => ktr_rel); (case kzT => ktr_rel); (case kzu => ktr_units)); intro _; (try dsimp only))
  k_with "compareOp In" => (k_here; (with_reducible show wpAny _ _ (compareOp CmpOp.In (Value.ref _) (Value.ref _)) _ _ _); k_dflt (refine' dh_in_none ?kzu ?kzN ?kzH ?kzT ?kzK ?_; (case kzN => k_asm); (case kzH => ktr_rel); (case kzT => ktr_rel); (case kzK => with_reducible assumption); (case kzu => ktr_units)); intro _; (try dsimp only))
  k_with "setItem ref ref" => (k_here; k_dflt (refine' dh_set ?kzu ?kzF ?kzN ?kzH ?kzT ?kzz ?_; (case kzF => k_asm); (case kzN => k_asm); (case kzH => ktr_rel); (case kzT => ktr_rel); (case kzu => ktr_units); (case kzz => omega)); intro _ _ _ _ _ _; (try k_sweep))
  k_with "getMethod ref" => (k_here; (with_reducible show wpAny _ _ (getMethod (Value.ref _) (Str.ofString "setdefault") _) _ _ _); k_dflt (refine' dh_method PySem.F.slot_dict_setdefault PySem.F.type_dict_setdefault ?kzN ?kzH ?_; (case kzN => k_asm); (case kzH => ktr_rel)))
  k_with "getMethod ref" => (k_here; (with_reducible show wpAny _ _ (getMethod (Value.ref _) (Str.ofString "get") _) _ _ _); k_dflt (refine' dh_method PySem.F.slot_dict_get PySem.F.type_dict_get ?kzN ?kzH ?_; (case kzN => k_asm); (case kzH => ktr_rel)))
  k_with "getMethod ref" => (k_here; (with_reducible show wpAny _ _ (getMethod (Value.ref _) (Str.ofString "pop") _) _ _ _); k_dflt (refine' di_method PySem.F.slot_dict_pop PySem.F.type_dict_pop ?kzN ?kzH ?_; (case kzN => k_asm); (case kzH => ktr_rel)))
  k_with "k_mem" => first | with_reducible assumption | ktr_member | (refine' SetTo.it ?kys ?kya; (case kys => with_reducible assumption); (case kya => k_mem)) | (refine' SetTo.mem ?kys ?kya ?kyb; (case kys => with_reducible assumption); (case kyb => first | with_reducible assumption | exact Ne.symm (by with_reducible assumption) | (refine nen ?_; omega)); (case kya => k_mem)) | exact List.Mem.head _ | (refine' List.mem_cons_of_mem _ ?_; k_mem)
  k_with "ktr_rel" => (refine' TupIn.setTo ?kya ?kys ?kyb; (case kys => with_reducible assumption); (case kyb => first | with_reducible assumption | exact Ne.symm (by with_reducible assumption) | (refine nen ?_; omega)); (case kya => ktr_rel))
  k_with "call builtin:list.append" => (k_here; (with_reducible show wpAny _ _ (call (Value.builtin _) [Value.ref _, _]) _ _ _); k_dflt (refine' append_o ?kzF ?kzN ?kzm ?kzz ?_; (case kzF => k_asm); (case kzN => k_asm); (case kzm => k_mem); (case kzz => kso_len)); intro _ _ _ _ _; (try k_sweep))
  k_with "call builtin:list.extend" => (k_here; (with_reducible show wpAny _ _ (call (Value.builtin _) [Value.ref _, Value.ref _]) _ _ _); k_dflt (refine' extend_o ?kzF ?kzN ?kzm ?kzb ?kzz ?kzy ?_; (case kzF => k_asm); (case kzN => k_asm); (case kzm => k_mem); (case kzb => k_mem); (case kzz => kso_len); (case kzy => kso_len)); intro _ _ _ _ _ _; (try k_sweep))
  k_with "setItem ref int" => (k_here; (with_reducible show wpAny _ _ (setItem (Value.ref _) (Value.int _ _) (Value.int _ _)) _ _ _); k_dflt (refine' set_o ?kzF ?kzN ?kzm ?kzi ?kza ?kzb ?kzz ?_; (case kzF => k_asm); (case kzN => k_asm); (case kzm => k_mem); (case kzi => with_reducible assumption); (case kza => omega); (case kzb => omega); (case kzz => omega)); intro _ _ _ _ _ _; (try k_sweep))
  k_with "setItem ref ref" => (k_here; k_dflt (refine' dh_set_o ?kzu ?kzF ?kzN ?kzH ?kzT ?kzz ?_; (case kzF => k_asm); (case kzN => k_asm); (case kzH => ktr_rel); (case kzT => ktr_rel); (case kzu => ktr_units); (case kzz => omega)); intro _ _ _ _ _ _ _ _; (try k_sweep))
  k_with "subscriptTail" => (k_here; (with_reducible show wpAny _ _ (subscriptTail _ _ (Value.ref _) (Value.int 0 _)) _ _ _); k_dflt (refine' tup_item0 ?kzN ?kzm ?_ ?kzs; (case kzN => k_asm); (case kzm => k_mem); (case kzs => with_unfolding_all rfl)); k_whole)
  k_with "exec For" => (k_here; (rename Fr _ _ _ _ => lF'); k_dflt ((with_unfolding_all refine' For_invVF lF' ?kzk1 ?kzk2 ?_); (case kzk1 => exact rfl); (case kzk2 => exact rfl)); k_whole)
  k_with "pyIter ref" => ((with_reducible show wpAny _ _ (pyIter (Value.ref _)) (fun it s₂ => LoopAtV _ _ _ _ _ _ _ _ _ it s₂) _ _); refine Hold.out ?_)
  k_with "eval Name" => (k_here; name_kind "cell"; k_dflt (refine' ldCN ?kzN ?kzc ?kzm ?kzd ?_ ?kzk ?kzl ?kzb; (case kzk => rfl); (case kzl => rfl); (case kzb => decide); (case kzN => k_asm); (case kzc => exact rfl); (case kzm => k_mem); (case kzd => with_reducible assumption)); k_whole)
  k_with "ktr_rel" => (refine' DI.setTo ?kya ?kys ?kyb; (case kys => with_reducible assumption); (case kyb => first | with_reducible assumption | exact Ne.symm (by with_reducible assumption) | (refine nen ?_; omega)); (case kya => ktr_rel))
  k_with "subscriptTail" => (k_here; (with_reducible show wpAny _ _ (subscriptTail _ _ (Value.ref _) (Value.int _ _)) _ _ _); k_dflt (refine' di_item ?kzN ?kzH ?kzp ?_ ?kzs; (case kzN => k_asm); (case kzH => ktr_rel); (case kzp => with_reducible assumption); (case kzs => with_unfolding_all rfl)); intro _; (try dsimp only))
  k_with "call builtin:dict.pop" => (k_here; (with_reducible show wpAny _ _ (call (Value.builtin _) [Value.ref _, Value.int _ _]) _ _ _); k_dflt (refine' di_pop_o ?kzF ?kzN ?kzH ?kzz ?kzp ?_; (case kzF => k_asm); (case kzN => k_asm); (case kzH => ktr_rel); (case kzp => with_reducible assumption); (case kzz => omega)); intro _ _ _ _ _ _ _ _; (try k_sweep))
  k_with "binaryOp Add" => (k_here; (with_reducible show wpAny _ _ (binaryOp _ (Value.ref _) (Value.ref _)) _ _ _); k_dflt (refine' list_add ?kzF ?kzN ?kzm ?kzb ?kzy ?kzz ?_; (case kzF => k_asm); (case kzN => k_asm); (case kzm => k_mem); (case kzb => k_mem); (case kzy => kso_len); (case kzz => kso_len)); intro _ _ _ _ _; (try k_sweep))
  k_with "omega" => lia
  trivial
theorem settle_con {w : World} (hp b u : Addr) (kn : List (List Mix × Int)) (ab : Int → Option (List Int)) (NN EE : Nat) (footh : List Addr) :
    Con w 338 [.ref hp] 10 100 (fun news => HAt w hp b u kn ab [] NN EE footh news) (fun news news' r => r = .none ∧ news' = news) := by
  intro mean mg mb dp un gd env outer A₀ base h₀ L m news s Q E B F X N T hf hk hd hu U hret
  have U' := U
  obtain ⟨dh, le, lf, dk, da, lw, kk, n1, n2, n3, n4, ve, vf, vw, kxs, fa, I⟩ := U'
  have m1 := I.inst
  have m2 := I.dict
  have m5 := I.waiting
  have hwl := I.wints.length
  have hw0 : vw = [] := List.eq_nil_of_length_eq_zero hwl
  subst hw0
  refine wpAny_call ?_
  ((refine' code_def (binds := ([("self", .ref hp)])) ?k1 ?k2 ?k3 ?k4 ?k5 ?kA ?kF ?kK ?k6 ?k7 ?k8 ?k9 ?kB ?_ ?c2 ?c3 ?c4 ?c5; (case kA => exact rfl); (case kF => assumption); (case kK => assumption); (case k1 => k_asm); (case k2 => k_asm); (case k3 => k_asm); (case k4 => k_asm); (case k5 => k_asm); (case k6 => k_is); (case k7 => k_is); (case k8 => first | omega | ktr_room | (dsimp only; omega)); (case k9 => exact BindsTo.of_eq rfl); (case c5 => decide); (case kB => exact locs rfl); (case c2 => exact rfl); (case c3 => exact rfl); (case c4 => exact rfl); k_whole; intro g' L' h' FG' F' N' B' X' T'; (try dsimp only); (try k_lift B'); (try k_fold)))
  walk1
  walk1
  refine While_inv (n₀ := 0) (fun n m₁ l => l = news ∧ m₁ = fm [("self", .ref hp)]) F' N' ⟨rfl, by rfl⟩ ?_
  rintro n m₁ l h₁ tk₁ F₁ N₁ ⟨rfl, rfl⟩
  k_steps
  exact hret _ _ _ _ (by assumption) (by assumption) ⟨rfl, rfl⟩
end
section
example : True := by
  w_top off
  k_with_none
  k_with "ktr_room" => ((try simp only [depth_under_make, depth_under_kw, depth_in1, depth_deeper, depth_caller]); (try dsimp only); first | exact room_up2 (by with_reducible assumption) rfl | exact room_up (by with_reducible assumption) rfl | exact room_0 (by with_reducible assumption) rfl | omega)
  k_with "ktr_units" => ((try simp only [units_in1, units_deeper, Around.mark_units, units_caller, units_under_make]); (try dsimp only); first | exact room_up2 (by with_reducible assumption) rfl | exact room_up (by with_reducible assumption) rfl | exact room_0 (by with_reducible assumption) rfl | omega)
  k_with "tb_start" => ((case kB => k_asm); (case kF => k_asm); (case kX => k_asm); (case kN => k_asm); (case kT => k_asm); (case kA => exact rfl); (case kH => exact rfl); (case kf => exact rfl); (case kk => exact rfl); (case kd => ktr_room); (case ku => ktr_units))
  k_with "call ref" => (k_here; (with_reducible show wpAny _ _ (call (Value.ref 97) _) _ _ _); k_dflt (refine' con_use (find_con _ _ _ _ _ _ _ _ ?kzFO) ?kB ?kF ?kX ?kN ?kT ?kA ?kH ?kf ?kk ?kd ?ku ?hp ?_; (case kzFO => assumption); (case hp => exact ⟨by assumption, by first | assumption | omega, by first | assumption | omega⟩); tb_start);  intro _ _ _ _ _ _ hp'; obtain ⟨e', _, e2'⟩ := hp'; subst e'; subst e2'; (try dsimp only))
  k_with "subscriptTail" => (k_here; (with_reducible show wpAny _ _ (subscriptTail _ _ (Value.ref _) (Value.int _ _)) _ _ _); k_dflt (refine' item_ref ?kzN ?kzm ?kzh0 ?kzhk ?kzhh ?_ ?kzhs; (case kzN => k_asm); (case kzhk => assumption); (case kzm => k_mem); (case kzh0 => omega); (case kzhh => omega); (case kzhs => with_unfolding_all rfl); k_whole))
  k_with "newList" => (k_here; k_dflt (refine' newList_led ?kzF ?kzN ?_ ?kzz; (case kzF => k_asm); (case kzN => k_asm); (case kzz => first | decide | kso_len)); intro _ _ _ _ _; (try k_sweep))
  k_with "call builtin:sorted" => (k_here; (with_reducible show wpAny _ _ (call (Value.builtin _) [Value.ref _]) _ _ _); k_dflt (with_unfolding_all refine' kso_sorted ?kzk1 ?kzk2 (is_listN ?kzk2 ?kzk3) ?kzk4 ?kzk5 ?_; (case kzk1 => k_asm); (case kzk2 => k_asm); (case kzk3 => k_mem); (case kzk4 => l_ints); (case kzk5 => omega); k_whole); intro _ _ _ _ _ _ _ _ _ _ _ _ _; (try k_sweep))
  k_with "kso_len" => first | omega | (simp only [List.length_append, List.length_map, List.length_cons, List.length_nil, List.length_set]; omega)
  k_with "call builtin:len" => (k_here; (with_reducible show wpAny _ _ (call (Value.builtin "len") [Value.ref _]) _ _ _); k_dflt (refine' len_led ?kzN ?kzm ?kzk ?kzz ?_; (case kzN => k_asm); (case kzm => k_mem); (case kzk => first | exact IntsAre.length (by with_reducible assumption) | exact List.length_map _ | ((try simp only [List.length_append, List.length_map, List.length_cons, List.length_nil, List.length_set]); exact rfl)); (case kzz => kso_len)); intro _ _)
  k_with "call builtin:list.append" => (k_here; (with_reducible show wpAny _ _ (call (Value.builtin _) [Value.ref _, _]) _ _ _); k_dflt (refine' append_led ?kzF ?kzN ?kzm ?kzz ?_; (case kzF => k_asm); (case kzN => k_asm); (case kzm => k_mem); (case kzz => kso_len)); intro _ _ _; (try k_sweep))
  k_with "call builtin:list.extend" => (k_here; (with_reducible show wpAny _ _ (call (Value.builtin _) [Value.ref _, Value.ref _]) _ _ _); k_dflt (refine' extend_led ?kzF ?kzN ?kzm ?kzb ?kzz ?kzy ?_; (case kzF => k_asm); (case kzN => k_asm); (case kzm => k_mem); (case kzb => k_mem); (case kzz => kso_len); (case kzy => kso_len)); intro _ _ _ _; (try k_sweep))
  k_with "call type:list" => (k_here; (with_reducible show wpAny _ _ (call (Value.type _) [Value.ref _]) _ _ _); k_dflt (refine' list_led ?kzF ?kzN ?kzm ?kzz ?_; (case kzF => k_asm); (case kzN => k_asm); (case kzm => k_mem); (case kzz => kso_len)); intro _ _ _ _ _ _; (try k_sweep))
  k_with "setItem ref int" => (k_here; (with_reducible show wpAny _ _ (setItem (Value.ref _) (Value.int _ _) (Value.int _ _)) _ _ _); k_dflt (refine' set_led ?kzF ?kzN ?kzm ?kzi ?kza ?kzb ?kzz ?_; (case kzF => k_asm); (case kzN => k_asm); (case kzm => k_mem); (case kzi => with_reducible assumption); (case kza => omega); (case kzb => omega); (case kzz => omega)); intro _ _ _ _; (try k_sweep))
  k_with "call builtin:sorted" => (k_here; (with_reducible show wpAny _ _ (call (Value.builtin _) [Value.ref _]) _ _ _); k_dflt (refine' sorted_two ?kzF ?kzN ?kzm ?_; (case kzF => k_asm); (case kzN => k_asm); (case kzm => k_mem)); intro _ _ _ _ _ _ _ _; (try k_sweep))
  k_with "k_mem" => first | with_reducible assumption | ktr_member | ((with_reducible refine' mem_setL_self ?kya); (case kya => k_mem)) | ((with_reducible refine' mem_setL_ne ?kya ?kyb); (case kyb => first | with_reducible assumption | exact Ne.symm (by with_reducible assumption) | omega); (case kya => k_mem)) | exact List.Mem.head _ | (refine' List.mem_cons_of_mem _ ?_; k_mem)
  k_with "newTuple" => (k_here; k_dflt (refine' newTuple_led ?kzF ?kzN ?_ ?kzz; (case kzF => k_asm); (case kzN => k_asm); (case kzz => first | decide | kso_len)); intro _ _ _ _ _; (try k_sweep))
  k_with "CompSrc" => refine Hold.out ?_
  k_with "CompSrcT" => refine Hold.out ?_
  k_with "Src3" => refine Hold.out ?_
  k_with "eval ListComp" => (k_here; (fail_if_success lct_look); k_dflt (refine ListComp_3 (F₀ := by k_asm) (by with_unfolding_all rfl) (by decide) (by rfl) (by decide) (by rfl) ?_))
  k_with "eval ListComp" => (k_here; lct_look; k_dflt (refine LCt.ListComp_T (F₀ := by k_asm) (by with_unfolding_all rfl) (by decide) (by rfl) (by decide) (by rfl) ?_))
  k_with "StrSrc" => refine Hold.out ?_
  k_with "ktr_rel" => first | with_reducible assumption | exact tupIn_s (by k_mem) | exact tupIn_si (by k_mem) | ((with_reducible refine DH.cons ?_); ktr_rel) | ((with_reducible refine DI.cons ?_); ktr_rel) | ((with_reducible refine TupIn.cons ?_); ktr_rel)
  k_with "call type:tuple" => (k_here; (with_reducible show wpAny _ _ (call (Value.type _) [Value.ref _]) _ _ _); k_dflt (first | (refine' tup_same ?kzN ?kzm ?_; (case kzN => k_asm); (case kzm => k_mem)) | (refine' tup_list ?kzF ?kzN ?kzm ?kzz ?_; (case kzF => k_asm); (case kzN => k_asm); (case kzm => k_mem); (case kzz => first | decide | kso_len); intro _ _ _ _ _; (try k_sweep))))
  k_with "binaryOp Add" => (k_here; (with_reducible show wpAny _ _ (binaryOp _ (Value.ref _) (Value.ref _)) _ _ _); k_dflt (first | (refine' tup_add0 ?kzF ?kzN ?kzm ?kzb ?kzv ?kzz ?_; (case kzF => k_asm); (case kzN => k_asm); (case kzm => k_mem); (case kzb => k_mem); (case kzv => simp); (case kzz => first | decide | kso_len)) | (refine' tup_add ?kzF ?kzN ?kzm ?kzb ?kzv ?kzy ?kzz ?kzx ?_; (case kzF => k_asm); (case kzN => k_asm); (case kzm => k_mem); (case kzb => k_mem); (case kzv => simp); (case kzy => simp); (case kzz => first | decide | kso_len); (case kzx => first | decide | kso_len); intro _ _ _ _ _; (try k_sweep))))
  k_with "subscriptTail" => (k_here; (with_reducible show wpAny _ _ (subscriptTail _ (Expr.Slice _ _ _ _) (Value.ref _) (Value.ref _)) _ _ _); k_dflt (refine' tup_slice1 ?kzF ?kzN ?kzm ?kzz ?_ ?kzs; (case kzs => with_unfolding_all rfl); (case kzF => k_asm); (case kzN => k_asm); (case kzm => k_mem); (case kzz => first | decide | kso_len)); intro _ _ _ _ _; (try k_sweep))
  k_with "compareOp In" => (k_here; (with_reducible show wpAny _ _ (compareOp CmpOp.In (Value.ref _) (Value.ref _)) _ _ _); k_dflt (refine' dh_in ?kzu ?kzN ?kzH ?kzT ?_; (case kzN => k_asm); (case kzH => ktr_rel); (case kzT => ktr_rel); (case kzu => ktr_units)); intro _; (try dsimp only))
  k_with "compareOp In" => (k_here; (with_reducible show wpAny _ _ (compareOp CmpOp.In (Value.ref _) (Value.ref _)) _ _ _); k_dflt (refine' dh_in_none ?kzu ?kzN ?kzH ?kzT ?kzK ?_; (case kzN => k_asm); (case kzH => ktr_rel); (case kzT => ktr_rel); (case kzK => with_reducible assumption); (case kzu => ktr_units)); intro _; (try dsimp only))
  k_with "setItem ref ref" => (k_here; k_dflt (refine' dh_set ?kzu ?kzF ?kzN ?kzH ?kzT ?kzz ?_; (case kzF => k_asm); (case kzN => k_asm); (case kzH => ktr_rel); (case kzT => ktr_rel); (case kzu => ktr_units); (case kzz => omega)); intro _ _ _ _ _ _; (try k_sweep))
  k_with "getMethod ref" => (k_here; (with_reducible show wpAny _ _ (getMethod (Value.ref _) (Str.ofString "setdefault") _) _ _ _); k_dflt (refine' dh_method PySem.F.slot_dict_setdefault PySem.F.type_dict_setdefault ?kzN ?kzH ?_; (case kzN => k_asm); (case kzH => ktr_rel)))
  k_with "getMethod ref" => (k_here; (with_reducible show wpAny _ _ (getMethod (Value.ref _) (Str.ofString "get") _) _ _ _); k_dflt (refine' dh_method PySem.F.slot_dict_get PySem.F.type_dict_get ?kzN ?kzH ?_; (case kzN => k_asm); (case kzH => ktr_rel)))
  k_with "getMethod ref" => (k_here; (with_reducible show wpAny _ _ (getMethod (Value.ref _) (Str.ofString "pop") _) _ _ _); k_dflt (refine' di_method PySem.F.slot_dict_pop PySem.F.type_dict_pop ?kzN ?kzH ?_; (case kzN => k_asm); (case kzH => ktr_rel)))
  k_with "k_mem" => first | with_reducible assumption | ktr_member | (refine' SetTo.it ?kys ?kya; (case kys => with_reducible assumption); (case kya => k_mem)) | (refine' SetTo.mem ?kys ?kya ?kyb; (case kys => with_reducible assumption); (case kyb => first | with_reducible assumption | exact Ne.symm (by with_reducible assumption) | (refine nen ?_; omega)); (case kya => k_mem)) | exact List.Mem.head _ | (refine' List.mem_cons_of_mem _ ?_; k_mem)
  k_with "ktr_rel" => (refine' TupIn.setTo ?kya ?kys ?kyb; (case kys => with_reducible assumption); (case kyb => first | with_reducible assumption | exact Ne.symm (by with_reducible assumption) | (refine nen ?_; omega)); (case kya => ktr_rel))
  k_with "call builtin:list.append" => (k_here; (with_reducible show wpAny _ _ (call (Value.builtin _) [Value.ref _, _]) _ _ _); k_dflt (refine' append_o ?kzF ?kzN ?kzm ?kzz ?_; (case kzF => k_asm); (case kzN => k_asm); (case kzm => k_mem); (case kzz => kso_len)); intro _ _ _ _ _; (try k_sweep))
  k_with "call builtin:list.extend" => (k_here; (with_reducible show wpAny _ _ (call (Value.builtin _) [Value.ref _, Value.ref _]) _ _ _); k_dflt (refine' extend_o ?kzF ?kzN ?kzm ?kzb ?kzz ?kzy ?_; (case kzF => k_asm); (case kzN => k_asm); (case kzm => k_mem); (case kzb => k_mem); (case kzz => kso_len); (case kzy => kso_len)); intro _ _ _ _ _ _; (try k_sweep))
  k_with "setItem ref int" => (k_here; (with_reducible show wpAny _ _ (setItem (Value.ref _) (Value.int _ _) (Value.int _ _)) _ _ _); k_dflt (refine' set_o ?kzF ?kzN ?kzm ?kzi ?kza ?kzb ?kzz ?_; (case kzF => k_asm); (case kzN => k_asm); (case kzm => k_mem); (case kzi => with_reducible assumption); (case kza => omega); (case kzb => omega); (case kzz => omega)); intro _ _ _ _ _ _; (try k_sweep))
  k_with "setItem ref ref" => (k_here; k_dflt (refine' dh_set_o ?kzu ?kzF ?kzN ?kzH ?kzT ?kzz ?_; (case kzF => k_asm); (case kzN => k_asm); (case kzH => ktr_rel); (case kzT => ktr_rel); (case kzu => ktr_units); (case kzz => omega)); intro _ _ _ _ _ _ _ _; (try k_sweep))
  k_with "subscriptTail" => (k_here; (with_reducible show wpAny _ _ (subscriptTail _ _ (Value.ref _) (Value.int 0 _)) _ _ _); k_dflt (refine' tup_item0 ?kzN ?kzm ?_ ?kzs; (case kzN => k_asm); (case kzm => k_mem); (case kzs => with_unfolding_all rfl)); k_whole)
  k_with "exec For" => (k_here; (rename Fr _ _ _ _ => lF'); k_dflt ((with_unfolding_all refine' For_invVF lF' ?kzk1 ?kzk2 ?_); (case kzk1 => exact rfl); (case kzk2 => exact rfl)); k_whole)
  k_with "pyIter ref" => ((with_reducible show wpAny _ _ (pyIter (Value.ref _)) (fun it s₂ => LoopAtV _ _ _ _ _ _ _ _ _ it s₂) _ _); refine Hold.out ?_)
  k_with "eval Name" => (k_here; name_kind "cell"; k_dflt (refine' ldCN ?kzN ?kzc ?kzm ?kzd ?_ ?kzk ?kzl ?kzb; (case kzk => rfl); (case kzl => rfl); (case kzb => decide); (case kzN => k_asm); (case kzc => exact rfl); (case kzm => k_mem); (case kzd => with_reducible assumption)); k_whole)
  k_with "ktr_rel" => (refine' DI.setTo ?kya ?kys ?kyb; (case kys => with_reducible assumption); (case kyb => first | with_reducible assumption | exact Ne.symm (by with_reducible assumption) | (refine nen ?_; omega)); (case kya => ktr_rel))
  k_with "subscriptTail" => (k_here; (with_reducible show wpAny _ _ (subscriptTail _ _ (Value.ref _) (Value.int _ _)) _ _ _); k_dflt (refine' di_item ?kzN ?kzH ?kzp ?_ ?kzs; (case kzN => k_asm); (case kzH => ktr_rel); (case kzp => with_reducible assumption); (case kzs => with_unfolding_all rfl)); intro _; (try dsimp only))
  k_with "call builtin:dict.pop" => (k_here; (with_reducible show wpAny _ _ (call (Value.builtin _) [Value.ref _, Value.int _ _]) _ _ _); k_dflt (refine' di_pop_o ?kzF ?kzN ?kzH ?kzz ?kzp ?_; (case kzF => k_asm); (case kzN => k_asm); (case kzH => ktr_rel); (case kzp => with_reducible assumption); (case kzz => omega)); intro _ _ _ _ _ _ _ _; (try k_sweep))
  k_with "binaryOp Add" => (k_here; (with_reducible show wpAny _ _ (binaryOp _ (Value.ref _) (Value.ref _)) _ _ _); k_dflt (refine' list_add ?kzF ?kzN ?kzm ?kzb ?kzy ?kzz ?_; (case kzF => k_asm); (case kzN => k_asm); (case kzm => k_mem); (case kzb => k_mem); (case kzy => kso_len); (case kzz => kso_len)); intro _ _ _ _ _; (try k_sweep))
  k_with "call type:set" => (k_here; (with_reducible show wpAny _ _ (call (Value.type _) [Value.ref _]) _ _ _); k_dflt (refine' set_led_new ?kzF ?kzN ?kzhh ?kzm ?kzi ?kzz ?_; (case kzF => k_asm); (case kzN => k_asm); (case kzhh => exact rfl); (case kzm => k_mem); (case kzi => first | l_ints | exact IntsAre.nil | with_reducible assumption); (case kzz => first | decide | kso_len)); intro _ _ _ _ _ _ _ _ _ _ _; (try k_sweep))
  k_with "call builtin:sorted" => (k_here; (with_reducible show wpAny _ _ (call (Value.builtin _) [Value.ref _]) _ _ _); k_dflt (refine' sorted_set_led ?kzF ?kzN ?kzhh ?kzm ?kzS ?kzz ?_; (case kzF => k_asm); (case kzN => k_asm); (case kzhh => exact rfl); (case kzS => with_reducible assumption); (case kzm => k_mem); (case kzz => first | kso_len | ((simp only [List.length_nil] at *); omega))); intro _ _ _ _ _ _ _ _ _ _ _ _; (try k_sweep))
  k_with "call ref" => (k_here; (with_reducible show wpAny _ _ (call (Value.ref 90) _) _ _ _); k_dflt (refine' con_use (usize_con _ _ _ _ _) ?kB ?kF ?kX ?kN ?kT ?kA ?kH ?kf ?kk ?kd ?ku ?hp ?_; tb_start; (case hp => ktr_rel));  intro _ _ _ _ _ _ hp'; obtain ⟨e', _, e2'⟩ := hp'; replace e' := e'.symm; subst e'; subst e2'; (try dsimp only))
  k_with "call ref" => (k_here; (with_reducible show wpAny _ _ (call (Value.ref 83) _) _ _ _); refine Hold.out ?_)
  k_with "call ref" => (k_here; (with_reducible show wpAny _ _ (call (Value.ref 303) _) _ _ _); refine Hold.out ?_)
  k_with "setItem ref int" => ((with_reducible show wpAny _ _ (setItem (Value.ref _) (Value.int _ _) (Value.ref _)) _ _ _); refine Hold.out ?_)
  k_with "ktr_rel" => first | with_reducible assumption | ((with_reducible refine BAt.cons ?_); ktr_rel) | ((with_reducible refine HAt.cons ?_); ktr_rel) | ((with_reducible refine UAt.cons ?_); ktr_rel)
  k_with "call ref" => (k_here; (with_reducible show wpAny _ _ (call (Value.ref 180) _) _ _ _); refine Hold.out ?_)
  k_with "omega" => lia
  trivial
theorem add_con {w : World} (hp b u : Addr) (nks : List (List Mix)) (kn : List (List Mix × Int)) (ab : Int → Option (List Int)) (wt : List Int) (NN EE : Nat) (ns ls : List Int) (cs : List (List Int)) (ms : List (Int × Int)) (fh fb fu : List Addr) (FO : Forest (ns ++ [(ns.length : Int)]) ls)
    (kt : Addr) (x : Str) (tx : Tok) (nt : Nat) (O : OkOp x) (hnew : [Sum.inl x] ∉ nks) (hl : nks.length = ns.length) (hz : ns.length < 50) (hnk : ∀ p ∈ kn, p.1 ≠ [.inl x]) (hkz : kn.length < 900) (hNN : NN < 900) (hab : ab ns.length = none) :
    Con w 291 [.ref hp, .str x tx, .ref kt] 150 1500 (fun news => Trio w hp b u nks kn ab wt NN EE ns cs ms fh fb fu news ∧ (kt, tupOf #[] nt) ∈ news ∧ kt ∉ fh ∧ kt ∉ fb ∧ kt ∉ fu)
      (fun news news' r => ∃ t fh' fb' fu', r = .int ns.length t ∧ Trio w hp b u (nks ++ [[.inl x]]) (kn ++ [([.inl x], (ns.length : Int))]) (fun j => if j = (ns.length : Int) then some [] else ab j) wt (NN + 1) EE (ns ++ [(ns.length : Int)]) (cs ++ [[(ns.length : Int)]]) ms fh' fb' fu' news' ∧ Step3 fh fb fu fh' fb' fu' news news') := by
  rintro mean mg mb dp un gd env outer A₀ base h₀ L m news s Q E B F X N T hf hk hd hu ⟨TR, mkt, nk1, nk2, nk3⟩ hret
  have U := TR.h
  have U' := U
  obtain ⟨dh, le, lf, dk, da, lw, kk, n1, n2, n3, n4, ve, vf, vw, kxs, fa, I⟩ := U'
  have m1 := I.inst
  have m2 := I.dict
  obtain ⟨db, bk1, bk2, bk3, bk4, bk5, bk6, mb1, mb2, fb1, fb2⟩ := TR.b.inst
  obtain ⟨f1, f2, f3, f4, f5, f6, f7, f8, f9⟩ := I.feet
  have hnone := I.none hab
  have hsm := I.small
  have hnod := I.nod
  simp only [List.nodup_cons, List.mem_cons, List.not_mem_nil, or_false, not_or] at hnod
  obtain ⟨⟨z1, z2, z3, z4, z5, z6⟩, ⟨z7, z8, z9, z10, z11⟩, ⟨z12, z13, z14, z15⟩, ⟨z16, z17, z18⟩, ⟨z19, z20⟩, z21, _⟩ := hnod
  refine wpAny_call ?_
  ((refine' code_defC (binds := ([("self", .ref hp), ("op", .str x tx), ("numbers", .ref kt)])) ?k1 ?k2 ?k3 ?k4 ?k5 ?kA ?kF ?kK ?k6 ?k7 ?k8 ?k9 ?kB ?kD ?_ ?c2 ?c3 ?c4; (case kA => exact rfl); (case kF => assumption); (case kK => assumption); (case k1 => k_asm); (case k2 => k_asm); (case k3 => k_asm); (case k4 => k_asm); (case k5 => k_asm); (case k6 => k_is); (case k7 => k_is); (case k8 => first | omega | ktr_room | (dsimp only; omega)); (case k9 => exact BindsTo.of_eq rfl); (case kB => exact rfl); (case kD => decide +kernel); (case c2 => exact rfl); (case c3 => exact rfl); (case c4 => exact rfl); k_whole; intro g' L' h' tk' cells' FG' F' N' Y' B' X' T' l1; k_cells Y'; (try simp only [List.cons_append, List.nil_append] at N'); (try dsimp only); (try k_fold)))
  rename_i oc d1'
  have nc : ∀ {a : Addr}, (∃ o, (a, o) ∈ news) → L' + 1 ≠ a := fun {a} h e => by
    obtain ⟨o, ho⟩ := h
    have := ltn (l1 _ ho)
    subst e
    exact Nat.not_succ_lt_self this
  k_steps
  refine Hold.done ?_
  refine' con_use (take_con b nks fb kt x tx nt O hnew (by omega)) ?kB ?kF ?kX ?kN ?kT ?kA ?kH ?kf ?kk ?kd ?ku ?hp ?_
  tb_start
  case hp => exact ⟨TR.b.cons, .tail _ mkt⟩
  rintro r1 h1 tk1 la1 F1 N1 ⟨t1, fb', rfl, B1, kp1, gr1, in1⟩
  rw [show ((nks.length : Nat) : Int) = (ns.length : Nat) by rw [hl]]
  have I1 := I.move (l' := la1) fun p hp hf => kp1 p (.tail _ hp) (TR.hb _ hf)
  have U1 := TR.u.move (l' := la1) fun p hp hf => kp1 p (.tail _ hp) (TR.bu.symm _ hf)
  have c1 : (L' + 1, oc) ∈ la1 := kp1 _ (.head _) fun h => nc (TR.b.footin _ h) rfl
  have k1 : (kt, tupOf #[] nt) ∈ la1 := kp1 _ (.tail _ mkt) nk2
  have hb1 : Disj fh fb' := TR.hb.grow gr1 fun a h => by obtain ⟨o, ho⟩ := I.footin a h; exact ⟨o, .tail _ ho⟩
  have bu1 : Disj fb' fu := (TR.bu.symm.grow gr1 fun a h => by obtain ⟨o, ho⟩ := TR.u.foot_in a h; exact ⟨o, .tail _ ho⟩).symm
  have q11 := I1.inst
  have q12 := I1.dict
  obtain ⟨du, uk1, uk2, uk3, uk4, uk5, uk6, uk7, mu1, mu2, fu1, fu2⟩ := U1.inst
  k_steps
  refine Hold.done ?_
  refine' con_use (make_con u ns cs ms fu hz) ?kB ?kF ?kX ?kN ?kT ?kA ?kH ?kf ?kk ?kd ?ku ?hp ?_
  tb_start
  case hp => exact U1
  rintro r2 h2 tk2 la2 F2 N2 ⟨t2, fu', rfl, U2, kp2, gr2, in2⟩
  have hu1 : Disj fh fu' := TR.hu.grow gr2 I1.footin
  have bu2 : Disj fb' fu' := bu1.grow gr2 B1.footin
  have I2 := I1.move (l' := la2) fun p hp hf => kp2 p hp (TR.hu _ hf)
  have B2 := B1.move (l' := la2) fun p hp hf => kp2 p hp (bu1 _ hf)
  have c2 : (L' + 1, oc) ∈ la2 := kp2 _ c1 fun h => nc (TR.u.foot_in _ h) rfl
  have k2 : (kt, tupOf #[] nt) ∈ la2 := kp2 _ k1 nk3
  have q21 := I2.inst
  have q22 := I2.dict
  k_steps
  refine Hold.done ?_
  rename ∀ p ∈ la2, _ < _ => lD
  rename_i D hD' _ _
  refine di_set_o (n' := NN + 1) (by k_asm) (by k_asm) (DI.cons I2.above) (by omega) (.inl ⟨hnone, rfl⟩) ?_
  intro h3 tk3 o3 la3 F3 N3 S3 H3
  have hDf : D ∉ fh := fun h => by
    obtain ⟨o, ho⟩ := I2.footin _ h
    exact absurd (lD _ ho) (Nat.lt_irrefl _)
  have I3 := (I2.cons (l' := news)).put (us := []) S3 (.head _) hDf .nil (by show 0 < 60; omega) (by omega) H3
  have fda : ∀ {a : Addr}, a ∈ fb' ∨ a ∈ fu' → a ≠ da := fun {a} h e => by
    rcases h with h | h
    · exact hb1 da f6 (e ▸ h)
    · exact hu1 da f6 (e ▸ h)
  have kp3 : ∀ p ∈ la2, p.1 ≠ da → p ∈ la3 := fun p hp e => S3.keep p (.tail _ hp) e
  have B3 := B2.move (l' := la3) fun p hp hf => kp3 p hp (fda (.inl hf))
  have U3 := U2.move (l' := la3) fun p hp hf => kp3 p hp (fda (.inr hf))
  have c3 : (L' + 1, oc) ∈ la3 := kp3 _ c2 (nc (I.footin _ f6))
  have k3 : (kt, tupOf #[] nt) ∈ la3 := kp3 _ k2 fun e => nk1 (by rw [show kt = da from e]; exact f6)
  have hb3 : Disj (fh ++ [D]) fb' := fun a ha h => by
    rcases List.mem_append.mp ha with ha | ha
    · exact hb1 a ha h
    · obtain ⟨o, ho⟩ := B2.footin _ h
      rw [List.mem_singleton.mp ha] at ho
      exact absurd (lD _ ho) (Nat.lt_irrefl _)
  have hu3 : Disj (fh ++ [D]) fu' := fun a ha h => by
    rcases List.mem_append.mp ha with ha | ha
    · exact hu1 a ha h
    · obtain ⟨o, ho⟩ := U2.foot_in _ h
      rw [List.mem_singleton.mp ha] at ho
      exact absurd (lD _ ho) (Nat.lt_irrefl _)
  have q31 := I3.inst
  have q32 := I3.dict
  k_steps
  refine Hold.done (comp_tup0 rfl (by k_asm) (by k_asm) (by k_mem) ?_)
  intro D4 h4 tk4 F4 N4 l4
  k_steps
  rename List.Perm _ _ => pm
  rename ∀ j, j ∈ _ ↔ j ∈ ([] : List Int) => e9
  rw [nil_of_iff e9] at pm
  rename IntsAre _ _ => ia
  rw [pm.eq_nil] at ia
  cases ia
  refine Hold.done (for_list0 rfl (by k_asm) (by k_asm) (by k_mem) ?_)
  intro h4b tk4b F4b N4b
  have A3 : HAt w hp b u kn (fun j => if j = (ns.length : Int) then some [] else ab j) wt (NN + 1) EE (fh ++ [D]) la3 := ⟨_, _, _, _, _, _, _, _, _, _, _, _, _, _, _, _, I3⟩
  k_steps
  refine Hold.done ?_
  refine' con_use (look_con hp b u (nks ++ [[.inl x]]) fb' kn (fun j => if j = (ns.length : Int) then some [] else ab j) wt (NN + 1) EE (fh ++ [D]) (ns ++ [(ns.length : Int)]) ls (cs ++ [[(ns.length : Int)]]) ms fu' FO ns.length _ x (by simp [← hl]) hnk hkz hu3) ?kB ?kF ?kX ?kN ?kT ?kA ?kH ?kf ?kk ?kd ?ku ?hp ?_
  tb_start
  case hp => exact ⟨A3.cons.cons.cons, B3.cons.cons.cons, U3.cons.cons.cons, by omega, by rw [List.length_append, List.length_singleton]; omega⟩
  rintro r5 h5 tk5 la5 F5 N5 ⟨rfl, fh5, A5, kp5, gr5, in5⟩
  have c5 : (L' + 1, oc) ∈ la5 := kp5 _ (.tail _ (.tail _ (.tail _ c3))) fun h => by
    rcases List.mem_append.mp h with h | h
    · exact nc (I.footin _ h) rfl
    · exact absurd (lD _ c2) (by rw [List.mem_singleton.mp h]; exact Nat.lt_irrefl _)
  k_steps
  have k35 : ∀ p ∈ la3, p.1 ∉ fh ++ [D] → p ∈ la5 := fun p hp hn => kp5 p (.tail _ (.tail _ (.tail _ hp))) hn
  have adr1 : ∀ p ∈ news, ∃ o, (p.1, o) ∈ la1 := fun p hp => by
    by_cases e2 : p.1 ∈ fb
    · exact B1.footin _ (in1 _ e2)
    exact ⟨p.2, kp1 p (.tail _ hp) e2⟩
  have adr2 : ∀ p ∈ news, ∃ o, (p.1, o) ∈ la2 := fun p hp => by
    obtain ⟨o, ho⟩ := adr1 p hp
    by_cases e2 : p.1 ∈ fu
    · exact U2.foot_in _ (in2 _ e2)
    exact ⟨o, kp2 _ ho e2⟩
  have adr3 : ∀ p ∈ news, ∃ o, (p.1, o) ∈ la3 := fun p hp => by
    obtain ⟨o, ho⟩ := adr2 p hp
    by_cases e2 : p.1 = da
    · rw [e2]; exact I3.footin _ (List.mem_append_left _ f6)
    exact ⟨o, kp3 _ ho e2⟩
  refine hret _ _ _ _ (by assumption) (by assumption) ⟨_, fh5, fb', fu', rfl, ⟨A5, B3.move fun p hp hf => k35 p hp fun h => hb3 _ h hf, U3.move fun p hp hf => k35 p hp fun h => hu3 _ h hf, (hb3.symm.grow gr5 fun a h => ?_).symm, (hu3.symm.grow gr5 fun a h => ?_).symm, bu2⟩, ⟨?_, ?_, ?_, ?_, fun a h => in5 _ (List.mem_append_left _ h), in1, in2⟩⟩
  · obtain ⟨o, ho⟩ := B3.footin a h
    exact ⟨o, .tail _ (.tail _ (.tail _ ho))⟩
  · obtain ⟨o, ho⟩ := U3.foot_in a h
    exact ⟨o, .tail _ (.tail _ (.tail _ ho))⟩
  · intro p hp e1 e2 e3
    have y1 := kp1 p (.tail _ hp) e2
    have y2 := kp2 p y1 e3
    refine k35 p (kp3 p y2 fun e => e1 (e ▸ f6)) fun h => ?_
    rcases List.mem_append.mp h with h | h
    · exact e1 h
    · exact absurd (lD _ y2) (by rw [List.mem_singleton.mp h]; exact Nat.lt_irrefl _)
  · intro a h
    rcases gr5 a h with h | h
    · rcases List.mem_append.mp h with h | h
      · exact .inl h
      · refine .inr fun p hp e => ?_
        obtain ⟨o, ho⟩ := adr2 p hp
        rw [e, List.mem_singleton.mp h] at ho
        exact absurd (lD _ ho) (Nat.lt_irrefl _)
    · refine .inr fun p hp e => ?_
      obtain ⟨o, ho⟩ := adr3 p hp
      exact h _ (.tail _ (.tail _ (.tail _ ho))) e
  · intro a h
    rcases gr1 a h with h | h
    · exact .inl h
    · exact .inr fun p hp => h p (.tail _ hp)
  · intro a h
    rcases gr2 a h with h | h
    · exact .inl h
    · refine .inr fun p hp e => ?_
      obtain ⟨o, ho⟩ := adr1 p hp
      exact h _ ho e
end
section
example : True := by
  w_top off
  k_with_none
  k_with "ktr_room" => ((try simp only [depth_under_make, depth_under_kw, depth_in1, depth_deeper, depth_caller]); (try dsimp only); first | exact room_up2 (by with_reducible assumption) rfl | exact room_up (by with_reducible assumption) rfl | exact room_0 (by with_reducible assumption) rfl | omega)
  k_with "ktr_units" => ((try simp only [units_in1, units_deeper, Around.mark_units, units_caller, units_under_make]); (try dsimp only); first | exact room_up2 (by with_reducible assumption) rfl | exact room_up (by with_reducible assumption) rfl | exact room_0 (by with_reducible assumption) rfl | omega)
  k_with "tb_start" => ((case kB => k_asm); (case kF => k_asm); (case kX => k_asm); (case kN => k_asm); (case kT => k_asm); (case kA => exact rfl); (case kH => exact rfl); (case kf => exact rfl); (case kk => exact rfl); (case kd => ktr_room); (case ku => ktr_units))
  k_with "call ref" => (k_here; (with_reducible show wpAny _ _ (call (Value.ref 97) _) _ _ _); k_dflt (refine' con_use (find_con _ _ _ _ _ _ _ _ ?kzFO) ?kB ?kF ?kX ?kN ?kT ?kA ?kH ?kf ?kk ?kd ?ku ?hp ?_; (case kzFO => assumption); (case hp => exact ⟨by assumption, by first | assumption | omega, by first | assumption | omega⟩); tb_start);  intro _ _ _ _ _ _ hp'; obtain ⟨e', _, e2'⟩ := hp'; subst e'; subst e2'; (try dsimp only))
  k_with "subscriptTail" => (k_here; (with_reducible show wpAny _ _ (subscriptTail _ _ (Value.ref _) (Value.int _ _)) _ _ _); k_dflt (refine' item_ref ?kzN ?kzm ?kzh0 ?kzhk ?kzhh ?_ ?kzhs; (case kzN => k_asm); (case kzhk => assumption); (case kzm => k_mem); (case kzh0 => omega); (case kzhh => omega); (case kzhs => with_unfolding_all rfl); k_whole))
  k_with "newList" => (k_here; k_dflt (refine' newList_led ?kzF ?kzN ?_ ?kzz; (case kzF => k_asm); (case kzN => k_asm); (case kzz => first | decide | kso_len)); intro _ _ _ _ _; (try k_sweep))
  k_with "call builtin:sorted" => (k_here; (with_reducible show wpAny _ _ (call (Value.builtin _) [Value.ref _]) _ _ _); k_dflt (with_unfolding_all refine' kso_sorted ?kzk1 ?kzk2 (is_listN ?kzk2 ?kzk3) ?kzk4 ?kzk5 ?_; (case kzk1 => k_asm); (case kzk2 => k_asm); (case kzk3 => k_mem); (case kzk4 => l_ints); (case kzk5 => omega); k_whole); intro _ _ _ _ _ _ _ _ _ _ _ _ _; (try k_sweep))
  k_with "kso_len" => first | omega | (simp only [List.length_append, List.length_map, List.length_cons, List.length_nil, List.length_set]; omega)
  k_with "call builtin:len" => (k_here; (with_reducible show wpAny _ _ (call (Value.builtin "len") [Value.ref _]) _ _ _); k_dflt (refine' len_led ?kzN ?kzm ?kzk ?kzz ?_; (case kzN => k_asm); (case kzm => k_mem); (case kzk => first | exact IntsAre.length (by with_reducible assumption) | exact List.length_map _ | ((try simp only [List.length_append, List.length_map, List.length_cons, List.length_nil, List.length_set]); exact rfl)); (case kzz => kso_len)); intro _ _)
  k_with "call builtin:list.append" => (k_here; (with_reducible show wpAny _ _ (call (Value.builtin _) [Value.ref _, _]) _ _ _); k_dflt (refine' append_led ?kzF ?kzN ?kzm ?kzz ?_; (case kzF => k_asm); (case kzN => k_asm); (case kzm => k_mem); (case kzz => kso_len)); intro _ _ _; (try k_sweep))
  k_with "call builtin:list.extend" => (k_here; (with_reducible show wpAny _ _ (call (Value.builtin _) [Value.ref _, Value.ref _]) _ _ _); k_dflt (refine' extend_led ?kzF ?kzN ?kzm ?kzb ?kzz ?kzy ?_; (case kzF => k_asm); (case kzN => k_asm); (case kzm => k_mem); (case kzb => k_mem); (case kzz => kso_len); (case kzy => kso_len)); intro _ _ _ _; (try k_sweep))
  k_with "call type:list" => (k_here; (with_reducible show wpAny _ _ (call (Value.type _) [Value.ref _]) _ _ _); k_dflt (refine' list_led ?kzF ?kzN ?kzm ?kzz ?_; (case kzF => k_asm); (case kzN => k_asm); (case kzm => k_mem); (case kzz => kso_len)); intro _ _ _ _ _ _; (try k_sweep))
  k_with "setItem ref int" => (k_here; (with_reducible show wpAny _ _ (setItem (Value.ref _) (Value.int _ _) (Value.int _ _)) _ _ _); k_dflt (refine' set_led ?kzF ?kzN ?kzm ?kzi ?kza ?kzb ?kzz ?_; (case kzF => k_asm); (case kzN => k_asm); (case kzm => k_mem); (case kzi => with_reducible assumption); (case kza => omega); (case kzb => omega); (case kzz => omega)); intro _ _ _ _; (try k_sweep))
  k_with "call builtin:sorted" => (k_here; (with_reducible show wpAny _ _ (call (Value.builtin _) [Value.ref _]) _ _ _); k_dflt (refine' sorted_two ?kzF ?kzN ?kzm ?_; (case kzF => k_asm); (case kzN => k_asm); (case kzm => k_mem)); intro _ _ _ _ _ _ _ _; (try k_sweep))
  k_with "k_mem" => first | with_reducible assumption | ktr_member | ((with_reducible refine' mem_setL_self ?kya); (case kya => k_mem)) | ((with_reducible refine' mem_setL_ne ?kya ?kyb); (case kyb => first | with_reducible assumption | exact Ne.symm (by with_reducible assumption) | omega); (case kya => k_mem)) | exact List.Mem.head _ | (refine' List.mem_cons_of_mem _ ?_; k_mem)
  k_with "newTuple" => (k_here; k_dflt (refine' newTuple_led ?kzF ?kzN ?_ ?kzz; (case kzF => k_asm); (case kzN => k_asm); (case kzz => first | decide | kso_len)); intro _ _ _ _ _; (try k_sweep))
  k_with "CompSrc" => refine Hold.out ?_
  k_with "CompSrcT" => refine Hold.out ?_
  k_with "Src3" => refine Hold.out ?_
  k_with "eval ListComp" => (k_here; (fail_if_success lct_look); k_dflt (refine ListComp_3 (F₀ := by k_asm) (by with_unfolding_all rfl) (by decide) (by rfl) (by decide) (by rfl) ?_))
  k_with "eval ListComp" => (k_here; lct_look; k_dflt (refine LCt.ListComp_T (F₀ := by k_asm) (by with_unfolding_all rfl) (by decide) (by rfl) (by decide) (by rfl) ?_))
  k_with "StrSrc" => refine Hold.out ?_
  k_with "ktr_rel" => first | with_reducible assumption | exact tupIn_s (by k_mem) | exact tupIn_si (by k_mem) | ((with_reducible refine DH.cons ?_); ktr_rel) | ((with_reducible refine DI.cons ?_); ktr_rel) | ((with_reducible refine TupIn.cons ?_); ktr_rel)
  k_with "call type:tuple" => (k_here; (with_reducible show wpAny _ _ (call (Value.type _) [Value.ref _]) _ _ _); k_dflt (first | (refine' tup_same ?kzN ?kzm ?_; (case kzN => k_asm); (case kzm => k_mem)) | (refine' tup_list ?kzF ?kzN ?kzm ?kzz ?_; (case kzF => k_asm); (case kzN => k_asm); (case kzm => k_mem); (case kzz => first | decide | kso_len); intro _ _ _ _ _; (try k_sweep))))
  k_with "binaryOp Add" => (k_here; (with_reducible show wpAny _ _ (binaryOp _ (Value.ref _) (Value.ref _)) _ _ _); k_dflt (first | (refine' tup_add0 ?kzF ?kzN ?kzm ?kzb ?kzv ?kzz ?_; (case kzF => k_asm); (case kzN => k_asm); (case kzm => k_mem); (case kzb => k_mem); (case kzv => simp); (case kzz => first | decide | kso_len)) | (refine' tup_add ?kzF ?kzN ?kzm ?kzb ?kzv ?kzy ?kzz ?kzx ?_; (case kzF => k_asm); (case kzN => k_asm); (case kzm => k_mem); (case kzb => k_mem); (case kzv => simp); (case kzy => simp); (case kzz => first | decide | kso_len); (case kzx => first | decide | kso_len); intro _ _ _ _ _; (try k_sweep))))
  k_with "subscriptTail" => (k_here; (with_reducible show wpAny _ _ (subscriptTail _ (Expr.Slice _ _ _ _) (Value.ref _) (Value.ref _)) _ _ _); k_dflt (refine' tup_slice1 ?kzF ?kzN ?kzm ?kzz ?_ ?kzs; (case kzs => with_unfolding_all rfl); (case kzF => k_asm); (case kzN => k_asm); (case kzm => k_mem); (case kzz => first | decide | kso_len)); intro _ _ _ _ _; (try k_sweep))
  k_with "compareOp In" => (k_here; (with_reducible show wpAny _ _ (compareOp CmpOp.In (Value.ref _) (Value.ref _)) _ _ _); k_dflt (refine' dh_in ?kzu ?kzN ?kzH ?kzT ?_; (case kzN => k_asm); (case kzH => ktr_rel); (case kzT => ktr_rel); (case kzu => ktr_units)); intro _; (try dsimp only))
  k_with "compareOp In" => (k_here; (with_reducible show wpAny _ _ (compareOp CmpOp.In (Value.ref _) (Value.ref _)) _ _ _); k_dflt (refine' dh_in_none ?kzu ?kzN ?kzH ?kzT ?kzK ?_; (case kzN => k_asm); (case kzH => ktr_rel); (case kzT => ktr_rel); (case kzK => with_reducible assumption); (case kzu => ktr_units)); intro _; (try dsimp only))
  k_with "setItem ref ref" => (k_here; k_dflt (refine' dh_set ?kzu ?kzF ?kzN ?kzH ?kzT ?kzz ?_; (case kzF => k_asm); (case kzN => k_asm); (case kzH => ktr_rel); (case kzT => ktr_rel); (case kzu => ktr_units); (case kzz => omega)); intro _ _ _ _ _ _; (try k_sweep))
  k_with "getMethod ref" => (k_here; (with_reducible show wpAny _ _ (getMethod (Value.ref _) (Str.ofString "setdefault") _) _ _ _); k_dflt (refine' dh_method PySem.F.slot_dict_setdefault PySem.F.type_dict_setdefault ?kzN ?kzH ?_; (case kzN => k_asm); (case kzH => ktr_rel)))
  k_with "getMethod ref" => (k_here; (with_reducible show wpAny _ _ (getMethod (Value.ref _) (Str.ofString "get") _) _ _ _); k_dflt (refine' dh_method PySem.F.slot_dict_get PySem.F.type_dict_get ?kzN ?kzH ?_; (case kzN => k_asm); (case kzH => ktr_rel)))
  k_with "getMethod ref" => (k_here; (with_reducible show wpAny _ _ (getMethod (Value.ref _) (Str.ofString "pop") _) _ _ _); k_dflt (refine' di_method PySem.F.slot_dict_pop PySem.F.type_dict_pop ?kzN ?kzH ?_; (case kzN => k_asm); (case kzH => ktr_rel)))
  k_with "k_mem" => first | with_reducible assumption | ktr_member | (refine' SetTo.it ?kys ?kya; (case kys => with_reducible assumption); (case kya => k_mem)) | (refine' SetTo.mem ?kys ?kya ?kyb; (case kys => with_reducible assumption); (case kyb => first | with_reducible assumption | exact Ne.symm (by with_reducible assumption) | (refine nen ?_; omega)); (case kya => k_mem)) | exact List.Mem.head _ | (refine' List.mem_cons_of_mem _ ?_; k_mem)
  k_with "ktr_rel" => (refine' TupIn.setTo ?kya ?kys ?kyb; (case kys => with_reducible assumption); (case kyb => first | with_reducible assumption | exact Ne.symm (by with_reducible assumption) | (refine nen ?_; omega)); (case kya => ktr_rel))
  k_with "call builtin:list.append" => (k_here; (with_reducible show wpAny _ _ (call (Value.builtin _) [Value.ref _, _]) _ _ _); k_dflt (refine' append_o ?kzF ?kzN ?kzm ?kzz ?_; (case kzF => k_asm); (case kzN => k_asm); (case kzm => k_mem); (case kzz => kso_len)); intro _ _ _ _ _; (try k_sweep))
  k_with "call builtin:list.extend" => (k_here; (with_reducible show wpAny _ _ (call (Value.builtin _) [Value.ref _, Value.ref _]) _ _ _); k_dflt (refine' extend_o ?kzF ?kzN ?kzm ?kzb ?kzz ?kzy ?_; (case kzF => k_asm); (case kzN => k_asm); (case kzm => k_mem); (case kzb => k_mem); (case kzz => kso_len); (case kzy => kso_len)); intro _ _ _ _ _ _; (try k_sweep))
  k_with "setItem ref int" => (k_here; (with_reducible show wpAny _ _ (setItem (Value.ref _) (Value.int _ _) (Value.int _ _)) _ _ _); k_dflt (refine' set_o ?kzF ?kzN ?kzm ?kzi ?kza ?kzb ?kzz ?_; (case kzF => k_asm); (case kzN => k_asm); (case kzm => k_mem); (case kzi => with_reducible assumption); (case kza => omega); (case kzb => omega); (case kzz => omega)); intro _ _ _ _ _ _; (try k_sweep))
  k_with "setItem ref ref" => (k_here; k_dflt (refine' dh_set_o ?kzu ?kzF ?kzN ?kzH ?kzT ?kzz ?_; (case kzF => k_asm); (case kzN => k_asm); (case kzH => ktr_rel); (case kzT => ktr_rel); (case kzu => ktr_units); (case kzz => omega)); intro _ _ _ _ _ _ _ _; (try k_sweep))
  k_with "subscriptTail" => (k_here; (with_reducible show wpAny _ _ (subscriptTail _ _ (Value.ref _) (Value.int 0 _)) _ _ _); k_dflt (refine' tup_item0 ?kzN ?kzm ?_ ?kzs; (case kzN => k_asm); (case kzm => k_mem); (case kzs => with_unfolding_all rfl)); k_whole)
  k_with "exec For" => (k_here; (rename Fr _ _ _ _ => lF'); k_dflt ((with_unfolding_all refine' For_invVF lF' ?kzk1 ?kzk2 ?_); (case kzk1 => exact rfl); (case kzk2 => exact rfl)); k_whole)
  k_with "pyIter ref" => ((with_reducible show wpAny _ _ (pyIter (Value.ref _)) (fun it s₂ => LoopAtV _ _ _ _ _ _ _ _ _ it s₂) _ _); refine Hold.out ?_)
  k_with "eval Name" => (k_here; name_kind "cell"; k_dflt (refine' ldCN ?kzN ?kzc ?kzm ?kzd ?_ ?kzk ?kzl ?kzb; (case kzk => rfl); (case kzl => rfl); (case kzb => decide); (case kzN => k_asm); (case kzc => exact rfl); (case kzm => k_mem); (case kzd => with_reducible assumption)); k_whole)
  k_with "ktr_rel" => (refine' DI.setTo ?kya ?kys ?kyb; (case kys => with_reducible assumption); (case kyb => first | with_reducible assumption | exact Ne.symm (by with_reducible assumption) | (refine nen ?_; omega)); (case kya => ktr_rel))
  k_with "subscriptTail" => (k_here; (with_reducible show wpAny _ _ (subscriptTail _ _ (Value.ref _) (Value.int _ _)) _ _ _); k_dflt (refine' di_item ?kzN ?kzH ?kzp ?_ ?kzs; (case kzN => k_asm); (case kzH => ktr_rel); (case kzp => with_reducible assumption); (case kzs => with_unfolding_all rfl)); intro _; (try dsimp only))
  k_with "call builtin:dict.pop" => (k_here; (with_reducible show wpAny _ _ (call (Value.builtin _) [Value.ref _, Value.int _ _]) _ _ _); k_dflt (refine' di_pop_o ?kzF ?kzN ?kzH ?kzz ?kzp ?_; (case kzF => k_asm); (case kzN => k_asm); (case kzH => ktr_rel); (case kzp => with_reducible assumption); (case kzz => omega)); intro _ _ _ _ _ _ _ _; (try k_sweep))
  k_with "binaryOp Add" => (k_here; (with_reducible show wpAny _ _ (binaryOp _ (Value.ref _) (Value.ref _)) _ _ _); k_dflt (refine' list_add ?kzF ?kzN ?kzm ?kzb ?kzy ?kzz ?_; (case kzF => k_asm); (case kzN => k_asm); (case kzm => k_mem); (case kzb => k_mem); (case kzy => kso_len); (case kzz => kso_len)); intro _ _ _ _ _; (try k_sweep))
  k_with "call ref" => (k_here; (with_reducible show wpAny _ _ (call (Value.ref 291) _) _ _ _); refine Hold.out ?_)
  k_with "omega" => lia
  trivial
theorem put_con {w : World} (hp b u : Addr) (nks : List (List Mix)) (kn : List (List Mix × Int)) (ab : Int → Option (List Int)) (wt : List Int) (NN EE : Nat) (ns ls : List Int) (cs : List (List Int)) (ms : List (Int × Int)) (fh fb fu : List Addr) (FO : Forest (ns ++ [(ns.length : Int)]) ls)
    (ta : Addr) (x : Str) (tx : Tok) (nt : Nat) (O : OkOp x) (hnew : [Sum.inl x] ∉ nks) (hl : nks.length = ns.length) (hz : ns.length < 50) (hnk : ∀ p ∈ kn, p.1 ≠ [.inl x]) (hkz : kn.length < 900) (hNN : NN < 900) (hab : ab ns.length = none) :
    Con w 296 [.ref hp, .ref ta] 200 2000 (fun news => Trio w hp b u nks kn ab wt NN EE ns cs ms fh fb fu news ∧ (ta, tupOf #[.str x tx] nt) ∈ news)
      (fun news news' r => ∃ t fh' fb' fu', r = .int ns.length t ∧ Trio w hp b u (nks ++ [[.inl x]]) (kn ++ [([.inl x], (ns.length : Int))]) (fun j => if j = (ns.length : Int) then some [] else ab j) wt (NN + 1) EE (ns ++ [(ns.length : Int)]) (cs ++ [[(ns.length : Int)]]) ms fh' fb' fu' news' ∧ Step3 fh fb fu fh' fb' fu' news news') := by
  rintro mean mg mb dp un gd env outer A₀ base h₀ L m news s Q E B F X N T hf hk hd hu ⟨TR, mta⟩ hret
  have U := TR.h
  have U' := U
  obtain ⟨dh, le, lf, dk, da, lw, kk, n1, n2, n3, n4, ve, vf, vw, kxs, fa, I⟩ := U'
  have m1 := I.inst
  have m2 := I.dict
  refine wpAny_call ?_
  ((refine' code_defC (binds := ([("self", .ref hp), ("term", .ref ta)])) ?k1 ?k2 ?k3 ?k4 ?k5 ?kA ?kF ?kK ?k6 ?k7 ?k8 ?k9 ?kB ?kD ?_ ?c2 ?c3 ?c4; (case kA => exact rfl); (case kF => assumption); (case kK => assumption); (case k1 => k_asm); (case k2 => k_asm); (case k3 => k_asm); (case k4 => k_asm); (case k5 => k_asm); (case k6 => k_is); (case k7 => k_is); (case k8 => first | omega | ktr_room | (dsimp only; omega)); (case k9 => exact BindsTo.of_eq rfl); (case kB => exact rfl); (case kD => decide +kernel); (case c2 => exact rfl); (case c3 => exact rfl); (case c4 => exact rfl); k_whole; intro g' L' h' tk' cells' FG' F' N' Y' B' X' T' l1; k_cells Y'; (try simp only [List.cons_append, List.nil_append] at N'); (try dsimp only); (try k_fold)))
  rename_i oc d1'
  k_steps
  refine Hold.done (comp_tup0 rfl (by k_asm) (by k_asm) (by k_mem) ?_)
  intro D4 h4 tk4 F4 N4 l4
  k_steps
  rename ∀ p ∈ _, _ < _ => lD
  refine Hold.done ?_
  refine' con_use (add_con hp b u nks kn ab wt NN EE ns ls cs ms fh fb fu FO _ x _ 0 O hnew hl hz hnk hkz hNN hab) ?kB ?kF ?kX ?kN ?kT ?kA ?kH ?kf ?kk ?kd ?ku ?hp ?_
  tb_start
  case hp =>
    refine ⟨by (repeat (first | exact TR | refine Trio.cons ?_)), by k_mem, ?_, ?_, ?_⟩
    · intro h
      obtain ⟨o, ho⟩ := TR.h.footin _ h
      exact absurd (lD _ (.tail _ (.tail _ (.tail _ ho)))) (Nat.lt_irrefl _)
    · intro h
      obtain ⟨o, ho⟩ := TR.b.footin _ h
      exact absurd (lD _ (.tail _ (.tail _ (.tail _ ho)))) (Nat.lt_irrefl _)
    · intro h
      obtain ⟨o, ho⟩ := TR.u.foot_in _ h
      exact absurd (lD _ (.tail _ (.tail _ (.tail _ ho)))) (Nat.lt_irrefl _)
  rintro r5 h5 tk5 la5 F5 N5 ⟨t5, fh', fb', fu', rfl, T5, S5⟩
  k_steps
  exact hret _ _ _ _ (by assumption) (by assumption) ⟨_, fh', fb', fu', rfl, T5, (Step3.of fun p hp => by repeat (first | assumption | refine List.mem_cons_of_mem _ ?_)).trans TR.cons.cons.cons.cons S5⟩
end
section
example : True := by
  w_top off
  k_with_none
  k_with "ktr_room" => ((try simp only [depth_under_make, depth_under_kw, depth_in1, depth_deeper, depth_caller]); (try dsimp only); first | exact room_up2 (by with_reducible assumption) rfl | exact room_up (by with_reducible assumption) rfl | exact room_0 (by with_reducible assumption) rfl | omega)
  k_with "ktr_units" => ((try simp only [units_in1, units_deeper, Around.mark_units, units_caller, units_under_make]); (try dsimp only); first | exact room_up2 (by with_reducible assumption) rfl | exact room_up (by with_reducible assumption) rfl | exact room_0 (by with_reducible assumption) rfl | omega)
  k_with "tb_start" => ((case kB => k_asm); (case kF => k_asm); (case kX => k_asm); (case kN => k_asm); (case kT => k_asm); (case kA => exact rfl); (case kH => exact rfl); (case kf => exact rfl); (case kk => exact rfl); (case kd => ktr_room); (case ku => ktr_units))
  k_with "call ref" => (k_here; (with_reducible show wpAny _ _ (call (Value.ref 97) _) _ _ _); k_dflt (refine' con_use (find_con _ _ _ _ _ _ _ _ ?kzFO) ?kB ?kF ?kX ?kN ?kT ?kA ?kH ?kf ?kk ?kd ?ku ?hp ?_; (case kzFO => assumption); (case hp => exact ⟨by assumption, by first | assumption | omega, by first | assumption | omega⟩); tb_start);  intro _ _ _ _ _ _ hp'; obtain ⟨e', _, e2'⟩ := hp'; subst e'; subst e2'; (try dsimp only))
  k_with "subscriptTail" => (k_here; (with_reducible show wpAny _ _ (subscriptTail _ _ (Value.ref _) (Value.int _ _)) _ _ _); k_dflt (refine' item_ref ?kzN ?kzm ?kzh0 ?kzhk ?kzhh ?_ ?kzhs; (case kzN => k_asm); (case kzhk => assumption); (case kzm => k_mem); (case kzh0 => omega); (case kzhh => omega); (case kzhs => with_unfolding_all rfl); k_whole))
  k_with "newList" => (k_here; k_dflt (refine' newList_led ?kzF ?kzN ?_ ?kzz; (case kzF => k_asm); (case kzN => k_asm); (case kzz => first | decide | kso_len)); intro _ _ _ _ _; (try k_sweep))
  k_with "call builtin:sorted" => (k_here; (with_reducible show wpAny _ _ (call (Value.builtin _) [Value.ref _]) _ _ _); k_dflt (with_unfolding_all refine' kso_sorted ?kzk1 ?kzk2 (is_listN ?kzk2 ?kzk3) ?kzk4 ?kzk5 ?_; (case kzk1 => k_asm); (case kzk2 => k_asm); (case kzk3 => k_mem); (case kzk4 => l_ints); (case kzk5 => omega); k_whole); intro _ _ _ _ _ _ _ _ _ _ _ _ _; (try k_sweep))
  k_with "kso_len" => first | omega | (simp only [List.length_append, List.length_map, List.length_cons, List.length_nil, List.length_set]; omega)
  k_with "call builtin:len" => (k_here; (with_reducible show wpAny _ _ (call (Value.builtin "len") [Value.ref _]) _ _ _); k_dflt (refine' len_led ?kzN ?kzm ?kzk ?kzz ?_; (case kzN => k_asm); (case kzm => k_mem); (case kzk => first | exact IntsAre.length (by with_reducible assumption) | exact List.length_map _ | ((try simp only [List.length_append, List.length_map, List.length_cons, List.length_nil, List.length_set]); exact rfl)); (case kzz => kso_len)); intro _ _)
  k_with "call builtin:list.append" => (k_here; (with_reducible show wpAny _ _ (call (Value.builtin _) [Value.ref _, _]) _ _ _); k_dflt (refine' append_led ?kzF ?kzN ?kzm ?kzz ?_; (case kzF => k_asm); (case kzN => k_asm); (case kzm => k_mem); (case kzz => kso_len)); intro _ _ _; (try k_sweep))
  k_with "call builtin:list.extend" => (k_here; (with_reducible show wpAny _ _ (call (Value.builtin _) [Value.ref _, Value.ref _]) _ _ _); k_dflt (refine' extend_led ?kzF ?kzN ?kzm ?kzb ?kzz ?kzy ?_; (case kzF => k_asm); (case kzN => k_asm); (case kzm => k_mem); (case kzb => k_mem); (case kzz => kso_len); (case kzy => kso_len)); intro _ _ _ _; (try k_sweep))
  k_with "call type:list" => (k_here; (with_reducible show wpAny _ _ (call (Value.type _) [Value.ref _]) _ _ _); k_dflt (refine' list_led ?kzF ?kzN ?kzm ?kzz ?_; (case kzF => k_asm); (case kzN => k_asm); (case kzm => k_mem); (case kzz => kso_len)); intro _ _ _ _ _ _; (try k_sweep))
  k_with "setItem ref int" => (k_here; (with_reducible show wpAny _ _ (setItem (Value.ref _) (Value.int _ _) (Value.int _ _)) _ _ _); k_dflt (refine' set_led ?kzF ?kzN ?kzm ?kzi ?kza ?kzb ?kzz ?_; (case kzF => k_asm); (case kzN => k_asm); (case kzm => k_mem); (case kzi => with_reducible assumption); (case kza => omega); (case kzb => omega); (case kzz => omega)); intro _ _ _ _; (try k_sweep))
  k_with "call builtin:sorted" => (k_here; (with_reducible show wpAny _ _ (call (Value.builtin _) [Value.ref _]) _ _ _); k_dflt (refine' sorted_two ?kzF ?kzN ?kzm ?_; (case kzF => k_asm); (case kzN => k_asm); (case kzm => k_mem)); intro _ _ _ _ _ _ _ _; (try k_sweep))
  k_with "k_mem" => first | with_reducible assumption | ktr_member | ((with_reducible refine' mem_setL_self ?kya); (case kya => k_mem)) | ((with_reducible refine' mem_setL_ne ?kya ?kyb); (case kyb => first | with_reducible assumption | exact Ne.symm (by with_reducible assumption) | omega); (case kya => k_mem)) | exact List.Mem.head _ | (refine' List.mem_cons_of_mem _ ?_; k_mem)
  k_with "newTuple" => (k_here; k_dflt (refine' newTuple_led ?kzF ?kzN ?_ ?kzz; (case kzF => k_asm); (case kzN => k_asm); (case kzz => first | decide | kso_len)); intro _ _ _ _ _; (try k_sweep))
  k_with "CompSrc" => refine Hold.out ?_
  k_with "CompSrcT" => refine Hold.out ?_
  k_with "Src3" => refine Hold.out ?_
  k_with "eval ListComp" => (k_here; (fail_if_success lct_look); k_dflt (refine ListComp_3 (F₀ := by k_asm) (by with_unfolding_all rfl) (by decide) (by rfl) (by decide) (by rfl) ?_))
  k_with "eval ListComp" => (k_here; lct_look; k_dflt (refine LCt.ListComp_T (F₀ := by k_asm) (by with_unfolding_all rfl) (by decide) (by rfl) (by decide) (by rfl) ?_))
  k_with "StrSrc" => refine Hold.out ?_
  k_with "ktr_rel" => first | with_reducible assumption | exact tupIn_s (by k_mem) | exact tupIn_si (by k_mem) | ((with_reducible refine DH.cons ?_); ktr_rel) | ((with_reducible refine DI.cons ?_); ktr_rel) | ((with_reducible refine TupIn.cons ?_); ktr_rel)
  k_with "call type:tuple" => (k_here; (with_reducible show wpAny _ _ (call (Value.type _) [Value.ref _]) _ _ _); k_dflt (first | (refine' tup_same ?kzN ?kzm ?_; (case kzN => k_asm); (case kzm => k_mem)) | (refine' tup_list ?kzF ?kzN ?kzm ?kzz ?_; (case kzF => k_asm); (case kzN => k_asm); (case kzm => k_mem); (case kzz => first | decide | kso_len); intro _ _ _ _ _; (try k_sweep))))
  k_with "binaryOp Add" => (k_here; (with_reducible show wpAny _ _ (binaryOp _ (Value.ref _) (Value.ref _)) _ _ _); k_dflt (first | (refine' tup_add0 ?kzF ?kzN ?kzm ?kzb ?kzv ?kzz ?_; (case kzF => k_asm); (case kzN => k_asm); (case kzm => k_mem); (case kzb => k_mem); (case kzv => simp); (case kzz => first | decide | kso_len)) | (refine' tup_add ?kzF ?kzN ?kzm ?kzb ?kzv ?kzy ?kzz ?kzx ?_; (case kzF => k_asm); (case kzN => k_asm); (case kzm => k_mem); (case kzb => k_mem); (case kzv => simp); (case kzy => simp); (case kzz => first | decide | kso_len); (case kzx => first | decide | kso_len); intro _ _ _ _ _; (try k_sweep))))
  k_with "subscriptTail" => (k_here; (with_reducible show wpAny _ _ (subscriptTail _ (Expr.Slice _ _ _ _) (Value.ref _) (Value.ref _)) _ _ _); k_dflt (refine' tup_slice1 ?kzF ?kzN ?kzm ?kzz ?_ ?kzs; (case kzs => with_unfolding_all rfl); (case kzF => k_asm); (case kzN => k_asm); (case kzm => k_mem); (case kzz => first | decide | kso_len)); intro _ _ _ _ _; (try k_sweep))
  k_with "compareOp In" => (k_here; (with_reducible show wpAny _ _ (compareOp CmpOp.In (Value.ref _) (Value.ref _)) _ _ _); k_dflt (refine' dh_in ?kzu ?kzN ?kzH ?kzT ?_; (case kzN => k_asm); (case kzH => ktr_rel); (case kzT => ktr_rel); (case kzu => ktr_units)); intro _; (try dsimp only))
  k_with "compareOp In" => (k_here; (with_reducible show wpAny _ _ (compareOp CmpOp.In (Value.ref _) (Value.ref _)) _ _ _); k_dflt (refine' dh_in_none ?kzu ?kzN ?kzH ?kzT ?kzK ?_; (case kzN => k_asm); (case kzH => ktr_rel); (case kzT => ktr_rel); (case kzK => with_reducible assumption); (case kzu => ktr_units)); intro _; (try dsimp only))
  k_with "setItem ref ref" => (k_here; k_dflt (refine' dh_set ?kzu ?kzF ?kzN ?kzH ?kzT ?kzz ?_; (case kzF => k_asm); (case kzN => k_asm); (case kzH => ktr_rel); (case kzT => ktr_rel); (case kzu => ktr_units); (case kzz => omega)); intro _ _ _ _ _ _; (try k_sweep))
  k_with "getMethod ref" => (k_here; (with_reducible show wpAny _ _ (getMethod (Value.ref _) (Str.ofString "setdefault") _) _ _ _); k_dflt (refine' dh_method PySem.F.slot_dict_setdefault PySem.F.type_dict_setdefault ?kzN ?kzH ?_; (case kzN => k_asm); (case kzH => ktr_rel)))
  k_with "getMethod ref" => (k_here; (with_reducible show wpAny _ _ (getMethod (Value.ref _) (Str.ofString "get") _) _ _ _); k_dflt (refine' dh_method PySem.F.slot_dict_get PySem.F.type_dict_get ?kzN ?kzH ?_; (case kzN => k_asm); (case kzH => ktr_rel)))
  k_with "getMethod ref" => (k_here; (with_reducible show wpAny _ _ (getMethod (Value.ref _) (Str.ofString "pop") _) _ _ _); k_dflt (refine' di_method PySem.F.slot_dict_pop PySem.F.type_dict_pop ?kzN ?kzH ?_; (case kzN => k_asm); (case kzH => ktr_rel)))
  k_with "k_mem" => first | with_reducible assumption | ktr_member | (refine' SetTo.it ?kys ?kya; (case kys => with_reducible assumption); (case kya => k_mem)) | (refine' SetTo.mem ?kys ?kya ?kyb; (case kys => with_reducible assumption); (case kyb => first | with_reducible assumption | exact Ne.symm (by with_reducible assumption) | (refine nen ?_; omega)); (case kya => k_mem)) | exact List.Mem.head _ | (refine' List.mem_cons_of_mem _ ?_; k_mem)
  k_with "ktr_rel" => (refine' TupIn.setTo ?kya ?kys ?kyb; (case kys => with_reducible assumption); (case kyb => first | with_reducible assumption | exact Ne.symm (by with_reducible assumption) | (refine nen ?_; omega)); (case kya => ktr_rel))
  k_with "call builtin:list.append" => (k_here; (with_reducible show wpAny _ _ (call (Value.builtin _) [Value.ref _, _]) _ _ _); k_dflt (refine' append_o ?kzF ?kzN ?kzm ?kzz ?_; (case kzF => k_asm); (case kzN => k_asm); (case kzm => k_mem); (case kzz => kso_len)); intro _ _ _ _ _; (try k_sweep))
  k_with "call builtin:list.extend" => (k_here; (with_reducible show wpAny _ _ (call (Value.builtin _) [Value.ref _, Value.ref _]) _ _ _); k_dflt (refine' extend_o ?kzF ?kzN ?kzm ?kzb ?kzz ?kzy ?_; (case kzF => k_asm); (case kzN => k_asm); (case kzm => k_mem); (case kzb => k_mem); (case kzz => kso_len); (case kzy => kso_len)); intro _ _ _ _ _ _; (try k_sweep))
  k_with "setItem ref int" => (k_here; (with_reducible show wpAny _ _ (setItem (Value.ref _) (Value.int _ _) (Value.int _ _)) _ _ _); k_dflt (refine' set_o ?kzF ?kzN ?kzm ?kzi ?kza ?kzb ?kzz ?_; (case kzF => k_asm); (case kzN => k_asm); (case kzm => k_mem); (case kzi => with_reducible assumption); (case kza => omega); (case kzb => omega); (case kzz => omega)); intro _ _ _ _ _ _; (try k_sweep))
  k_with "setItem ref ref" => (k_here; k_dflt (refine' dh_set_o ?kzu ?kzF ?kzN ?kzH ?kzT ?kzz ?_; (case kzF => k_asm); (case kzN => k_asm); (case kzH => ktr_rel); (case kzT => ktr_rel); (case kzu => ktr_units); (case kzz => omega)); intro _ _ _ _ _ _ _ _; (try k_sweep))
  k_with "subscriptTail" => (k_here; (with_reducible show wpAny _ _ (subscriptTail _ _ (Value.ref _) (Value.int 0 _)) _ _ _); k_dflt (refine' tup_item0 ?kzN ?kzm ?_ ?kzs; (case kzN => k_asm); (case kzm => k_mem); (case kzs => with_unfolding_all rfl)); k_whole)
  k_with "call ref" => (k_here; (with_reducible show wpAny _ _ (call (Value.ref 83) _) _ _ _); refine Hold.out ?_)
  k_with "call ref" => (k_here; (with_reducible show wpAny _ _ (call (Value.ref 296) _) _ _ _); refine Hold.out ?_)
  trivial
theorem more_con {w : World} (u hp b u2 LA : Addr) (EE : Nat) (lb ns : List Int) (cs : List (List Int)) (ms : List (Int × Int)) (f1 ft : List Addr) (va : List Value) (na : Nat) (hn : ns.length < 17) :
    Con w 416 [.ref u, .ref hp, .ref LA] 250 2500 (fun news => LawIn w u hp b u2 LA EE lb ns cs ms f1 ft va na news)
      (fun news news' r => ∃ f1' ft' va' na', r = .bool true ∧ LawIn w u hp b u2 LA EE (lb ++ [(ns.length : Int)]) (ns ++ [(ns.length : Int)]) (cs ++ [[(ns.length : Int)]]) ms f1' ft' va' na' news' ∧ Step2 f1 ft LA f1' ft' news news') := by
  intro mean mg mb dp un gd env outer A₀ base h₀ L m news s Q E B F X N T hf hk hd hu I hret
  have U := I.lots
  have mla := I.labs
  have hi := I.lints
  have nl1 := I.la1
  have nlt := I.lat
  have hll := I.fo.len
  obtain ⟨du, uk1, uk2, uk3, uk4, uk5, uk6, uk7, mu1, mu2, fu1, fu2⟩ := U.inst
  have hvl := hi.length
  have n1 : u ≠ LA := fun e => nl1 (e ▸ fu1)
  have n2 : du ≠ LA := fun e => nl1 (e ▸ fu2)
  refine wpAny_call ?_
  ((refine' code_def (binds := ([("lots", .ref u), ("heap", .ref hp), ("labels", .ref LA)])) ?k1 ?k2 ?k3 ?k4 ?k5 ?kA ?kF ?kK ?k6 ?k7 ?k8 ?k9 ?kB ?_ ?c2 ?c3 ?c4 ?c5; (case kA => exact rfl); (case kF => assumption); (case kK => assumption); (case k1 => k_asm); (case k2 => k_asm); (case k3 => k_asm); (case k4 => k_asm); (case k5 => k_asm); (case k6 => k_is); (case k7 => k_is); (case k8 => first | omega | ktr_room | (dsimp only; omega)); (case k9 => exact BindsTo.of_eq rfl); (case c5 => decide); (case kB => exact locs rfl); (case c2 => exact rfl); (case c3 => exact rfl); (case c4 => exact rfl); k_whole; intro g' L' h' FG' F' N' B' X' T'; (try dsimp only); (try k_lift B'); (try k_fold)))
  k_steps
  rename SetTo LA _ _ _ => S1
  refine Hold.done ?_
  have U1 := U.move (l' := _) fun p hp hf => S1.keep p hp fun e => nl1 (e ▸ hf)
  have H1 := I.heap.move (l' := _) fun p hp hf => S1.keep p hp fun e => nlt (e ▸ hf)
  have mla1 := S1.self _ mla
  refine' con_use (make_con u ns cs ms f1 (by omega)) ?kB ?kF ?kX ?kN ?kT ?kA ?kH ?kf ?kk ?kd ?ku ?hp ?_
  tb_start
  case hp => exact U1
  rintro r2 h2 tk2 la2 F2 N2 ⟨t2, f1', rfl, U2, kp2, gr2, in2⟩
  have H2 := H1.move (l' := la2) fun p hp hf => kp2 p hp fun h => I.ap _ h hf
  have ap2 : Disj ft f1' := I.ap.symm.grow gr2 H1.footin
  have mla2 := kp2 _ mla1 nl1
  have nl2 : LA ∉ f1' := fun h => by
    rcases gr2 _ h with h | h
    · exact nl1 h
    · exact h _ mla1 rfl
  obtain ⟨fh, fb, fu, TR2, hft⟩ := H2
  have U' := TR2.h
  obtain ⟨dh, le, lf, dk, da, lw, kk, n1, n2, n3, n4, ve, vf, vw, kxs, fa, I2⟩ := U'
  have m1 := I2.inst
  have m2 := I2.dict
  rw [show (ns.length : Int) = lb.length by rw [hll]]
  k_steps
  · refine Hold.done ?_
    rename_i u1 u2' u3 u4 u5 u6 u7 u8 D h3 F3 N3 l5
    rw [show (va.length + (0 + 1) : Nat) = ns.length + 1 by omega] at N3
    have e9 : Str.ofString "leaf" ++ Str.ofString (toString ((ns.length + 1 : Nat) : Int)) = leafT (ns.length + 1) := rfl
    rw [e9] at N3
    refine' con_use (put_con hp b u2 (leafN ns.length) (leafK ns.length) (rootsAb ns) [] ns.length EE ns (lb ++ [(ns.length : Int)]) cs ms fh fb fu I.fo.make D (leafT (ns.length + 1)) u6 0 (leaf_ok (by omega)) (leafN_new (by omega)) (leafN_len _) (by omega) (leafK_new (by omega)) (by rw [leafK_len]; omega) (by omega) (rootsAb_none ns)) ?kB ?kF ?kX ?kN ?kT ?kA ?kH ?kf ?kk ?kd ?ku ?hp ?_
    tb_start
    case hp => exact ⟨TR2.cons, .head _⟩
    rintro r6 h6 tk6 la6 F6 N6 ⟨t6, fh', fb', fu', rfl, T6, S6⟩
    rw [← leafN_succ, ← leafK_succ, rootsAb_make] at T6
    have fin : ∀ a, a ∈ fh ∨ a ∈ fb ∨ a ∈ fu → a ∈ ft := fun a h => by rw [hft]; rcases h with h | h | h <;> simp [h]
    have mla6 := S6.keep _ (.tail _ mla2) (fun h => nlt (fin _ (.inl h))) (fun h => nlt (fin _ (.inr (.inl h)))) (fun h => nlt (fin _ (.inr (.inr h))))
    k_steps
    have eb : ((ns.length : Int) == ((va.length + (0 + 1) : Nat) : Int) - 1) = true := beq_iff_eq.mpr (by omega)
    rw [eb]
    have kf : ∀ p ∈ la2, p.1 ∉ ft → p ∈ la6 := fun p hp hn => S6.keep p (.tail _ hp) (fun h => hn (fin _ (.inl h))) (fun h => hn (fin _ (.inr (.inl h)))) (fun h => hn (fin _ (.inr (.inr h))))
    have G6 := S6.grow
    rw [← hft] at G6
    have adr : ∀ p ∈ news, ∃ o, (p.1, o) ∈ la2 := fun p hp => by
      obtain ⟨o1, h1⟩ := S1.addr hp
      by_cases e : p.1 ∈ f1
      · exact U2.foot_in _ (in2 _ e)
      · exact ⟨o1, kp2 _ h1 e⟩
    refine hret _ _ _ _ (by assumption) (by assumption) ⟨f1', fh' ++ fb' ++ fu', _, _, rfl, ⟨U2.move fun p hp hf => kf p hp fun h => ap2 _ h hf, ⟨fh', fb', fu', ?_, rfl⟩, mla6, ?_, I.fo.make, I.lo.make hll.symm I.fo.lt, ap2.symm.grow G6 fun a h => ?_, nl2, fun h => ?_⟩, ⟨fun p hp e1 e2 e3 => kf p (kp2 p (S1.keep p hp e3) e1) e2, fun a ha => ?_, fun a ha => ?_⟩⟩
    · rw [show (ns ++ [(ns.length : Int)]).length = ns.length + 1 by simp]; exact T6
    · rw [show (ns.length : Int) = lb.length by rw [hll]]
      exact I.lints.append (.cons _ _ .nil)
    · obtain ⟨o, ho⟩ := U2.foot_in _ h
      exact ⟨o, .tail _ ho⟩
    · rcases G6 _ h with h | h
      · exact nlt h
      · exact h _ (.tail _ mla2) rfl
    · rcases gr2 a ha with h | h
      · exact .inl h
      · refine .inr fun p hp e => ?_
        obtain ⟨o1, h1⟩ := S1.addr hp
        exact h _ h1 e
    · rcases G6 a ha with h | h
      · exact .inl h
      · refine .inr fun p hp e => ?_
        obtain ⟨o1, h1⟩ := adr p hp
        exact h _ (.tail _ h1) e
  · exfalso
    omega
end
section
example : True := by
  w_top off
  k_with_none
  k_with "ktr_room" => ((try simp only [depth_under_make, depth_under_kw, depth_in1, depth_deeper, depth_caller]); (try dsimp only); first | exact room_up2 (by with_reducible assumption) rfl | exact room_up (by with_reducible assumption) rfl | exact room_0 (by with_reducible assumption) rfl | omega)
  k_with "ktr_units" => ((try simp only [units_in1, units_deeper, Around.mark_units, units_caller, units_under_make]); (try dsimp only); first | exact room_up2 (by with_reducible assumption) rfl | exact room_up (by with_reducible assumption) rfl | exact room_0 (by with_reducible assumption) rfl | omega)
  k_with "tb_start" => ((case kB => k_asm); (case kF => k_asm); (case kX => k_asm); (case kN => k_asm); (case kT => k_asm); (case kA => exact rfl); (case kH => exact rfl); (case kf => exact rfl); (case kk => exact rfl); (case kd => ktr_room); (case ku => ktr_units))
  k_with "call ref" => (k_here; (with_reducible show wpAny _ _ (call (Value.ref 97) _) _ _ _); k_dflt (refine' con_use (find_con _ _ _ _ _ _ _ _ ?kzFO) ?kB ?kF ?kX ?kN ?kT ?kA ?kH ?kf ?kk ?kd ?ku ?hp ?_; (case kzFO => assumption); (case hp => exact ⟨by assumption, by first | assumption | omega, by first | assumption | omega⟩); tb_start);  intro _ _ _ _ _ _ hp'; obtain ⟨e', _, e2'⟩ := hp'; subst e'; subst e2'; (try dsimp only))
  k_with "subscriptTail" => (k_here; (with_reducible show wpAny _ _ (subscriptTail _ _ (Value.ref _) (Value.int _ _)) _ _ _); k_dflt (refine' item_ref ?kzN ?kzm ?kzh0 ?kzhk ?kzhh ?_ ?kzhs; (case kzN => k_asm); (case kzhk => assumption); (case kzm => k_mem); (case kzh0 => omega); (case kzhh => omega); (case kzhs => with_unfolding_all rfl); k_whole))
  k_with "newList" => (k_here; k_dflt (refine' newList_led ?kzF ?kzN ?_ ?kzz; (case kzF => k_asm); (case kzN => k_asm); (case kzz => first | decide | kso_len)); intro _ _ _ _ _; (try k_sweep))
  k_with "call builtin:sorted" => (k_here; (with_reducible show wpAny _ _ (call (Value.builtin _) [Value.ref _]) _ _ _); k_dflt (with_unfolding_all refine' kso_sorted ?kzk1 ?kzk2 (is_listN ?kzk2 ?kzk3) ?kzk4 ?kzk5 ?_; (case kzk1 => k_asm); (case kzk2 => k_asm); (case kzk3 => k_mem); (case kzk4 => l_ints); (case kzk5 => omega); k_whole); intro _ _ _ _ _ _ _ _ _ _ _ _ _; (try k_sweep))
  k_with "kso_len" => first | omega | (simp only [List.length_append, List.length_map, List.length_cons, List.length_nil, List.length_set]; omega)
  k_with "call builtin:len" => (k_here; (with_reducible show wpAny _ _ (call (Value.builtin "len") [Value.ref _]) _ _ _); k_dflt (refine' len_led ?kzN ?kzm ?kzk ?kzz ?_; (case kzN => k_asm); (case kzm => k_mem); (case kzk => first | exact IntsAre.length (by with_reducible assumption) | exact List.length_map _ | ((try simp only [List.length_append, List.length_map, List.length_cons, List.length_nil, List.length_set]); exact rfl)); (case kzz => kso_len)); intro _ _)
  k_with "call builtin:list.append" => (k_here; (with_reducible show wpAny _ _ (call (Value.builtin _) [Value.ref _, _]) _ _ _); k_dflt (refine' append_led ?kzF ?kzN ?kzm ?kzz ?_; (case kzF => k_asm); (case kzN => k_asm); (case kzm => k_mem); (case kzz => kso_len)); intro _ _ _; (try k_sweep))
  k_with "call builtin:list.extend" => (k_here; (with_reducible show wpAny _ _ (call (Value.builtin _) [Value.ref _, Value.ref _]) _ _ _); k_dflt (refine' extend_led ?kzF ?kzN ?kzm ?kzb ?kzz ?kzy ?_; (case kzF => k_asm); (case kzN => k_asm); (case kzm => k_mem); (case kzb => k_mem); (case kzz => kso_len); (case kzy => kso_len)); intro _ _ _ _; (try k_sweep))
  k_with "call type:list" => (k_here; (with_reducible show wpAny _ _ (call (Value.type _) [Value.ref _]) _ _ _); k_dflt (refine' list_led ?kzF ?kzN ?kzm ?kzz ?_; (case kzF => k_asm); (case kzN => k_asm); (case kzm => k_mem); (case kzz => kso_len)); intro _ _ _ _ _ _; (try k_sweep))
  k_with "setItem ref int" => (k_here; (with_reducible show wpAny _ _ (setItem (Value.ref _) (Value.int _ _) (Value.int _ _)) _ _ _); k_dflt (refine' set_led ?kzF ?kzN ?kzm ?kzi ?kza ?kzb ?kzz ?_; (case kzF => k_asm); (case kzN => k_asm); (case kzm => k_mem); (case kzi => with_reducible assumption); (case kza => omega); (case kzb => omega); (case kzz => omega)); intro _ _ _ _; (try k_sweep))
  k_with "call builtin:sorted" => (k_here; (with_reducible show wpAny _ _ (call (Value.builtin _) [Value.ref _]) _ _ _); k_dflt (refine' sorted_two ?kzF ?kzN ?kzm ?_; (case kzF => k_asm); (case kzN => k_asm); (case kzm => k_mem)); intro _ _ _ _ _ _ _ _; (try k_sweep))
  k_with "k_mem" => first | with_reducible assumption | ktr_member | ((with_reducible refine' mem_setL_self ?kya); (case kya => k_mem)) | ((with_reducible refine' mem_setL_ne ?kya ?kyb); (case kyb => first | with_reducible assumption | exact Ne.symm (by with_reducible assumption) | omega); (case kya => k_mem)) | exact List.Mem.head _ | (refine' List.mem_cons_of_mem _ ?_; k_mem)
  k_with "newTuple" => (k_here; k_dflt (refine' newTuple_led ?kzF ?kzN ?_ ?kzz; (case kzF => k_asm); (case kzN => k_asm); (case kzz => first | decide | kso_len)); intro _ _ _ _ _; (try k_sweep))
  k_with "CompSrc" => refine Hold.out ?_
  k_with "CompSrcT" => refine Hold.out ?_
  k_with "Src3" => refine Hold.out ?_
  k_with "eval ListComp" => (k_here; (fail_if_success lct_look); k_dflt (refine ListComp_3 (F₀ := by k_asm) (by with_unfolding_all rfl) (by decide) (by rfl) (by decide) (by rfl) ?_))
  k_with "eval ListComp" => (k_here; lct_look; k_dflt (refine LCt.ListComp_T (F₀ := by k_asm) (by with_unfolding_all rfl) (by decide) (by rfl) (by decide) (by rfl) ?_))
  k_with "StrSrc" => refine Hold.out ?_
  k_with "ktr_rel" => first | with_reducible assumption | exact tupIn_s (by k_mem) | exact tupIn_si (by k_mem) | ((with_reducible refine DH.cons ?_); ktr_rel) | ((with_reducible refine DI.cons ?_); ktr_rel) | ((with_reducible refine TupIn.cons ?_); ktr_rel)
  k_with "call type:tuple" => (k_here; (with_reducible show wpAny _ _ (call (Value.type _) [Value.ref _]) _ _ _); k_dflt (first | (refine' tup_same ?kzN ?kzm ?_; (case kzN => k_asm); (case kzm => k_mem)) | (refine' tup_list ?kzF ?kzN ?kzm ?kzz ?_; (case kzF => k_asm); (case kzN => k_asm); (case kzm => k_mem); (case kzz => first | decide | kso_len); intro _ _ _ _ _; (try k_sweep))))
  k_with "binaryOp Add" => (k_here; (with_reducible show wpAny _ _ (binaryOp _ (Value.ref _) (Value.ref _)) _ _ _); k_dflt (first | (refine' tup_add0 ?kzF ?kzN ?kzm ?kzb ?kzv ?kzz ?_; (case kzF => k_asm); (case kzN => k_asm); (case kzm => k_mem); (case kzb => k_mem); (case kzv => simp); (case kzz => first | decide | kso_len)) | (refine' tup_add ?kzF ?kzN ?kzm ?kzb ?kzv ?kzy ?kzz ?kzx ?_; (case kzF => k_asm); (case kzN => k_asm); (case kzm => k_mem); (case kzb => k_mem); (case kzv => simp); (case kzy => simp); (case kzz => first | decide | kso_len); (case kzx => first | decide | kso_len); intro _ _ _ _ _; (try k_sweep))))
  k_with "subscriptTail" => (k_here; (with_reducible show wpAny _ _ (subscriptTail _ (Expr.Slice _ _ _ _) (Value.ref _) (Value.ref _)) _ _ _); k_dflt (refine' tup_slice1 ?kzF ?kzN ?kzm ?kzz ?_ ?kzs; (case kzs => with_unfolding_all rfl); (case kzF => k_asm); (case kzN => k_asm); (case kzm => k_mem); (case kzz => first | decide | kso_len)); intro _ _ _ _ _; (try k_sweep))
  k_with "compareOp In" => (k_here; (with_reducible show wpAny _ _ (compareOp CmpOp.In (Value.ref _) (Value.ref _)) _ _ _); k_dflt (refine' dh_in ?kzu ?kzN ?kzH ?kzT ?_; (case kzN => k_asm); (case kzH => ktr_rel); (case kzT => ktr_rel); (case kzu => ktr_units)); intro _; (try dsimp only))
  k_with "compareOp In" => (k_here; (with_reducible show wpAny _ _ (compareOp CmpOp.In (Value.ref _) (Value.ref _)) _ _ _); k_dflt (refine' dh_in_none ?kzu ?kzN ?kzH ?kzT ?kzK ?_; (case kzN => k_asm); (case kzH => ktr_rel); (case kzT => ktr_rel); (case kzK => with_reducible assumption); (case kzu => ktr_units)); intro _; (try dsimp only))
  k_with "setItem ref ref" => (k_here; k_dflt (refine' dh_set ?kzu ?kzF ?kzN ?kzH ?kzT ?kzz ?_; (case kzF => k_asm); (case kzN => k_asm); (case kzH => ktr_rel); (case kzT => ktr_rel); (case kzu => ktr_units); (case kzz => omega)); intro _ _ _ _ _ _; (try k_sweep))
  k_with "getMethod ref" => (k_here; (with_reducible show wpAny _ _ (getMethod (Value.ref _) (Str.ofString "setdefault") _) _ _ _); k_dflt (refine' dh_method PySem.F.slot_dict_setdefault PySem.F.type_dict_setdefault ?kzN ?kzH ?_; (case kzN => k_asm); (case kzH => ktr_rel)))
  k_with "getMethod ref" => (k_here; (with_reducible show wpAny _ _ (getMethod (Value.ref _) (Str.ofString "get") _) _ _ _); k_dflt (refine' dh_method PySem.F.slot_dict_get PySem.F.type_dict_get ?kzN ?kzH ?_; (case kzN => k_asm); (case kzH => ktr_rel)))
  k_with "getMethod ref" => (k_here; (with_reducible show wpAny _ _ (getMethod (Value.ref _) (Str.ofString "pop") _) _ _ _); k_dflt (refine' di_method PySem.F.slot_dict_pop PySem.F.type_dict_pop ?kzN ?kzH ?_; (case kzN => k_asm); (case kzH => ktr_rel)))
  k_with "k_mem" => first | with_reducible assumption | ktr_member | (refine' SetTo.it ?kys ?kya; (case kys => with_reducible assumption); (case kya => k_mem)) | (refine' SetTo.mem ?kys ?kya ?kyb; (case kys => with_reducible assumption); (case kyb => first | with_reducible assumption | exact Ne.symm (by with_reducible assumption) | (refine nen ?_; omega)); (case kya => k_mem)) | exact List.Mem.head _ | (refine' List.mem_cons_of_mem _ ?_; k_mem)
  k_with "ktr_rel" => (refine' TupIn.setTo ?kya ?kys ?kyb; (case kys => with_reducible assumption); (case kyb => first | with_reducible assumption | exact Ne.symm (by with_reducible assumption) | (refine nen ?_; omega)); (case kya => ktr_rel))
  k_with "call builtin:list.append" => (k_here; (with_reducible show wpAny _ _ (call (Value.builtin _) [Value.ref _, _]) _ _ _); k_dflt (refine' append_o ?kzF ?kzN ?kzm ?kzz ?_; (case kzF => k_asm); (case kzN => k_asm); (case kzm => k_mem); (case kzz => kso_len)); intro _ _ _ _ _; (try k_sweep))
  k_with "call builtin:list.extend" => (k_here; (with_reducible show wpAny _ _ (call (Value.builtin _) [Value.ref _, Value.ref _]) _ _ _); k_dflt (refine' extend_o ?kzF ?kzN ?kzm ?kzb ?kzz ?kzy ?_; (case kzF => k_asm); (case kzN => k_asm); (case kzm => k_mem); (case kzb => k_mem); (case kzz => kso_len); (case kzy => kso_len)); intro _ _ _ _ _ _; (try k_sweep))
  k_with "setItem ref int" => (k_here; (with_reducible show wpAny _ _ (setItem (Value.ref _) (Value.int _ _) (Value.int _ _)) _ _ _); k_dflt (refine' set_o ?kzF ?kzN ?kzm ?kzi ?kza ?kzb ?kzz ?_; (case kzF => k_asm); (case kzN => k_asm); (case kzm => k_mem); (case kzi => with_reducible assumption); (case kza => omega); (case kzb => omega); (case kzz => omega)); intro _ _ _ _ _ _; (try k_sweep))
  k_with "setItem ref ref" => (k_here; k_dflt (refine' dh_set_o ?kzu ?kzF ?kzN ?kzH ?kzT ?kzz ?_; (case kzF => k_asm); (case kzN => k_asm); (case kzH => ktr_rel); (case kzT => ktr_rel); (case kzu => ktr_units); (case kzz => omega)); intro _ _ _ _ _ _ _ _; (try k_sweep))
  k_with "subscriptTail" => (k_here; (with_reducible show wpAny _ _ (subscriptTail _ _ (Value.ref _) (Value.int 0 _)) _ _ _); k_dflt (refine' tup_item0 ?kzN ?kzm ?_ ?kzs; (case kzN => k_asm); (case kzm => k_mem); (case kzs => with_unfolding_all rfl)); k_whole)
  k_with "ktr_rel" => (refine' DI.setTo ?kya ?kys ?kyb; (case kys => with_reducible assumption); (case kyb => first | with_reducible assumption | exact Ne.symm (by with_reducible assumption) | (refine nen ?_; omega)); (case kya => ktr_rel))
  k_with "subscriptTail" => (k_here; (with_reducible show wpAny _ _ (subscriptTail _ _ (Value.ref _) (Value.int _ _)) _ _ _); k_dflt (refine' di_item ?kzN ?kzH ?kzp ?_ ?kzs; (case kzN => k_asm); (case kzH => ktr_rel); (case kzp => with_reducible assumption); (case kzs => with_unfolding_all rfl)); intro _; (try dsimp only))
  k_with "call builtin:dict.pop" => (k_here; (with_reducible show wpAny _ _ (call (Value.builtin _) [Value.ref _, Value.int _ _]) _ _ _); k_dflt (refine' di_pop_o ?kzF ?kzN ?kzH ?kzz ?kzp ?_; (case kzF => k_asm); (case kzN => k_asm); (case kzH => ktr_rel); (case kzp => with_reducible assumption); (case kzz => omega)); intro _ _ _ _ _ _ _ _; (try k_sweep))
  k_with "binaryOp Add" => (k_here; (with_reducible show wpAny _ _ (binaryOp _ (Value.ref _) (Value.ref _)) _ _ _); k_dflt (refine' list_add ?kzF ?kzN ?kzm ?kzb ?kzy ?kzz ?_; (case kzF => k_asm); (case kzN => k_asm); (case kzm => k_mem); (case kzb => k_mem); (case kzy => kso_len); (case kzz => kso_len)); intro _ _ _ _ _; (try k_sweep))
  k_with "call type:set" => (k_here; (with_reducible show wpAny _ _ (call (Value.type _) [Value.ref _]) _ _ _); k_dflt (refine' set_led_new ?kzF ?kzN ?kzhh ?kzm ?kzi ?kzz ?_; (case kzF => k_asm); (case kzN => k_asm); (case kzhh => exact rfl); (case kzm => k_mem); (case kzi => first | l_ints | exact IntsAre.nil | with_reducible assumption); (case kzz => first | decide | kso_len)); intro _ _ _ _ _ _ _ _ _ _ _; (try k_sweep))
  k_with "call builtin:sorted" => (k_here; (with_reducible show wpAny _ _ (call (Value.builtin _) [Value.ref _]) _ _ _); k_dflt (refine' sorted_set_led ?kzF ?kzN ?kzhh ?kzm ?kzS ?kzz ?_; (case kzF => k_asm); (case kzN => k_asm); (case kzhh => exact rfl); (case kzS => with_reducible assumption); (case kzm => k_mem); (case kzz => first | kso_len | ((simp only [List.length_nil] at *); omega))); intro _ _ _ _ _ _ _ _ _ _ _ _; (try k_sweep))
  k_with "ktr_rel" => first | with_reducible assumption | ((with_reducible refine UAt.cons ?_); ktr_rel)
  k_with "call ref" => (k_here; (with_reducible show wpAny _ _ (call (Value.ref 90) _) _ _ _); k_dflt (refine' con_use (usize_con _ _ _ _ _) ?kB ?kF ?kX ?kN ?kT ?kA ?kH ?kf ?kk ?kd ?ku ?hp ?_; tb_start; (case hp => ktr_rel));  intro _ _ _ _ _ _ hp'; obtain ⟨e', _, e2'⟩ := hp'; replace e' := e'.symm; subst e'; subst e2'; (try dsimp only))
  k_with "storeName" => (k_here; k_dflt (refine' store_cell_o ?kzF ?kzN ?kzc ?kzm ?kzd ?_ ?kza ?kzb; (case kza => rfl); (case kzb => rfl); (case kzF => k_asm); (case kzN => k_asm); (case kzc => rfl); (case kzm => k_mem); (case kzd => k_asm); k_whole); intro _ _ _ _ _ _ _; (try k_sweep))
  k_with "call type:range" => (k_here; (with_reducible show wpAny _ _ (call (Value.type _) [Value.int _ _]) _ _ _); k_dflt (refine' range_led ?kzF ?kzN ?_; (case kzF => k_asm); (case kzN => k_asm)); intro _ _ _ _ _ _ _ _ _; (try k_sweep))
  k_with "call ref" => (k_here; (with_reducible show wpAny _ _ (call (Value.ref 97) _) _ _ _); k_dflt (refine' con_use (find_con _ _ _ _ _ _ _ _ ?kzFO) ?kB ?kF ?kX ?kN ?kT ?kA ?kH ?kf ?kk ?kd ?ku ?hp ?_; (case kzFO => assumption); tb_start; (case hp => exact ⟨by ktr_rel, by omega, by omega⟩)); intro _ _ _ _ _ _ hp'; obtain ⟨e', _, e2'⟩ := hp'; replace e' := e'.symm; subst e'; subst e2'; (try dsimp only))
  k_with "compareOp NotEq ref ref" => refine Hold.out ?_
  k_with "compareOp Eq ref ref" => refine Hold.out ?_
  k_with "CellSrc" => refine Hold.out ?_
  k_with "subscriptTail" => (k_here; (with_reducible show wpAny _ _ (subscriptTail _ _ (Value.ref _) (Value.int _ _)) _ _ _); k_dflt (refine' ksa_sub ?kzN ?kzm ?kzi ?kza ?kzb ?kzz ?_ ?kzhs; (case kzN => k_asm); (case kzm => k_mem); (case kzi => with_reducible assumption); (case kza => first | with_reducible assumption | omega); (case kzb => first | with_reducible assumption | omega); (case kzz => omega); (case kzhs => with_unfolding_all rfl)); intro _)
  k_with "CellSrcA" => refine Hold.out ?_
  k_with "eval ListComp" => ((with_reducible show wpAny _ _ (eval (Expr.ListComp _ [⟨Expr.Name _ _, _, [_], 0⟩] _ _) _) _ _ _); k_dflt (refine LCt.ListComp_T (F₀ := by k_asm) (by with_unfolding_all rfl) (by decide) (by rfl) (by decide) (by rfl) ?_))
  k_with "k_mem" => first | with_reducible assumption | with_reducible exact List.Mem.head _ | ((with_reducible refine List.Mem.tail _ ?_); k_mem)
  k_with "subscriptTail Name Name ref int" => (k_here; (with_reducible show wpAny _ _ (subscriptTail _ _ (Value.ref _) (Value.int _ _)) _ _ _); k_dflt (refine' ksa_sub ?kzN ?kzm ?kzi ?kza ?kzb ?kzz ?_ ?kzhs; (case kzN => k_asm); (case kzm => k_mem); (case kzi => with_reducible assumption); (case kza => first | with_reducible assumption | omega); (case kzb => first | with_reducible assumption | omega); (case kzz => omega); (case kzhs => with_unfolding_all rfl)); intro _)
  k_with "call ref" => (k_here; (with_reducible show wpAny _ _ (call (Value.ref 111) _) _ _ _); k_dflt (refine' con_use (members_con _ _ _ _ _ _ _ _ ?kzFO) ?kB ?kF ?kX ?kN ?kT ?kA ?kH ?kf ?kk ?kd ?ku ?hp ?_; (case kzFO => assumption); tb_start; (case hp => exact ⟨by ktr_rel, by omega, by omega⟩)); intro _ _ _ _ _ _ hp'; obtain ⟨_, _, _, _, e', e2', _, _, _, _⟩ := hp'; subst e'; subst e2'; (try dsimp only))
  k_with "eval ListComp" => ((with_reducible show wpAny _ _ (eval (Expr.ListComp _ [⟨Expr.Name _ _, _, [], 0⟩] _ _) _) _ _ _); k_dflt (refine ListComp_3 (F₀ := by k_asm) (by with_unfolding_all rfl) (by decide) (by rfl) (by decide) (by rfl) ?_))
  k_with "call ref" => (k_here; (with_reducible show wpAny _ _ (call (Value.ref 116) _) _ _ _); refine Hold.out ?_)
  k_with "call ref" => (k_here; (with_reducible show wpAny _ _ (call (Value.ref 123) _) _ _ _); refine Hold.out ?_)
  trivial
theorem right_con {w : World} (u LA ML : Addr) (lb ns : List Int) (cs : List (List Int)) (ms : List (Int × Int)) (f1 : List Addr) (va : List Value) (na : Nat) (bs : List Addr) (nm : Nat) (fo : Forest ns lb) (lo : Lots cs lb) (hn : ns.length < 20) :
    Con w 409 [.ref u, .ref LA, .ref ML] 60 600 (fun news => UAt w u ns cs ms f1 news ∧ (LA, PySem.W.listOf va.toArray na) ∈ news ∧ IntsAre va lb ∧ (ML, PySem.W.listOf (bs.map Value.ref).toArray nm) ∈ news ∧ Tups bs ms news)
      (fun news news' r => r = .bool true ∧ ∀ p ∈ news, p ∈ news') := by
  rintro mean mg mb dp un gd env outer A₀ base h₀ L m news s Q E B F X N T hf hk hd hu ⟨U, mla, hi, mml, tps⟩ hret
  obtain ⟨du, uk1, uk2, uk3, uk4, uk5, uk6, uk7, mu1, mu2, fu1, fu2⟩ := U.inst
  have hvl := hi.length
  have hll := fo.len
  refine wpAny_call ?_
  ((refine' code_defC (binds := ([("lots", .ref u), ("labels", .ref LA), ("merges", .ref ML)])) ?k1 ?k2 ?k3 ?k4 ?k5 ?kA ?kF ?kK ?k6 ?k7 ?k8 ?k9 ?kB ?kD ?_ ?c2 ?c3 ?c4; (case kA => exact rfl); (case kF => assumption); (case kK => assumption); (case k1 => k_asm); (case k2 => k_asm); (case k3 => k_asm); (case k4 => k_asm); (case k5 => k_asm); (case k6 => k_is); (case k7 => k_is); (case k8 => first | omega | ktr_room | (dsimp only; omega)); (case k9 => exact BindsTo.of_eq rfl); (case kB => exact rfl); (case kD => decide +kernel); (case c2 => exact rfl); (case c3 => exact rfl); (case c4 => exact rfl); k_whole; intro g' L' h' tk' cells' FG' F' N' Y' B' X' T' l1; k_cells Y'; (try simp only [List.cons_append, List.nil_append] at N'); (try dsimp only); (try k_fold)))
  rename_i o1 o2 o3 d1 d2 d3
  have q1 := ltn (l1 _ mu1)
  have q2 := ltn (l1 _ mu2)
  have q3 := ltn (l1 _ mla)
  have q4 := ltn (l1 _ mml)
  dsimp only at q1 q2 q3 q4
  k_steps
  rename_i tA tkA D hD tkD t1 u1 v1 lD hS oN lS FS NS S1 dN
  have lt1 : ∀ p ∈ news, p.1 ≠ L' + 1 + 1 + 1 := fun p hp => by
    have := ltn (l1 p hp)
    refine nen ?_
    omega
  have kp1 : ∀ p ∈ news, p ∈ lS := fun p hp => S1.keep p (.tail _ (.tail _ (.tail _ (.tail _ hp)))) (lt1 p hp)
  have U1 := U.move fun p hp _ => kp1 p hp
  have mla1 := kp1 _ mla
  have mml1 := kp1 _ mml
  have mcN : (L' + 1 + 1 + 1, oN) ∈ lS := S1.self _ (.tail _ (.head _))
  have mcL : (L' + 1 + 1, o2) ∈ lS := S1.keep _ (.tail _ (.tail _ (.head _))) (nen (by show @Ne Nat (L' + 1 + 1) (L' + 1 + 1 + 1); omega))
  have mcU : (L' + 1, o3) ∈ lS := S1.keep _ (.tail _ (.tail _ (.tail _ (.head _)))) (nen (by show @Ne Nat (L' + 1) (L' + 1 + 1 + 1); omega))
  have q5 := ltn (lD _ (.head _))
  dsimp only at q5
  have mD : (D, rangeObj lb.length t1 u1 v1) ∈ lS := S1.keep _ (.head _) (nen (by show @Ne Nat D (L' + 1 + 1 + 1); omega))
  have mu11 := kp1 _ mu1
  have mu12 := kp1 _ mu2
  clear S1
  k_steps
  · exfalso
    omega
  refine Hold.done (.inl (comp_range (n := ns.length) (fun i ys l => l = lS ∧ IntsAre ys ((nums i).map fun (x : Int) => lb.getD x.toNat 0)) rfl (by k_asm) (by k_asm) (isRange_of (by k_asm) mD) (by omega) (by omega) ⟨rfl, .nil⟩ ?_ ?_))
  · rintro i t I oI C oC D2 m₂ ys l h tk E' hil ⟨rfl, hys⟩ hC hx F3 N3 off
    repeat walk1
    refine ⟨_, _, _, rfl, by k_asm, by k_asm, off, trivial, rfl, ?_⟩
    rw [nums_succ, List.map_append]
    refine hys.append ?_
    rw [show ((i : Int)).toNat = i by omega]
    exact .cons _ _ .nil
  · rintro D2 ys l h tk ⟨el, hys⟩ F3 N3 hD2
    have el2 := el.symm
    subst el2
    repeat walk1
    refine Hold.done (ne_ints_led (by k_asm) (.head _) (.tail _ mla1) hys hi (by ktr_units) ?_)
    rw [show (nums ns.length).map (fun (x : Int) => lb.getD x.toNat 0) = lb by rw [← hll]; exact nums_map lb]
    rw [show (!decide (lb = lb)) = false by simp]
    repeat walk1
    refine Assign_ListComp_cell (by k_asm) rfl (by rfl) (by with_unfolding_all rfl) rfl (by decide) (fun _ _ => by with_unfolding_all rfl) (fun _ _ => rfl) (fun _ => rfl) rfl rfl ?_
    repeat walk1
    refine Hold.done ⟨D, ns.length, t1, u1, v1, _, fun i ys l => (∀ p ∈ lS, p ∈ l) ∧ ∃ as, ys = as.map .ref ∧ Lists as ((nums i).map fun (x : Int) => ofLab lb (lb.getD x.toNat 0)) l, rfl, rfl, by k_asm, by k_asm, ?_, by omega, ?_, ?_, ?_⟩
    · rw [← hll]; exact isRange_of (by k_asm) (.tail _ mD)
    · exact ⟨fun p hp => .tail _ hp, [], rfl, rfl, fun i h => absurd h (Nat.not_lt_zero _)⟩
    · rintro i ti I C D3 K oI oC oK ys l h tk E' hil ⟨kl, as, rfl, hls⟩ dK four off F4 N4
      have mcN2 := kl _ mcN
      have mcL2 := kl _ mcL
      have mD2 := kl _ mD
      have mla2 := kl _ mla1
      repeat walk1
      refine Hold.done (compT_range (n := ns.length) (fun i' ys' l' => l' = (I, oI) :: (C, oC) :: (D3, LCg.lst (as.map Value.ref)) :: (K, oK) :: l ∧ IntsAre ys' ((nums i').filter fun x => lb.getD x.toNat 0 == lb.getD i 0)) rfl (by k_asm) (by k_asm) (isRange_of (by k_asm) (.tail _ (.tail _ (.tail _ (.tail _ mD2))))) (by omega) (by omega) ⟨rfl, .nil⟩ ?_ ?_)
      · rintro i' t' I' oI' C' oC' D' m₂' ys' l' h' tk' E'' hi' ⟨rfl, hys'⟩ hC' hx' F5 N5 off'
        have ej : ((i' : Nat) : Int).toNat = i' := by omega
        have ei : ((i : Nat) : Int).toNat = i := by omega
        k_steps
        · rename lb.getD _ _ = _ => he
          rw [ei] at he
          refine ⟨_, _, _, rfl, by k_asm, by k_asm, off', trivial, rfl, ?_⟩
          rw [nums_succ, List.filter_append]
          refine hys'.append ?_
          simp only [List.filter_cons, List.filter_nil]
          rw [if_pos (by simpa using he)]
          exact .cons _ _ .nil
        · rename lb.getD _ _ ≠ _ => he
          rw [ei] at he
          refine ⟨_, _, _, rfl, by k_asm, by k_asm, off', trivial, rfl, ?_⟩
          rw [nums_succ, List.filter_append]
          simp only [List.filter_cons, List.filter_nil]
          rw [if_neg (by simpa using he), List.append_nil]
          exact hys'
      · rintro D6 ys6 l6 h6 tk6 ⟨rfl, hys6⟩ F6 N6 hD6
        have ei : ((i : Nat) : Int).toNat = i := by omega
        refine ⟨h6, tk6, (D6, PySem.W.listOf ys6.toArray ys6.length) :: l, rfl, F6, News.sub N6 fun p hp => ?_, fun p hp => ?_, fun p hp => .tail _ (kl p hp), as ++ [D6], by simp, ?_⟩
        · simp only [List.mem_cons] at hp ⊢
          rcases hp with h | h | h | h | h | h <;> simp [h]
        · rcases List.mem_cons.mp hp with e | hp
          · rw [e]
            exact ⟨(hD6 _ (.head _)).symm, (hD6 _ (.tail _ (.head _))).symm, (hD6 _ (.tail _ (.tail _ (.head _)))).symm, (hD6 _ (.tail _ (.tail _ (.tail _ (.head _))))).symm⟩
          · exact off p hp
        · rw [nums_succ, List.map_append]
          refine hls.snoc (fun p hp => .tail _ hp) (.head _) ?_
          show IntsAre ys6 (ofLab lb (lb.getD ((i : Nat) : Int).toNat 0))
          rw [ei]
          unfold ofLab
          rw [hll]
          exact hys6
    · rintro D3 ys l h tk ⟨kl, as, rfl, hls⟩ F4 N4 hD3
      have mcN3 := kl _ mcN
      have mcL3 := kl _ mcL
      have mcU3 := kl _ mcU
      have mD3 := kl _ mD
      have mla3 := kl _ mla1
      have mml3 := kl _ mml1
      have mu13 := kl _ mu11
      have mu23 := kl _ mu12
      have U3 := U1.move (l' := l) fun p hp _ => kl p hp
      dsimp only
      repeat walk1
      refine Hold.done (.inl (comp_range (n := ns.length) (fun i ys l' => (∀ p ∈ (D3, PySem.W.listOf (as.map Value.ref).toArray (as.map Value.ref).length) :: l, p ∈ l') ∧ ∃ as2, ys = as2.map Value.ref ∧ Lists as2 ((nums i).map fun (x : Int) => ofLab lb (lb.getD x.toNat 0)) l') rfl (by k_asm) (by k_asm) (isRange_of (by k_asm) (.tail _ mD3)) (by omega) (by omega) ⟨fun p hp => hp, [], rfl, rfl, fun i h => absurd h (Nat.not_lt_zero _)⟩ ?_ ?_))
      · rintro i t I oI C oC D5 m₂ ys l5 h5 tk5 E' hil ⟨kl5, as2, rfl, hls5⟩ hC hx F5 N5 off
        have mcU5 := kl5 _ (.tail _ mcU3)
        have mu15 := kl5 _ (.tail _ mu13)
        have mu25 := kl5 _ (.tail _ mu23)
        have U5 := U3.move (l' := l5) fun p hp _ => kl5 p (.tail _ hp)
        clear mcN mcL mcU mD mla1 mml1 mu11 mu12 mcN3 mcL3 mD3 mla3 mml3 mcU3 mu13 mu23
        repeat walk1
        rename_i x1 h7 tk7 F7 D7 vs7 ns7 n7 nd7 i7 p7 s7 N7
        have ei : ((i : Nat) : Int).toNat = i := by omega
        rw [ei] at p7
        have hr := fo.root i hil
        have hg := fo.rng i hil
        have e7 := members_eq lo (r := lb.getD i 0) (by omega) (by omega) hr.2 s7 p7
        have off5 := off.mem
        show LCg.CompEnd _ _ _ _ _ _ _ _ _ _ _ _ _ _
        refine ⟨_, _, (D7, PySem.W.listOf vs7.toArray n7) :: l5, rfl, by k_asm, News.sub N7 fun p hp => ?_, LCg.Off3.of fun p hp => ?_, trivial, fun p hp => .tail _ (kl5 p hp), as2 ++ [D7], by simp, ?_⟩
        · simp only [List.mem_cons] at hp ⊢
          rcases hp with h | h | h | h | h <;> simp [h]
        · rcases List.mem_cons.mp hp with e | hp
          · rw [e]
            exact ⟨(nd7 _ (.head _)).symm, (nd7 _ (.tail _ (.head _))).symm, (nd7 _ (.tail _ (.tail _ (.head _)))).symm⟩
          · exact off5 p hp
        · rw [nums_succ, List.map_append]
          refine hls5.snoc (fun p hp => .tail _ hp) (.head _) ?_
          show IntsAre vs7 (ofLab lb (lb.getD ((i : Nat) : Int).toNat 0))
          rw [ei, ← e7]
          exact i7
      · rintro D5 ys l5 h5 tk5 ⟨kl5, as2, rfl, hls5⟩ F5 N5 hD5
        have mcN5 := kl5 _ (.tail _ mcN3)
        have mcL5 := kl5 _ (.tail _ mcL3)
        have mcU5 := kl5 _ (.tail _ mcU3)
        have mla5 := kl5 _ (.tail _ mla3)
        have mml5 := kl5 _ (.tail _ mml3)
        have mu15 := kl5 _ (.tail _ mu13)
        have mu25 := kl5 _ (.tail _ mu23)
        have mD35 := kl5 _ (.head _)
        have U5 := U3.move (l' := l5) fun p hp _ => kl5 p (.tail _ hp)
        have hls35 := hls.up (l' := l5) fun p hp => kl5 p (.tail _ hp)
        clear mcN mcL mcU mD mla1 mml1 mu11 mu12 mcN3 mcL3 mD3 mla3 mml3 mcU3 mu13 mu23
        repeat walk1
        refine Hold.done (ne_lists_led (by k_asm) (.head _) (.tail _ mD35) (hls5.up fun p hp => .tail _ hp) (hls35.up fun p hp => .tail _ hp) (by ktr_units) ?_)
        repeat (first | walk1 | (dsimp only; walk1))
        refine Hold.done ?_
        refine' con_use (classes_con u ns cs ms f1) ?kB ?kF ?kX ?kN ?kT ?kA ?kH ?kf ?kk ?kd ?ku ?hp ?_
        tb_start
        case hp => exact U5.cons
        rintro r8 h8 tk8 l8 F8 N8 ⟨D8, vs8, n8, rfl, rfl, nd8, i8⟩
        repeat (first | walk1 | (dsimp only; walk1))
        rename SetI _ _ _ _ => S9
        rename ∀ j, j ∈ _ ↔ j ∈ lb => e9
        rename List.Perm _ _ => p9
        rename List.Pairwise _ _ => o9
        rename IntsAre _ _ => i9
        have hc := classes_eq fo (by obtain ⟨_, _, _, _, _, _, _, _, q⟩ := S9; exact q) e9 o9 p9
        unfold nums at hc
        refine Hold.done (eq_ints_yes (by k_asm) (by k_mem) (.head _) i8 i9 hc.symm (by ktr_units) ?_)
        repeat (first | walk1 | (dsimp only; walk1))
        refine Hold.done ?_
        refine' con_use (log_con u ns cs ms f1) ?kB ?kF ?kX ?kN ?kT ?kA ?kH ?kf ?kk ?kd ?ku ?hp ?_
        tb_start
        case hp => exact U5.cons.cons.cons.cons
        rintro r10 h10 tk10 l10 F10 N10 ⟨D10, bs10, n10, rfl, rfl, nd10, tp10, _⟩
        repeat (first | walk1 | (dsimp only; walk1))
        have up : ∀ p ∈ news, p ∈ l5 := fun p hp => kl5 _ (.tail _ (kl _ (kp1 p hp)))
        refine Hold.done (eq_pairs_led (by k_asm) (.head _) (by k_mem) (tp10.up fun p hp => .tail _ hp) (tps.up fun p hp => by have := up p hp; repeat (first | exact this | refine List.mem_cons_of_mem _ ?_)) (by ktr_units) ?_)
        k_steps
        exact hret _ _ _ _ (by assumption) (by assumption) ⟨rfl, fun p hp => by have := up p hp; repeat (first | exact this | refine List.mem_cons_of_mem _ ?_)⟩
end
section
example : True := by
  w_top off
  k_with_none
  k_with "ktr_room" => ((try simp only [depth_under_make, depth_under_kw, depth_in1, depth_deeper, depth_caller]); (try dsimp only); first | exact room_up2 (by with_reducible assumption) rfl | exact room_up (by with_reducible assumption) rfl | exact room_0 (by with_reducible assumption) rfl | omega)
  k_with "ktr_units" => ((try simp only [units_in1, units_deeper, Around.mark_units, units_caller, units_under_make]); (try dsimp only); first | exact room_up2 (by with_reducible assumption) rfl | exact room_up (by with_reducible assumption) rfl | exact room_0 (by with_reducible assumption) rfl | omega)
  k_with "tb_start" => ((case kB => k_asm); (case kF => k_asm); (case kX => k_asm); (case kN => k_asm); (case kT => k_asm); (case kA => exact rfl); (case kH => exact rfl); (case kf => exact rfl); (case kk => exact rfl); (case kd => ktr_room); (case ku => ktr_units))
  k_with "call ref" => (k_here; (with_reducible show wpAny _ _ (call (Value.ref 97) _) _ _ _); k_dflt (refine' con_use (find_con _ _ _ _ _ _ _ _ ?kzFO) ?kB ?kF ?kX ?kN ?kT ?kA ?kH ?kf ?kk ?kd ?ku ?hp ?_; (case kzFO => assumption); (case hp => exact ⟨by assumption, by first | assumption | omega, by first | assumption | omega⟩); tb_start);  intro _ _ _ _ _ _ hp'; obtain ⟨e', _, e2'⟩ := hp'; subst e'; subst e2'; (try dsimp only))
  k_with "subscriptTail" => (k_here; (with_reducible show wpAny _ _ (subscriptTail _ _ (Value.ref _) (Value.int _ _)) _ _ _); k_dflt (refine' item_ref ?kzN ?kzm ?kzh0 ?kzhk ?kzhh ?_ ?kzhs; (case kzN => k_asm); (case kzhk => assumption); (case kzm => k_mem); (case kzh0 => omega); (case kzhh => omega); (case kzhs => with_unfolding_all rfl); k_whole))
  k_with "newList" => (k_here; k_dflt (refine' newList_led ?kzF ?kzN ?_ ?kzz; (case kzF => k_asm); (case kzN => k_asm); (case kzz => first | decide | kso_len)); intro _ _ _ _ _; (try k_sweep))
  k_with "call builtin:sorted" => (k_here; (with_reducible show wpAny _ _ (call (Value.builtin _) [Value.ref _]) _ _ _); k_dflt (with_unfolding_all refine' kso_sorted ?kzk1 ?kzk2 (is_listN ?kzk2 ?kzk3) ?kzk4 ?kzk5 ?_; (case kzk1 => k_asm); (case kzk2 => k_asm); (case kzk3 => k_mem); (case kzk4 => l_ints); (case kzk5 => omega); k_whole); intro _ _ _ _ _ _ _ _ _ _ _ _ _; (try k_sweep))
  k_with "kso_len" => first | omega | (simp only [List.length_append, List.length_map, List.length_cons, List.length_nil, List.length_set]; omega)
  k_with "call builtin:len" => (k_here; (with_reducible show wpAny _ _ (call (Value.builtin "len") [Value.ref _]) _ _ _); k_dflt (refine' len_led ?kzN ?kzm ?kzk ?kzz ?_; (case kzN => k_asm); (case kzm => k_mem); (case kzk => first | exact IntsAre.length (by with_reducible assumption) | exact List.length_map _ | ((try simp only [List.length_append, List.length_map, List.length_cons, List.length_nil, List.length_set]); exact rfl)); (case kzz => kso_len)); intro _ _)
  k_with "call builtin:list.append" => (k_here; (with_reducible show wpAny _ _ (call (Value.builtin _) [Value.ref _, _]) _ _ _); k_dflt (refine' append_led ?kzF ?kzN ?kzm ?kzz ?_; (case kzF => k_asm); (case kzN => k_asm); (case kzm => k_mem); (case kzz => kso_len)); intro _ _ _; (try k_sweep))
  k_with "call builtin:list.extend" => (k_here; (with_reducible show wpAny _ _ (call (Value.builtin _) [Value.ref _, Value.ref _]) _ _ _); k_dflt (refine' extend_led ?kzF ?kzN ?kzm ?kzb ?kzz ?kzy ?_; (case kzF => k_asm); (case kzN => k_asm); (case kzm => k_mem); (case kzb => k_mem); (case kzz => kso_len); (case kzy => kso_len)); intro _ _ _ _; (try k_sweep))
  k_with "call type:list" => (k_here; (with_reducible show wpAny _ _ (call (Value.type _) [Value.ref _]) _ _ _); k_dflt (refine' list_led ?kzF ?kzN ?kzm ?kzz ?_; (case kzF => k_asm); (case kzN => k_asm); (case kzm => k_mem); (case kzz => kso_len)); intro _ _ _ _ _ _; (try k_sweep))
  k_with "setItem ref int" => (k_here; (with_reducible show wpAny _ _ (setItem (Value.ref _) (Value.int _ _) (Value.int _ _)) _ _ _); k_dflt (refine' set_led ?kzF ?kzN ?kzm ?kzi ?kza ?kzb ?kzz ?_; (case kzF => k_asm); (case kzN => k_asm); (case kzm => k_mem); (case kzi => with_reducible assumption); (case kza => omega); (case kzb => omega); (case kzz => omega)); intro _ _ _ _; (try k_sweep))
  k_with "call builtin:sorted" => (k_here; (with_reducible show wpAny _ _ (call (Value.builtin _) [Value.ref _]) _ _ _); k_dflt (refine' sorted_two ?kzF ?kzN ?kzm ?_; (case kzF => k_asm); (case kzN => k_asm); (case kzm => k_mem)); intro _ _ _ _ _ _ _ _; (try k_sweep))
  k_with "k_mem" => first | with_reducible assumption | ktr_member | ((with_reducible refine' mem_setL_self ?kya); (case kya => k_mem)) | ((with_reducible refine' mem_setL_ne ?kya ?kyb); (case kyb => first | with_reducible assumption | exact Ne.symm (by with_reducible assumption) | omega); (case kya => k_mem)) | exact List.Mem.head _ | (refine' List.mem_cons_of_mem _ ?_; k_mem)
  k_with "newTuple" => (k_here; k_dflt (refine' newTuple_led ?kzF ?kzN ?_ ?kzz; (case kzF => k_asm); (case kzN => k_asm); (case kzz => first | decide | kso_len)); intro _ _ _ _ _; (try k_sweep))
  k_with "CompSrc" => refine Hold.out ?_
  k_with "CompSrcT" => refine Hold.out ?_
  k_with "Src3" => refine Hold.out ?_
  k_with "eval ListComp" => (k_here; (fail_if_success lct_look); k_dflt (refine ListComp_3 (F₀ := by k_asm) (by with_unfolding_all rfl) (by decide) (by rfl) (by decide) (by rfl) ?_))
  k_with "eval ListComp" => (k_here; lct_look; k_dflt (refine LCt.ListComp_T (F₀ := by k_asm) (by with_unfolding_all rfl) (by decide) (by rfl) (by decide) (by rfl) ?_))
  k_with "StrSrc" => refine Hold.out ?_
  k_with "ktr_rel" => first | with_reducible assumption | exact tupIn_s (by k_mem) | exact tupIn_si (by k_mem) | ((with_reducible refine DH.cons ?_); ktr_rel) | ((with_reducible refine DI.cons ?_); ktr_rel) | ((with_reducible refine TupIn.cons ?_); ktr_rel)
  k_with "call type:tuple" => (k_here; (with_reducible show wpAny _ _ (call (Value.type _) [Value.ref _]) _ _ _); k_dflt (first | (refine' tup_same ?kzN ?kzm ?_; (case kzN => k_asm); (case kzm => k_mem)) | (refine' tup_list ?kzF ?kzN ?kzm ?kzz ?_; (case kzF => k_asm); (case kzN => k_asm); (case kzm => k_mem); (case kzz => first | decide | kso_len); intro _ _ _ _ _; (try k_sweep))))
  k_with "binaryOp Add" => (k_here; (with_reducible show wpAny _ _ (binaryOp _ (Value.ref _) (Value.ref _)) _ _ _); k_dflt (first | (refine' tup_add0 ?kzF ?kzN ?kzm ?kzb ?kzv ?kzz ?_; (case kzF => k_asm); (case kzN => k_asm); (case kzm => k_mem); (case kzb => k_mem); (case kzv => simp); (case kzz => first | decide | kso_len)) | (refine' tup_add ?kzF ?kzN ?kzm ?kzb ?kzv ?kzy ?kzz ?kzx ?_; (case kzF => k_asm); (case kzN => k_asm); (case kzm => k_mem); (case kzb => k_mem); (case kzv => simp); (case kzy => simp); (case kzz => first | decide | kso_len); (case kzx => first | decide | kso_len); intro _ _ _ _ _; (try k_sweep))))
  k_with "subscriptTail" => (k_here; (with_reducible show wpAny _ _ (subscriptTail _ (Expr.Slice _ _ _ _) (Value.ref _) (Value.ref _)) _ _ _); k_dflt (refine' tup_slice1 ?kzF ?kzN ?kzm ?kzz ?_ ?kzs; (case kzs => with_unfolding_all rfl); (case kzF => k_asm); (case kzN => k_asm); (case kzm => k_mem); (case kzz => first | decide | kso_len)); intro _ _ _ _ _; (try k_sweep))
  k_with "compareOp In" => (k_here; (with_reducible show wpAny _ _ (compareOp CmpOp.In (Value.ref _) (Value.ref _)) _ _ _); k_dflt (refine' dh_in ?kzu ?kzN ?kzH ?kzT ?_; (case kzN => k_asm); (case kzH => ktr_rel); (case kzT => ktr_rel); (case kzu => ktr_units)); intro _; (try dsimp only))
  k_with "compareOp In" => (k_here; (with_reducible show wpAny _ _ (compareOp CmpOp.In (Value.ref _) (Value.ref _)) _ _ _); k_dflt (refine' dh_in_none ?kzu ?kzN ?kzH ?kzT ?kzK ?_; (case kzN => k_asm); (case kzH => ktr_rel); (case kzT => ktr_rel); (case kzK => with_reducible assumption); (case kzu => ktr_units)); intro _; (try dsimp only))
  k_with "setItem ref ref" => (k_here; k_dflt (refine' dh_set ?kzu ?kzF ?kzN ?kzH ?kzT ?kzz ?_; (case kzF => k_asm); (case kzN => k_asm); (case kzH => ktr_rel); (case kzT => ktr_rel); (case kzu => ktr_units); (case kzz => omega)); intro _ _ _ _ _ _; (try k_sweep))
  k_with "getMethod ref" => (k_here; (with_reducible show wpAny _ _ (getMethod (Value.ref _) (Str.ofString "setdefault") _) _ _ _); k_dflt (refine' dh_method PySem.F.slot_dict_setdefault PySem.F.type_dict_setdefault ?kzN ?kzH ?_; (case kzN => k_asm); (case kzH => ktr_rel)))
  k_with "getMethod ref" => (k_here; (with_reducible show wpAny _ _ (getMethod (Value.ref _) (Str.ofString "get") _) _ _ _); k_dflt (refine' dh_method PySem.F.slot_dict_get PySem.F.type_dict_get ?kzN ?kzH ?_; (case kzN => k_asm); (case kzH => ktr_rel)))
  k_with "getMethod ref" => (k_here; (with_reducible show wpAny _ _ (getMethod (Value.ref _) (Str.ofString "pop") _) _ _ _); k_dflt (refine' di_method PySem.F.slot_dict_pop PySem.F.type_dict_pop ?kzN ?kzH ?_; (case kzN => k_asm); (case kzH => ktr_rel)))
  k_with "k_mem" => first | with_reducible assumption | ktr_member | (refine' SetTo.it ?kys ?kya; (case kys => with_reducible assumption); (case kya => k_mem)) | (refine' SetTo.mem ?kys ?kya ?kyb; (case kys => with_reducible assumption); (case kyb => first | with_reducible assumption | exact Ne.symm (by with_reducible assumption) | (refine nen ?_; omega)); (case kya => k_mem)) | exact List.Mem.head _ | (refine' List.mem_cons_of_mem _ ?_; k_mem)
  k_with "ktr_rel" => (refine' TupIn.setTo ?kya ?kys ?kyb; (case kys => with_reducible assumption); (case kyb => first | with_reducible assumption | exact Ne.symm (by with_reducible assumption) | (refine nen ?_; omega)); (case kya => ktr_rel))
  k_with "call builtin:list.append" => (k_here; (with_reducible show wpAny _ _ (call (Value.builtin _) [Value.ref _, _]) _ _ _); k_dflt (refine' append_o ?kzF ?kzN ?kzm ?kzz ?_; (case kzF => k_asm); (case kzN => k_asm); (case kzm => k_mem); (case kzz => kso_len)); intro _ _ _ _ _; (try k_sweep))
  k_with "call builtin:list.extend" => (k_here; (with_reducible show wpAny _ _ (call (Value.builtin _) [Value.ref _, Value.ref _]) _ _ _); k_dflt (refine' extend_o ?kzF ?kzN ?kzm ?kzb ?kzz ?kzy ?_; (case kzF => k_asm); (case kzN => k_asm); (case kzm => k_mem); (case kzb => k_mem); (case kzz => kso_len); (case kzy => kso_len)); intro _ _ _ _ _ _; (try k_sweep))
  k_with "setItem ref int" => (k_here; (with_reducible show wpAny _ _ (setItem (Value.ref _) (Value.int _ _) (Value.int _ _)) _ _ _); k_dflt (refine' set_o ?kzF ?kzN ?kzm ?kzi ?kza ?kzb ?kzz ?_; (case kzF => k_asm); (case kzN => k_asm); (case kzm => k_mem); (case kzi => with_reducible assumption); (case kza => omega); (case kzb => omega); (case kzz => omega)); intro _ _ _ _ _ _; (try k_sweep))
  k_with "setItem ref ref" => (k_here; k_dflt (refine' dh_set_o ?kzu ?kzF ?kzN ?kzH ?kzT ?kzz ?_; (case kzF => k_asm); (case kzN => k_asm); (case kzH => ktr_rel); (case kzT => ktr_rel); (case kzu => ktr_units); (case kzz => omega)); intro _ _ _ _ _ _ _ _; (try k_sweep))
  k_with "subscriptTail" => (k_here; (with_reducible show wpAny _ _ (subscriptTail _ _ (Value.ref _) (Value.int 0 _)) _ _ _); k_dflt (refine' tup_item0 ?kzN ?kzm ?_ ?kzs; (case kzN => k_asm); (case kzm => k_mem); (case kzs => with_unfolding_all rfl)); k_whole)
  k_with "exec For" => (k_here; (rename Fr _ _ _ _ => lF'); k_dflt ((with_unfolding_all refine' For_invVF lF' ?kzk1 ?kzk2 ?_); (case kzk1 => exact rfl); (case kzk2 => exact rfl)); k_whole)
  k_with "pyIter ref" => ((with_reducible show wpAny _ _ (pyIter (Value.ref _)) (fun it s₂ => LoopAtV _ _ _ _ _ _ _ _ _ it s₂) _ _); refine Hold.out ?_)
  k_with "eval Name" => (k_here; name_kind "cell"; k_dflt (refine' ldCN ?kzN ?kzc ?kzm ?kzd ?_ ?kzk ?kzl ?kzb; (case kzk => rfl); (case kzl => rfl); (case kzb => decide); (case kzN => k_asm); (case kzc => exact rfl); (case kzm => k_mem); (case kzd => with_reducible assumption)); k_whole)
  k_with "storeName" => (k_here; k_dflt (refine' store_cell_o ?kzF ?kzN ?kzc ?kzm ?kzd ?_ ?kza ?kzb; (case kza => rfl); (case kzb => rfl); (case kzF => k_asm); (case kzN => k_asm); (case kzc => rfl); (case kzm => k_mem); (case kzd => k_asm); k_whole); intro _ _ _ _ _ _ _; (try k_sweep))
  k_with "call type:range" => (k_here; (with_reducible show wpAny _ _ (call (Value.type _) [Value.int _ _]) _ _ _); k_dflt (refine' range_led ?kzF ?kzN ?_; (case kzF => k_asm); (case kzN => k_asm)); intro _ _ _ _ _ _ _ _ _; (try k_sweep))
  k_with "compareOp NotEq ref ref" => refine Hold.out ?_
  k_with "eval ListComp" => ((with_reducible show wpAny _ _ (eval (Expr.ListComp _ [⟨Expr.Name _ _, _, [], 0⟩] _ _) _) _ _ _); k_dflt (refine ListComp_3 (F₀ := by k_asm) (by with_unfolding_all rfl) (by decide) (by rfl) (by decide) (by rfl) ?_))
  k_with "k_mem" => first | with_reducible assumption | with_reducible exact List.Mem.head _ | ((with_reducible refine List.Mem.tail _ ?_); k_mem)
  k_with "subscriptTail Name Name ref int" => (k_here; (with_reducible show wpAny _ _ (subscriptTail _ _ (Value.ref _) (Value.int _ _)) _ _ _); k_dflt (refine' ksa_sub ?kzN ?kzm ?kzi ?kza ?kzb ?kzz ?_ ?kzhs; (case kzN => k_asm); (case kzm => k_mem); (case kzi => with_reducible assumption); (case kza => first | with_reducible assumption | omega); (case kzb => first | with_reducible assumption | omega); (case kzz => omega); (case kzhs => with_unfolding_all rfl)); intro _)
  k_with "subscriptTail Name Constant ref int" => (k_here; refine Hold.out ?_)
  k_with "call ref" => (k_here; refine Hold.out ?_)
  k_with "omega" => lia
  trivial
theorem hide {P : Prop} (h : ∀ G : Prop, (P → G) → G) : P := h P id
structure Kept (G : Prop) : Prop where
  it : G
theorem cut_ {G P : Prop} (h : Kept G → P) (g : G) : P := h ⟨g⟩
theorem ForEnd.mkS {h₀ : Heap} {L : Addr} {Q : Flow → Shared → Prop} {J : (Str → Option Value) → Led → Prop} {I : Addr} {oI : Obj} {s₁ : Shared} {h' : Heap} {tk : Nat} {m' : Str → Option Value} {l' : Led} (F : Fr h₀ L h' m') (N : News h₀ L h' l') (hm : (I, oI) ∈ l') (hJ : ∀ l'', (∀ p ∈ l', p.1 ≠ I → p ∈ l'') → J m' l'') :
    ForEnd h₀ L J I oI s₁ Q .next { s₁ with heap := h', toks := tk } := by
  refine ForEnd.mk (l' := l'.filter fun p => decide (p.1 ≠ I)) F (News.sub N fun p hp => ?_) (fun p hp => ?_) (hJ _ fun p hp hn => ?_)
  · rcases List.mem_cons.mp hp with rfl | h
    · exact hm
    · exact (List.mem_filter.mp h).1
  · exact of_decide_eq_true (List.mem_filter.mp hp).2
  · exact List.mem_filter.mpr ⟨hp, decide_eq_true hn⟩
theorem turn_abs {M : Model} {A : Around} {E : Value → Shared → Prop} {s₀ : Shared} {T : Sem Flow} {h₀ : Heap} {L : Addr} {Q : Flow → Shared → Prop} {J : (Str → Option Value) → Led → Prop} {I : Addr} {oI : Obj} {s₁ : Shared}
    (h : ∀ K : Flow → Shared → Prop, (∀ h' tk m' l', Fr h₀ L h' m' → News h₀ L h' l' → (I, oI) ∈ l' → (∀ l'', (∀ p ∈ l', p.1 ≠ I → p ∈ l'') → J m' l'') → K .next { s₁ with heap := h', toks := tk }) → wpAny M A T K E s₀) :
    wpAny M A T (ForEnd h₀ L J I oI s₁ Q) E s₀ := h _ fun _ _ _ _ F N hm hJ => ForEnd.mkS F N hm hJ
theorem law_walk : PySem.Challenge.rw_pq0123_02.Holds := Mine.q.hd (by
  k_go0
  all_goals try k_fold
  k_steps
  rename IntsAre _ _ => hi
  rename PySem.Heap.IsList _ _ _ => hl
  rename ¬ _ < _ => hlen
  rename News _ _ _ _ => N0
  rename Fr _ _ _ _ => F0
  refine hide fun G kG => ?_
  obtain ⟨oD, oL, oP, vD, vL, vP, N1, dD, dL, dP⟩ : ∃ (o3 o2 o1 : Obj) (v3 v2 v1 : Option Value), News _ _ _ [(_, o3), (_, o2), (_, o1)] ∧ o3.data = .cell v3 ∧ o2.data = .cell v2 ∧ o1.data = .cell v1 := ⟨_, _, _, _, _, _, N0, by assumption, by assumption, by assumption⟩
  obtain ⟨m0, F1⟩ : ∃ m0, Fr _ _ _ m0 := ⟨_, F0⟩
  clear N0 F0
  refine kG ?_
  clear kG G
  refine Hold.done ?_
  refine' conB_use (pool_con _ _ _ hi (by omega)) ?kB ?kF ?kX ?kN ?kT ?kA ?kH ?kf ?kk ?kd ?ku ?hp ?hb ?_
  tb_start
  case hp => trivial
  case hb => exact hl
  rintro r1 h1 tk1 l1 F2 N2 hpost
  refine hide fun G kG => ?_
  obtain ⟨P, C, vs, cells, n, n2, tp, rfl, PI, kp, nP, nC⟩ := hpost
  have mcP := kp _ (.tail _ (.tail _ (.head _)))
  have mcL := kp _ (.tail _ (.head _))
  have mcD := kp _ (.head _)
  have nP1 := nP _ (.tail _ (.tail _ (.head _)))
  have nP2 := nP _ (.tail _ (.head _))
  have nP3 := nP _ (.head _)
  have nC1 := nC _ (.tail _ (.tail _ (.head _)))
  have nC2 := nC _ (.tail _ (.head _))
  have nC3 := nC _ (.head _)
  refine kG ?_
  clear kG G
  dsimp only at nP1 nP2 nP3 nC1 nC2 nC3
  repeat (first | walk1 | (dsimp only; walk1))
  rename SetTo _ _ _ _ => S1
  have eP : ∃ v, oP.data = .cell v := ⟨_, dP⟩
  have mcP2 := S1.self _ mcP
  have mcL2 := S1.keep _ mcL (nen (by show @Ne Nat (_ + 1 + 1) (_ + 1); omega))
  have mcD2 := S1.keep _ mcD (nen (by show @Ne Nat (_ + 1 + 1 + 1) (_ + 1); omega))
  have mP2 := S1.keep _ PI.mp nP1.symm
  have mC2 := S1.keep _ PI.mc nC1.symm
  refine Hold.done ?_
  refine' con_use (unew_con) ?kB ?kF ?kX ?kN ?kT ?kA ?kH ?kf ?kk ?kd ?ku ?hp ?_
  tb_start
  case hp => trivial
  rintro r2 h2 tk2 l2 F2 N2 hpost
  refine hide fun G kG => ?_
  obtain ⟨u, f1, rfl, U0, kpU, nU⟩ := hpost
  refine kG ?_
  clear kG G
  repeat (first | walk1 | (dsimp only; walk1))
  refine Hold.done ?_
  refine' con_use (hnew_con) ?kB ?kF ?kX ?kN ?kT ?kA ?kH ?kf ?kk ?kd ?ku ?hp ?_
  tb_start
  case hp => trivial
  rintro r3 h3 tk3 l3 F3 N3 hpost
  refine hide fun G kG => ?_
  obtain ⟨hp, b, u2, fh, fb, fu, rfl, T0, kpH, nH⟩ := hpost
  have kpA : ∀ p ∈ _, p ∈ l3 := fun p hq => kpH p (kpU p hq)
  have mcP3 := kpA _ mcP2
  have mcL3 := kpA _ mcL2
  have mcD3 := kpA _ mcD2
  have mP3 := kpA _ mP2
  have mC3 := kpA _ mC2
  refine kG ?_
  clear kG G
  repeat (first | walk1 | (dsimp only; walk1))
  rename_i LA hA lA ML hM lM D hD lD hz1 hz2 hz3 hz4 oL4 l4 S4 d4 h4 F4 N4
  rename World => w
  rename Shared => s1
  rename News _ _ _ _ => N4
  have w1 := ltn (lA _ mcP3)
  have w2 := ltn (lA _ mcL3)
  have w3 := ltn (lA _ mcD3)
  have w4 := ltn (lA _ mP3)
  have w5 := ltn (lA _ mC3)
  have w6 := ltn (lM _ (.head _))
  dsimp only at w1 w2 w3 w4 w5 w6
  have k4 : ∀ p ∈ l3, p.1 ≠ _ → p ∈ l4 := fun p hq e => S4.keep p (.tail _ (.tail _ (.tail _ hq))) e
  have f1c : ∀ a ∈ f1, ∃ o, (a, o) ∈ l3 := fun a ha => by obtain ⟨o, ho⟩ := U0.foot_in a ha; exact ⟨o, kpH _ ho⟩
  have ftc : ∀ a ∈ fh ++ fb ++ fu, (∃ o, (a, o) ∈ l3) ∧ ∀ q ∈ l2, q.1 ≠ a := fun a ha => by
    rcases List.mem_append.mp ha with ha | ha
    · rcases List.mem_append.mp ha with ha | ha
      · exact ⟨T0.h.footin a ha, nH a (.inl ha)⟩
      · exact ⟨T0.b.footin a ha, nH a (.inr (.inl ha))⟩
    · exact ⟨T0.u.foot_in a ha, nH a (.inr (.inr ha))⟩
  have T1 := T0
  rw [rootsAb_nil] at T1
  have S0 : LawS w (s1.heap.objs.size + 1) (s1.heap.objs.size + 1 + 1) (s1.heap.objs.size + 1 + 1 + 1) P C u hp b u2 ML LA 0 0 [] [] [] [] f1 (fh ++ fb ++ fu) [] 0 [] l4 := by
    refine ⟨⟨U0.move fun p hq hf => k4 p (kpH p hq) fun e => nU _ hf _ mcL2 e.symm, ⟨fh, fb, fu, T1.move fun p hq hf => k4 p hq fun e => ?_, rfl⟩, S4.keep _ (.tail _ (.tail _ (.head _))) ?_, .nil, forest_nil, lots_nil, fun a h1 h2 => ?_, fun h => ?_, fun h => ?_⟩, ⟨vs, cells, n, n2, tp, k4 _ mP3 nP2.symm, k4 _ mC3 nC2.symm, PI.ne, PI.hi, PI.pos, PI.hlen, PI.rng, PI.p0, PI.p1⟩, ⟨0, S4.keep _ (.tail _ (.head _)) ?_⟩, ⟨rfl, fun i h => absurd h (Nat.not_lt_zero _)⟩, ⟨_, k4 _ mcP3 (nen (by show @Ne Nat (_ + 1) (_ + 1 + 1); omega)), by assumption⟩, ⟨_, S4.self _ (.tail _ (.tail _ (.tail _ mcL3))), d4⟩, ⟨_, _, k4 _ mcD3 (nen (by show @Ne Nat (_ + 1 + 1 + 1) (_ + 1 + 1); omega)), dD⟩, fun a ha => ?_, ?_, fun a h => absurd h List.not_mem_nil⟩
    · have ha : p.1 ∈ fh ++ fb ++ fu := by rcases hf with h | h | h <;> simp [h]
      exact (ftc _ ha).2 _ (kpU _ mcL2) e.symm
    · exact nen (by show @Ne Nat LA (s1.heap.objs.size + 1 + 1); omega)
    · obtain ⟨o, ho⟩ := U0.foot_in a h1
      exact (ftc _ h2).2 _ ho rfl
    · obtain ⟨o, ho⟩ := f1c _ h
      exact absurd (lA _ ho) (Nat.lt_irrefl _)
    · obtain ⟨⟨o, ho⟩, _⟩ := ftc _ h
      exact absurd (lA _ ho) (Nat.lt_irrefl _)
    · exact nen (by show @Ne Nat ML (s1.heap.objs.size + 1 + 1); omega)
    · simp only [List.append_nil, List.mem_cons, List.not_mem_nil, or_false] at ha
      have old : ∀ {o}, (a, o) ∈ _ → a ∉ f1 ∧ a ∉ fh ++ fb ++ fu ∧ a ≠ LA := fun {o} hm => ⟨fun h => nU _ h _ hm rfl, fun h => (ftc _ h).2 _ (kpU _ hm) rfl, Nat.ne_of_lt (lA _ (kpA _ hm))⟩
      rcases ha with rfl | rfl | rfl | rfl | rfl | rfl
      · exact old mcP2
      · exact old mcL2
      · exact old mcD2
      · exact old mP2
      · exact old mC2
      · refine ⟨fun h => ?_, fun h => ?_, nen (by show @Ne Nat a LA; omega)⟩
        · obtain ⟨o, ho⟩ := f1c _ h
          exact absurd (lM _ (.tail _ ho)) (Nat.lt_irrefl _)
        · obtain ⟨⟨o, ho⟩, _⟩ := ftc _ h
          exact absurd (lM _ (.tail _ ho)) (Nat.lt_irrefl _)
    · have x1 := PI.ne
      simp only [List.nodup_cons, List.mem_cons, List.not_mem_nil, or_false, not_or, not_false_eq_true, List.nodup_nil, and_true]
      refine ⟨⟨nen (by omega), nen (by omega), nP1, nC1, nen (by omega)⟩, ⟨nen (by omega), nP2, nC2, nen (by omega)⟩, ⟨nP3, nC3, nen (by omega)⟩, ⟨x1, nen (by omega)⟩, nen (by omega)⟩
  refine Hold.done ?_
  refine' con_use (pull_con P C 0 vs cells n n2 tp 4 _ (by omega) (by omega) (by omega)) ?kB ?kF ?kX ?kN ?kT ?kA ?kH ?kf ?kk ?kd ?ku ?hp ?_
  tb_start
  case hp => exact ⟨k4 _ mP3 nP2.symm, k4 _ mC3 nC2.symm, PI.ne, PI.hi, PI.pos, PI.hlen, PI.rng, PI.p0, PI.p1⟩
  rintro r5 h5 tk5 l5 F5 N5 hpost
  refine hide fun G kG => ?_
  obtain ⟨v5, t5, n5, tp5, rfl, v50, v51, kp5, PI5⟩ := hpost
  have S1 := S0.pull kp5 PI5
  refine kG ?_
  clear kG G
  walk1
  walk1
  walk1
  walk1
  refine Hold.done ?_
  rename Fr _ _ _ _ => F6
  rename News _ _ _ _ => N6
  refine' for_range (n := (4 + v5).toNat) (fun i m l => (∃ lb ns cs f1 ft va na, ns.length = i ∧ LawS w (s1.heap.objs.size + 1) (s1.heap.objs.size + 1 + 1) (s1.heap.objs.size + 1 + 1 + 1) P C u hp b u2 ML LA 1 0 lb ns cs [] f1 ft va na [] l) ∧ ∃ ov, m = fun y => if y = Str.ofString "turn" then ov else if y = Str.ofString "merges" then some (Value.ref ML) else if y = Str.ofString "heap" then some (Value.ref hp) else if y = Str.ofString "lots" then some (Value.ref u) else m0 y) rfl F6 N6 (isRange_of N6 (.head _)) (by omega) (by omega) ⟨⟨_, _, _, _, _, _, _, rfl, S1.cons⟩, m0 (Str.ofString "turn"), funext fun y => by by_cases e : y = Str.ofString "turn"; (subst e; rfl); (exact (if_neg e).symm)⟩ ?_ ?_
  · rintro i ti m1 l7 h7 tk7 I oI hi ⟨⟨lb, ns, cs, f1', ft', va, na, rfl, S3⟩, ov, rfl⟩ hI F7 N7
    refine turn_abs fun K hK => ?_
    dsimp only at hK
    refine hide fun G kG => ?_
    obtain ⟨oP, kP, dP⟩ := S3.kP
    obtain ⟨oL, kL, dL⟩ := S3.kL
    refine kG ?_
    clear kG G
    repeat (first | walk1 | (dsimp only; walk1))
    refine Hold.done ?_
    refine' con_use (more_con u hp b u2 LA 0 lb ns cs [] f1' ft' va na (by omega)) ?kB ?kF ?kX ?kN ?kT ?kA ?kH ?kf ?kk ?kd ?ku ?hp ?_
    tb_start
    case hp => exact S3.law.cons
    rintro r8 h8 tk8 l8 F8 N8 hpost
    refine hide fun G kG => ?_
    obtain ⟨f2, ft2, va2, na2, rfl, H8, T8⟩ := hpost
    refine kG ?_
    clear kG G
    dsimp only
    have S4 := S3.cons.more H8 T8
    repeat (first | walk1 | (dsimp only; walk1))
    have nI1 : I ∉ f1' := fun h => by obtain ⟨o, ho⟩ := S3.law.lots.foot_in _ h; exact hI _ ho rfl
    have nI2 : I ∉ ft' := fun h => by obtain ⟨o, ho⟩ := S3.law.heap.footin _ h; exact hI _ ho rfl
    have nI3 : LA ≠ I := hI _ S3.law.labs
    refine hK _ _ _ _ F8 N8 (T8.keep _ (.head _) nI1 nI2 nI3.symm) fun l9 k9 => ⟨⟨_, _, _, _, _, _, _, by simp, S4.move fun q hq hin => k9 q hq fun e => ?_⟩, some (.int ns.length ti), funext fun y => by dsimp only; split <;> rfl⟩
    rcases hin with h | h | h | h
    · obtain ⟨o, ho⟩ := S3.foot _ h
      exact hI _ ho e
    · rcases T8.g1 _ h with h | h
      · exact nI1 (e ▸ h)
      · exact h _ (.head _) e.symm
    · rcases T8.gt _ h with h | h
      · exact nI2 (e ▸ h)
      · exact h _ (.head _) e.symm
    · exact nI3 (h.symm.trans e)
  · rintro m1 l9 h9 tk9 ⟨⟨lb, ns, cs, f1', ft', va, na, hns, S5⟩, ov, rfl⟩ F9 N9
    refine hide fun G kG => ?_
    obtain ⟨oP, kP, dP⟩ := S5.kP
    obtain ⟨oL, kL, dL⟩ := S5.kL
    refine kG ?_
    clear kG G
    repeat (first | walk1 | (dsimp only; walk1))
    refine Hold.done ?_
    refine hide fun G kG => ?_
    obtain ⟨vs1, cells1, na1, nb1, tp1, PI9⟩ := S5.pool
    refine kG ?_
    clear kG G
    refine' con_use (pull_con P C 1 vs1 cells1 na1 nb1 tp1 6 _ (by omega) (by omega) (by omega)) ?kB ?kF ?kX ?kN ?kT ?kA ?kH ?kf ?kk ?kd ?ku ?hp ?_
    tb_start
    case hp => exact PI9
    rintro ra ha tka la Fa Na hpost
    refine hide fun G kG => ?_
    obtain ⟨va1, ta1, nc1, tpa1, rfl, va0, vaM, kpa, PIa⟩ := hpost
    refine kG ?_
    clear kG G
    dsimp only
    have S6 := S5.pull kpa PIa
    clear PI9 PIa S5
    walk1
    walk1
    walk1
    walk1
    refine Hold.done ?_
    rename Fr _ _ _ _ => Fb
    rename News _ _ _ _ => Nb
    refine' for_range (n := (3 + va1).toNat) (fun i m l => (∃ LA p EE lb ns cs ms f1 ft va na bs, p ≤ 2 + 3 * (i : Int) ∧ 4 ≤ ns.length ∧ ns.length ≤ 7 + i ∧ EE ≤ i ∧ ms.length ≤ i ∧ LawS w (s1.heap.objs.size + 1) (s1.heap.objs.size + 1 + 1) (s1.heap.objs.size + 1 + 1 + 1) P C u hp b u2 ML LA p EE lb ns cs ms f1 ft va na bs l) ∧ ∃ o1 o2 o3, m = fun y => if y = Str.ofString "turn" then o1 else if y = Str.ofString "one" then o2 else if y = Str.ofString "other" then o3 else if y = Str.ofString "merges" then some (Value.ref ML) else if y = Str.ofString "heap" then some (Value.ref hp) else if y = Str.ofString "lots" then some (Value.ref u) else m0 y) rfl Fb Nb (isRange_of Nb (.head _)) (by omega) (by omega) ⟨⟨_, _, _, _, _, _, _, _, _, _, _, _, by omega, by omega, by omega, Nat.le_refl _, Nat.le_refl _, S6.cons⟩, ov, m0 (Str.ofString "one"), m0 (Str.ofString "other"), funext fun y => ?_⟩ ?_ ?_
    · by_cases e1 : y = Str.ofString "one"
      · subst e1; rfl
      · by_cases e2 : y = Str.ofString "other"
        · subst e2; rfl
        · rw [if_neg e1, if_neg e2]
    · refine' cut_ (fun rest => ?main) ?rst
      case main =>
        rintro i ti m1 l7 h7 tk7 I oI hi ⟨⟨LA, p, EE, lb, ns, cs, ms, f1', ft', va, na, bs, hp1, hn1, hn2, hE, hms, S7⟩, o1, o2, o3, rfl⟩ hI F7 N7
        refine turn_abs fun K hK => ?_
        dsimp only at hK
        refine hide fun G kG => ?_
        obtain ⟨oP, kP, dP⟩ := S7.kP
        obtain ⟨oL, kL, dL⟩ := S7.kL
        obtain ⟨oD, vD, kD, dD⟩ := S7.kD
        refine kG ?_
        clear kG G
        repeat (first | walk1 | (dsimp only; walk1))
        refine Hold.done ?_
        refine hide fun G kG => ?_
        obtain ⟨vs2, cells2, na2, nb2, tp2, PI7⟩ := S7.pool
        refine kG ?_
        clear kG G
        refine' con_use (pull_con P C p vs2 cells2 na2 nb2 tp2 4 _ (by omega) (by omega) (by omega)) ?kB ?kF ?kX ?kN ?kT ?kA ?kH ?kf ?kk ?kd ?ku ?hp ?_
        tb_start
        case hp => exact ⟨.tail _ PI7.mp, .tail _ PI7.mc, PI7.ne, PI7.hi, PI7.pos, PI7.hlen, PI7.rng, PI7.p0, PI7.p1⟩
        rintro r8 h8 tk8 l8 F8 N8 hpost
        refine hide fun G kG => ?_
        obtain ⟨v8, t8, n8, tp8, rfl, v80, v81, kp8, PI8⟩ := hpost
        refine kG ?_
        clear kG G
        dsimp only
        have S8 := S7.cons.pull kp8 PI8
        have mI8 := kp8 _ (.head _) (hI _ PI7.mp).symm
        walk1
        walk1
        walk1
        have nI1 : I ∉ f1' := fun h => by obtain ⟨o, ho⟩ := S7.law.lots.foot_in _ h; exact hI _ ho rfl
        have nI2 : I ∉ ft' := fun h => by obtain ⟨o, ho⟩ := S7.law.heap.footin _ h; exact hI _ ho rfl
        have nI3 : LA ≠ I := hI _ S7.law.labs
        have nI4 : ∀ a ∈ [s1.heap.objs.size + 1, s1.heap.objs.size + 1 + 1, s1.heap.objs.size + 1 + 1 + 1, P, C, ML] ++ bs, a ≠ I := fun a h => by obtain ⟨o, ho⟩ := S7.foot a h; exact hI _ ho
        clear PI7
        have hn3 : ns.length ≤ 7 + (i + 1) := by omega
        split
        rotate_left
        · rename_i hv8
          rw [if_neg (by decide)]
          clear PI8 kp8 S7 hn2 F7 N7 hv8 hI oP kP dP oL kL dL oD kD dD vD vs2 cells2 na2 nb2 tp2 n8 tp8
          dsimp only
          generalize tk8 + 1 = tkq
          clear tk8
          revert i ti I oI LA p EE lb ns cs ms f1' ft' va na bs o1 o2 o3 h7 tk7 K h8 tkq l8
          exact rest.it
        · obtain ⟨oP8, kP8, dP8⟩ := S8.kP
          refine hide fun G kG => ?_
          obtain ⟨oL8, kL8, dL8⟩ := S8.kL
          refine kG ?_
          clear kG G
          repeat (first | walk1 | (dsimp only; walk1))
          refine Hold.done ?_
          refine' con_use (more_con u hp b u2 LA EE lb ns cs ms f1' ft' va na (by omega)) ?kB ?kF ?kX ?kN ?kT ?kA ?kH ?kf ?kk ?kd ?ku ?hp ?_
          tb_start
          case hp => exact S8.law
          rintro r9 h9 tk9 l9 F9 N9 hpost
          refine hide fun G kG => ?_
          obtain ⟨f2, ft2, va2, na2, rfl, H9, T9⟩ := hpost
          refine kG ?_
          clear kG G
          dsimp only
          have S9 := S8.more H9 T9
          walk1
          walk1
          refine rest.it i ti h7 tk7 I oI hi LA p EE _ _ _ ms _ _ _ _ bs hp1 ?_ hE hms o1 o2 o3 K hK h9 l9 F9 N9 S9 ?_ ?_ ?_ nI3 nI4 ?_ tk9
          · simp only [List.length_append, List.length_singleton]; omega
          · exact T9.keep _ mI8 nI1 nI2 nI3.symm
          · exact fun h => (T9.g1 _ h).elim nI1 fun h => h _ mI8 rfl
          · exact fun h => (T9.gt _ h).elim nI2 fun h => h _ mI8 rfl
          · simp only [List.length_append, List.length_singleton]; omega
      case rst =>
        clear F6 N6 S1 S0 T1 T0 ftc f1c PI5 Nb S6 PI F1 N1
        intro i ti h7 tk7 I oI hi LA p EE lb ns cs ms f1' ft' va na bs hp1 hn1 hE hms o1 o2 o3 K hK h8 l8 F8 N8 S8 mI8 nI1 nI2 nI3 nI4 hn3 tk8
        refine hide fun G kG => ?_
        obtain ⟨oP, kP, dP⟩ := S8.kP
        obtain ⟨oL, kL, dL⟩ := S8.kL
        obtain ⟨oD, vD, kD, dD⟩ := S8.kD
        have hlen : lb.length = ns.length := S8.law.fo.len
        refine kG ?_
        clear kG G
        repeat (first | walk1 | (dsimp only; walk1))
        rename_i Dr hr tkr t1 u1 v1 Fr8 Nr8 lr8
        refine Hold.done (.inl (comp_range (n := 2) (fun j ys l => (∃ zs q, IntsAre ys zs ∧ zs.length = j ∧ (∀ z ∈ zs, 0 ≤ z ∧ z < (ns.length : Int)) ∧ q ≤ p + 1 + j ∧ LawS w (s1.heap.objs.size + 1) (s1.heap.objs.size + 1 + 1) (s1.heap.objs.size + 1 + 1 + 1) P C u hp b u2 ML LA q EE lb ns cs ms f1' ft' va na bs l) ∧ (I, oI) ∈ l) rfl (by k_asm) (by k_asm) (isRange_of (by k_asm) (.head _)) (by omega) (by omega) ⟨⟨[], p + 1, .nil, rfl, fun z h => absurd h List.not_mem_nil, by omega, S8.cons⟩, .tail _ mI8⟩ ?_ ?_))
        · rintro j t I2 oI2 C2 oC2 D2 m2 ys l h tk E' hj ⟨⟨zs, q, hys, hzl, hzr, hq, S9⟩, mI9⟩ hC2 hx2 F9 N9 off
          clear S8 Fr8 Nr8 lr8 kP dP kL dL kD dD
          refine hide fun G kG => ?_
          obtain ⟨oP, kP, dP⟩ := S9.kP
          obtain ⟨oL, kL, dL⟩ := S9.kL
          have mla := S9.law.labs
          have hli := S9.law.lints
          refine kG ?_
          clear kG G
          repeat (first | walk1 | (dsimp only; walk1))
          refine Hold.done ?_
          refine hide fun G kG => ?_
          obtain ⟨vs3, cells3, na3, nb3, tp3, PI9⟩ := S9.pool
          refine kG ?_
          clear kG G
          refine' con_use (pull_con P C q vs3 cells3 na3 nb3 tp3 lb.length _ (by omega) (by omega) (by omega)) ?kB ?kF ?kX ?kN ?kT ?kA ?kH ?kf ?kk ?kd ?ku ?hp ?_
          tb_start
          case hp => exact ⟨.tail _ (.tail _ (.tail _ PI9.mp)), .tail _ (.tail _ (.tail _ PI9.mc)), PI9.ne, PI9.hi, PI9.pos, PI9.hlen, PI9.rng, PI9.p0, PI9.p1⟩
          rintro rc hc tkc lc Fc Nc hpost
          refine hide fun G kG => ?_
          obtain ⟨vc, tc, nc, tpc, rfl, vc0, vcM, kpc, PIc⟩ := hpost
          refine kG ?_
          clear kG G
          dsimp only
          have S10 := S9.cons.cons.cons.pull kpc PIc
          have offm := off.mem
          have nPI := nI4 P (by simp)
          have off3 := offm _ PI9.mp
          refine CompEnd.mkS Fc Nc (kpc _ (.head _) off3.1.symm) (kpc _ (.tail _ (.head _)) off3.2.1.symm) (kpc _ (.tail _ (.tail _ (.head _))) off3.2.2.symm) fun l11 k11 => ⟨⟨zs ++ [vc], q + 1, hys.append (.cons _ _ .nil), by simp [hzl], fun z hz => ?_, by omega, S10.move fun q hq hin => ?_⟩, k11 _ (kpc _ (.tail _ (.tail _ (.tail _ mI9))) nPI.symm) (offm _ mI9).1 (offm _ mI9).2.1 (offm _ mI9).2.2⟩
          · rcases List.mem_append.mp hz with hz | hz
            · exact hzr z hz
            · rw [List.mem_singleton.mp hz]; omega
          · obtain ⟨o, ho⟩ := S9.foots _ hin
            exact k11 q hq (offm _ ho).1 (offm _ ho).2.1 (offm _ ho).2.2
        · rintro D2 ys l h tk ⟨⟨zs, q, hys, hzl, hzr, hq, S9⟩, mI9⟩ F9 N9 hD2
          clear S8 Fr8 Nr8 lr8 kP dP kL dL kD dD
          refine hide fun G kG => ?_
          obtain ⟨a, c, rfl⟩ : ∃ a c, zs = [a, c] := by
            match zs, hzl with
            | [a, c], _ => exact ⟨a, c, rfl⟩
          obtain ⟨ta, tc, rfl⟩ := ints_two hys
          obtain ⟨ha0, ha1⟩ := hzr a (.head _)
          obtain ⟨hc0, hc1⟩ := hzr c (.tail _ (.head _))
          obtain ⟨oP, kP, dP⟩ := S9.kP
          obtain ⟨oL, kL, dL⟩ := S9.kL
          obtain ⟨oD, vD, kD, dD⟩ := S9.kD
          have mla := S9.law.labs
          have hli := S9.law.lints
          have nLD : LA ≠ s1.heap.objs.size + 1 + 1 + 1 := (S9.out _ (by simp)).2.2.symm
          obtain ⟨nm, mml⟩ := S9.mer
          have htl : bs.length = ms.length := S9.tups.1
          have hbl : bs.length < 50 := by omega
          have nd := S9.nod
          refine kG ?_
          clear kG G
          simp only [List.nodup_cons, List.mem_cons, List.not_mem_nil, or_false, not_or] at nd
          refine hide fun G kG => ?_
          obtain ⟨⟨z1, z2, z3, z4, z5⟩, ⟨z6, z7, z8, z9⟩, ⟨z10, z11, z12⟩, ⟨z13, z14⟩, z15, _⟩ := nd
          have zLM : ML ≠ LA := (S9.out ML (by simp)).2.2
          obtain ⟨du, uk1, uk2, uk3, uk4, uk5, uk6, uk7, mu1, mu2, fu1, fu2⟩ := S9.law.lots.inst
          obtain ⟨dh, hk1, hk2, hk3, hk4, hk5, hk6, hk7, mh1, mh2, fh1, fh2⟩ := S9.law.heap.inst
          have off1 : ∀ x ∈ f1', x ≠ s1.heap.objs.size + 1 + 1 ∧ x ≠ s1.heap.objs.size + 1 + 1 + 1 ∧ x ≠ ML := fun x hx => ⟨fun e => (S9.out _ (by simp)).1 (e ▸ hx), fun e => (S9.out _ (by simp)).1 (e ▸ hx), fun e => (S9.out ML (by simp)).1 (e ▸ hx)⟩
          have offt : ∀ x ∈ ft', x ≠ s1.heap.objs.size + 1 + 1 ∧ x ≠ s1.heap.objs.size + 1 + 1 + 1 ∧ x ≠ ML := fun x hx => ⟨fun e => (S9.out _ (by simp)).2.1 (e ▸ hx), fun e => (S9.out _ (by simp)).2.1 (e ▸ hx), fun e => (S9.out ML (by simp)).2.1 (e ▸ hx)⟩
          obtain ⟨nu1, nu2, nu3⟩ := off1 _ fu1
          obtain ⟨nu4, nu5, nu6⟩ := off1 _ fu2
          obtain ⟨nh1, nh2, nh3⟩ := offt _ fh1
          obtain ⟨nh4, nh5, nh6⟩ := offt _ fh2
          refine kG ?_
          clear kG G
          repeat (first | walk1 | (dsimp only; walk1))
          · rename_i xh5 xo1 xl3 xS2 xd1 xu3 xu2 hne xu1 xu0 xL xh4 xlL xD1 xc xh3 xt1 xt2 xlD xD xh2 xl0 xh1 xoM xl1 xSM xdM xtk xh xl F11 N11 xSN
            refine hide fun G kG => ?_
            obtain ⟨kpl, adl, nDl, mDl, mcDl, mMl, nDc, nDM⟩ := due_led xS2 xlL xlD xl0 xSM xSN kD mml z12
            have hll := hli.length
            have mla2 := kpl _ mla nLD zLM.symm
            obtain ⟨kk, gg, hkk, hgg⟩ : ∃ kk gg : Int, Hold (kk = min (lb.getD a.toNat 0) (lb.getD c.toNat 0)) ∧ Hold (gg = max (lb.getD a.toNat 0) (lb.getD c.toNat 0)) := ⟨_, _, rfl, rfl⟩
            refine kG ?_
            clear kG G
            rw [← Hold.out hkk, ← Hold.out hgg] at mDl
            clear xS2 xlL xlD xl0 xSM xSN
            refine Hold.done (.inl (comp_list (vs := va) (k := na) (fun j ys l' => (∀ q ∈ xl, q ∈ l') ∧ IntsAre ys (relab kk gg (lb.take j))) rfl (by k_asm) (by k_asm) mla2 (by omega) ⟨fun q h => h, .nil⟩ (fun j ys l' h => h.1 _ mla2) ?_ ?_))
            · rintro j v I2 oI2 C2 oC2 D3 m2 ys l2 h2 tk2 E' hv ⟨kl2, hys2⟩ hC2 hx2 F12 N12 off
              refine hide fun G kG => ?_
              obtain ⟨tv, rfl⟩ := IntsAre.int_at hli j v hv
              have hjl : j < va.length := (List.getElem?_eq_some_iff.mp hv).1
              have mD3 := kl2 _ mDl
              have mcD3 := kl2 _ mcDl
              clear kP kL kD mla mml hys S9
              refine kG ?_
              clear kG G
              repeat (first | walk1 | (dsimp only; walk1))
              refine Hold.done (tup_item1 (by k_asm) (.tail _ (.tail _ (.tail _ mD3))) ?_)
              repeat (first | walk1 | (dsimp only; walk1))
              · rename lb.getD j 0 = _ => he
                refine Hold.done (tup_item0 (by k_asm) (.tail _ (.tail _ (.tail _ mD3))) ?_)
                refine ⟨_, _, _, rfl, by k_asm, by k_asm, off, trivial, kl2, ?_⟩
                rw [relab_take (by omega), if_pos he]
                exact hys2.append (.cons _ _ .nil)
              · rename ¬ lb.getD j 0 = _ => he
                repeat (first | walk1 | (dsimp only; walk1))
                refine ⟨_, _, _, rfl, by k_asm, by k_asm, off, trivial, kl2, ?_⟩
                rw [relab_take (by omega), if_neg he]
                exact hys2.append (.cons _ _ .nil)
            · rintro D3 ys l2 h2 tk2 ⟨kl2, hys2⟩ F12 N12 hD3
              have mcL3 := kl2 _ (kpl _ kL z6 z9)
              have mcD3 := kl2 _ mcDl
              have mu13 := kl2 _ (kpl _ mu1 nu2 nu3)
              have mu23 := kl2 _ (kpl _ mu2 nu5 nu6)
              rw [hll, List.take_length] at hys2
              repeat (first | walk1 | (dsimp only; walk1))
              rename_i xh6 oL6 lm F13 N13 S13 d13
              have kpm : ∀ q ∈ l, q.1 ≠ s1.heap.objs.size + 1 + 1 → q.1 ≠ s1.heap.objs.size + 1 + 1 + 1 → q.1 ≠ ML → q ∈ lm := fun q hq e1 e2 e3 => S13.keep _ (.tail _ (kl2 _ (kpl q hq e2 e3))) e1
              have adm : ∀ q ∈ l, ∃ o, (q.1, o) ∈ lm := fun q hq => by
                obtain ⟨o, ho⟩ := adl q hq
                exact S13.addr (p := (q.1, o)) (.tail _ (kl2 _ ho))
              have mDm := S13.keep _ (.tail _ (kl2 _ mDl)) fun e => nDl _ kL e.symm
              have nA : ∀ q ∈ l, q.1 ≠ D3 := fun q hq => by
                obtain ⟨o, ho⟩ := adl q hq
                exact hD3 (q.1, o) (kl2 _ ho)
              have mAm := S13.keep _ (.head _) (hD3 _ mcL3).symm
              have mMm := S13.keep _ (.tail _ (kl2 _ mMl)) (Ne.symm z9)
              have mLm := S13.self _ (.tail _ mcL3)
              have mDcm := S13.keep _ (.tail _ mcD3) (Ne.symm z6)
              have nI5 := nI4 (s1.heap.objs.size + 1 + 1) (by simp)
              have nI6 := nI4 (s1.heap.objs.size + 1 + 1 + 1) (by simp)
              have nI7 := nI4 ML (by simp)
              have mIm := kpm _ mI9 nI5.symm nI6.symm nI7.symm
              refine hide fun G kG => ?_
              obtain ⟨hk0, hkg, hg1, rk, rg, lk, lg⟩ := two_roots S9.law.fo ha0 ha1 hc0 hc1 hne hkk.out hgg.out
              have hsz : kk ≠ gg → (cs.getD kk.toNat []).length + (cs.getD gg.toNat []).length < 60 := fun _ => by
                have q1 := Lots.size S9.law.lo hk0 (by omega) lk
                have q2 := Lots.size S9.law.lo (by omega) (by omega) lg
                omega
              have Um : UAt w u ns cs ms f1' lm := S9.law.lots.move fun q hq e => kpm q hq (off1 _ e).1 (off1 _ e).2.1 (off1 _ e).2.2
              have Fo := S9.law.fo.merge hk0 hkg hg1 rk rg
              have Lo := S9.law.lo.merge hk0 hkg (by omega) lk lg
              clear S13 kpl adl
              refine kG ?_
              clear kG G
              refine Hold.done ?_
              refine' con_use (merge_con u ns lb cs ms f1' a c ta tc kk gg S9.law.fo hkk.out hgg.out hsz (by omega)) ?kB ?kF ?kX ?kN ?kT ?kA ?kH ?kf ?kk ?kd ?ku ?hp ?_
              tb_start
              case hp => exact ⟨Um, ⟨ha0, ha1⟩, hc0, hc1⟩
              rintro rm hm tkm ln Fm Nm hpost
              refine hide fun G kG => ?_
              obtain ⟨hkg2, _⟩ | ⟨_, Dt, tt1, tt2, nt, f1n, rfl, mDt, nDt, nDtf, Un, kUn, gUn, iUn⟩ := hpost
              · exact absurd hkg2 (by omega)
              have mDcn := kUn _ mDcm (S9.out _ (by simp)).1
              have mDn := kUn _ mDm fun h => by obtain ⟨o, ho⟩ := S9.law.lots.foot_in _ h; exact nDl _ ho rfl
              have mh1n := kUn _ (kpm _ mh1 nh1 nh2 nh3) fun h => S9.law.ap _ h fh1
              have mh2n := kUn _ (kpm _ mh2 nh4 nh5 nh6) fun h => S9.law.ap _ h fh2
              refine kG ?_
              clear kG G
              repeat (first | walk1 | (dsimp only; walk1))
              refine Hold.done (ne_tup_same (by k_asm) mDt mDn (by ktr_units) ?_)
              repeat (first | walk1 | (dsimp only; walk1))
              rename_i Dz hz Fz Nz lz
              have kn : ∀ x ∈ ft', x ∉ f1' := fun x hx h => S9.law.ap _ h hx
              refine hide fun G kG => ?_
              obtain ⟨fh9, fb9, fu9, T9, rfl⟩ := S9.law.heap
              have Tn : Trio w hp b u2 (leafN ns.length) (leafK ns.length) (rootsAb ns) [] ns.length EE ns cs ms fh9 fb9 fu9 ((Dz, tupOf #[Value.str (Str.ofString "told") tkm, Value.str (Str.ofString "m") (tkm + 1)] 0) :: ln) := T9.move fun q hq e => by
                have hm : q.1 ∈ fh9 ++ fb9 ++ fu9 := by rcases e with e | e | e <;> simp [e]
                obtain ⟨y1, y2, y3⟩ := offt _ hm
                exact .tail _ (kUn _ (kpm q hq y1 y2 y3) (kn _ hm))
              refine kG ?_
              clear kG G
              refine Hold.done ?_
              refine' con_use (hmerge_con hp b u2 (leafK ns.length) (rootsAb ns) [] ns.length EE fh9 ns lb cs ms fu9 S9.law.fo a c ta tc _ kk gg hkk.out hgg.out [] [] hsz (by omega) (by omega) (fun _ => rootsAb_at hk0 (by omega) rk) (fun _ => rootsAb_at (by omega) hg1 rg) (fun _ => ⟨by simp, by simp⟩) Tn.hu) ?kB ?kF ?kX ?kN ?kT ?kA ?kH ?kf ?kk ?kd ?ku ?hp ?_
              tb_start
              case hp => exact ⟨Tn.h, Tn.u, ⟨ha0, ha1⟩, hc0, hc1⟩
              rintro rh hh tkh lh Fh Nh hpost
              refine hide fun G kG => ?_
              obtain ⟨hkg3, _⟩ | ⟨_, rfl, fhn, fun9, Hh, Uh, dj, kph, gh, gu, ih, iu⟩ := hpost
              · exact absurd hkg3 (by omega)
              obtain ⟨HA, gH, kH⟩ := HeapAt.merged Tn Hh Uh dj kph gh gu hk0 hkg hg1 rk
              have ad2 : ∀ q ∈ lm, ∃ o, (q.1, o) ∈ (Dz, tupOf #[Value.str (Str.ofString "told") tkm, Value.str (Str.ofString "m") (tkm + 1)] 0) :: ln := fun q hq => by
                by_cases hf : q.1 ∈ f1'
                · obtain ⟨o, ho⟩ := Un.foot_in _ (iUn _ hf)
                  exact ⟨o, .tail _ ho⟩
                · exact ⟨q.2, .tail _ (kUn _ hq hf)⟩
              have S11 := LawS.merged S9 kpm adm mDm nDl mAm nA (hD3 _ (kl2 _ mDl)) hys2 (by rw [List.map_append]; exact mMm) ⟨_, mLm, d13⟩ ⟨_, _, mDcm, xdM⟩ Un.cons (fun q hq hn => .tail _ (kUn q hq hn)) gUn HA kH gH ad2 Fo Lo
              have mIh := kH _ (.tail _ (kUn _ mIm nI1)) nI2
              have mDch := kH _ (.tail _ mDcn) (S9.out _ (by simp)).2.1
              have nIf1 : I ∉ f1n := fun h => by
                rcases gUn _ h with h | h
                · exact nI1 h
                · exact h _ mIm rfl
              have nIft : I ∉ fhn ++ fb9 ++ fun9 := fun h => by
                rcases gH _ h with h | h
                · exact nI2 h
                · exact h _ (.tail _ (kUn _ mIm nI1)) rfl
              have nID := (nDl _ mI9)
              have nIA := (nA _ mI9)
              obtain ⟨oL9, kL9, dL9⟩ := S11.kL
              obtain ⟨nm9, mml9⟩ := S11.mer
              clear Tn T9 Hh Uh Un Um HA S9 mu1 mu2 mh1 mh2 mu13 mu23 mh1n mh2n kP kL kD mla mml mla2
              refine kG ?_
              clear kG G
              repeat (first | walk1 | (dsimp only; walk1))
              refine Hold.done ?_
              refine' con_use (right_con u D3 ML _ _ _ (ms ++ [(kk, gg)]) f1n ys ys.length (bs ++ [xD]) nm9 S11.law.fo S11.law.lo (by rw [List.length_set]; omega)) ?kB ?kF ?kX ?kN ?kT ?kA ?kH ?kf ?kk ?kd ?ku ?hp ?_
              tb_start
              case hp => exact ⟨S11.law.lots, S11.law.labs, S11.law.lints, mml9, S11.tups⟩
              rintro rr hr tkr lr Fr9 Nr9 hpost
              refine hide fun G kG => ?_
              obtain ⟨rfl, kr⟩ := hpost
              refine kG ?_
              clear kG G
              dsimp only
              have S13' := S11.move fun q hq _ => kr q hq
              clear S11 kL9 mml9
              repeat (first | walk1 | (dsimp only; walk1))
              refine hK _ _ _ _ Fr9 Nr9 (kr _ mIh) fun l9 k9 => ⟨⟨D3, _, _, _, _, _, _, _, _, _, _, _, ?_, ?_, ?_, ?_, ?_, S13'.move fun q hq hin => k9 q hq ?_⟩, law_map _ fun _ => rfl⟩
              · omega
              · rw [List.length_set]; exact hn1
              · rw [List.length_set]; exact hn3
              · omega
              · rw [List.length_append, List.length_singleton]; omega
              · rcases hin with h | h | h | h
                · rw [← List.append_assoc] at h
                  rcases List.mem_append.mp h with h | h
                  · exact nI4 _ h
                  · rw [List.mem_singleton.mp h]; exact nID.symm
                · exact fun e => nIf1 (e ▸ h)
                · exact fun e => nIft (e ▸ h)
                · rw [h]; exact nIA.symm
          · repeat (first | walk1 | (dsimp only; walk1))
            repeat (first | walk1 | (dsimp only; walk1))
            rename_i xh6 xo1 lm F13 N13 S13 d13 xt3 xt2 heq
            have hmm : Hold (min (lb.getD a.toNat 0) (lb.getD c.toNat 0) = max (lb.getD a.toNat 0) (lb.getD c.toNat 0)) := by
              show min _ _ = max _ _
              rw [heq, Int.min_self, Int.max_self]
            have S10 := S9.cons.setD S13 d13
            have mIm := S13.keep _ (.tail _ mI9) (nI4 (s1.heap.objs.size + 1 + 1 + 1) (by simp)).symm
            have mDcm := S13.self _ (.tail _ kD)
            clear S9 S13 mu1 mu2 mh1 mh2 kP kL kD mla mml
            refine Hold.done ?_
            refine' con_use (merge_con u ns lb cs ms f1' a c ta tc _ _ S10.law.fo rfl rfl (fun h => absurd hmm.out h) (by omega)) ?kB ?kF ?kX ?kN ?kT ?kA ?kH ?kf ?kk ?kd ?ku ?hp ?_
            tb_start
            case hp => exact ⟨S10.law.lots, ⟨ha0, ha1⟩, hc0, hc1⟩
            rintro rm hm tkm ln Fm Nm hpost
            refine hide fun G kG => ?_
            obtain ⟨_, rfl, kUn⟩ | ⟨hkg2, _⟩ := hpost
            rotate_left
            · exact absurd hmm.out hkg2
            have S12 := S10.move fun q hq _ => kUn q hq
            have mDcn := kUn _ mDcm
            obtain ⟨dh9, hk19, hk29, hk39, hk49, hk59, hk69, hk79, mh19, mh29, fh19, fh29⟩ := S12.law.heap.inst
            refine kG ?_
            clear kG G
            repeat (first | walk1 | (dsimp only; walk1))
            rename_i Dz hz Fz Nz lz
            have S12' := S12.cons (q := (Dz, tupOf #[Value.str (Str.ofString "told") tkm, Value.str (Str.ofString "m") (tkm + 1)] 0))
            refine hide fun G kG => ?_
            obtain ⟨fh9, fb9, fu9, Tn, rfl⟩ := S12'.law.heap
            refine kG ?_
            clear kG G
            refine Hold.done ?_
            refine' con_use (hmerge_con hp b u2 (leafK ns.length) (rootsAb ns) [] ns.length EE fh9 ns lb cs ms fu9 S12.law.fo a c ta tc _ _ _ rfl rfl [] [] (fun h => absurd hmm.out h) (by omega) (by omega) (fun h => absurd hmm.out h) (fun h => absurd hmm.out h) (fun _ => ⟨by simp, by simp⟩) Tn.hu) ?kB ?kF ?kX ?kN ?kT ?kA ?kH ?kf ?kk ?kd ?ku ?hp ?_
            tb_start
            case hp => exact ⟨Tn.h, Tn.u, ⟨ha0, ha1⟩, hc0, hc1⟩
            rintro rh hh tkh lh Fh Nh hpost
            refine hide fun G kG => ?_
            obtain ⟨_, rfl, Hh, Uh, kph⟩ | ⟨hkg3, _⟩ := hpost
            rotate_left
            · exact absurd hmm.out hkg3
            obtain ⟨HA, kH⟩ := HeapAt.told Tn Hh Uh kph
            have S11 := S12'.tell HA kH
            have mIh := kH _ (.tail _ (kUn _ mIm)) nI2
            have mDch := kH _ (.tail _ mDcn) (S12'.out _ (by simp)).2.1
            obtain ⟨oL9, kL9, dL9⟩ := S11.kL
            obtain ⟨nm9, mml9⟩ := S11.mer
            clear S10 S12 S12' Tn Hh Uh HA mh19 mh29
            refine kG ?_
            clear kG G
            repeat (first | walk1 | (dsimp only; walk1))
            refine Hold.done ?_
            refine' con_use (right_con u LA ML lb ns cs ms f1' va na bs nm9 S11.law.fo S11.law.lo (by omega)) ?kB ?kF ?kX ?kN ?kT ?kA ?kH ?kf ?kk ?kd ?ku ?hp ?_
            tb_start
            case hp => exact ⟨S11.law.lots, S11.law.labs, S11.law.lints, mml9, S11.tups⟩
            rintro rr hr tkr lr Fr9 Nr9 hpost
            refine hide fun G kG => ?_
            obtain ⟨rfl, kr⟩ := hpost
            refine kG ?_
            clear kG G
            dsimp only
            have S13' := S11.move fun q hq _ => kr q hq
            clear S11 kL9 mml9
            repeat (first | walk1 | (dsimp only; walk1))
            refine hK _ _ _ _ Fr9 Nr9 (kr _ mIh) fun l9 k9 => ⟨⟨LA, _, _, _, _, _, _, _, _, _, _, _, ?_, hn1, hn3, ?_, ?_, S13'.move fun q hq hin => k9 q hq ?_⟩, law_map _ fun _ => rfl⟩
            · omega
            · omega
            · omega
            · rcases hin with h | h | h | h
              · exact nI4 _ h
              · exact fun e => nI1 (e ▸ h)
              · exact fun e => nI2 (e ▸ h)
              · rw [h]; exact nI3
    · rintro m1 l h tk ⟨⟨LA, p, EE, lb, ns, cs, ms, f1', ft', va, na, bs, hp1, hn1, hn2, hE, hms, S7⟩, o1, o2, o3, rfl⟩ F7 N7
      refine hide fun G kG => ?_
      obtain ⟨du, uk1, uk2, uk3, uk4, uk5, uk6, uk7, mu1, mu2, fu1, fu2⟩ := S7.law.lots.inst
      have hlen : lb.length = ns.length := S7.law.fo.len
      refine kG ?_
      clear kG G
      repeat (first | walk1 | (dsimp only; walk1))
      refine Hold.done ?_
      refine' con_use (members_con u ns lb cs ms f1' 0 _ S7.law.fo) ?kB ?kF ?kX ?kN ?kT ?kA ?kH ?kf ?kk ?kd ?ku ?hp ?_
      tb_start
      case hp => exact ⟨S7.law.lots, by omega, by omega⟩
      rintro r8 h8 tk8 l8 F8 N8 hpost
      refine hide fun G kG => ?_
      obtain ⟨D8, v8, n8, k8, rfl, rfl, nD8, hi8, pm8, so8⟩ := hpost
      refine kG ?_
      clear kG G
      dsimp only
      have hv8 : v8.length < 100 := by
        rw [hi8.length, pm8.length_eq]
        obtain ⟨q1, q2⟩ := S7.law.fo.rng 0 (by omega)
        obtain ⟨q3, q4⟩ := S7.law.fo.root 0 (by omega)
        have := Lots.size S7.law.lo q1 (by omega) q4
        exact Nat.lt_of_le_of_lt this (by omega)
      have nu8 : u ≠ D8 := nD8 _ mu1
      have ndu8 : du ≠ D8 := nD8 _ mu2
      repeat (first | walk1 | (dsimp only; walk1))
      rename_i h9 l9 F9 N9 T9
      have S9 := S7.move fun q hq _ => T9.keep q (.tail _ hq) (nD8 q hq)
      clear S7 T9 mu1 mu2 nu8 ndu8
      refine hide fun G kG => ?_
      obtain ⟨du, uk1, uk2, uk3, uk4, uk5, uk6, uk7, mu1, mu2, fu1, fu2⟩ := S9.law.lots.inst
      refine kG ?_
      clear kG G
      refine Hold.done ?_
      refine' con_use (classes_con u ns cs ms f1') ?kB ?kF ?kX ?kN ?kT ?kA ?kH ?kf ?kk ?kd ?ku ?hp ?_
      tb_start
      case hp => exact S9.law.lots
      rintro ra ha1 tka1 la1 Fa1 Na1 hpost
      refine hide fun G kG => ?_
      obtain ⟨Da, va1', ka, rfl, rfl, nDa, hia⟩ := hpost
      refine kG ?_
      clear kG G
      dsimp only
      have hva : va1'.length < 100 := by
        rw [hia.length]
        exact Nat.lt_of_le_of_lt (List.length_filter_le _ _) (by rw [List.length_map, List.length_range]; omega)
      have nua : u ≠ Da := nDa _ mu1
      have ndua : du ≠ Da := nDa _ mu2
      repeat (first | walk1 | (dsimp only; walk1))
      rename_i hb1 lb1 Fb1 Nb1 Tb1
      have Sb := S9.move fun q hq _ => Tb1.keep q (.tail _ hq) (nDa q hq)
      clear S9 Tb1 mu1 mu2 nua ndua
      refine hide fun G kG => ?_
      obtain ⟨du, uk1, uk2, uk3, uk4, uk5, uk6, uk7, mu1, mu2, fu1, fu2⟩ := Sb.law.lots.inst
      refine kG ?_
      clear kG G
      refine Hold.done ?_
      refine' con_use (log_con u ns cs ms f1') ?kB ?kF ?kX ?kN ?kT ?kA ?kH ?kf ?kk ?kd ?ku ?hp ?_
      tb_start
      case hp => exact Sb.law.lots
      rintro rc hc1 tkc1 lc1 Fc1 Nc1 hpost
      refine hide fun G kG => ?_
      obtain ⟨Dc, bc, kc, rfl, rfl, nDc, tpc, _⟩ := hpost
      refine kG ?_
      clear kG G
      dsimp only
      have hbc : bc.length < 100 := by
        have := tpc.1
        omega
      have mDc : (Dc, PySem.W.listOf (bc.map Value.ref).toArray kc) ∈ (Dc, PySem.W.listOf (bc.map Value.ref).toArray kc) :: lb1 := .head _
      refine hide fun G kG => ?_
      obtain ⟨dh9, hk19, hk29, hk39, hk49, hk59, hk69, hk79, mh19, mh29, fh19, fh29⟩ := Sb.law.heap.inst
      have nhc : hp ≠ Dc := nDc _ mh19
      have ndhc : dh9 ≠ Dc := nDc _ mh29
      refine kG ?_
      clear kG G
      repeat (first | walk1 | (dsimp only; walk1))
      rename_i h10 l10 F10 N10 T10
      have S10 := Sb.move fun q hq _ => T10.keep q (.tail _ (.tail _ hq)) (nDc q hq)
      clear Sb T10 mu1 mu2 mh19 mh29 mDc nhc ndhc
      refine hide fun G kG => ?_
      obtain ⟨fh9, fb9, fu9, Tn, eft⟩ := S10.law.heap
      refine kG ?_
      clear kG G
      refine Hold.done ?_
      refine' con_use (settle_con hp b u2 (leafK ns.length) (rootsAb ns) ns.length EE fh9) ?kB ?kF ?kX ?kN ?kT ?kA ?kH ?kf ?kk ?kd ?ku ?hp ?_
      tb_start
      case hp => exact Tn.h
      rintro rd hd tkd ld Fd Nd hpost
      refine hide fun G kG => ?_
      obtain ⟨rfl, rfl⟩ := hpost
      refine kG ?_
      clear kG G
      dsimp only
      clear Tn eft
      refine hide fun G kG => ?_
      obtain ⟨oL9, kL9, dL9⟩ := S10.kL
      obtain ⟨nm9, mml9⟩ := S10.mer
      refine kG ?_
      clear kG G
      repeat (first | walk1 | (dsimp only; walk1))
      refine Hold.done ?_
      refine' con_use (right_con u LA ML lb ns cs ms f1' va na bs nm9 S10.law.fo S10.law.lo (by omega)) ?kB ?kF ?kX ?kN ?kT ?kA ?kH ?kf ?kk ?kd ?ku ?hp ?_
      tb_start
      case hp => exact ⟨S10.law.lots, S10.law.labs, S10.law.lints, mml9, S10.tups⟩
      rintro rr hr tkr lr Fr9 Nr9 hpost
      refine hide fun G kG => ?_
      obtain ⟨rfl, kr⟩ := hpost
      refine kG ?_
      clear kG G
      dsimp only
      have S11 := S10.move fun q hq _ => kr q hq
      clear S10 kL9 mml9
      refine hide fun G kG => ?_
      obtain ⟨oL9, kL9, dL9⟩ := S11.kL
      obtain ⟨nm9, mml9⟩ := S11.mer
      obtain ⟨dh9, hk19, hk29, hk39, hk49, hk59, hk69, hk79, mh19, mh29, fh19, fh29⟩ := S11.law.heap.inst
      refine kG ?_
      clear kG G
      repeat (first | walk1 | (dsimp only; walk1))
      refine hide fun G kG => ?_
      obtain ⟨fh9, fb9, fu9, Tn, eft⟩ := S11.law.heap
      refine kG ?_
      clear kG G
      refine Hold.done ?_
      refine' con_use (right_con u2 LA ML lb ns cs ms fu9 va na bs nm9 S11.law.fo S11.law.lo (by omega)) ?kB ?kF ?kX ?kN ?kT ?kA ?kH ?kf ?kk ?kd ?ku ?hp ?_
      tb_start
      case hp => exact ⟨Tn.u, S11.law.labs, S11.law.lints, mml9, S11.tups⟩
      rintro rs hs tks ls Fs Ns hpost
      refine hide fun G kG => ?_
      obtain ⟨rfl, ks⟩ := hpost
      refine kG ?_
      clear kG G
      dsimp only
      repeat (first | walk1 | (dsimp only; walk1))
      first | kc_close | wrow_close | (dsimp only; kc_close) | (dsimp only; wrow_close))
end
end Mine
theorem PySem.Challenge.cw_pq0123_02_holds : PySem.Challenge.rw_pq0123_02.Holds := by
  exact Mine.law_walk
