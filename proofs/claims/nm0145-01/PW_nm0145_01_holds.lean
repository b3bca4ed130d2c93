import PyProof.Rows.All
import Wide.All
import OpenK.AllK
import Wide.FinOn
import Lean
import PySem.Challenge.RW_nm0145_01
open PySem PySem.W PyProof.Rows PySem.Calls
set_option Elab.async false
set_option maxRecDepth 100000
set_option linter.unusedVariables false
set_option linter.unusedSimpArgs false
set_option compiler.extract_closed false
set_option hygiene false
set_option genInjectivity false
set_option genSizeOf false
set_option bootstrap.genMatcherCode false
namespace Mine

theorem hda.tw11958363889697601109 : True := trivial
theorem hda.tw2803550911377271895 : True := trivial
theorem hda.tw13793092939389240011 : True := trivial
theorem hda.tw11725526422893886264 : True := trivial
theorem hda.tw6605914025692202556 : True := trivial
theorem hda.tw12387793320553225204 : True := trivial
theorem hda.tw1991591795384326370 : True := trivial
theorem hda.tw5395520349997299998 : True := trivial
theorem hda.tw16574474621612224244 : True := trivial
theorem hda.tw178231279250744758 : True := trivial
theorem hda.tw3006300634904878858 : True := trivial
theorem hda.tw13714871786388456632 : True := trivial
theorem hda.tw16904523705463035103 : True := trivial
theorem hda.tw15820299493685272865 : True := trivial
theorem hda.tw9238762791529069605 : True := trivial
theorem hda.tw6644659684282044289 : True := trivial
theorem hda.tw16877963695220012424 : True := trivial
theorem hda.tw3561743719729665078 : True := trivial
theorem hda.tw13174847621464376500 : True := trivial
theorem hda.tw1135186958278111619 : True := trivial
theorem hda.tw4433776953338144667 : True := trivial
theorem hda.tw17697168223089942912 : True := trivial
theorem hda.tw1036440779448897148 : True := trivial
theorem hda.tw10755118564766595048 : True := trivial
theorem hda.tw7506274900403378796 : True := trivial
theorem hda.tw8840784383453288663 : True := trivial
theorem hda.tw13645894816635557923 : True := trivial
theorem hda.tw759613208541532055 : True := trivial
theorem hda.tw5278507352468037750 : True := trivial
theorem hda.tw17136297912814028146 : True := trivial
theorem hda.tw12201401435056263 : True := trivial
theorem hda.tw9967872862616936415 : True := trivial
theorem hda.tw17528473810312504558 : True := trivial
theorem hda.tw16256588401156563873 : True := trivial
theorem hda.tw7978607245160357548 : True := trivial
theorem hda.tw14102412685431564151 : True := trivial
theorem hda.tw17997178538015117523 : True := trivial
theorem hda.tw17831065356902443056 : True := trivial
theorem hda.tw445616926098092304 : True := trivial
theorem hda.tw1912824393255515831 : True := trivial
theorem hda.tw9437926700624296396 : True := trivial
theorem hda.tw15822111827132560712 : True := trivial
theorem hda.tw8977695989034772173 : True := trivial
theorem hda.tw4870489880796621973 : True := trivial
theorem hda.tw12138558384262462724 : True := trivial
theorem hda.tw2724232341511622470 : True := trivial
theorem hda.tw6079959749662867813 : True := trivial
theorem hda.tw13179731557175465495 : True := trivial
theorem hda.tw3469319227574801479 : True := trivial
theorem hda.tw4358391242906489356 : True := trivial
theorem hda.tw17638882486498198278 : True := trivial
theorem hda.tw13128555355831772301 : True := trivial
theorem hda.tw1397931358783087501 : True := trivial
theorem hda.tw7036163286616999127 : True := trivial
theorem hda.tw8602944108134276922 : True := trivial
theorem hda.tw6497616449388602414 : True := trivial
theorem hda.tw10912334931371131384 : True := trivial
theorem hda.tw4119131056664272621 : True := trivial
theorem hda.tw5441270097816709972 : True := trivial
theorem hda.tw632682567219675858 : True := trivial
theorem hda.tw11382412516958292572 : True := trivial
theorem hda.tw4184432317896537338 : True := trivial
theorem hda.tw5373148323881187222 : True := trivial
theorem hda.tw17372586140010174709 : True := trivial
theorem hda.tw2816773050954508238 : True := trivial
theorem hda.tw9934140721122612580 : True := trivial
theorem hda.tw7567281682043815712 : True := trivial
theorem hda.tw15964117215239470533 : True := trivial
theorem hda.tw9098498430703844080 : True := trivial
theorem hda.tw11431103599124468438 : True := trivial
theorem hda.tw876295316622025606 : True := trivial
theorem hda.tw3181466468418403386 : True := trivial
theorem hda.tw18271662997088945726 : True := trivial
theorem hda.tw9325649023763932460 : True := trivial
theorem hda.tw18020399991963874319 : True := trivial
theorem hda.tw9475758769236409021 : True := trivial
theorem hda.tw14337326757426681337 : True := trivial
theorem hda.tw7842037409312503682 : True := trivial
theorem hda.tw15156388148976362530 : True := trivial
theorem hda.tw7857616463847708148 : True := trivial
theorem hda.tw9648155295360955700 : True := trivial
theorem hda.tw822702037197639880 : True := trivial
theorem hda.tw655376731679032310 : True := trivial
theorem hda.tw11378471908449905819 : True := trivial
theorem hda.tw12403298664052421753 : True := trivial
theorem hda.tw1454526570557234737 : True := trivial
theorem hda.tw15010192715521670398 : True := trivial
theorem hda.tw16546725211761649225 : True := trivial
theorem hda.tw4606119393133404829 : True := trivial
theorem hda.tw10135195621636975342 : True := trivial
theorem hda.tw15792061665474714576 : True := trivial
theorem hda.tw16734005901834944259 : True := trivial
theorem hda.tw11194132932371831657 : True := trivial
theorem hda.tw11205601336877913849 : True := trivial
theorem hda.tw5949707799054013856 : True := trivial
theorem hda.tw12438545219839001699 : True := trivial
theorem hda.tw7380306995314339929 : True := trivial
theorem hda.tw10403082976599920636 : True := trivial
theorem hda.tw13148806110242680335 : True := trivial
theorem hda.tw2897761431212756813 : True := trivial
theorem hda.tw10362882708647299067 : True := trivial
theorem hda.tw9174597395791785519 : True := trivial
theorem hda.tw17830414479688163714 : True := trivial
theorem hda.tw7877420727032409712 : True := trivial
theorem hda.tw8291724775849650726 : True := trivial
theorem hda.tw903390326535788550 : True := trivial
theorem hda.tw6606131519460876649 : True := trivial
theorem hda.tw17092204792803429501 : True := trivial
theorem hda.tw13304887804422873761 : True := trivial
theorem hda.tw16287595909963673705 : True := trivial
theorem hda.tw11286243474049363722 : True := trivial
theorem hda.tw46756318535882560 : True := trivial
theorem hda.tw570745397082536998 : True := trivial
theorem hda.tw5369978353984016492 : True := trivial
theorem hda.tw12333887083844791867 : True := trivial
theorem hda.tw7925200370460445925 : True := trivial
theorem hda.tw14561086952037861196 : True := trivial
theorem hda.tw11049001313066454350 : True := trivial
theorem hda.tw11756434409894173880 : True := trivial
theorem hda.tw2297706947211537899 : True := trivial
theorem hda.tw17981135196182271902 : True := trivial
theorem hda.tw12096987630660413728 : True := trivial
theorem hda.tw734169593045343932 : True := trivial
theorem hda.tw7985929086704085116 : True := trivial
theorem hda.tw14096862807522929185 : True := trivial
theorem hda.tw694142414724265802 : True := trivial
theorem hda.tw6373509604325515587 : True := trivial
theorem hda.tw8376452102948326237 : True := trivial
theorem hda.tw10379359386133920705 : True := trivial
theorem hda.tw12603464188569771947 : True := trivial
theorem hda.tw9833587803985211742 : True := trivial
theorem hda.tw18111977938923062892 : True := trivial
theorem hda.tw15257004970025425038 : True := trivial
theorem hda.tw15488156945859094737 : True := trivial
theorem hda.tw13061693278501867650 : True := trivial
theorem hda.tw13462254450384831226 : True := trivial
theorem hda.tw3589899475212766457 : True := trivial
theorem hda.tw12405839087095342038 : True := trivial
theorem hda.tw2875051395802394366 : True := trivial
theorem hda.tw1484611287369247203 : True := trivial
theorem hda.tw13527646731107517107 : True := trivial
theorem hda.tw2221460206498964152 : True := trivial
theorem hda.tw13466252650735373672 : True := trivial
theorem hda.tw14340861434337062594 : True := trivial
theorem hda.tw11688630328234148238 : True := trivial
theorem hda.tw4395635909353064954 : True := trivial
theorem hda.tw11365220392654130827 : True := trivial
theorem hda.tw17960541275123972908 : True := trivial
theorem hda.tw6047018587706654387 : True := trivial
theorem hda.tw2599704968895182850 : True := trivial
theorem hda.tw18436222911132310955 : True := trivial
theorem hda.tw15996419814490185479 : True := trivial
theorem hda.tw3506472452389704515 : True := trivial
theorem hda.tw11457615715003562239 : True := trivial
theorem hda.tw1852296004146784959 : True := trivial
theorem hda.tw13479272387284612543 : True := trivial
theorem hda.tw991774385270222255 : True := trivial
theorem hda.tw12787629118260690499 : True := trivial
theorem hda.tw1415307513259407620 : True := trivial
theorem hda.tw8985113958104619413 : True := trivial
theorem hda.tw15844576675024689675 : True := trivial
theorem hda.tw9478419909985282060 : True := trivial
theorem hda.tw776432698781045935 : True := trivial
theorem hda.tw3241229505340723933 : True := trivial
theorem hda.tw3700151933932265806 : True := trivial
theorem hda.tw10719144651373943311 : True := trivial
theorem hda.tw18384019903081384567 : True := trivial
theorem hda.tw14437327702572009010 : True := trivial
theorem hda.tw17180720660460491030 : True := trivial
theorem hda.tw12408059527888500973 : True := trivial
theorem hda.tw12789844649581793819 : True := trivial
theorem hda.tw14481269185524804122 : True := trivial
theorem hda.tw7617919611506237901 : True := trivial
theorem hda.tw620633084835861454 : True := trivial
theorem hda.tw12719190275736818951 : True := trivial
theorem hda.tw11234417236131641395 : True := trivial
theorem hda.tw6227043453475034216 : True := trivial
theorem hda.tw1204521773075477315 : True := trivial
theorem hda.tw4531297005549838988 : True := trivial
theorem hda.tw10055637931091748217 : True := trivial
theorem hda.tw12736249923978311380 : True := trivial
theorem hda.tw12802356032997706593 : True := trivial
theorem hda.tw3141320645970232934 : True := trivial
theorem hda.tw3481844831498214244 : True := trivial
theorem hda.tw1120522927730618673 : True := trivial
theorem hda.tw2364946265117347229 : True := trivial
theorem hda.tw4603650299019682531 : True := trivial
theorem hda.tw12810777928647776409 : True := trivial
theorem hda.tw15428327182658878574 : True := trivial
theorem hda.tw1179543833388894852 : True := trivial
theorem hda.tw17640125028533580605 : True := trivial
theorem hda.tw16680554833662063923 : True := trivial
theorem hda.tw13948832173222081182 : True := trivial
theorem hda.tw15533217617734287957 : True := trivial
theorem hda.tw8599815664315829305 : True := trivial
theorem hda.tw9353871337885987918 : True := trivial
theorem hda.tw8756253606261536789 : True := trivial
theorem hda.tw2100203729197174112 : True := trivial
theorem hda.tw4552590450837677743 : True := trivial
theorem hda.tw12982987034658520211 : True := trivial
theorem hda.tw15628077662612174733 : True := trivial
theorem hda.tw4131775598584141511 : True := trivial
theorem hda.tw10213876835339950124 : True := trivial
theorem hda.tw13789736668250330359 : True := trivial
theorem hda.tw12634840448781237252 : True := trivial
theorem hda.tw12647141681863764283 : True := trivial
theorem hda.tw889621532744747458 : True := trivial
theorem hda.tw4537402954793589940 : True := trivial
theorem hda.tw16225118363453901419 : True := trivial
theorem hda.tw4515505178995702167 : True := trivial
theorem hda.tw6796906430450918332 : True := trivial
theorem hda.tw7994368001581233639 : True := trivial
theorem hda.tw12054585467293021842 : True := trivial
theorem hda.tw9473224708969231369 : True := trivial
theorem hda.tw12507778764994478146 : True := trivial
theorem hda.tw9923528251646832938 : True := trivial
theorem hda.tw12485558446749321975 : True := trivial
theorem hda.tw12959968187986038870 : True := trivial
theorem hda.tw8108303901331604096 : True := trivial
theorem hda.tw7776262590043529712 : True := trivial
theorem hda.tw16545208037430640037 : True := trivial
theorem hda.tw408294024664406849 : True := trivial
theorem hda.tw14324204320952586027 : True := trivial
theorem hda.tw5886237133542014870 : True := trivial
theorem hda.tw4063983253474074810 : True := trivial
theorem hda.tw4442187715432813719 : True := trivial
theorem hda.tw2137716474134580820 : True := trivial
theorem hda.tw17147242264849040396 : True := trivial
theorem hda.tw1357655145382547884 : True := trivial
theorem hda.tw8999265561234638862 : True := trivial
theorem hda.tw9651109883721450351 : True := trivial
theorem hda.tw12914241841056794500 : True := trivial
theorem hda.tw8649573788395852404 : True := trivial
theorem hda.tw11056010321261976968 : True := trivial
theorem hda.tw16195510613204569778 : True := trivial
theorem hda.tw4248803692697521852 : True := trivial
theorem hda.tw12749306029128468498 : True := trivial
theorem hda.tw3003086683908234770 : True := trivial
theorem hda.tw16939508442161562538 : True := trivial
theorem hda.tw10354085874471990769 : True := trivial
theorem hda.tw3927259246695102367 : True := trivial
theorem hda.tw1853591622485736177 : True := trivial
theorem hda.tw9095522672565021317 : True := trivial
theorem hda.tw14422374716386250510 : True := trivial
theorem hda.tw7991250213818253707 : True := trivial
theorem hda.tw1474255319294972961 : True := trivial
theorem hda.tw10230201554197045466 : True := trivial
theorem hda.tw15425985783063786670 : True := trivial
theorem hda.tw10071856207078867301 : True := trivial
theorem hda.tw8074130866917267086 : True := trivial
theorem hda.tw9328062805792813433 : True := trivial
theorem hda.tw11168819648808017480 : True := trivial
theorem hda.tw13838106540443250953 : True := trivial
theorem hda.tw3605100217119330153 : True := trivial
theorem hda.tw5224943261688064037 : True := trivial
theorem hda.tw17118469806331066580 : True := trivial
theorem hda.tw18052455855295729920 : True := trivial
theorem hda.tw17220206465575608009 : True := trivial
theorem hda.tw10977700164157302871 : True := trivial
theorem hda.tw9236400918358052451 : True := trivial
theorem hda.tw14964212682881419899 : True := trivial
theorem hda.tw11455553598939264317 : True := trivial
theorem hda.tw14492171806653762542 : True := trivial
theorem hda.tw17161887157914652112 : True := trivial
theorem hda.tw726256005582191813 : True := trivial
theorem hda.tw17882473313673954512 : True := trivial
theorem hda.tw954796225129868880 : True := trivial
theorem hda.tw9070021839551491058 : True := trivial
theorem hda.tw730408622263355653 : True := trivial
theorem hda.tw7364591545258839654 : True := trivial
theorem hda.tw4326771194065949388 : True := trivial
theorem hda.tw3713841797122244010 : True := trivial
theorem hda.tw14247657326713274224 : True := trivial
theorem hda.tw10871288370263910287 : True := trivial
theorem hda.tw7588755019305885459 : True := trivial
theorem hda.tw7202580957913691134 : True := trivial
theorem hda.tw9730674892409419189 : True := trivial
theorem hda.tw12194382922975027954 : True := trivial
theorem hda.tw16779016821250350819 : True := trivial
theorem hda.tw11966971473072677075 : True := trivial
theorem hda.tw12932248319492170508 : True := trivial
theorem hda.tw8337778620856419750 : True := trivial
theorem hda.tw14632000930973341289 : True := trivial
theorem hda.tw11616530158680007097 : True := trivial
theorem hda.tw54205791398929427 : True := trivial
theorem hda.tw7084261418320353176 : True := trivial
theorem hda.tw11464051309563619151 : True := trivial
theorem hda.tw11842050963055292585 : True := trivial
theorem hda.tw17150261827067868237 : True := trivial
theorem hda.tw13467197562434866343 : True := trivial
theorem hda.tw11411376791897692021 : True := trivial
theorem hda.tw16983015324469838160 : True := trivial
theorem hda.tw6204946798603457240 : True := trivial
theorem hda.tw13710433858654602125 : True := trivial
theorem hda.tw14188279813468210640 : True := trivial
theorem hda.tw13757519535656721124 : True := trivial
theorem hda.tw1186661889751603503 : True := trivial
theorem hda.tw14273547174246440046 : True := trivial
theorem hda.tw7750142418193762260 : True := trivial
theorem hda.tw12965299508731448794 : True := trivial
theorem hda.tw35013720127234272 : True := trivial
theorem hda.tw5509542126276899131 : True := trivial
theorem hda.tw2602847479025523302 : True := trivial
theorem hda.tw5468105710384877564 : True := trivial
theorem hda.tw5590650723349375993 : True := trivial
theorem hda.tw5389496026551428477 : True := trivial
theorem hda.tw12848908199733871930 : True := trivial
theorem hda.tw447250095123665273 : True := trivial
theorem hda.tw16919345887008932621 : True := trivial
theorem hda.tw8686958234747636193 : True := trivial
theorem hda.tw1792304242109503329 : True := trivial
theorem hda.tw10396746602021597841 : True := trivial
theorem hda.tw15897684844668532029 : True := trivial
theorem hda.tw9255137454474948877 : True := trivial
theorem hda.tw7604560213776628798 : True := trivial
theorem hda.tw4167737330878479508 : True := trivial
theorem hda.tw14313867380695618362 : True := trivial
theorem hda.tw10036148933772637450 : True := trivial
theorem hda.tw8879973286827898755 : True := trivial
theorem hda.tw5199772008964678304 : True := trivial
theorem hda.tw4864002790579559469 : True := trivial
theorem hda.tw17541413751595370555 : True := trivial
theorem hda.tw12967875453739501014 : True := trivial
theorem hda.tw14830960498219625173 : True := trivial
theorem hda.tw2259122410223327319 : True := trivial
theorem hda.tw11038905181812802597 : True := trivial
theorem hda.tw18412776597105905086 : True := trivial
theorem hda.tw205988512579504340 : True := trivial
theorem hda.tw6442527125609780634 : True := trivial
theorem hda.tw14593410238915825074 : True := trivial
theorem hda.tw15579171929360678289 : True := trivial
theorem hda.tw1302061777837147411 : True := trivial
theorem hda.tw9082249468322512179 : True := trivial
theorem hda.tw9125351067096282147 : True := trivial
theorem hda.tw12250838244116681285 : True := trivial
theorem hda.tw1286224305909260562 : True := trivial
theorem hda.tw7521097614128818345 : True := trivial
theorem hda.tw15835336052100710580 : True := trivial
theorem hda.tw7193345324979266201 : True := trivial
theorem hda.tw16054390663426605847 : True := trivial
theorem hda.tw15975823105406046353 : True := trivial
theorem hda.tw10466053860155170133 : True := trivial
theorem hda.tw9179613937048357771 : True := trivial
theorem hda.tw12971287805083392132 : True := trivial
theorem hda.tw13009192251650085663 : True := trivial
theorem hda.tw6776395427281078347 : True := trivial
theorem hda.tw4544390740648904068 : True := trivial
theorem hda.tw11596025835199735706 : True := trivial
theorem hda.tw3148980003512912349 : True := trivial
theorem hda.tw7461724469870883686 : True := trivial
theorem hda.tw17227362941748870163 : True := trivial
theorem hda.tw5716599963760297681 : True := trivial
theorem hda.tw14759970876933800639 : True := trivial
theorem hda.tw16465642164337598813 : True := trivial
theorem hda.tw9174604004522727707 : True := trivial
theorem hda.tw16366203405340675074 : True := trivial
theorem hda.tw15131846964880433630 : True := trivial
theorem hda.tw1680078705978408332 : True := trivial
theorem hda.tw12445400056171211449 : True := trivial
theorem hda.tw17407080123706512953 : True := trivial
theorem hda.tw2006786541101490977 : True := trivial
theorem hda.tw1074826623305405834 : True := trivial
theorem hda.tw9560671396050767941 : True := trivial
theorem hda.tw5778429463187704729 : True := trivial
theorem hda.tw18298872956719695762 : True := trivial
theorem hda.tw4963915825105472637 : True := trivial
theorem hda.tw461383934411098155 : True := trivial
theorem hda.tw16814822673607448742 : True := trivial
theorem hda.tw13546020015964080859 : True := trivial
theorem hda.tw5868360700563847380 : True := trivial
theorem hda.tw883113176039234196 : True := trivial
theorem hda.tw12972726331059680351 : True := trivial
theorem hda.tw1241730505589496302 : True := trivial
theorem hda.tw725750613753991664 : True := trivial
theorem hda.tw17729661990741652571 : True := trivial
theorem hda.tw775905993920115649 : True := trivial
theorem hda.tw18383418979422963051 : True := trivial
theorem hda.tw3545164728114835970 : True := trivial
theorem hda.tw12617147023695078882 : True := trivial
theorem hda.tw376382204616439182 : True := trivial
theorem hda.tw12579456220433295879 : True := trivial
theorem hda.tw2514693603780839425 : True := trivial
theorem hda.tw17002434389828113882 : True := trivial
theorem hda.tw9975466564013731669 : True := trivial
theorem hda.tw14551594085240914373 : True := trivial
theorem hda.tw15448054003540569581 : True := trivial
theorem hda.tw13298208640985167271 : True := trivial
theorem hda.tw13428033039073821489 : True := trivial
theorem hda.tw11982034866881303419 : True := trivial
theorem hda.tw11501777831131449898 : True := trivial
theorem hda.tw6349484070479515257 : True := trivial
theorem hda.tw14821182567224578817 : True := trivial
theorem hda.tw10861924056617592643 : True := trivial
theorem hda.tw8272500531154460031 : True := trivial
theorem hda.tw11466803467286445527 : True := trivial
theorem hda.tw754350297796794013 : True := trivial
theorem hda.tw4658350092898856945 : True := trivial
theorem hda.tw7460167844031876701 : True := trivial
theorem hda.tw15030212152911609179 : True := trivial
theorem hda.tw14423716987882796587 : True := trivial
theorem hda.tw3859362217231356845 : True := trivial
theorem hda.tw17865602204547128135 : True := trivial
theorem hda.tw17256960581382684487 : True := trivial
theorem hda.tw10140116866982346702 : True := trivial
theorem hda.tw10380076319993214937 : True := trivial
theorem hda.tw8155968027312173791 : True := trivial
theorem hda.tw13829887638831267643 : True := trivial
theorem hda.tw6586871547505108223 : True := trivial
theorem hda.tw16582950089451633205 : True := trivial
theorem hda.tw15582285156229516477 : True := trivial
theorem hda.tw11859785189798740136 : True := trivial
theorem hda.tw95519424476243979 : True := trivial
theorem hda.tw15822676941237197931 : True := trivial
theorem hda.tw8636798655081995236 : True := trivial
theorem hda.tw13579913218281105213 : True := trivial
theorem hda.tw16082668584781400737 : True := trivial
theorem hda.tw6290693005675397317 : True := trivial
theorem hda.tw4057160001994844981 : True := trivial
theorem hda.tw12096870581582344875 : True := trivial
theorem hda.tw7075935959785544185 : True := trivial
theorem hda.tw16984350098250715789 : True := trivial
theorem hda.tw9333639131133935863 : True := trivial
theorem hda.tw10139914968472089567 : True := trivial
theorem hda.tw10715310158324012531 : True := trivial
theorem hda.tw6763702288691845875 : True := trivial
theorem hda.tw15396843471044590545 : True := trivial
theorem hda.tw8706623791023728691 : True := trivial
theorem hda.tw9496842973163358083 : True := trivial
theorem hda.tw3181420769907363781 : True := trivial
theorem hda.tw14558519733388524825 : True := trivial
theorem hda.tw6927110956367636775 : True := trivial
theorem hda.tw5426389925578265692 : True := trivial
theorem hda.tw1498993994419332296 : True := trivial
theorem hda.tw17837758702709806372 : True := trivial
theorem hda.tw11150400602352936973 : True := trivial
theorem hda.tw16284392406597773669 : True := trivial
theorem hda.tw1729756610659389880 : True := trivial
theorem hda.tw14615917731012679202 : True := trivial
theorem hda.tw5722355547638784137 : True := trivial
theorem hda.tw13793273909974531342 : True := trivial
theorem hda.tw9321166024447882871 : True := trivial
theorem hda.tw12933659081643304524 : True := trivial
theorem hda.tw14495530718794370439 : True := trivial
theorem hda.tw6960714897141733019 : True := trivial
theorem hda.tw14445080194951181019 : True := trivial
theorem hda.tw11853349189154603844 : True := trivial
theorem hda.tw15881263090228962009 : True := trivial
theorem hda.tw619178856639003297 : True := trivial
theorem hda.tw5515371941657751679 : True := trivial
theorem hda.tw7263162780725561646 : True := trivial
theorem hda.tw11003671252179346586 : True := trivial
theorem hda.tw4794898819951816780 : True := trivial
theorem hda.tw5160435580402060938 : True := trivial
theorem hda.tw11255588324445203830 : True := trivial
theorem hda.tw5998135178604726310 : True := trivial
theorem hda.tw841880776778033862 : True := trivial
theorem hda.tw3053061916762527676 : True := trivial
theorem hda.tw2859241081798997156 : True := trivial
theorem hda.tw4778681292455558732 : True := trivial
theorem hda.tw8441876996460727190 : True := trivial
theorem hda.tw4564806314527257659 : True := trivial
theorem hda.tw1844013033561872319 : True := trivial
theorem hda.tw14487720587548496119 : True := trivial
theorem hda.tw661323264102296315 : True := trivial
theorem hda.tw11030666088175346512 : True := trivial
theorem hda.tw2242930940917157259 : True := trivial
theorem hda.tw10721087792291291220 : True := trivial
theorem hda.tw7316764954154628700 : True := trivial
theorem hda.tw11180072919030489237 : True := trivial
theorem hda.tw6295683477293920778 : True := trivial
theorem hda.tw12600161333620224811 : True := trivial
theorem hda.tw11300949865428260856 : True := trivial
theorem hda.tw10436362848499289508 : True := trivial
theorem hda.tw12192527031115595931 : True := trivial
theorem hda.tw11326931954931261992 : True := trivial
theorem hda.tw9196335781165073377 : True := trivial
theorem hda.tw9793936264698507321 : True := trivial
theorem hda.tw2223822103950897213 : True := trivial
theorem hda.tw7077250891504372191 : True := trivial
theorem hda.tw16337776796822019208 : True := trivial
theorem hda.tw6189874703301476657 : True := trivial
theorem hda.tw5416643235825436290 : True := trivial
theorem hda.tw11420480075037373427 : True := trivial
theorem hda.tw12624126088367892405 : True := trivial
theorem hda.tw11969372033538724179 : True := trivial
theorem hda.tw17773718384830720430 : True := trivial
theorem hda.tw18443073121971975780 : True := trivial
theorem hda.tw11309722160265645715 : True := trivial
theorem hda.tw13612038155963929537 : True := trivial
theorem hda.tw15840126918373275457 : True := trivial
theorem hda.tw8563749978372642265 : True := trivial
theorem hda.tw14544107072765483014 : True := trivial
theorem hda.tw9438021089988661251 : True := trivial
theorem hda.tw17667038145650376339 : True := trivial
theorem hda.tw10222352979786334723 : True := trivial
theorem hda.tw7795790449556642662 : True := trivial
theorem hda.tw11136309921524197788 : True := trivial
theorem hda.tw7303482202662030751 : True := trivial
theorem hda.tw17543939836938652645 : True := trivial
theorem hda.tw2501376507197861488 : True := trivial
theorem hda.tw4432412392254599451 : True := trivial
theorem hda.tw9063761862451476677 : True := trivial
theorem hda.tw8820142084959348384 : True := trivial
theorem hda.tw18310071493559077909 : True := trivial
theorem hda.tw6344431110110107588 : True := trivial
theorem hda.tw12897778302524052325 : True := trivial
theorem hda.tw7487878557860702395 : True := trivial
theorem hda.tw14547902606715468202 : True := trivial
theorem hda.tw1511317286489275497 : True := trivial
theorem hda.tw13077594079717954171 : True := trivial
theorem hda.tw16493046378764636631 : True := trivial
theorem hda.tw9911693215677168972 : True := trivial
theorem hda.tw16648019807773798669 : True := trivial
theorem hda.tw4253675895468314820 : True := trivial
theorem hda.tw8865116562675046233 : True := trivial
theorem hda.tw2383000750874243620 : True := trivial
theorem hda.tw12407204746914195746 : True := trivial
theorem hda.tw4795660996356807049 : True := trivial
theorem hda.tw7835875695175143699 : True := trivial
theorem hda.tw11088294510140742711 : True := trivial
theorem hda.tw2295933499549140307 : True := trivial
theorem hda.tw13068995475242760608 : True := trivial
theorem hda.tw3744725647316633926 : True := trivial
theorem hda.tw10503130549781168381 : True := trivial
theorem hda.tw3108358474933828336 : True := trivial
theorem hda.tw1704715518520782614 : True := trivial
theorem hda.tw16598308083706002298 : True := trivial
theorem hda.tw12654575583403160484 : True := trivial
theorem hda.tw6434397526911173023 : True := trivial
theorem hda.tw3190363574692143515 : True := trivial
set_option Elab.async true in
set_option maxRecDepth 100000 in
set_option maxHeartbeats 8000000 in
theorem hda : True := by
  clear hda
  simp only [(id (α := _ → PySem.Challenge.rw_nm0145_01.Holds → PySem.Challenge.rw_nm0145_01.Holds) (fun _ h => h) ?walk (by
    as_aux_lemma =>
      w_on
      o_law
      as_aux_lemma =>
        k_head
        (case hw => w_witness2)
        exact ?walk))]

section
abbrev PR : Program := PySem.Challenge.rw_nm0145_01.row.prog
noncomputable abbrev VW : Program := hda.view_1_40
noncomputable abbrev LO : List Str := looseW VW [Str.ofString "COUNTS", Str.ofString "COMPARES", Str.ofString "REST", Str.ofString "Piece", Str.ofString "PUTS"]

def Ext (h h' : Heap) : Prop := ∀ b o, h.get? b = some o → h'.get? b = some o
theorem Ext.rfl' {h : Heap} : Ext h h := fun _ _ e => e
theorem Ext.trans {h h' h'' : Heap} (a : Ext h h') (b : Ext h' h'') : Ext h h'' := fun x o e => b x o (a x o e)

/-- the fixed part -/
structure Gd (w : World) (mean : ExcName → Option Value) (mg mb : Str → Option Value) (h : Heap) : Prop where
  k : (hda.heap_1_39 w.params).In h
  t : Top VW LO mean mg mb h
theorem Gd.ext {w mean mg mb h h'} (G : Gd w mean mg mb h) (e : Ext h h') : Gd w mean mg mb h' := ⟨G.k.keeps e, G.t.keeps e⟩

abbrev AR (dp un : Nat) (fr : Option (List Env)) (gd : Option (List Code)) : Around := { handled := none, depth := dp, frames := fr, guards := gd, units := un }
structure Room (dp un n : Nat) : Prop where
  d : dp + n < 1000
  u : un + 8 * n < 9900
theorem Room.down {dp un n dp' un' n' : Nat} (h : Room dp un n) (hn : n' < n) (hd : dp' = dp + 1) (hu : un' = un + 3) : Room dp' un' n' := ⟨by have := h.d; lia, by have := h.u; lia⟩
theorem Room.enter {dp un n : Nat} (h : Room dp un n) : dp < recursionLimit := by have := h.d; show dp < 1000; lia

def LeaveC (Q : Value → Shared → Prop) (fl : Flow) (s' : Shared) : Prop := Q (match fl with | .ret v => v | _ => .none) s'
theorem leaveC_ret {Q : Value → Shared → Prop} {v : Value} {s' : Shared} (h : Q v s') : LeaveC Q (.ret v) s' := h
theorem leaveC_next {Q : Value → Shared → Prop} {s' : Shared} (h : Q .none s') : LeaveC Q .next s' := h

theorem enter {w : World} {mean : ExcName → Option Value} {mg mb : Str → Option Value} {A : Around} {s : Shared} {Q E : Value → Shared → Prop}
    {name qual : Str} {params : Arguments} {body : List Stmt} {scope : Scope} {dV kV doc pm cdv ct oc : Value} {an od : Option Addr} {osl : Array (Option Value)} {f : Addr} {args : List Value}
    (G : Gd w mean mg mb s.heap)
    (ho : (hda.heap_1_39 w.params).lookup f = some ⟨oc, od, .func (fnOf name qual params body scope dV kV doc pm an cdv ct), osl⟩) (hcd : codeIn (hda.heap_1_39 w.params) cdv qual = true) (hroom : A.depth < recursionLimit)
    (hbind : bindArgs (fnOf name qual params body scope dV kV doc pm an cdv ct) ⟨args, []⟩ = pure ((params.args.map (·.arg)).zip args)) (hloc : ∀ y ∈ (params.args.map (·.arg)).zip args, scope.names.lookup y.1 = some .local)
    (h : ∀ L' h₁ tk₁, Fr s.heap L' h₁ (fun y => ((params.args.map (·.arg)).zip args).reverse.lookup y) → News s.heap L' h₁ [] →
      let A' := A.deeper (envOf qual scope L' f cdv)
      let E' : Value → Shared → Prop := fun e s' => wpAny (model PR w) A' (leaving (envOf qual scope L' f cdv) e) (fun _ s'' => E e s'') (fun e' s'' => E e' s'') s'
      wpAny (model PR w) A' (execs body (envOf qual scope L' f cdv)) (LeaveC Q) E' { s with heap := h₁, toks := tk₁ })
    (hco : scope.isCoroutine = false := by rfl) (hgen : scope.isGenerator = false := by rfl) (hk : scope.kind = .function := by rfl)
    (hcell : ∀ x ∈ scope.names, x.2 ≠ .cell := by decide) : wpAny (model PR w) A (call (.ref f) args) Q E s := by
  refine wpAny_call ?_
  refine codeAny_call_def (fd := fnOf name qual params body scope dV kV doc pm an cdv ct) (body := body) (binds := (params.args.map (·.arg)).zip args) hroom (G.k _ _ ho) rfl G.t.nolimit (codeRec_of G.k hcd) rfl (BindsTo.of_eq hbind) hcell hloc (fun h₁ hns hk₁ => ?_) hco hgen hk
  exact h _ h₁ _ ⟨hns, hk₁, Nat.le_refl _⟩ News.nil

/-- what a call of f with these arguments does: it ends, keeps all that stood, hands back R -/
def Ct (w : World) (f : Addr) (args : List Value) (n : Nat) (R : Heap → Heap → Value → Prop) : Prop :=
  ∀ (mean : ExcName → Option Value) (mg mb : Str → Option Value) (dp un : Nat) (fr : Option (List Env)) (gd : Option (List Code)) (s : Shared) (Q E : Value → Shared → Prop),
    Gd w mean mg mb s.heap → Room dp un n → (∀ v h' tk', Ext s.heap h' → R s.heap h' v → Q v { s with heap := h', toks := tk' }) →
    wpAny (model PR w) (AR dp un fr gd) (call (.ref f) args) Q E s
abbrev CtI (w : World) (f : Addr) (args : List Value) (n : Nat) (x : Int) : Prop := Ct w f args n fun _ _ v => ∃ t, v = .int x t
abbrev CtB (w : World) (f : Addr) (args : List Value) (n : Nat) (b : Bool) : Prop := Ct w f args n fun _ _ v => v = .bool b

theorem frExt {h₀ h h' : Heap} {L : Addr} {m : Str → Option Value} (F : Fr h₀ L h m) (e : Ext h h') : Fr h₀ L h' m := ⟨F.ns.keeps e, fun b o q => e b o (F.keep b o q), F.above⟩
theorem newsExt {h₀ h h' : Heap} {L : Addr} {news : List (Addr × Obj)} (N : News h₀ L h news) (e : Ext h h') : News h₀ L h' news := fun p hp => ⟨e _ _ (N p hp).1, (N p hp).2⟩

section
variable {w : World} {f : Addr} {args : List Value} {n : Nat} {R : Heap → Heap → Value → Prop} {mean : ExcName → Option Value} {mg mb : Str → Option Value} {dp un : Nat} {fr : Option (List Env)} {gd : Option (List Code)} {Q E : Value → Shared → Prop}
  {h₀ hh : Heap} {L : Addr} {m : Str → Option Value} {news : List (Addr × Obj)} {gg : Array GenState} {dd : Drawn} {t0 : Nat} {oo : OsState}
theorem use (S : Ct w f args n R) (F : Fr h₀ L hh m) (N : News h₀ L hh news) (X : (hda.heap_1_39 w.params).In h₀) (T : Top VW LO mean mg mb h₀) (hR : Room dp un n)
    (h : ∀ v h' tk', Fr h₀ L h' m → News h₀ L h' news → Ext hh h' → R hh h' v → Q v ⟨h', gg, dd, tk', oo⟩) :
    wpAny (model PR w) (AR dp un fr gd) (call (.ref f) args) Q E ⟨hh, gg, dd, t0, oo⟩ :=
  S mean mg mb dp un fr gd _ Q E (Gd.ext ⟨X, T⟩ F.keep) hR fun v h' tk' e r => h v h' tk' (frExt F e) (newsExt N e) e r
theorem useI {x : Int} (S : CtI w f args n x) (F : Fr h₀ L hh m) (N : News h₀ L hh news) (X : (hda.heap_1_39 w.params).In h₀) (T : Top VW LO mean mg mb h₀) (hR : Room dp un n)
    (h : ∀ t h' tk', Fr h₀ L h' m → News h₀ L h' news → Q (.int x t) ⟨h', gg, dd, tk', oo⟩) :
    wpAny (model PR w) (AR dp un fr gd) (call (.ref f) args) Q E ⟨hh, gg, dd, t0, oo⟩ :=
  use S F N X T hR fun v h' tk' F' N' _ ⟨t, e⟩ => e ▸ h t h' tk' F' N'
theorem useB {b : Bool} (S : CtB w f args n b) (F : Fr h₀ L hh m) (N : News h₀ L hh news) (X : (hda.heap_1_39 w.params).In h₀) (T : Top VW LO mean mg mb h₀) (hR : Room dp un n)
    (h : ∀ h' tk', Fr h₀ L h' m → News h₀ L h' news → Q (.bool b) ⟨h', gg, dd, tk', oo⟩) :
    wpAny (model PR w) (AR dp un fr gd) (call (.ref f) args) Q E ⟨hh, gg, dd, t0, oo⟩ :=
  use S F N X T hR fun v h' tk' F' N' _ e => e ▸ h h' tk' F' N'
end
theorem endI {x y : Int} {t : Tok} {Q : Value → Shared → Prop} {s : Shared} {L : Addr} {h' : Heap} {m : Str → Option Value} {tk : Nat}
    (hret : ∀ v h' tk', Ext s.heap h' → (∃ t, v = .int x t) → Q v { s with heap := h', toks := tk' }) (F : Fr s.heap L h' m) (e : y = x) :
    LeaveC Q (.ret (.int y t)) { s with heap := h', toks := tk } := hret _ _ _ F.keep ⟨t, by rw [e]⟩
theorem endB {b c : Bool} {Q : Value → Shared → Prop} {s : Shared} {L : Addr} {h' : Heap} {m : Str → Option Value} {tk : Nat}
    (hret : ∀ v h' tk', Ext s.heap h' → v = .bool b → Q v { s with heap := h', toks := tk' }) (F : Fr s.heap L h' m) (e : c = b) :
    LeaveC Q (.ret (.bool c)) { s with heap := h', toks := tk } := hret _ _ _ F.keep (by rw [e])
theorem endR {R : Heap → Heap → Value → Prop} {v : Value} {Q : Value → Shared → Prop} {s : Shared} {L : Addr} {h' : Heap} {m : Str → Option Value} {tk : Nat}
    (hret : ∀ v h' tk', Ext s.heap h' → R s.heap h' v → Q v { s with heap := h', toks := tk' }) (F : Fr s.heap L h' m) (r : R s.heap h' v) :
    LeaveC Q (.ret v) { s with heap := h', toks := tk } := hret _ _ _ F.keep r
def AllNe (a : Addr) : List (Addr × Obj) → Prop
  | [] => True
  | p :: r => @Ne Nat p.1 a ∧ AllNe a r
theorem allNe_of {a : Addr} : ∀ {l : List (Addr × Obj)}, (∀ p ∈ l, p.1 ≠ a) → AllNe a l
  | [], _ => trivial
  | p :: _, h => ⟨h p (.head _), allNe_of fun q hq => h q (.tail _ hq)⟩
theorem newsFresh {h₀ h h' : Heap} {L a : Addr} {m : Str → Option Value} {news : List (Addr × Obj)} {o : Obj} (F : Fr h₀ L h m) (N : News h₀ L h news) (e : Ext h h') (hf : h.get? a = none) (ho : h'.get? a = some o) :
    News h₀ L h' ((a, o) :: news) ∧ AllNe a news := by
  obtain ⟨oL, _, _, hL, _⟩ := F.ns
  refine ⟨fun p hp => ?_, allNe_of fun p hp q => ?_⟩
  · rcases List.mem_cons.mp hp with rfl | hp
    · refine ⟨ho, fun q => ?_, ?_⟩
      · dsimp only at q; subst q; rw [hf] at hL; cases hL
      · cases q : h₀.get? a with
        | none => rfl
        | some o => have := F.keep _ _ q; rw [hf] at this; cases this
    · exact ⟨e _ _ (N p hp).1, (N p hp).2⟩
  · have := (N p hp).1; rw [q, hf] at this; cases this
/-- all but one address is kept -/
def But (a : Addr) (h h' : Heap) : Prop := ∀ b o, b ≠ a → h.get? b = some o → h'.get? b = some o
theorem butFr {h₀ h h' : Heap} {L a : Addr} {m : Str → Option Value} (F : Fr h₀ L h m) (k : But a h h') (ha : h₀.get? a = none) (hL : a ≠ L) : Fr h₀ L h' m := by
  obtain ⟨oL, es, ep, hL', r⟩ := F.ns
  exact ⟨⟨oL, es, ep, k _ _ hL.symm hL', r⟩, fun b o q => k b o (fun z => by rw [z, ha] at q; cases q) (F.keep b o q), F.above⟩
theorem butNews {h₀ h h' : Heap} {L a : Addr} {o o' : Obj} {news news' : List (Addr × Obj)} (N : News h₀ L h news) (k : But a h h') (U : Upd a o o' news news') (ha : h'.get? a = some o') : News h₀ L h' news' := by
  obtain ⟨pre, post, rfl, rfl, h1, h2⟩ := U.split
  have D := N (a, o) (by simp)
  intro p hp
  rcases List.mem_append.mp hp with q | q
  · have P := N p (List.mem_append_left _ q); exact ⟨k _ _ (h1 p q) P.1, P.2⟩
  · rcases List.mem_cons.mp q with rfl | q
    · exact ⟨ha, D.2⟩
    · have P := N p (List.mem_append_right _ (.tail _ q)); exact ⟨k _ _ (h2 p q) P.1, P.2⟩
theorem p2pos (k : Nat) : (0 : Int) < 2 ^ k := kbt_pos k
theorem p2lt {k : Nat} (h : k ≤ 64) : (2 : Int) ^ k < 2 ^ 65 := by
  have h1 : 2 ^ k ≤ 2 ^ 64 := Nat.pow_le_pow_right (by decide) h
  have h2 : ((2 ^ k : Nat) : Int) ≤ ((2 ^ 64 : Nat) : Int) := by exact_mod_cast h1
  rw [kbt_cast, kbt_cast] at h2
  have h3 : (2 : Int) ^ 64 < 2 ^ 65 := by decide
  lia
theorem noPylong65 {x y : Int} (h : y.natAbs < 2 ^ 65) : Builtin.divisionGoesByPylong x y = false := by
  refine PyProof.noPylong_of_log2 ?_
  by_cases h0 : y.natAbs = 0
  · rw [h0]; decide +kernel
  · have h30 : y.natAbs.log2 < 65 := (Nat.log2_lt h0).mpr h
    lia
section
variable {prog : Program} {w : World} {A : Around} {E : Value → Shared → Prop} {hh : Heap} {gg : Array GenState} {dd : Drawn} {tk : Nat} {oo : OsState} {a b : Int} {t u : Tok} {Q : Value → Shared → Prop}
theorem fd_c (hb : 0 < b) (hs : b < 2 ^ 65) (h : Q (.int (a / b) tk) ⟨hh, gg, dd, tk + 1, oo⟩) : wpAny (model prog w) A (binaryOp .FloorDiv (.int a t) (.int b u)) Q E ⟨hh, gg, dd, tk, oo⟩ := by
  refine floordiv_int (by lia) ?_ (Or.inl (noPylong65 (by lia)))
  rw [Int.fdiv_eq_ediv_of_nonneg _ (Int.le_of_lt hb)]; exact h
theorem md_c (hb : 0 < b) (h : Q (.int (a % b) tk) ⟨hh, gg, dd, tk + 1, oo⟩) : wpAny (model prog w) A (binaryOp .Mod (.int a t) (.int b u)) Q E ⟨hh, gg, dd, tk, oo⟩ := by
  refine mod_int' (by lia) ?_
  rw [Int.fmod_eq_emod_of_nonneg _ (Int.le_of_lt hb)]; exact h
theorem pw_c (h0 : 0 ≤ b) (h1 : b ≤ 64) (h : Q (.int (2 ^ b.toNat) tk) ⟨hh, gg, dd, tk + 1, oo⟩) : wpAny (model prog w) A (binaryOp .Pow (.int 2 t) (.int b u)) Q E ⟨hh, gg, dd, tk, oo⟩ :=
  pow_int_small h0 (by lia) (by decide) h
theorem ls_c (h0 : 0 ≤ b) (h1 : b ≤ 64) (ha : a.natAbs < 2 ^ 64) (h : Q (.int (a * 2 ^ b.toNat) tk) ⟨hh, gg, dd, tk + 1, oo⟩) : wpAny (model prog w) A (binaryOp .LShift (.int a t) (.int b u)) Q E ⟨hh, gg, dd, tk, oo⟩ :=
  lshift_int_small h0 (by lia) ha h
theorem rs_c (hb : 0 ≤ b) (h : Q (.int (a / 2 ^ b.toNat) tk) ⟨hh, gg, dd, tk + 1, oo⟩) : wpAny (model prog w) A (binaryOp .RShift (.int a t) (.int b u)) Q E ⟨hh, gg, dd, tk, oo⟩ := by
  refine rshift_int hb ?_
  rw [Int.fdiv_eq_ediv_of_nonneg _ (Int.le_of_lt (p2pos _))]; exact h
theorem ci {i k pos env} (hq : Q (.int i tk) ⟨hh, gg, dd, tk + 1, oo⟩) : wpAny (model prog w) A (eval (.Constant (.int i) k pos) env) Q E ⟨hh, gg, dd, tk, oo⟩ := wpAny_Constant_int hq
theorem ai (hq : Q (.int (a + b) tk) ⟨hh, gg, dd, tk + 1, oo⟩) : wpAny (model prog w) A (binaryOp .Add (.int a t) (.int b u)) Q E ⟨hh, gg, dd, tk, oo⟩ := add_int hq
theorem si (hq : Q (.int (a - b) tk) ⟨hh, gg, dd, tk + 1, oo⟩) : wpAny (model prog w) A (binaryOp .Sub (.int a t) (.int b u)) Q E ⟨hh, gg, dd, tk, oo⟩ := sub_int hq
theorem bai (hq : Q (.int (Builtin.bitAnd a b) tk) ⟨hh, gg, dd, tk + 1, oo⟩) : wpAny (model prog w) A (binaryOp .BitAnd (.int a t) (.int b u)) Q E ⟨hh, gg, dd, tk, oo⟩ := and_int hq
theorem boi (hq : Q (.int (Builtin.bitOr a b) tk) ⟨hh, gg, dd, tk + 1, oo⟩) : wpAny (model prog w) A (binaryOp .BitOr (.int a t) (.int b u)) Q E ⟨hh, gg, dd, tk, oo⟩ := or_int hq
end
/-- the same, with objects that the call may change set apart -/
theorem enterH {w : World} {mean : ExcName → Option Value} {mg mb : Str → Option Value} {A : Around} {s : Shared} {Q E : Value → Shared → Prop} {h₀ : Heap} {hid : List (Addr × Obj)}
    {name qual : Str} {params : Arguments} {body : List Stmt} {scope : Scope} {dV kV doc pm cdv ct oc : Value} {an od : Option Addr} {osl : Array (Option Value)} {f : Addr} {args : List Value}
    (G : Gd w mean mg mb h₀) (hx : Ext h₀ s.heap) (hh : ∀ p ∈ hid, s.heap.get? p.1 = some p.2 ∧ h₀.get? p.1 = none)
    (ho : (hda.heap_1_39 w.params).lookup f = some ⟨oc, od, .func (fnOf name qual params body scope dV kV doc pm an cdv ct), osl⟩) (hcd : codeIn (hda.heap_1_39 w.params) cdv qual = true) (hroom : A.depth < recursionLimit)
    (hbind : bindArgs (fnOf name qual params body scope dV kV doc pm an cdv ct) ⟨args, []⟩ = pure ((params.args.map (·.arg)).zip args)) (hloc : ∀ y ∈ (params.args.map (·.arg)).zip args, scope.names.lookup y.1 = some .local)
    (h : ∀ g h₁ tk₁, g = hideAll s.heap (hid.map (·.1)) → Gd w mean mg mb g → Fr g s.heap.objs.size h₁ (fun y => ((params.args.map (·.arg)).zip args).reverse.lookup y) → News g s.heap.objs.size h₁ hid →
      let A' := A.deeper (envOf qual scope s.heap.objs.size f cdv)
      let E' : Value → Shared → Prop := fun e s' => wpAny (model PR w) A' (leaving (envOf qual scope s.heap.objs.size f cdv) e) (fun _ s'' => E e s'') (fun e' s'' => E e' s'') s'
      wpAny (model PR w) A' (execs body (envOf qual scope s.heap.objs.size f cdv)) (LeaveC Q) E' { s with heap := h₁, toks := tk₁ })
    (hco : scope.isCoroutine = false := by rfl) (hgen : scope.isGenerator = false := by rfl) (hk : scope.kind = .function := by rfl)
    (hcell : ∀ x ∈ scope.names, x.2 ≠ .cell := by decide) : wpAny (model PR w) A (call (.ref f) args) Q E s := by
  refine wpAny_call ?_
  have Gs := G.ext hx
  refine codeAny_call_def (fd := fnOf name qual params body scope dV kV doc pm an cdv ct) (body := body) (binds := (params.args.map (·.arg)).zip args) hroom (Gs.k _ _ ho) rfl Gs.t.nolimit (codeRec_of Gs.k hcd) rfl (BindsTo.of_eq hbind) hcell hloc (fun h₁ hns hk₁ => ?_) hco hgen hk
  have nm : ∀ b o, h₀.get? b = some o → b ∉ hid.map (·.1) := fun b o e q => by
    obtain ⟨p, hp, rfl⟩ := List.mem_map.mp q
    rw [(hh p hp).2] at e; cases e
  have st : Ext h₀ (hideAll s.heap (hid.map (·.1))) := fun b o e => hideAll_get _ (hx b o e) (nm b o e)
  exact h _ h₁ _ rfl (G.ext st) ⟨hns, fun b o e => hk₁ b o (of_hideAll _ e), Nat.le_of_eq (hideAll_size _ _)⟩
    (fun p hp => ⟨hk₁ _ _ (hh p hp).1, Nat.ne_of_lt (Heap.lt_size (hh p hp).1), hideAll_none _ (List.mem_map_of_mem hp)⟩)
/-- what follows a statement, named: a short name for the rest, so that the statement's own steps stay short -/
def SQ (M : Model) (A : Around) (rest : List Stmt) (env : Env) (Q : Flow → Shared → Prop) (E : Value → Shared → Prop) (Q' : Flow → Shared → Prop) : Prop :=
  ∀ f s', (match f with | .next => wpAny M A (execs rest env) Q E s' | f => Q f s') → Q' f s'
section
variable {M : Model} {A : Around} {rest : List Stmt} {env : Env} {Q Q' : Flow → Shared → Prop} {E : Value → Shared → Prop} {s : Shared} {st : Stmt}
theorem SQ.nx (h : SQ M A rest env Q E Q') (k : wpAny M A (execs rest env) Q E s) : Q' .next s := h .next s k
theorem SQ.nk {h : Heap} {g : Array GenState} {d : Drawn} {t : Nat} {o : OsState} (hq : SQ M A rest env Q E Q') (k : ∀ tk, wpAny M A (execs rest env) Q E ⟨h, g, d, tk, o⟩) : Q' .next ⟨h, g, d, t, o⟩ := hq .next _ (k t)
theorem SQ.rt {v : Value} (h : SQ M A rest env Q E Q') (k : Q (.ret v) s) : Q' (.ret v) s := h (.ret v) s k
theorem SQ.br (h : SQ M A rest env Q E Q') (k : Q .brk s) : Q' .brk s := h .brk s k
theorem SQ.ct (h : SQ M A rest env Q E Q') (k : Q .cont s) : Q' .cont s := h .cont s k
theorem seqF (h : ∀ Q' : Flow → Shared → Prop, SQ M A rest env Q E Q' → wpAny M A (exec st env) Q' E s) : wpAny M A (execs (st :: rest) env) Q E s :=
  wpAny_execs_cons (h _ fun _ _ k => k)
theorem seq1 (h : wpAny M A (exec st env) Q E s) : wpAny M A (execs [st] env) Q E s :=
  wpAny_execs_cons (wpAny_mono h (fun f s' k => by cases f <;> first | exact wpAny_execs_nil k | exact k) fun _ _ e => e)
end
/-- a local name, by one look -/
def nmB (sc : Scope) (x : Str) : Bool := (match sc.kind with | .function => true | _ => false) && ((match sc.names.lookup x with | some .local => true | _ => false) && !(x == ("__debug__" : Str)))
/-- a name of the module -/
def glB (sc : Scope) (x : Str) : Bool := (match sc.kind with | .function => true | _ => false) && ((match sc.names.lookup x with | some .globalImplicit => true | _ => false) && !(x == ("__debug__" : Str)))
section
variable {w : World} {A : Around} {E : Value → Shared → Prop} {s : Shared} {cn : Str} {sc : Scope} {L a : Addr} {cd : Value} {h₀ : Heap} {m : Str → Option Value} {x : Str} {pos : Pos} {v : Value} {Q : Value → Shared → Prop}
theorem nm (hl : nmB sc x = true) (F : Fr h₀ L s.heap m) (hv : m x = some v) (h : Q v s) : wpAny (model PR w) A (eval (.Name x pos) (envOf cn sc L a cd)) Q E s := by
  have h1 := (Bool.and_eq_true_iff.mp hl).1
  have h2 := (Bool.and_eq_true_iff.mp (Bool.and_eq_true_iff.mp hl).2).1
  have h3 := (Bool.and_eq_true_iff.mp (Bool.and_eq_true_iff.mp hl).2).2
  refine ld F hv h ?_ ?_ (by simpa using h3)
  · split at h1
    · assumption
    · cases h1
  · split at h2
    · assumption
    · cases h2
theorem stD {news : List (Addr × Obj)} {hh : Heap} {gg : Array GenState} {dd : Drawn} {tk : Nat} {oo : OsState} {Q : Unit → Shared → Prop} (hl : nmB sc x = true) (F : Fr h₀ L hh m) (N : News h₀ L hh news)
    (h : ∀ h', Fr h₀ L h' (fun y => if y = x then some v else m y) → News h₀ L h' news → Q () ⟨h', gg, dd, tk + 1, oo⟩) : wpAny (model PR w) A (storeName (envOf cn sc L a cd) x v) Q E ⟨hh, gg, dd, tk, oo⟩ := by
  have h1 := (Bool.and_eq_true_iff.mp hl).1
  have h2 := (Bool.and_eq_true_iff.mp (Bool.and_eq_true_iff.mp hl).2).1
  refine storeX_L (cl := []) F N h ?_ ?_
  · split at h1
    · assumption
    · cases h1
  · split at h2
    · assumption
    · cases h2
theorem nmG {mean : ExcName → Option Value} {mg mb : Str → Option Value} (hl : glB sc x = true) (F : Fr h₀ L s.heap m) (X : (hda.heap_1_39 w.params).In h₀) (T : Top VW LO mean mg mb h₀)
    (e : nsIn (hda.heap_1_39 w.params) mainGlobals x = some (some v)) (h : Q v s) : wpAny (model PR w) A (eval (.Name x pos) (envOf cn sc L a cd)) Q E s := by
  have h1 := (Bool.and_eq_true_iff.mp hl).1
  have h2 := (Bool.and_eq_true_iff.mp (Bool.and_eq_true_iff.mp hl).2).1
  have h3 := (Bool.and_eq_true_iff.mp (Bool.and_eq_true_iff.mp hl).2).2
  refine nameG_K F X (topRead_of T) e h rfl ?_ ?_ (by simpa using h3)
  · split at h1
    · assumption
    · cases h1
  · split at h2
    · assumption
    · cases h2
end
/-- a place where the walk halts -/
def Hold (P : Prop) : Prop := P
theorem hold {P : Prop} (h : Hold P) : P := h
theorem unhold {P : Prop} (h : P) : Hold P := h
theorem holdT {P : Prop} (_ : Hold True) (h : Hold P) : P := h
theorem hold1 {P : Prop} (_ : Hold (0 < 1)) (h : Hold P) : P := h
theorem hold2 {P : Prop} (_ : Hold (0 < 2)) (h : Hold P) : P := h
theorem hold3 {P : Prop} (_ : Hold (0 < 3)) (h : Hold P) : P := h
theorem hold4 {P : Prop} (_ : Hold (0 < 4)) (h : Hold P) : P := h
theorem hold5 {P : Prop} (_ : Hold (0 < 5)) (h : Hold P) : P := h
theorem hold12 {P : Prop} (_ : Hold (0 < 12)) (h : Hold P) : P := h
section
variable {M : Model} {A : Around} {E : Value → Shared → Prop} {s : Shared} {Q : Value → Shared → Prop}
theorem holdN (a : Addr) {args : List Value} (h : Hold (wpAny M A (call (.ref a) args) Q E s)) : wpAny M A (call (.ref a) args) Q E s := h
theorem holdSN {x : Str} {p : Pos} {e : Expr} {a : Addr} {k : Int} {t : Tok} (h : Hold (wpAny M A (subscriptTail (.Name x p) e (.ref a) (.int k t)) Q E s)) : wpAny M A (subscriptTail (.Name x p) e (.ref a) (.int k t)) Q E s := h
theorem holdSL {x} {p : Pos} {e : Expr} {a : Addr} {k : Int} {t : Tok} (h : Hold (wpAny M A (subscriptTail (.List x p) e (.ref a) (.int k t)) Q E s)) : wpAny M A (subscriptTail (.List x p) e (.ref a) (.int k t)) Q E s := h
theorem holdSD {x c} {p : Pos} {e : Expr} {a : Addr} {k : Int} {t : Tok} (h : Hold (wpAny M A (subscriptTail (.Dict x c p) e (.ref a) (.int k t)) Q E s)) : wpAny M A (subscriptTail (.Dict x c p) e (.ref a) (.int k t)) Q E s := h
end
theorem isSl {M : Model} {A : Around} {E : Value → Shared → Prop} {s : Shared} {Q : Value → Shared → Prop} {v a b : _} {p : Pos} {l i : Addr} (h : wpAny M A (subscriptTail v (.Slice a b none p) (.ref l) (.ref i)) Q E s) : wpAny M A (subscriptTail v (.Slice a b none p) (.ref l) (.ref i)) Q E s := h
theorem room0 {dp un n : Nat} {fr : Option (List Env)} {gd : Option (List Code)} {env : Env} (h : Room dp un (n + 1)) : ((AR dp un fr gd).deeper env).depth < recursionLimit :=
  Room.enter (Room.down h (Nat.succ_pos n) rfl rfl)
theorem mono_F {w : World} {A : Around} {E : Value → Shared → Prop} {s : Shared} {Q : Value → Shared → Prop} {e : Sem Value} {F : Int} (h1 : wpAny (model PR w) A e (fun v s' => Hold (∃ t tk, v = .int F t ∧ s' = { s with toks := tk })) E s) (h2 : ∀ t tk, Q (.int F t) { s with toks := tk }) : wpAny (model PR w) A e Q E s :=
  wpAny_mono h1 (fun v s' ⟨t, tk, e1, e2⟩ => e1 ▸ e2 ▸ h2 t tk) fun _ _ z => z
/-- a mark: where the namespace of one is open, the walk halts at x -/
inductive Mk {α : Type} (x : α) : Prop
  | mk
theorem holdK {P : Prop} (s : String) (_ : Mk s) (h : Hold P) : P := h
theorem holdA {M : Model} {A : Around} {E : Value → Shared → Prop} {s : Shared} {Q : Value → Shared → Prop} {a : Addr} {args : List Value} (_ : Mk a) (h : Hold (wpAny M A (call (.ref a) args) Q E s)) : wpAny M A (call (.ref a) args) Q E s := h
theorem S0.hSm : Mk "eval ListComp" := ⟨⟩
theorem S1.hSm : Mk "exec Assign cons ListComp" := ⟨⟩
theorem S2.hSm : Mk "exec Try" := ⟨⟩
theorem S3.hSm : Mk "setItem ref ref" := ⟨⟩
theorem S4.hSm : Mk "exec For Name Name" := ⟨⟩
theorem S5.hSm : Mk "exec For Name Name cons nil" := ⟨⟩
theorem S6.hSm : Mk "exec For Name Call" := ⟨⟩
theorem S7.hSm : Mk "exec For Name Call cons nil" := ⟨⟩
theorem S8.hSm : Mk "call builtin:list.append" := ⟨⟩
theorem S9.hSm : Mk "call builtin:list.pop" := ⟨⟩
theorem S10.hSm : Mk "call builtin:list.extend" := ⟨⟩
theorem S11.hSm : Mk "binaryOp Add ref ref" := ⟨⟩
theorem S12.hSm : Mk "call builtin:list.index" := ⟨⟩
theorem S13.hSm : Mk "exec For Tuple Call" := ⟨⟩
theorem S14.hSm : Mk "exec For Tuple Call cons nil" := ⟨⟩
theorem S15.hSm : Mk "call type:enumerate" := ⟨⟩
theorem S16.hSm : Mk "subscriptTail Name Name ref int" := ⟨⟩
theorem S17.hSm : Mk "compareOp NotEq ref ref" := ⟨⟩
theorem S18.hSm : Mk "subscriptTail List BinOp ref int" := ⟨⟩
theorem S19.hSm : Mk "compareOp NotEq int int" := ⟨⟩
theorem H44.hAm : Mk (44 : Addr) := ⟨⟩
theorem H86.hAm : Mk (86 : Addr) := ⟨⟩
theorem H379.hAm : Mk (379 : Addr) := ⟨⟩
theorem H65.hAm : Mk (65 : Addr) := ⟨⟩
theorem H341.hAm : Mk (341 : Addr) := ⟨⟩
theorem H438.hAm : Mk (438 : Addr) := ⟨⟩
theorem H419.hAm : Mk (419 : Addr) := ⟨⟩
theorem H443.hAm : Mk (443 : Addr) := ⟨⟩
theorem H369.hAm : Mk (369 : Addr) := ⟨⟩
theorem H471.hAm : Mk (471 : Addr) := ⟨⟩
theorem H478.hAm : Mk (478 : Addr) := ⟨⟩
theorem H397.hAm : Mk (397 : Addr) := ⟨⟩
theorem H549.hAm : Mk (549 : Addr) := ⟨⟩
theorem H539.hAm : Mk (539 : Addr) := ⟨⟩
theorem H492.hAm : Mk (492 : Addr) := ⟨⟩
theorem H518.hAm : Mk (518 : Addr) := ⟨⟩
theorem H544.hAm : Mk (544 : Addr) := ⟨⟩
theorem H511.hAm : Mk (511 : Addr) := ⟨⟩
theorem H525.hAm : Mk (525 : Addr) := ⟨⟩
theorem H485.hAm : Mk (485 : Addr) := ⟨⟩
theorem H532.hAm : Mk (532 : Addr) := ⟨⟩
theorem H390.hAm : Mk (390 : Addr) := ⟨⟩
theorem H404.hAm : Mk (404 : Addr) := ⟨⟩
theorem H556.hAm : Mk (556 : Addr) := ⟨⟩
theorem H568.hAm : Mk (568 : Addr) := ⟨⟩
theorem G1.mG1 : True := trivial
theorem G2.mG2 : True := trivial
theorem G3.mG3 : True := trivial
theorem G4.mG4 : True := trivial
theorem G5.mG5 : True := trivial
theorem G6.mG6 : True := trivial
theorem G7.mG7 : True := trivial
theorem G8.mG8 : True := trivial
end

section
/-- all that a reading does not change, and how names are read -/
structure Cx where
  w : World
  A : Around
  E : Value → Shared → Prop
  h : Heap
  g : Array GenState
  d : Drawn
  o : OsState
  env : Env
  rd : Str → Option Value
  H : ∀ x v pos t (Q : Value → Shared → Prop), rd x = some v → Q v ⟨h, g, d, t, o⟩ → wpAny (model PR w) A (eval (.Name x pos) env) Q E ⟨h, g, d, t, o⟩
abbrev Cx.S (c : Cx) (t : Nat) : Shared := ⟨c.h, c.g, c.d, t, c.o⟩
abbrev Cx.W (c : Cx) {α : Type} (m : Sem α) (Q : α → Shared → Prop) (t : Nat) : Prop := wpAny (model PR c.w) c.A m Q c.E (c.S t)
/-- what m comes to, from every count of tokens -/
abbrev Cx.R (c : Cx) {α : Type} (m : Sem α) (v : Nat → α) (k : Nat → Nat) : Prop := ∀ t (Q : α → Shared → Prop), Q (v t) (c.S (k t)) → c.W m Q t
section
variable {c : Cx} {t t' : Nat}
def PlE (env : Env) (e : Expr) : Prop := (∀ rest, starEach (e :: rest) env = (false, eval e env) :: starEach rest env) ∧ ∀ op, behindInMarks op e = false
/-- an expression read from t tokens on: its value and the tokens behind it -/
abbrev Ok (c : Cx) (e : Expr) (t : Nat) (v : Value) (t' : Nat) : Prop := PlE c.env e ∧ ∀ Q : Value → Shared → Prop, Q v (c.S t') → c.W (eval e c.env) Q t
structure Ev (c : Cx) (e : Expr) (t : Nat) where
  v : Value
  t' : Nat
  ok : Ok c e t v t'
/-- a quick look: can e be read at all -/
noncomputable def pl (n : Nat) : Expr → Bool := Nat.rec (fun _ => false) (fun _ ih e => match e with
  | .Name _ _ => true
  | .Constant c _ _ => match c with
    | .int _ => true
    | .none => true
    | .bool _ => true
    | _ => false
  | .BinOp l op r _ => match op with
    | .Add => ih l && ih r
    | .Sub => ih l && ih r
    | .BitAnd => ih l && ih r
    | .BitOr => ih l && ih r
    | _ => false
  | .UnaryOp .USub e _ => ih e
  | .Compare l ops rs _ => ih l && (rs.all ih && ops.all fun op => match op with
    | .Is => false
    | .IsNot => false
    | .In => false
    | .NotIn => false
    | _ => true)
  | .BoolOp _ es _ => es.all ih
  | _ => false) n
/-- an int read, whatever the tokens -/
abbrev OkI (c : Cx) (e : Expr) (a : Int) : Prop := (∀ t (Q : Value → Shared → Prop), (∀ u t', Q (.int a u) (c.S t')) → c.W (eval e c.env) Q t) ∧ ∀ op, behindInMarks op e = false
structure Ei (c : Cx) (e : Expr) where
  a : Int
  ok : OkI c e a
noncomputable def onV {γ : Type} {e : Expr} (x : Option (Ev c e t)) (f : (v : Value) → (t' : Nat) → Ok c e t v t' → Option γ) : Option γ := match x with
  | some ⟨v, t', h⟩ => f v t' h
  | none => none
noncomputable def onI {γ : Type} {e : Expr} (x : Option (Ev c e t)) (f : (a : Int) → (u : Tok) → (t' : Nat) → Ok c e t (.int a u) t' → Option γ) : Option γ := match x with
  | some ⟨.int a u, t', h⟩ => f a u t' h
  | _ => none
noncomputable def onA {γ : Type} {e : Expr} (x : Option (Ei c e)) (f : (a : Int) → OkI c e a → Option γ) : Option γ := match x with
  | some ⟨a, h⟩ => f a h
  | none => none
abbrev Er (c : Cx) (e : Expr) : Type := Option (Ei c e) × ((t : Nat) → Option (Ev c e t))
noncomputable def evN (x : Str) (p : Pos) : (v : Option Value) → c.rd x = v → Er c (.Name x p)
  | some (.int a u), e => ⟨some ⟨a, fun t _ q => c.H x _ p t _ e (q _ _), fun _ => rfl⟩, fun t => some ⟨_, _, ⟨fun _ => rfl, fun _ => rfl⟩, fun _ => c.H x _ p t _ e⟩⟩
  | some v, e => ⟨none, fun t => some ⟨_, _, ⟨fun _ => rfl, fun _ => rfl⟩, fun _ => c.H x _ p t _ e⟩⟩
  | none, _ => ⟨none, fun _ => none⟩
/-- plain arithmetic on two ints -/
noncomputable def binV (a b : Int) (u v : Tok) (t : Nat) (op : Operator) : Option ((x : Int) ×' ∀ {w : World} {A : Around} {E : Value → Shared → Prop} {h g d o} {Q : Value → Shared → Prop}, Q (.int x t) ⟨h, g, d, t + 1, o⟩ → wpAny (model PR w) A (binaryOp op (.int a u) (.int b v)) Q E ⟨h, g, d, t, o⟩) := match op with
  | .Add => some ⟨a + b, ai⟩
  | .Sub => some ⟨a - b, si⟩
  | .BitAnd => some ⟨Builtin.bitAnd a b, bai⟩
  | .BitOr => some ⟨Builtin.bitOr a b, boi⟩
  | _ => none
noncomputable def evS (ih : (e : Expr) → Er c e) : (e : Expr) → Er c e
  | .Name x p => evN x p _ rfl
  | .Constant (.int i) _ _ => ⟨some ⟨i, fun _ _ q => ci (q _ _), fun _ => rfl⟩, fun t => some ⟨.int i t, t + 1, ⟨fun _ => rfl, fun _ => rfl⟩, fun _ q => ci q⟩⟩
  | .Constant .none _ _ => ⟨none, fun t => some ⟨.none, t, ⟨fun _ => rfl, fun _ => rfl⟩, fun _ q => wpAny_Constant_none q⟩⟩
  | .Constant (.bool b) _ _ => ⟨none, fun t => some ⟨.bool b, t, ⟨fun _ => rfl, fun _ => rfl⟩, fun _ q => Constant_bool q⟩⟩
  | .BinOp l op r _ => ⟨match op with
      | .Add => onA (ih l).1 fun a h => onA (ih r).1 fun b k => some ⟨a + b, fun _ _ q => wpAny_BinOp (h.1 _ _ fun _ _ => k.1 _ _ fun _ _ => ai (q _ _)), fun _ => rfl⟩
      | .Sub => onA (ih l).1 fun a h => onA (ih r).1 fun b k => some ⟨a - b, fun _ _ q => wpAny_BinOp (h.1 _ _ fun _ _ => k.1 _ _ fun _ _ => si (q _ _)), fun _ => rfl⟩
      | _ => none, fun t => onI ((ih l).2 t) fun a u t1 h => onI ((ih r).2 t1) fun b v t2 k => match binV a b u v t2 op with
        | some ⟨x, z⟩ => some ⟨.int x t2, t2 + 1, ⟨fun _ => rfl, fun _ => rfl⟩, fun _ q => wpAny_BinOp (h.2 _ (k.2 _ (z q)))⟩
        | none => none⟩
  | .UnaryOp .USub e _ => ⟨onA (ih e).1 fun a h => some ⟨-a, fun _ _ q => UnaryOp_ (h.1 _ _ fun _ _ => neg_int (q _ _)), fun _ => rfl⟩, fun t => onI ((ih e).2 t) fun a u t1 h => some ⟨.int (-a) t1, t1 + 1, ⟨fun _ => rfl, fun _ => rfl⟩, fun _ q => UnaryOp_ (h.2 _ (neg_int q))⟩⟩
  | _ => ⟨none, fun _ => none⟩
/-- an expression of names, numbers and plain arithmetic, read in one look -/
noncomputable def ev (c : Cx) (n : Nat) : (e : Expr) → Er c e := Nat.rec (fun _ => ⟨none, fun _ => none⟩) (fun _ ih e => evS ih e) n
noncomputable def evv {e : Expr} (x : Er c e) (t : Nat) : Option (Value × Nat) := onV (x.2 t) fun v t' _ => some (v, t')
theorem ev_use {e : Expr} {r : Value × Nat} {x : Er c e} (q : evv x t = some r) : Ok c e t r.1 r.2 := by
  unfold evv at q
  generalize x.2 t = y at q
  match y, q with
  | some y, q => exact Option.some.inj q ▸ y.ok
/-- a list of arguments -/
abbrev PlL (env : Env) (es : List Expr) : Prop := ∀ e r, es = e :: r → starEach (e :: r) env = (false, eval e env) :: starEach r env
structure Es (c : Cx) (pos : Pos) (es : List Expr) (t : Nat) where
  v : List Value
  t' : Nat
  ok : PlL c.env es ∧ ∀ Q : List Value → Shared → Prop, Q v (c.S t') → c.W (spliced (backTo pos (starEach es c.env))) Q t
noncomputable def evs (c : Cx) (pos : Pos) (es : List Expr) : (t : Nat) → Option (Es c pos es t) := List.rec (fun t => some ⟨[], t, ⟨fun _ _ e => (nomatch e), fun _ q => args_nil q⟩⟩)
  (fun e r ih t => onV ((ev c 9 e).2 t) fun v t1 h => match ih t1 with
    | some ⟨vs, t2, k⟩ => some ⟨v :: vs, t2, ⟨fun _ _ z => by cases z; exact h.1.1 _, fun _ q => args_cons (h.2 _ (k.2 _ q)) (h.1.1 _)⟩⟩
    | none => none) es
noncomputable def evsv {pos : Pos} {es : List Expr} (x : Option (Es c pos es t)) : Option (List Value × Nat) := match x with
  | some ⟨v, t', _⟩ => some (v, t')
  | none => none
theorem evs_use {pos : Pos} {es : List Expr} {r : List Value × Nat} {x : Option (Es c pos es t)} (q : evsv x = some r) : PlL c.env es ∧ ∀ Q : List Value → Shared → Prop, Q r.1 (c.S r.2) → c.W (spliced (backTo pos (starEach es c.env))) Q t := match x, q with
  | some x, q => Option.some.inj q ▸ x.ok
/-- a test read, whatever its road: what it asks, and that it ends in that -/
abbrev Cx.T (c : Cx) (e : Expr) (b : Bool) : Prop := ∀ whole t (Q : Bool → Shared → Prop), (∀ t', Q b (c.S t')) → c.W (isTrue e c.env whole) Q t
abbrev Cx.V (c : Cx) (e : Expr) (b : Bool) : Prop := ∀ t (Q : Value → Shared → Prop), (∀ t', Q (.bool b) (c.S t')) → c.W (eval e c.env) Q t
structure Tb (c : Cx) (e : Expr) where
  p : Prop
  dec : Decidable p
  ok : c.T e (decide p) ∧ c.V e (decide p)
noncomputable def onT {γ : Type} {e : Expr} (x : Option (Tb c e)) (f : (p : Prop) → (dec : Decidable p) → (c.T e (decide p) ∧ c.V e (decide p)) → Option γ) : Option γ := match x with
  | some ⟨p, dec, h⟩ => f p dec h
  | none => none
abbrev CmpOk (op : CmpOp) (a b : Int) (p : Bool) : Prop := ∀ {w : World} {A : Around} {E : Value → Shared → Prop} {ta tb : Tok} {s : Shared} {Q : Value → Shared → Prop}, Q (.bool p) s → wpAny (model PR w) A (compareOp op (.int a ta) (.int b tb)) Q E s
theorem ne_dec (a b : Int) : decide (¬ a = b) = (a != b) := decide_not
noncomputable def onC {γ : Type} (a b : Int) (op : CmpOp) (f : (p : Prop) → (dec : Decidable p) → CmpOk op a b (decide p) → Option γ) : Option γ := match op, f with
  | .Eq, f => f (a = b) inferInstance fun q => eq_int q
  | .NotEq, f => f (¬ a = b) inferInstance fun q => ne_int (ne_dec a b ▸ q)
  | .Lt, f => f (a < b) inferInstance lt_int
  | .LtE, f => f (a ≤ b) inferInstance le_int
  | .Gt, f => f (b < a) inferInstance gt_int
  | .GtE, f => f (b ≤ a) inferInstance ge_int
  | _, _ => none
theorem dec_b {p : Prop} [Decidable p] {X : Prop} (h1 : decide p = true → X) (h2 : decide p = false → X) : X := by cases z : decide p; exact h2 z; exact h1 z
theorem and_f {p p2 : Prop} [Decidable p] [Decidable p2] (h : decide p = false) : decide (p ∧ p2) = false := by rw [Bool.decide_and, h, Bool.false_and]
theorem and_t {p p2 : Prop} [Decidable p] [Decidable p2] (h : decide p = true) : decide (p ∧ p2) = decide p2 := by rw [Bool.decide_and, h, Bool.true_and]
theorem or_f {p p2 : Prop} [Decidable p] [Decidable p2] (h : decide p = false) : decide (p ∨ p2) = decide p2 := by rw [Bool.decide_or, h, Bool.false_or]
theorem or_t {p p2 : Prop} [Decidable p] [Decidable p2] (h : decide p = true) : decide (p ∨ p2) = true := by rw [Bool.decide_or, h, Bool.true_or]
theorem if_t {b : Bool} {X Y : Prop} (e : b = true) (h : X) : if b = true then X else Y := by rw [e]; exact h
theorem if_f {b : Bool} {X Y : Prop} (e : b = false) (h : Y) : if b = true then X else Y := by rw [e]; exact h
section
variable {p p2 : Prop} [Decidable p] [Decidable p2]
theorem tb1 {l r : Expr} {op : CmpOp} {pos : Pos} {a b : Int} (x : OkI c l a) (y : OkI c r b) (k : CmpOk op a b (decide p)) : c.T (.Compare l [op] [r] pos) (decide p) ∧ c.V (.Compare l [op] [r] pos) (decide p) :=
  ⟨fun _ _ _ q => wpAny_isTrue_Compare1 (x.1 _ _ fun _ _ => y.1 _ _ fun _ _ => k (wpAny_truthy_bool (q _))) (y.2 _), fun _ _ q => wpAny_Compare1 (x.1 _ _ fun _ _ => y.1 _ _ fun _ _ => k (q _)) (y.2 _)⟩
theorem tb2 {l r1 r2 : Expr} {o1 o2 : CmpOp} {pos : Pos} {a b d : Int} (x : OkI c l a) (y : OkI c r1 b) (z : OkI c r2 d) (k : CmpOk o1 a b (decide p)) (j : CmpOk o2 b d (decide p2)) : c.T (.Compare l [o1, o2] [r1, r2] pos) (decide (p ∧ p2)) ∧ c.V (.Compare l [o1, o2] [r1, r2] pos) (decide (p ∧ p2)) :=
  ⟨fun _ _ Q q => isTrue_chain (x.1 _ _ fun _ _ => test_link (y.1 _ _ fun _ _ => k (wpAny_truthy_bool (dec_b (p := p) (fun e => if_t e (test_last (z.1 _ _ fun _ _ => j (wpAny_truthy_bool (and_t (p2 := p2) e ▸ q _))))) fun e => if_f e (and_f (p2 := p2) e ▸ q _))))) (z.2 _),
    fun _ Q q => Compare_chain (x.1 _ _ fun _ _ => chain_link (y.1 _ _ fun _ _ => k (wpAny_truthy_bool (dec_b (p := p) (fun e => if_t e (chain_last (z.1 _ _ fun _ _ => j (and_t (p2 := p2) e ▸ q _)))) fun e => if_f e (e.symm ▸ and_f (p2 := p2) e ▸ q _))))) (z.2 _)⟩
theorem tbOr {x y : Expr} {r : List Expr} {pos : Pos} (k : c.T x (decide p) ∧ c.V x (decide p)) (j : c.T (.BoolOp .Or (y :: r) pos) (decide p2) ∧ c.V (.BoolOp .Or (y :: r) pos) (decide p2)) : c.T (.BoolOp .Or (x :: y :: r) pos) (decide (p ∨ p2)) ∧ c.V (.BoolOp .Or (x :: y :: r) pos) (decide (p ∨ p2)) :=
  ⟨fun _ _ _ q => isTrue_or (k.1 _ _ _ fun t' => dec_b (p := p) (fun e => if_t e (or_t (p2 := p2) e ▸ q _)) fun e => if_f e (j.1 _ _ _ (or_f (p2 := p2) e ▸ q))),
    fun _ _ q => BoolOp_or (k.2 _ _ fun _ => wpAny_truthy_bool (dec_b (p := p) (fun e => if_t e (e.symm ▸ or_t (p2 := p2) e ▸ q _)) fun e => if_f e (j.2 _ _ (or_f (p2 := p2) e ▸ q))))⟩
theorem tbAnd {x y : Expr} {r : List Expr} {pos : Pos} (k : c.T x (decide p) ∧ c.V x (decide p)) (j : c.T (.BoolOp .And (y :: r) pos) (decide p2) ∧ c.V (.BoolOp .And (y :: r) pos) (decide p2)) : c.T (.BoolOp .And (x :: y :: r) pos) (decide (p ∧ p2)) ∧ c.V (.BoolOp .And (x :: y :: r) pos) (decide (p ∧ p2)) :=
  ⟨fun _ _ _ q => isTrue_and (k.1 _ _ _ fun t' => dec_b (p := p) (fun e => if_t e (j.1 _ _ _ (and_t (p2 := p2) e ▸ q))) fun e => if_f e (and_f (p2 := p2) e ▸ q _)),
    fun _ _ q => BoolOp_and (k.2 _ _ fun _ => wpAny_truthy_bool (dec_b (p := p) (fun e => if_t e (j.2 _ _ (and_t (p2 := p2) e ▸ q))) fun e => if_f e (e.symm ▸ and_f (p2 := p2) e ▸ q _)))⟩
theorem tbOne {x : Expr} {op : BoolOp} {pos : Pos} (k : c.T x (decide p) ∧ c.V x (decide p)) : c.T (.BoolOp op [x] pos) (decide p) ∧ c.V (.BoolOp op [x] pos) (decide p) :=
  ⟨BoolOp.rec (fun _ _ _ q => isTrue_and (k.1 _ _ _ fun t' => dec_b (p := p) (fun e => if_t e (isTrue_and_nil (e ▸ q _))) fun e => if_f e (e ▸ q _)))
    (fun _ _ _ q => isTrue_or (k.1 _ _ _ fun t' => dec_b (p := p) (fun e => if_t e (e ▸ q _)) fun e => if_f e (isTrue_or_nil (e ▸ q _)))) op, fun _ _ q => BoolOp_one (k.2 _ _ q)⟩
end
noncomputable def tbL (ih : (e : Expr) → Option (Tb c e)) (op : BoolOp) (pos : Pos) (x : Expr) (r : List Expr) : Option (Tb c (.BoolOp op (x :: r) pos)) :=
  List.rec (motive := fun r => ∀ x, Option (Tb c (.BoolOp op (x :: r) pos))) (fun x => onT (ih x) fun p _ k => some ⟨p, _, tbOne k⟩)
    (fun y r jh x => onT (ih x) fun p _ k => onT (jh y) fun p2 _ j => BoolOp.rec (motive := fun op => c.T (.BoolOp op (y :: r) pos) (decide p2) ∧ c.V (.BoolOp op (y :: r) pos) (decide p2) → Option (Tb c (.BoolOp op (x :: y :: r) pos))) (fun j => some ⟨p ∧ p2, _, tbAnd k j⟩) (fun j => some ⟨p ∨ p2, _, tbOr k j⟩) op j) r x
noncomputable def tbS (ih : (e : Expr) → Option (Tb c e)) : (e : Expr) → Option (Tb c e)
  | .Compare l [op] [r] _ => onA (ev c 9 l).1 fun a x => onA (ev c 9 r).1 fun b y => onC a b op fun p _ k => some ⟨p, _, tb1 x y k⟩
  | .Compare l [o1, o2] [r1, r2] _ => onA (ev c 9 l).1 fun a x => onA (ev c 9 r1).1 fun b y => onA (ev c 9 r2).1 fun d z => onC a b o1 fun p _ k => onC b d o2 fun p2 _ j => some ⟨p ∧ p2, _, tb2 x y z k j⟩
  | .BoolOp op (x :: r) pos => tbL ih op pos x r
  | _ => none
noncomputable def tb (c : Cx) (n : Nat) : (e : Expr) → Option (Tb c e) := Nat.rec (fun _ => none) (fun _ ih e => tbS ih e) n
noncomputable def tbv {e : Expr} (x : Option (Tb c e)) : Option ((p : Prop) ×' Decidable p) := match x with
  | some ⟨p, dec, _⟩ => some ⟨p, dec⟩
  | none => none
theorem tb_use {e : Expr} {r : (p : Prop) ×' Decidable p} {x : Option (Tb c e)} (q : tbv x = some r) : c.T e (@decide r.1 r.2) ∧ c.V e (@decide r.1 r.2) := match x, q with
  | some x, q => Option.some.inj q ▸ x.ok
end
section
variable {w : World} {A : Around} {E : Value → Shared → Prop} {h h₀ : Heap} {g : Array GenState} {d : Drawn} {o : OsState} {cn : Str} {sc : Scope} {L a : Addr} {cd : Value} {m : Str → Option Value} {t t' : Nat}
def rdL (sc : Scope) (m : Str → Option Value) (x : Str) : Option Value := match nmB sc x with
  | true => m x
  | false => none
theorem rdL_ok (F : Fr h₀ L h m) : ∀ x v pos t (Q : Value → Shared → Prop), rdL sc m x = some v → Q v ⟨h, g, d, t, o⟩ → wpAny (model PR w) A (eval (.Name x pos) (envOf cn sc L a cd)) Q E ⟨h, g, d, t, o⟩ := by
  intro x v pos t Q e hq
  unfold rdL at e
  split at e
  · exact nm (by assumption) F e hq
  · cases e
abbrev cxL (F : Fr h₀ L h m) (w : World) (A : Around) (E : Value → Shared → Prop) (g : Array GenState) (d : Drawn) (o : OsState) (cn : Str) (sc : Scope) (a : Addr) (cd : Value) : Cx := ⟨w, A, E, h, g, d, o, envOf cn sc L a cd, rdL sc m, rdL_ok F⟩
theorem evL {e : Expr} {v : Value} {Q : Value → Shared → Prop} (hp : pl 9 e = true) (F : Fr h₀ L h m) (he : evv (ev (cxL F w A E g d o cn sc a cd) 9 e) t = some (v, t')) (hq : Q v ⟨h, g, d, t', o⟩) : wpAny (model PR w) A (eval e (envOf cn sc L a cd)) Q E ⟨h, g, d, t, o⟩ := (ev_use he).2 _ hq
theorem evsL {es : List Expr} {pos : Pos} {vs : List Value} {Q : List Value → Shared → Prop} (hp : es.all (pl 9) = true) (F : Fr h₀ L h m) (he : evsv (evs (cxL F w A E g d o cn sc a cd) pos es t) = some (vs, t')) (hq : Q vs ⟨h, g, d, t', o⟩) :
    wpAny (model PR w) A (spliced (backTo pos (starEach es (envOf cn sc L a cd)))) Q E ⟨h, g, d, t, o⟩ := (evs_use he).2 _ hq
theorem tsBL {e : Expr} {whole : Sem Value} {p : Prop} {dec : Decidable p} {Q : Bool → Shared → Prop} (hp : pl 9 e = true) (F : Fr h₀ L h m) (he : tbv (tb (cxL F w A E g d o cn sc a cd) 9 e) = some ⟨p, dec⟩) (hq : ∀ t', Q (decide p) ⟨h, g, d, t', o⟩) :
    wpAny (model PR w) A (isTrue e (envOf cn sc L a cd) whole) Q E ⟨h, g, d, t, o⟩ := (tb_use he).1 _ _ _ hq
theorem evBL {e : Expr} {p : Prop} {dec : Decidable p} {Q : Value → Shared → Prop} (hp : pl 9 e = true) (F : Fr h₀ L h m) (he : tbv (tb (cxL F w A E g d o cn sc a cd) 9 e) = some ⟨p, dec⟩) (hq : ∀ t', Q (.bool (decide p)) ⟨h, g, d, t', o⟩) :
    wpAny (model PR w) A (eval e (envOf cn sc L a cd)) Q E ⟨h, g, d, t, o⟩ := (tb_use he).2 _ _ hq
theorem ifL {e : Expr} {pos : Pos} {p : Prop} {dec : Decidable p} {body orelse : List Stmt} {Q : Flow → Shared → Prop} (hp : pl 9 e = true) (F : Fr h₀ L h m) (he : tbv (tb (cxL F w A E g d o cn sc a cd) 9 e) = some ⟨p, dec⟩)
    (hq : ∀ t', if decide p = true then wpAny (model PR w) A (execs body (envOf cn sc L a cd)) Q E ⟨h, g, d, t', o⟩ else wpAny (model PR w) A (execs orelse (envOf cn sc L a cd)) Q E ⟨h, g, d, t', o⟩) :
    wpAny (model PR w) A (exec (.If e body orelse pos) (envOf cn sc L a cd)) Q E ⟨h, g, d, t, o⟩ := wpAny_If (tsBL hp F he hq)
theorem retL {e : Expr} {pos : Pos} {v : Value} {Q : Flow → Shared → Prop} (hp : pl 9 e = true) (F : Fr h₀ L h m) (he : evv (ev (cxL F w A E g d o cn sc a cd) 9 e) t = some (v, t')) (hq : Q (.ret v) ⟨h, g, d, t', o⟩) : wpAny (model PR w) A (exec (.Return (some e) pos) (envOf cn sc L a cd)) Q E ⟨h, g, d, t, o⟩ :=
  wpAny_Return_some (evL hp F he hq)
theorem binL {l r : Expr} {op : Operator} {pos : Pos} {v1 v2 : Value} {t1 : Nat} {Q : Value → Shared → Prop} (hp : (pl 9 l && pl 9 r) = true) (F : Fr h₀ L h m) (h1 : evv (ev (cxL F w A E g d o cn sc a cd) 9 l) t = some (v1, t1)) (h2 : evv (ev (cxL F w A E g d o cn sc a cd) 9 r) t1 = some (v2, t'))
    (hq : wpAny (model PR w) A (binaryOp op v1 v2) Q E ⟨h, g, d, t', o⟩) : wpAny (model PR w) A (eval (.BinOp l op r pos) (envOf cn sc L a cd)) Q E ⟨h, g, d, t, o⟩ :=
  wpAny_BinOp ((ev_use h1).2 _ ((ev_use h2).2 _ hq))
theorem subL {x : Str} {r : Expr} {p pos : Pos} {v1 v2 : Value} {t1 : Nat} {Q : Value → Shared → Prop} (hp : pl 9 r = true) (F : Fr h₀ L h m) (h1 : evv (ev (cxL F w A E g d o cn sc a cd) 9 (.Name x p)) t = some (v1, t1)) (h2 : evv (ev (cxL F w A E g d o cn sc a cd) 9 r) t1 = some (v2, t'))
    (hq : wpAny (model PR w) A (subscriptTail (.Name x p) r v1 v2) Q E ⟨h, g, d, t', o⟩) : wpAny (model PR w) A (eval (.Subscript (.Name x p) r pos) (envOf cn sc L a cd)) Q E ⟨h, g, d, t, o⟩ :=
  Subscript_ ((ev_use h1).2 _ ((ev_use h2).2 _ hq))
/-- a call of a function of the module by its name, with plain arguments -/
theorem callL {mean : ExcName → Option Value} {mg mb : Str → Option Value} {f : Str} {e1 : Expr} {es : List Expr} {p pos : Pos} {fa : Addr} {vs : List Value} {Q : Value → Shared → Prop} (hp : (e1 :: es).all (pl 9) = true) (F : Fr h₀ L h m) (X : (hda.heap_1_39 w.params).In h₀) (T : Top VW LO mean mg mb h₀)
    (he : evsv (evs (cxL F w A E g d o cn sc a cd) pos (e1 :: es) t) = some (vs, t')) (hl : glB sc f = true) (hf : nsIn (hda.heap_1_39 w.params) mainGlobals f = some (some (.ref fa))) (hk : keepIn (hda.heap_1_39 w.params) (.ref fa) = true)
    (hplain : (backTo pos (starEach es (envOf cn sc L a cd))).any (·.1) = false) (hq : wpAny (model PR w) A (call (.ref fa) vs) Q E ⟨h, g, d, t', o⟩) : wpAny (model PR w) A (eval (.Call (.Name f p) (e1 :: es) [] pos) (envOf cn sc L a cd)) Q E ⟨h, g, d, t, o⟩ :=
  Call_ (nmG hl F X T hf (callWith_K X hk ((evs_use he).2 _ ⟨X.keeps F.keep, hq⟩) ((evs_use he).1 _ _ rfl) hplain))
end
/-- known names laid over a frame's map: they are read by rfl -/
def ovr (l : List (Str × Value)) (m : Str → Option Value) : Str → Option Value := fun y => match l.lookup y with
  | some v => some v
  | none => m y
def Kn (m : Str → Option Value) : List (Str × Value) → Prop
  | [] => True
  | p :: r => m p.1 = some p.2 ∧ Kn m r
theorem Kn.get {m : Str → Option Value} {y : Str} {v : Value} : ∀ {l : List (Str × Value)}, Kn m l → l.lookup y = some v → m y = some v
  | [], _, e => nomatch e
  | p :: r, k, e => by
    obtain ⟨x, u⟩ := p
    cases q : y == x with
    | true => rw [List.lookup_cons, q] at e; rw [eq_of_beq q]; exact k.1.trans e
    | false => rw [List.lookup_cons, q] at e; exact k.2.get e
theorem frK {h h₀ : Heap} {L : Addr} {m : Str → Option Value} {l : List (Str × Value)} (F : Fr h₀ L h m) (k : Kn m l) : ∃ m2, Fr h₀ L h (ovr l m2) := ⟨m, by
  have e : ovr l m = m := funext fun y => by
    unfold ovr
    split
    · exact (k.get (by assumption)).symm
    · rfl
  rw [e]; exact F⟩
/-- the frame's map gets a name -/
theorem nameM {h h₀ : Heap} {L : Addr} {m : Str → Option Value} {P : Prop} (F : Fr h₀ L h m) (k : let m' := m; Fr h₀ L h m' → P) : P := k F
theorem stE {w : World} {A : Around} {E : Value → Shared → Prop} {cn : Str} {sc : Scope} {L a : Addr} {cd : Value} {h₀ : Heap} {m : Str → Option Value} {x : Str} {v : Value} {news : List (Addr × Obj)} {hh : Heap} {gg : Array GenState} {dd : Drawn} {tk : Nat} {oo : OsState} {Q : Unit → Shared → Prop} (F : Fr h₀ L hh m) (N : News h₀ L hh news) (hl : nmB sc x = true)
    (h : let m' := fun y => if y = x then some v else m y; ∀ h', Fr h₀ L h' m' → News h₀ L h' news → Q () ⟨h', gg, dd, tk + 1, oo⟩) : wpAny (model PR w) A (storeName (envOf cn sc L a cd) x v) Q E ⟨hh, gg, dd, tk, oo⟩ := stD hl F N h
theorem frN {h h₀ : Heap} {L : Addr} {m : Str → Option Value} {l : List (Str × Value)} {P : Prop} (F : Fr h₀ L h m) (k : Kn m l) (z : ∀ m1, let m2 := ovr l m1; Fr h₀ L h m2 → P) : P := z _ (frK F k).choose_spec
/-- numbers written out -/
def litInts (es : List Expr) : Option (List Int) := match tupLitsOf es with
  | some ds => match Nat.ble ds.length 100 with
    | true => intsOf? ds
    | false => none
  | none => none
theorem litInts_ok {es : List Expr} {ns : List Int} (h : litInts es = some ns) : ∃ ds, tupLitsOf es = some ds ∧ ds.length ≤ 100 ∧ intsOf? ds = some ns := by
  unfold litInts at h
  split at h
  · split at h
    · exact ⟨_, by assumption, Nat.le_of_ble_eq_true (by assumption), h⟩
    · cases h
  · cases h
/-- a test «x in (numbers)»: the tuple is made and forgotten -/
theorem inL {w : World} {A : Around} {E : Value → Shared → Prop} {h h₀ : Heap} {g : Array GenState} {d : Drawn} {o : OsState} {cn : Str} {sc : Scope} {L a : Addr} {cd : Value} {m : Str → Option Value} {t t1 : Nat} {news : List (Addr × Obj)}
    {l : Expr} {es : List Expr} {k : Nat} {p pos : Pos} {whole : Sem Value} {x : Int} {u : Tok} {ns : List Int} {Q : Bool → Shared → Prop} (F : Fr h₀ L h m) (N : News h₀ L h news)
    (he : evv (ev (cxL F w A E g d o cn sc a cd) 9 l) t = some (.int x u, t1)) (hn : litInts es = some ns)
    (hq : ∀ h' tk', Fr h₀ L h' m → News h₀ L h' news → Q (ns.any (· == x)) ⟨h', g, d, tk', o⟩) : wpAny (model PR w) A (isTrue (.Compare l [.In] [.Tuple es k p] pos) (envOf cn sc L a cd) whole) Q E ⟨h, g, d, t, o⟩ := by
  obtain ⟨ds, h1, h2, h3⟩ := litInts_ok hn
  refine wpAny_isTrue_Compare1 ((ev_use he).2 _ ?_) rfl
  refine Tuple_ (spliced_lits es ds _ _ h1 fun vs tk hvs => ?_)
  have hz : vs.length ≤ sizeLine := by rw [sizeLine_eq, dataAre_len hvs]; lia
  refine newTuple_N F N (fun h' F' N' => ?_) hz
  exact in_tuple_ints ⟨_, (N' _ (.head _)).1, rfl, _, rfl⟩ (hvs.ints h3) (wpAny_truthy_bool (hq _ _ F' (fun q hq => N' q (.tail _ hq))))
theorem nat_of {c : Int} {k : Nat} (h0 : 0 ≤ c) (h1 : c < k) : ∃ n : Nat, n < k ∧ c = n := ⟨c.toNat, (Int.toNat_lt h0).mpr h1, (Int.toNat_of_nonneg h0).symm⟩
/-- a list of references to things, one by one -/
inductive RL {α : Type} (R : Addr → α → Prop) : List Value → List α → Prop
  | nil : RL R [] []
  | cons {a : Addr} {x : α} {vs : List Value} {xs : List α} : R a x → RL R vs xs → RL R (.ref a :: vs) (x :: xs)
section
variable {α : Type} {R R' : Addr → α → Prop} {vs ws : List Value} {xs ys : List α}
theorem RL.mono (e : ∀ a x, R a x → R' a x) (h : RL R vs xs) : RL R' vs xs := by
  induction h with
  | nil => exact .nil
  | cons p _ r => exact .cons (e _ _ p) r
theorem RL.length (h : RL R vs xs) : vs.length = xs.length := by
  induction h with
  | nil => rfl
  | cons _ _ r => exact congrArg (· + 1) r
theorem RL.append (h : RL R vs xs) (k : RL R ws ys) : RL R (vs ++ ws) (xs ++ ys) := by
  induction h with
  | nil => exact k
  | cons p _ r => exact .cons p r
theorem RL.split (h : RL R vs (xs ++ ys)) : ∃ v1 v2, vs = v1 ++ v2 ∧ RL R v1 xs ∧ RL R v2 ys := by
  induction xs generalizing vs with
  | nil => exact ⟨[], _, rfl, .nil, h⟩
  | cons i is ih => cases h with
    | cons p r => exact (ih r).elim fun v1 z => z.elim fun v2 z => ⟨_ :: v1, v2, congrArg _ z.1, .cons p z.2.1, z.2.2⟩
theorem RL.take (k : Nat) (h : RL R vs xs) : RL R (vs.take k) (xs.take k) := by
  induction h generalizing k with
  | nil => rw [List.take_nil, List.take_nil]; exact .nil
  | cons p _ r => cases k with
    | zero => exact .nil
    | succ k => exact .cons p (r k)
theorem RL.get {i : Nat} {v : Value} (h : RL R vs xs) (e : vs[i]? = some v) : ∃ a x, v = .ref a ∧ xs[i]? = some x ∧ R a x := by
  induction h generalizing i with
  | nil => cases e
  | cons p _ r => cases i with
    | zero => cases e; exact ⟨_, _, rfl, rfl, p⟩
    | succ i => exact r e
theorem RL.snoc (h : RL R vs xs) (hn : vs.length ≠ 0) : ∃ p y jp iy, vs = p ++ [Value.ref y] ∧ xs = jp ++ [iy] ∧ RL R p jp ∧ R y iy := by
  induction h with
  | nil => exact absurd rfl hn
  | cons p r ih => cases r with
    | nil => exact ⟨[], _, [], _, rfl, rfl, .nil, p⟩
    | cons q s => exact (ih (Nat.succ_ne_zero _)).elim fun p' z => z.elim fun y z => z.elim fun jp z => z.elim fun iy z => ⟨_ :: p', y, _ :: jp, iy, congrArg _ z.1, congrArg _ z.2.1, .cons p z.2.2.1, z.2.2.2⟩
end
end

theorem fill : PySem.Challenge.rw_nm0145_01 = PySem.Challenge.rw_nm0145_01 ∧ hda.heap_1_39 = hda.heap_1_39 := by w_top off; k_fill; exact ⟨rfl, rfl⟩

local macro_rules | `(tactic| ktr_room) => `(tactic| (refine Room.down (by assumption) (by decide) (by rfl) (by rfl)))
local macro_rules | `(tactic| walk_at "a") => `(tactic| first | (with_reducible assumption) | lia | assumption)
local macro_rules | `(tactic| walk_at "z") => `(tactic| ((try k_sweep); (try dsimp only)))
local macro_rules | `(tactic| walk_at "u4") => `(tactic| (k_asm; k_asm; k_asm; k_asm))
local macro_rules | `(tactic| walk_at "u") => `(tactic| (walk_at "u4"; ktr_room))
local macro_rules | `(tactic| walk_at "it") => `(tactic| (k_asm; assumption; decide; decide; rfl; with_unfolding_all rfl))
local macro_rules | `(tactic| walk_at "nl") => `(tactic| (kmk_list; kmk_list; apply units_ok; assumption; decide))
local macro_rules | `(tactic| walk_at "o") => `(tactic| first | apply opt1n | apply opt1 | (apply opt2 <;> walk_at "o"))
local macro_rules | `(tactic| walk_at "da") => `(tactic| dsimp only [List.any_cons, List.any_nil, isN, Bool.or_false, Bool.false_or, Bool.true_or, Bool.or_true, Bool.not_true, Bool.not_false])
local macro_rules | `(tactic| walk_at "sl") => `(tactic| ((with_reducible apply isSl); k_dflt (refine' kms_slice_lit (by k_asm) (by k_asm) (by kmk_list) (by kmk_part) (by kmk_part) (by rfl) ?_ (by with_unfolding_all rfl) (by kmk_pure) (by first | exact size_any (by assumption) | exact size_pick (by assumption))); intro D' h' F' N' l1; (try k_sweep)))
local macro_rules | `(tactic| walk_at "p") => `(tactic| first | (with_reducible exact p2pos _) | walk_at "a")
local macro_rules | `(tactic| walk_at "q") => `(tactic| first | (with_reducible assumption) | exact p2lt (by lia) | lia)
local macro_rules | `(tactic| walk_at "binaryOp FloorDiv int int") => `(tactic| with_reducible refine fd_c (by walk_at "p") (by walk_at "q") ?_)
local macro_rules | `(tactic| walk_at "binaryOp Mod int int") => `(tactic| with_reducible refine md_c (by walk_at "p") ?_)
local macro_rules | `(tactic| walk_at "binaryOp RShift int int") => `(tactic| (apply rs_c; walk_at "a"))
local macro_rules | `(tactic| walk_at "binaryOp Pow int int") => `(tactic| (apply pw_c; walk_at "a"; walk_at "a"))
local macro_rules | `(tactic| walk_at "binaryOp LShift int int") => `(tactic| (apply ls_c; walk_at "a"; walk_at "a"; walk_at "a"))
local macro_rules | `(tactic| walk_at "eval Constant int") => `(tactic| refine ci ?_)
local macro_rules | `(tactic| walk_at "binaryOp Add int int") => `(tactic| refine ai ?_)
local macro_rules | `(tactic| walk_at "binaryOp Sub int int") => `(tactic| refine si ?_)
local macro_rules | `(tactic| walk_at "binaryOp BitAnd int int") => `(tactic| refine bai ?_)
local macro_rules | `(tactic| walk_at "binaryOp BitOr int int") => `(tactic| refine boi ?_)
local macro_rules | `(tactic| walk_at "storeName") => `(tactic| ((with_reducible refine stE (by walk_at "f") (by walk_at "f") (by k_dflt (exact rfl)) ?_); intro mp9 h' F' N'; (try k_sweep)))
local macro_rules | `(tactic| k_ne) => `(tactic| (refine neN ?_; (try dsimp only); first | (with_reducible assumption) | (refine Ne.symm ?_; with_reducible assumption)))
local macro_rules | `(tactic| walk_at $s:str) => `(tactic| (refine holdK $s hSm ?_))
local macro_rules | `(tactic| walk_at "exec While") => `(tactic| refine hold ?_)
local macro_rules | `(tactic| walk_at "exec For") => `(tactic| refine hold ?_)
local macro_rules | `(tactic| walk_at "e") => `(tactic| k_dflt (first | assumption | exact rfl))
local macro_rules | `(tactic| walk_at "f") => `(tactic| k_dflt k_asm)
local macro_rules | `(tactic| walk_at "eval Name") => `(tactic| (with_reducible refine nm (by k_dflt (exact rfl)) (by walk_at "f") (by walk_at "e") ?_))
local macro_rules | `(tactic| walk_at "eval Name") => `(tactic| (with_reducible refine nmG (by k_dflt (exact rfl)) (by walk_at "f") (by walk_at "f") (by walk_at "f") (by k_is) ?_))
local macro_rules | `(tactic| walk_at "loadName") => `(tactic| k_dflt (apply ldn; k_asm; (first | exact rfl | assumption); rotate_left; rfl; rfl; k_whole))
local macro_rules | `(tactic| walk_at "execs cons") => `(tactic| ((try dsimp only); first | (with_reducible refine seq1 ?_) | ((try k_fold); (with_reducible refine seqF ?_); intro Q9 hQ9)))
local macro_rules | `(tactic| walk_at "execs nil") => `(tactic| (with_reducible refine wpAny_execs_nil ?_))
local macro_rules | `(tactic| walk_at "eval BinOp") => `(tactic| first | ((with_reducible refine evL (by k_dflt (exact rfl)) (by walk_at "f") (by k_dflt (exact @rfl _ (some _))) ?_); k_whole) | ((with_reducible refine binL (by k_dflt (exact rfl)) (by walk_at "f") (by k_dflt (exact @rfl _ (some _))) (by k_dflt (exact @rfl _ (some _))) ?_); k_whole))
local macro_rules | `(tactic| walk_at "eval UnaryOp") => `(tactic| ((with_reducible refine evL (by k_dflt (exact rfl)) (by walk_at "f") (by k_dflt (exact @rfl _ (some _))) ?_); k_whole))
local macro_rules | `(tactic| walk_at "exec Return some") => `(tactic| ((with_reducible refine retL (by k_dflt (exact rfl)) (by walk_at "f") (by k_dflt (exact @rfl _ (some _))) ?_); k_whole))
local macro_rules | `(tactic| walk_at "exec If") => `(tactic| with_reducible apply wpAny_If)
local macro_rules | `(tactic| walk_at "exec If") => `(tactic| ((with_reducible refine ifL (by k_dflt (exact rfl)) (by walk_at "f") (by k_dflt (exact @rfl _ (some _))) ?_); intro tk9))
local macro_rules | `(tactic| walk_at "isTrue Compare") => `(tactic| ((with_reducible refine inL (by walk_at "f") (by walk_at "f") (by k_dflt (exact @rfl _ (some _))) (by k_dflt (exact @rfl _ (some _))) ?_); intro h9 tk9 F9 N9; walk_at "z"))
local macro_rules | `(tactic| walk_at "isTrue Compare") => `(tactic| ((with_reducible refine tsBL (by k_dflt (exact rfl)) (by walk_at "f") (by k_dflt (exact @rfl _ (some _))) ?_); intro tk9))
local macro_rules | `(tactic| walk_at "isTrue BoolOp") => `(tactic| ((with_reducible refine tsBL (by k_dflt (exact rfl)) (by walk_at "f") (by k_dflt (exact @rfl _ (some _))) ?_); intro tk9))
local macro_rules | `(tactic| walk_at "eval BoolOp") => `(tactic| ((with_reducible refine evBL (by k_dflt (exact rfl)) (by walk_at "f") (by k_dflt (exact @rfl _ (some _))) ?_); intro tk9))
local macro_rules | `(tactic| walk_at "eval Compare") => `(tactic| ((with_reducible refine evBL (by k_dflt (exact rfl)) (by walk_at "f") (by k_dflt (exact @rfl _ (some _))) ?_); intro tk9))
local macro_rules | `(tactic| walk_at "spliced") => `(tactic| ((with_reducible refine evsL (by k_dflt (exact rfl)) (by walk_at "f") (by k_dflt (exact @rfl _ (some _))) ?_); k_whole))
local macro_rules | `(tactic| walk_at "eval Subscript") => `(tactic| ((with_reducible refine subL (by k_dflt (exact rfl)) (by walk_at "f") (by k_dflt (exact @rfl _ (some _))) (by k_dflt (exact @rfl _ (some _))) ?_); k_whole))
local macro_rules | `(tactic| walk_at "eval Call") => `(tactic| ((with_reducible refine callL (by k_dflt (exact rfl)) (by walk_at "f") (by walk_at "f") (by walk_at "f") (by k_dflt (exact @rfl _ (some _))) (by k_dflt (exact rfl)) (by k_is) (by k_is) (by k_dflt (exact rfl)) ?_); k_whole))
local macro_rules | `(tactic| wrow_close) => `(tactic| first | (with_reducible refine SQ.nk (by assumption) (fun tk9 => ?_)) | (with_reducible refine SQ.nx (by assumption) ?_) | (with_reducible refine SQ.rt (by assumption) ?_) | (with_reducible refine SQ.ct (by assumption) ?_) | (with_reducible refine SQ.br (by assumption) ?_))
local macro_rules | `(tactic| walk_at "call ref") => `(tactic| (k_dflt (refine' useO (by (with_reducible refine' ctK ..) <;> walk_at "a") (by k_asm) (by k_asm) (by k_asm) (by k_asm) (by ktr_room) ?_ ?_; k_whole); first | (intro x9 hr9 t9 h9 tk9 F9 N9; walk_at "z") | (intro hr9 h9 tk9 F9 N9; walk_at "z")))
local macro_rules | `(tactic| walk_at "call ref") => `(tactic| (k_dflt (refine' useX (by (with_reducible refine' ctK ..) <;> walk_at "a") (by k_asm) (by k_asm) (by k_asm) (by k_asm) (by k_asm) (by k_asm) (by ktr_room) ?_ ?_; k_whole); first | (intro x9 hr9 t9 h9 tk9 F9 N9; walk_at "z") | (intro hr9 e9 h9 tk9 Fl9; (try dsimp only); refine hold ?_)))
local macro_rules | `(tactic| walk_at "call ref") => `(tactic| (k_dflt (refine' useT (by (with_reducible refine' ctK ..) <;> walk_at "a") (by k_asm) (by k_asm) (by k_asm) (by k_asm) (by ktr_room) ?_ ?_; k_whole); first | (intro hr9 h9 tk9 F9 N9; walk_at "z") | (intro p9 q9 hr9 a9 t9 u9 h9 tk9 F9 N9 l9; (try simp only [AllNe, and_true] at l9); walk_at "z")))
local macro_rules | `(tactic| walk_at "call ref") => `(tactic| (k_dflt (refine' useB (by (with_reducible refine' ctK ..) <;> walk_at "a") (by k_asm) (by k_asm) (by k_asm) (by k_asm) (by ktr_room) ?_; k_whole); intro h9 tk9 F9 N9; walk_at "z"))
local macro_rules | `(tactic| walk_at "call ref") => `(tactic| (k_dflt (refine' useI (by (with_reducible refine' ctK ..) <;> walk_at "a") (by k_asm) (by k_asm) (by k_asm) (by k_asm) (by ktr_room) ?_; k_whole); intro t9 h9 tk9 F9 N9; walk_at "z"))
local macro_rules | `(tactic| walk_at "call ref") => `(tactic| (refine holdA hAm ?_))
local macro_rules | `(tactic| walk_at "eval IfExp") => `(tactic| with_reducible refine hold1 (by assumption) ?_)
local macro_rules | `(tactic| walk_at "getMethod type:Exception") => `(tactic| (refine' method_type (by k_asm) (by k_asm) meta_Exception (by decide +kernel) (by k_dflt k_is) (by k_handed) ?_))
local macro_rules | `(tactic| walk_at "call builtin:Exception.__init__") => `(tactic| (apply base_init_line; k_asm; k_asm; k_asm; intro h9 t9 F9 N9; walk_at "z"))
local macro_rules | `(tactic| walk_at "setAttr ref") => `(tactic| (apply store_line; k_asm; k_asm; k_asm; intro h9 tk9 d9 F9 N9; walk_at "z"))
local macro_rules | `(tactic| walk_at "exec Raise some none") => `(tactic| refine raise_c rfl ?_)
local macro_rules | `(tactic| walk_at "subscriptTail") => `(tactic| ((have h9 := mG8); clear h9; ((with_reducible apply rest_item); k_dflt (k_asm; k_asm; assumption; with_unfolding_all rfl))))
local macro_rules | `(tactic| walk_at "subscriptTail") => `(tactic| ((have h9 := mG8); clear h9; ((with_reducible apply cmp_item); k_dflt (k_asm; k_asm; assumption; with_unfolding_all rfl))))
local macro_rules | `(tactic| walk_at "callWith ref") => `(tactic| ((have h9 := mG8); clear h9; k_dflt (refine' callWith_K (by k_asm) (by apply rest_call; assumption) ?_)))
local macro_rules | `(tactic| walk_at "callWith ref") => `(tactic| ((have h9 := mG8); clear h9; k_dflt (refine' callWith_K (by k_asm) (by apply cmp_call; assumption) ?_)))
local macro_rules | `(tactic| walk_at "subscriptTail") => `(tactic| ((have h9 := mG8); clear h9; ((with_reducible apply cnt_item); k_dflt (k_asm; k_asm; assumption; with_unfolding_all rfl))))
local macro_rules | `(tactic| walk_at "callWith ref") => `(tactic| ((have h9 := mG8); clear h9; k_dflt (refine' callWith_K (by k_asm) (by apply cnt_call; assumption) ?_)))
local macro_rules | `(tactic| k_inst) => `(tactic| (refine' instBase (by k_asm) (by assumption) (by assumption)))
local macro_rules | `(tactic| walk_at "subscriptTail") => `(tactic| ((with_reducible apply item_base); k_dflt (walk_at "it"; k_whole)))
local macro_rules | `(tactic| walk_at "getAttr ref") => `(tactic| ((with_reducible apply code_use); k_dflt (assumption; walk_at "u4"; apply room0; assumption; k_whole); intro t9 h9 tk9 F9 N9; walk_at "z"))
local macro_rules | `(tactic| walk_at "eval Name") => `(tactic| ((with_reducible show wpAny _ _ (eval _ (compEnvC _ _ _ _)) _ _ _); k_dflt (first | ((with_reducible apply ldC); k_asm; assumption; rotate_left; rfl; rfl; decide; k_whole) | ((with_reducible apply clC); k_asm; rfl; assumption; (with_reducible assumption); rotate_left; rfl; rfl; decide; k_whole) | ((with_reducible apply nameG_K); k_asm; k_asm; k_asm; k_is; rotate_left; rfl; rfl; rfl; decide; k_whole))))
local macro_rules | `(tactic| walk_at "subscriptTail") => `(tactic| ((with_reducible apply last_item); k_dflt (k_asm; k_mem; assumption; with_unfolding_all rfl; k_whole)))
local macro_rules | `(tactic| walk_at "compareOp NotIn") => `(tactic| (((with_reducible apply nn_c); k_dflt (kmk_list; walk_at "o")); walk_at "da"))
local macro_rules | `(tactic| walk_at "subscriptTail") => `(tactic| walk_at "sl")
local macro_rules | `(tactic| walk_at "subscriptTail Name Slice ref ref") => `(tactic| walk_at "sl")
local macro_rules | `(tactic| walk_at "subscriptTail") => `(tactic| ((with_reducible apply last_item); k_dflt (k_asm; k_mem; (first | assumption | rfl); with_unfolding_all rfl; k_whole)))
local macro_rules | `(tactic| walk_at "compareOp NotEq ref ref") => `(tactic| ((with_reducible apply ne_nil_c); k_dflt (walk_at "nl")))
local macro_rules | `(tactic| walk_at "call builtin:len") => `(tactic| (((with_reducible apply len_c); k_dflt (kmk_list; assumption)); intro t9 tk9; (try dsimp only)))
local macro_rules | `(tactic| k_all) => `(tactic| assumption)
local macro_rules | `(tactic| walk_at "compareOp NotEq ref ref") => `(tactic| first | ((with_reducible apply ne_nil_c); k_dflt (walk_at "nl")) | ((with_reducible apply eq_nil_c); k_dflt (walk_at "nl")))
local macro_rules | `(tactic| walk_at "assign Tuple") => `(tactic| (((with_reducible apply unpackB); k_dflt (k_asm; k_asm; assumption; rfl; rfl; rfl)); intro h' F' N'; (try k_sweep)))
local macro_rules | `(tactic| walk_at "ite") => `(tactic| with_reducible first | refine ite_cn (by assumption) ?_ | refine ite_cp (by assumption) ?_ | refine ite_dn (by assumption) ?_ | refine ite_dp (by assumption) ?_ | refine ite_bn (by assumption) ?_ | refine ite_bp (by assumption) ?_)
local macro_rules | `(tactic| walk_at "subscriptTail") => `(tactic| ((with_reducible apply item_baseL); k_dflt (walk_at "it"; k_whole)))
local macro_rules | `(tactic| walk_at "ite") => `(tactic| first | refine ite_cn (by decide) ?_ | refine ite_cp (by decide) ?_)
local macro_rules | `(tactic| walk_at "subscriptTail") => `(tactic| with_reducible refine holdT (by assumption) ?_)
local macro_rules | `(tactic| walk_at "exec If") => `(tactic| with_reducible refine hold3 (by assumption) ?_)
local macro_rules | `(tactic| walk_at "exec Assign") => `(tactic| with_reducible refine hold4 (by assumption) ?_)
local macro_rules | `(tactic| walk_at "binaryOp Mult int int") => `(tactic| with_reducible (apply mi; assumption))
local macro_rules | `(tactic| walk_at "binaryOp Sub int int") => `(tactic| ((have h9 := mG1); clear h9; with_reducible (apply sub_p; assumption)))
local macro_rules | `(tactic| walk_at "eval Name") => `(tactic| ((with_reducible show wpAny _ _ (eval _ (envOfC _ _ _ _ _)) _ _ _); k_dflt (first | ((with_reducible apply ldCN); k_asm; rfl; k_mem; assumption; rotate_left; rfl; rfl; decide) | ((with_reducible apply ldLC); k_asm; rfl; rotate_left; rfl; rfl; decide) | ((with_reducible apply nameG_K); k_asm; k_asm; k_asm; k_is; rotate_left; rfl; rfl; rfl; decide; k_whole))))
local macro_rules | `(tactic| walk_at "eval Subscript") => `(tactic| with_reducible refine holdSubD (by assumption) ?_)
local macro_rules | `(tactic| walk_at "evalPairs") => `(tactic| dsimp only)
local macro_rules | `(tactic| walk_at "ite") => `(tactic| ((have h9 := mG2); clear h9; first | refine ite_bp (by decide) ?_ | refine ite_bn (by decide) ?_ | (with_reducible apply ite_be <;> intro _)))
local macro_rules | `(tactic| walk_at "ite") => `(tactic| ((have h9 := mG2); clear h9; ((with_reducible show if List.any _ _ = true then _ else _); refine ite_b ?_ ?_ <;> intro _)))
local macro_rules | `(tactic| walk_at "compareOp In int ref") => `(tactic| ((have h9 := mG2); clear h9; ((with_reducible apply in2_c); k_dflt (k_asm))))
local macro_rules | `(tactic| walk_at "subscriptTail") => `(tactic| ((have h9 := mG6); clear h9; apply holdSD))
local macro_rules | `(tactic| walk_at "compareOp In") => `(tactic| (((with_reducible apply in_c); k_dflt (kmk_list; walk_at "o")); walk_at "da"))
local macro_rules | `(tactic| walk_at "eval IfExp") => `(tactic| (k_here; first | (with_reducible show wpAny _ _ (eval (Expr.IfExp _ (Expr.Constant (Const.int 35) _ _) _ _) _) _ _ _) | (with_reducible show wpAny _ _ (eval (Expr.IfExp _ (Expr.BinOp _ _ _ _) _ _) _) _ _ _)); (have h9 : Hold (0 < 6) := by assumption); clear h9; refine hold ?_)
local macro_rules | `(tactic| walk_at "subscriptTail") => `(tactic| ((have h9 := mG4); clear h9; apply holdSN))
local macro_rules | `(tactic| walk_at "And") => `(tactic| ((with_reducible show NearF _ _ _ ∧ _); refine hold ?_))
local macro_rules | `(tactic| walk_at "newTuple") => `(tactic| with_reducible refine hold2 (by assumption) ?_)
local macro_rules | `(tactic| walk_at "compareOp In int ref") => `(tactic| with_reducible refine hold5 (by assumption) ?_)
local macro_rules | `(tactic| walk_at "LoopStep3") => `(tactic| ((have h9 := mG3); clear h9; refine holdS ?_))
local macro_rules | `(tactic| walk_at "subscriptTail") => `(tactic| ((have h9 := mG7); clear h9; k_dflt (refine' item_at (by k_asm) (by exact .head _) (by decide) (by decide) (by exact rfl) ?_)))
local macro_rules | `(tactic| walk_at "subscriptTail Name Constant ref int") => `(tactic| ((have h9 := mG7); clear h9; k_dflt (refine' item_at (by k_asm) (by exact .head _) (by decide) (by decide) (by exact rfl) ?_)))
local macro_rules | `(tactic| walk_at "binaryOp Mod int int") => `(tactic| with_reducible refine hold1 (by assumption) ?_)
local macro_rules | `(tactic| walk_at "subscriptTail") => `(tactic| with_reducible refine hold12 (by assumption) ?_)
local macro_rules | `(tactic| walk_at "subscriptTail Name Constant ref int") => `(tactic| with_reducible refine hold12 (by assumption) ?_)
local macro_rules | `(tactic| walk_at "subscriptTail") => `(tactic| ((have h9 := mG5); clear h9; apply holdSL))
set_option maxHeartbeats 2000000

section
/-! plain facts -/
def sg (b x : Int) : Int := if x ≥ 2 ^ (b - 1).toNat then x - 2 ^ b.toNat else x
theorem div_zero_iff {x : Int} (k : Nat) (h : 0 ≤ x) : x / (2 ^ k) = 0 ↔ x < 2 ^ k := by
  have hp := p2pos k
  constructor
  · intro e
    have := Int.emod_lt_of_pos x hp
    have h2 := Int.mul_ediv_add_emod x (2 ^ k)
    rw [e] at h2; lia
  · intro e; exact Int.ediv_eq_zero_of_lt h e
theorem unsigned_c (w : World) (x b : Int) (t u : Tok) (h0 : 0 ≤ b) (h1 : b ≤ 64) : CtI w 65 [.int x t, .int b u] 1 (x % 2 ^ b.toNat) := by
  intro mean mg mb dp un fr gd s Q E G hR hret
  have KX := G.k
  have T := G.t
  refine enter G (by k_dflt k_is) (by k_dflt k_is) (Room.enter hR) rfl (locs rfl) (fun L' h' tk' F' N' => ?_)
  intro A9 E9
  try dsimp only
  dsimp only [List.map, List.zip, List.zipWith, List.reverse, List.reverseAux] at F'
  refine nameM F' ?_
  clear F'
  intro mp9 F'
  k_steps
  (k_steps; (try dsimp only); first | (refine endI (by assumption) (by k_asm) ?_) | (refine endB (by assumption) (by k_asm) ?_) | (refine endR (by assumption) (by k_asm) ?_))
  rw [Int.one_mul, kbt_mask]
theorem Kunsigned_c.ctK : type_of% @unsigned_c := @unsigned_c
open Kunsigned_c
theorem signed_c (w : World) (x b : Int) (t u : Tok) (h0 : 0 < b) (h1 : b ≤ 64) (hx : 0 ≤ x) : CtI w 72 [.int x t, .int b u] 1 (sg b x) := by
  intro mean mg mb dp un fr gd s Q E G hR hret
  have KX := G.k
  have T := G.t
  refine enter G (by k_dflt k_is) (by k_dflt k_is) (Room.enter hR) rfl (locs rfl) (fun L' h' tk' F' N' => ?_)
  intro A9 E9
  try dsimp only
  dsimp only [List.map, List.zip, List.zipWith, List.reverse, List.reverseAux] at F'
  refine nameM F' ?_
  clear F'
  intro mp9 F'
  k_steps
  all_goals (k_steps; (try dsimp only); first | (refine endI (by assumption) (by k_asm) ?_) | (refine endB (by assumption) (by k_asm) ?_) | (refine endR (by assumption) (by k_asm) ?_))
  · rename_i h; rw [Int.one_mul, sg, if_pos]
    rw [Ne, div_zero_iff _ hx] at h; lia
  · rename_i h; rw [sg, if_neg]
    rw [div_zero_iff _ hx] at h; lia
theorem Ksigned_c.ctK : type_of% @signed_c := @signed_c
open Ksigned_c
theorem least_c (w : World) (b : Int) (u : Tok) (h0 : 0 < b) (h1 : b ≤ 64) : CtI w 79 [.int b u] 1 (- 2 ^ (b - 1).toNat) := by
  intro mean mg mb dp un fr gd s Q E G hR hret
  have KX := G.k
  have T := G.t
  refine enter G (by k_dflt k_is) (by k_dflt k_is) (Room.enter hR) rfl (locs rfl) (fun L' h' tk' F' N' => ?_)
  intro A9 E9
  try dsimp only
  dsimp only [List.map, List.zip, List.zipWith, List.reverse, List.reverseAux] at F'
  refine nameM F' ?_
  clear F'
  intro mp9 F'
  k_steps
  all_goals (k_steps; (try dsimp only); first | (refine endI (by assumption) (by k_asm) ?_) | (refine endB (by assumption) (by k_asm) ?_) | (refine endR (by assumption) (by k_asm) ?_))
  rw [Int.one_mul]
theorem Kleast_c.ctK : type_of% @least_c := @least_c
open Kleast_c
theorem emod_nn (x : Int) (k : Nat) : 0 ≤ x % 2 ^ k := Int.emod_nonneg _ (by have := p2pos k; lia)
theorem widened_c (w : World) (x n b : Int) (t u v : Tok) (h0 : 0 < n) (h1 : n ≤ 64) (h2 : 0 < b) (h3 : b ≤ 64) : CtI w 86 [.int x t, .int n u, .int b v] 2 (sg n (x % 2 ^ n.toNat) % 2 ^ b.toNat) := by
  have hh := emod_nn x n.toNat
  intro mean mg mb dp un fr gd s Q E G hR hret
  have KX := G.k
  have T := G.t
  refine enter G (by k_dflt k_is) (by k_dflt k_is) (Room.enter hR) rfl (locs rfl) (fun L' h' tk' F' N' => ?_)
  intro A9 E9
  try dsimp only
  dsimp only [List.map, List.zip, List.zipWith, List.reverse, List.reverseAux] at F'
  refine nameM F' ?_
  clear F'
  intro mp9 F'
  k_steps
  all_goals (k_steps; (try dsimp only); first | (refine endI (by assumption) (by k_asm) ?_) | (refine endB (by assumption) (by k_asm) ?_) | (refine endR (by assumption) (by k_asm) ?_))
  rfl
theorem Kwidened_c.ctK : type_of% @widened_c := @widened_c
open Kwidened_c
theorem eqz_c (w : World) (x b : Int) (t u : Tok) : CtI w 93 [.int x t, .int b u] 1 (if x = 0 then 1 else 0) := by
  intro mean mg mb dp un fr gd s Q E G hR hret
  have KX := G.k
  have T := G.t
  refine enter G (by k_dflt k_is) (by k_dflt k_is) (Room.enter hR) rfl (locs rfl) (fun L' h' tk' F' N' => ?_)
  intro A9 E9
  try dsimp only
  dsimp only [List.map, List.zip, List.zipWith, List.reverse, List.reverseAux] at F'
  refine nameM F' ?_
  clear F'
  intro mp9 F'
  k_steps
  all_goals (k_steps; (try dsimp only); first | (refine endI (by assumption) (by k_asm) ?_) | (refine endB (by assumption) (by k_asm) ?_) | (refine endR (by assumption) (by k_asm) ?_))
  all_goals simp_all
theorem Keqz_c.ctK : type_of% @eqz_c := @eqz_c
open Keqz_c
theorem add_c (w : World) (x y b : Int) (t u v : Tok) (h0 : 0 ≤ b) (h1 : b ≤ 64) : CtI w 121 [.int x t, .int y u, .int b v] 2 ((x + y) % 2 ^ b.toNat) := by
  intro mean mg mb dp un fr gd s Q E G hR hret
  have KX := G.k
  have T := G.t
  refine enter G (by k_dflt k_is) (by k_dflt k_is) (Room.enter hR) rfl (locs rfl) (fun L' h' tk' F' N' => ?_)
  intro A9 E9
  try dsimp only
  dsimp only [List.map, List.zip, List.zipWith, List.reverse, List.reverseAux] at F'
  refine nameM F' ?_
  clear F'
  intro mp9 F'
  k_steps
  (k_steps; (try dsimp only); first | (refine endI (by assumption) (by k_asm) ?_) | (refine endB (by assumption) (by k_asm) ?_) | (refine endR (by assumption) (by k_asm) ?_))
  rfl
theorem Kadd_c.ctK : type_of% @add_c := @add_c
open Kadd_c
theorem sub_c (w : World) (x y b : Int) (t u v : Tok) (h0 : 0 ≤ b) (h1 : b ≤ 64) : CtI w 128 [.int x t, .int y u, .int b v] 2 ((x - y) % 2 ^ b.toNat) := by
  intro mean mg mb dp un fr gd s Q E G hR hret
  have KX := G.k
  have T := G.t
  refine enter G (by k_dflt k_is) (by k_dflt k_is) (Room.enter hR) rfl (locs rfl) (fun L' h' tk' F' N' => ?_)
  intro A9 E9
  try dsimp only
  dsimp only [List.map, List.zip, List.zipWith, List.reverse, List.reverseAux] at F'
  refine nameM F' ?_
  clear F'
  intro mp9 F'
  k_steps
  (k_steps; (try dsimp only); first | (refine endI (by assumption) (by k_asm) ?_) | (refine endB (by assumption) (by k_asm) ?_) | (refine endR (by assumption) (by k_asm) ?_))
  rfl
theorem Ksub_c.ctK : type_of% @sub_c := @sub_c
open Ksub_c
end

section
open Kunsigned_c
open Ksigned_c
open Kleast_c
open Kwidened_c
open Keqz_c
open Kadd_c
open Ksub_c
theorem mul_c (w : World) (x y b : Int) (t u v : Tok) (h0 : 0 ≤ b) (h1 : b ≤ 64) (hx : x.natAbs < 2 ^ 64) (hy : y.natAbs < 2 ^ 64) : CtI w 135 [.int x t, .int y u, .int b v] 2 ((x * y) % 2 ^ b.toNat) := by
  intro mean mg mb dp un fr gd s Q E G hR hret
  have KX := G.k
  have T := G.t
  refine enter G (by k_dflt k_is) (by k_dflt k_is) (Room.enter hR) rfl (locs rfl) (fun L' h' tk' F' N' => ?_)
  intro A9 E9
  try dsimp only
  dsimp only [List.map, List.zip, List.zipWith, List.reverse, List.reverseAux] at F'
  refine nameM F' ?_
  clear F'
  intro mp9 F'
  k_steps
  (k_steps; (try dsimp only); first | (refine endI (by assumption) (by k_asm) ?_) | (refine endB (by assumption) (by k_asm) ?_) | (refine endR (by assumption) (by k_asm) ?_))
  rfl
theorem Kmul_c.ctK : type_of% @mul_c := @mul_c
open Kmul_c
def tn (a b : Int) : Int := if (decide (a < 0) == decide (b < 0)) = true then (if a < 0 then -a else a) / (if b < 0 then -b else b) else -((if a < 0 then -a else a) / (if b < 0 then -b else b))
theorem tn_c (w : World) (a b : Int) (t u : Tok) (h0 : b ≠ 0) (h1 : b.natAbs < 2 ^ 65) : CtI w 142 [.int a t, .int b u] 1 (tn a b) := by
  have hb : 0 < (if b < 0 then -b else b) := by split <;> lia
  have hb0 : (if b < 0 then -b else b) < 2 ^ 65 := by split <;> lia
  intro mean mg mb dp un fr gd s Q E G hR hret
  have KX := G.k
  have T := G.t
  refine enter G (by k_dflt k_is) (by k_dflt k_is) (Room.enter hR) rfl (locs rfl) (fun L' h' tk' F' N' => ?_)
  intro A9 E9
  try dsimp only
  dsimp only [List.map, List.zip, List.zipWith, List.reverse, List.reverseAux] at F'
  refine nameM F' ?_
  clear F'
  intro mp9 F'
  k_steps
  all_goals (k_steps; (try dsimp only); first | (refine endI (by assumption) (by k_asm) ?_) | (refine endB (by assumption) (by k_asm) ?_) | (refine endR (by assumption) (by k_asm) ?_))
  · rename_i h; rw [tn, if_pos h]
  · rename_i h; rw [tn, h]; rfl
theorem Ktn_c.ctK : type_of% @tn_c := @tn_c
open Ktn_c
theorem and_c (w : World) (x y b : Int) (t u v : Tok) : CtI w 177 [.int x t, .int y u, .int b v] 1 (Builtin.bitAnd x y) := by
  intro mean mg mb dp un fr gd s Q E G hR hret
  have KX := G.k
  have T := G.t
  refine enter G (by k_dflt k_is) (by k_dflt k_is) (Room.enter hR) rfl (locs rfl) (fun L' h' tk' F' N' => ?_)
  intro A9 E9
  try dsimp only
  dsimp only [List.map, List.zip, List.zipWith, List.reverse, List.reverseAux] at F'
  refine nameM F' ?_
  clear F'
  intro mp9 F'
  k_steps
  (k_steps; (try dsimp only); first | (refine endI (by assumption) (by k_asm) ?_) | (refine endB (by assumption) (by k_asm) ?_) | (refine endR (by assumption) (by k_asm) ?_))
  rfl
theorem Kand_c.ctK : type_of% @and_c := @and_c
open Kand_c
theorem or_c (w : World) (x y b : Int) (t u v : Tok) : CtI w 184 [.int x t, .int y u, .int b v] 1 (Builtin.bitOr x y) := by
  intro mean mg mb dp un fr gd s Q E G hR hret
  have KX := G.k
  have T := G.t
  refine enter G (by k_dflt k_is) (by k_dflt k_is) (Room.enter hR) rfl (locs rfl) (fun L' h' tk' F' N' => ?_)
  intro A9 E9
  try dsimp only
  dsimp only [List.map, List.zip, List.zipWith, List.reverse, List.reverseAux] at F'
  refine nameM F' ?_
  clear F'
  intro mp9 F'
  k_steps
  (k_steps; (try dsimp only); first | (refine endI (by assumption) (by k_asm) ?_) | (refine endB (by assumption) (by k_asm) ?_) | (refine endR (by assumption) (by k_asm) ?_))
  rfl
theorem Kor_c.ctK : type_of% @or_c := @or_c
open Kor_c
theorem xor_c (w : World) (x y b : Int) (t u v : Tok) : CtI w 191 [.int x t, .int y u, .int b v] 1 (Builtin.bitXor x y) := by
  intro mean mg mb dp un fr gd s Q E G hR hret
  have KX := G.k
  have T := G.t
  refine enter G (by k_dflt k_is) (by k_dflt k_is) (Room.enter hR) rfl (locs rfl) (fun L' h' tk' F' N' => ?_)
  intro A9 E9
  try dsimp only
  dsimp only [List.map, List.zip, List.zipWith, List.reverse, List.reverseAux] at F'
  refine nameM F' ?_
  clear F'
  intro mp9 F'
  k_steps
  (k_steps; (try dsimp only); first | (refine endI (by assumption) (by k_asm) ?_) | (refine endB (by assumption) (by k_asm) ?_) | (refine endR (by assumption) (by k_asm) ?_))
  rfl
theorem Kxor_c.ctK : type_of% @xor_c := @xor_c
open Kxor_c
theorem shl_c (w : World) (x y b : Int) (t u v : Tok) (h0 : 0 < b) (h1 : b ≤ 64) (hx : x.natAbs < 2 ^ 64) : CtI w 198 [.int x t, .int y u, .int b v] 2 (x * 2 ^ (y % b).toNat % 2 ^ b.toNat) := by
  have hm0 := Int.emod_nonneg y (show b ≠ 0 by lia)
  have hm1 := Int.emod_lt_of_pos y h0
  intro mean mg mb dp un fr gd s Q E G hR hret
  have KX := G.k
  have T := G.t
  refine enter G (by k_dflt k_is) (by k_dflt k_is) (Room.enter hR) rfl (locs rfl) (fun L' h' tk' F' N' => ?_)
  intro A9 E9
  try dsimp only
  dsimp only [List.map, List.zip, List.zipWith, List.reverse, List.reverseAux] at F'
  refine nameM F' ?_
  clear F'
  intro mp9 F'
  k_steps
  all_goals (k_steps; (try dsimp only); first | (refine endI (by assumption) (by k_asm) ?_) | (refine endB (by assumption) (by k_asm) ?_) | (refine endR (by assumption) (by k_asm) ?_))
  rfl
theorem Kshl_c.ctK : type_of% @shl_c := @shl_c
open Kshl_c
theorem shrs_c (w : World) (x y b : Int) (t u v : Tok) (h0 : 0 < b) (h1 : b ≤ 64) (hx : 0 ≤ x) : CtI w 205 [.int x t, .int y u, .int b v] 2 (sg b x / 2 ^ (y % b).toNat % 2 ^ b.toNat) := by
  have hm0 := Int.emod_nonneg y (show b ≠ 0 by lia)
  have hm1 := Int.emod_lt_of_pos y h0
  intro mean mg mb dp un fr gd s Q E G hR hret
  have KX := G.k
  have T := G.t
  refine enter G (by k_dflt k_is) (by k_dflt k_is) (Room.enter hR) rfl (locs rfl) (fun L' h' tk' F' N' => ?_)
  intro A9 E9
  try dsimp only
  dsimp only [List.map, List.zip, List.zipWith, List.reverse, List.reverseAux] at F'
  refine nameM F' ?_
  clear F'
  intro mp9 F'
  k_steps
  all_goals (k_steps; (try dsimp only); first | (refine endI (by assumption) (by k_asm) ?_) | (refine endB (by assumption) (by k_asm) ?_) | (refine endR (by assumption) (by k_asm) ?_))
  rfl
theorem Kshrs_c.ctK : type_of% @shrs_c := @shrs_c
open Kshrs_c
theorem shru_c (w : World) (x y b : Int) (t u v : Tok) (h0 : 0 < b) (h1 : b ≤ 64) : CtI w 212 [.int x t, .int y u, .int b v] 1 (x / 2 ^ (y % b).toNat) := by
  have hm0 := Int.emod_nonneg y (show b ≠ 0 by lia)
  have hm1 := Int.emod_lt_of_pos y h0
  intro mean mg mb dp un fr gd s Q E G hR hret
  have KX := G.k
  have T := G.t
  refine enter G (by k_dflt k_is) (by k_dflt k_is) (Room.enter hR) rfl (locs rfl) (fun L' h' tk' F' N' => ?_)
  intro A9 E9
  try dsimp only
  dsimp only [List.map, List.zip, List.zipWith, List.reverse, List.reverseAux] at F'
  refine nameM F' ?_
  clear F'
  intro mp9 F'
  k_steps
  all_goals (k_steps; (try dsimp only); first | (refine endI (by assumption) (by k_asm) ?_) | (refine endB (by assumption) (by k_asm) ?_) | (refine endR (by assumption) (by k_asm) ?_))
  rfl
theorem Kshru_c.ctK : type_of% @shru_c := @shru_c
open Kshru_c
def rl (b x y : Int) : Int := Builtin.bitOr (x * 2 ^ (y % b).toNat % 2 ^ b.toNat) (x / 2 ^ (b - y % b).toNat)
theorem rotl_c (w : World) (x y b : Int) (t u v : Tok) (h0 : 0 < b) (h1 : b ≤ 64) (hx : x.natAbs < 2 ^ 64) : CtI w 219 [.int x t, .int y u, .int b v] 2 (rl b x y) := by
  have hm0 := Int.emod_nonneg y (show b ≠ 0 by lia)
  have hm1 := Int.emod_lt_of_pos y h0
  intro mean mg mb dp un fr gd s Q E G hR hret
  have KX := G.k
  have T := G.t
  refine enter G (by k_dflt k_is) (by k_dflt k_is) (Room.enter hR) rfl (locs rfl) (fun L' h' tk' F' N' => ?_)
  intro A9 E9
  try dsimp only
  dsimp only [List.map, List.zip, List.zipWith, List.reverse, List.reverseAux] at F'
  refine nameM F' ?_
  clear F'
  intro mp9 F'
  k_steps
  all_goals (k_steps; (try dsimp only); first | (refine endI (by assumption) (by k_asm) ?_) | (refine endB (by assumption) (by k_asm) ?_) | (refine endR (by assumption) (by k_asm) ?_))
  rfl
theorem Krotl_c.ctK : type_of% @rotl_c := @rotl_c
open Krotl_c
theorem rotr_c (w : World) (x y b : Int) (t u v : Tok) (h0 : 0 < b) (h1 : b ≤ 64) (hx : x.natAbs < 2 ^ 64) : CtI w 226 [.int x t, .int y u, .int b v] 3 (rl b x (b - y % b)) := by
  intro mean mg mb dp un fr gd s Q E G hR hret
  have KX := G.k
  have T := G.t
  refine enter G (by k_dflt k_is) (by k_dflt k_is) (Room.enter hR) rfl (locs rfl) (fun L' h' tk' F' N' => ?_)
  intro A9 E9
  try dsimp only
  dsimp only [List.map, List.zip, List.zipWith, List.reverse, List.reverseAux] at F'
  refine nameM F' ?_
  clear F'
  intro mp9 F'
  k_steps
  all_goals (k_steps; (try dsimp only); first | (refine endI (by assumption) (by k_asm) ?_) | (refine endB (by assumption) (by k_asm) ?_) | (refine endR (by assumption) (by k_asm) ?_))
  rfl
theorem Krotr_c.ctK : type_of% @rotr_c := @rotr_c
open Krotr_c
end

section
open Kunsigned_c
open Ksigned_c
open Kleast_c
open Kwidened_c
open Keqz_c
open Kadd_c
open Ksub_c
open Kmul_c
open Ktn_c
open Kand_c
open Kor_c
open Kxor_c
open Kshl_c
open Kshrs_c
open Kshru_c
open Krotl_c
open Krotr_c
theorem eq_c (w : World) (x y b : Int) (t u v : Tok) : CtI w 233 [.int x t, .int y u, .int b v] 1 (if x = y then 1 else 0) := by
  intro mean mg mb dp un fr gd s Q E G hR hret
  have KX := G.k
  have T := G.t
  refine enter G (by k_dflt k_is) (by k_dflt k_is) (Room.enter hR) rfl (locs rfl) (fun L' h' tk' F' N' => ?_)
  intro A9 E9
  try dsimp only
  dsimp only [List.map, List.zip, List.zipWith, List.reverse, List.reverseAux] at F'
  refine nameM F' ?_
  clear F'
  intro mp9 F'
  k_steps
  all_goals (k_steps; (try dsimp only); first | (refine endI (by assumption) (by k_asm) ?_) | (refine endB (by assumption) (by k_asm) ?_) | (refine endR (by assumption) (by k_asm) ?_))
  all_goals simp_all
theorem Keq_c.ctK : type_of% @eq_c := @eq_c
open Keq_c
theorem ne_c (w : World) (x y b : Int) (t u v : Tok) : CtI w 240 [.int x t, .int y u, .int b v] 1 (if x ≠ y then 1 else 0) := by
  intro mean mg mb dp un fr gd s Q E G hR hret
  have KX := G.k
  have T := G.t
  refine enter G (by k_dflt k_is) (by k_dflt k_is) (Room.enter hR) rfl (locs rfl) (fun L' h' tk' F' N' => ?_)
  intro A9 E9
  try dsimp only
  dsimp only [List.map, List.zip, List.zipWith, List.reverse, List.reverseAux] at F'
  refine nameM F' ?_
  clear F'
  intro mp9 F'
  k_steps
  all_goals (k_steps; (try dsimp only); first | (refine endI (by assumption) (by k_asm) ?_) | (refine endB (by assumption) (by k_asm) ?_) | (refine endR (by assumption) (by k_asm) ?_))
  all_goals simp_all
theorem Kne_c.ctK : type_of% @ne_c := @ne_c
open Kne_c
theorem ltu_c (w : World) (x y b : Int) (t u v : Tok) : CtI w 254 [.int x t, .int y u, .int b v] 1 (if x < y then 1 else 0) := by
  intro mean mg mb dp un fr gd s Q E G hR hret
  have KX := G.k
  have T := G.t
  refine enter G (by k_dflt k_is) (by k_dflt k_is) (Room.enter hR) rfl (locs rfl) (fun L' h' tk' F' N' => ?_)
  intro A9 E9
  try dsimp only
  dsimp only [List.map, List.zip, List.zipWith, List.reverse, List.reverseAux] at F'
  refine nameM F' ?_
  clear F'
  intro mp9 F'
  k_steps
  all_goals (k_steps; (try dsimp only); first | (refine endI (by assumption) (by k_asm) ?_) | (refine endB (by assumption) (by k_asm) ?_) | (refine endR (by assumption) (by k_asm) ?_))
  all_goals simp_all
theorem Kltu_c.ctK : type_of% @ltu_c := @ltu_c
open Kltu_c
theorem lts_c (w : World) (x y b : Int) (t u v : Tok) (h0 : 0 < b) (h1 : b ≤ 64) (hx : 0 ≤ x) (hy : 0 ≤ y) : CtI w 247 [.int x t, .int y u, .int b v] 2 (if sg b x < sg b y then 1 else 0) := by
  intro mean mg mb dp un fr gd s Q E G hR hret
  have KX := G.k
  have T := G.t
  refine enter G (by k_dflt k_is) (by k_dflt k_is) (Room.enter hR) rfl (locs rfl) (fun L' h' tk' F' N' => ?_)
  intro A9 E9
  try dsimp only
  dsimp only [List.map, List.zip, List.zipWith, List.reverse, List.reverseAux] at F'
  refine nameM F' ?_
  clear F'
  intro mp9 F'
  k_steps
  all_goals (k_steps; (try dsimp only); first | (refine endI (by assumption) (by k_asm) ?_) | (refine endB (by assumption) (by k_asm) ?_) | (refine endR (by assumption) (by k_asm) ?_))
  all_goals simp_all
theorem Klts_c.ctK : type_of% @lts_c := @lts_c
open Klts_c
theorem gts_c (w : World) (x y b : Int) (t u v : Tok) (h0 : 0 < b) (h1 : b ≤ 64) (hx : 0 ≤ x) (hy : 0 ≤ y) : CtI w 261 [.int x t, .int y u, .int b v] 3 (if sg b y < sg b x then 1 else 0) := by
  intro mean mg mb dp un fr gd s Q E G hR hret
  have KX := G.k
  have T := G.t
  refine enter G (by k_dflt k_is) (by k_dflt k_is) (Room.enter hR) rfl (locs rfl) (fun L' h' tk' F' N' => ?_)
  intro A9 E9
  try dsimp only
  dsimp only [List.map, List.zip, List.zipWith, List.reverse, List.reverseAux] at F'
  refine nameM F' ?_
  clear F'
  intro mp9 F'
  k_steps
  all_goals (k_steps; (try dsimp only); first | (refine endI (by assumption) (by k_asm) ?_) | (refine endB (by assumption) (by k_asm) ?_) | (refine endR (by assumption) (by k_asm) ?_))
  rfl
theorem Kgts_c.ctK : type_of% @gts_c := @gts_c
open Kgts_c
theorem les_c (w : World) (x y b : Int) (t u v : Tok) (h0 : 0 < b) (h1 : b ≤ 64) (hx : 0 ≤ x) (hy : 0 ≤ y) : CtI w 275 [.int x t, .int y u, .int b v] 3 (1 - if sg b y < sg b x then 1 else 0) := by
  intro mean mg mb dp un fr gd s Q E G hR hret
  have KX := G.k
  have T := G.t
  refine enter G (by k_dflt k_is) (by k_dflt k_is) (Room.enter hR) rfl (locs rfl) (fun L' h' tk' F' N' => ?_)
  intro A9 E9
  try dsimp only
  dsimp only [List.map, List.zip, List.zipWith, List.reverse, List.reverseAux] at F'
  refine nameM F' ?_
  clear F'
  intro mp9 F'
  k_steps
  all_goals (k_steps; (try dsimp only); first | (refine endI (by assumption) (by k_asm) ?_) | (refine endB (by assumption) (by k_asm) ?_) | (refine endR (by assumption) (by k_asm) ?_))
  rfl
theorem Kles_c.ctK : type_of% @les_c := @les_c
open Kles_c
theorem ges_c (w : World) (x y b : Int) (t u v : Tok) (h0 : 0 < b) (h1 : b ≤ 64) (hx : 0 ≤ x) (hy : 0 ≤ y) : CtI w 289 [.int x t, .int y u, .int b v] 3 (1 - if sg b x < sg b y then 1 else 0) := by
  intro mean mg mb dp un fr gd s Q E G hR hret
  have KX := G.k
  have T := G.t
  refine enter G (by k_dflt k_is) (by k_dflt k_is) (Room.enter hR) rfl (locs rfl) (fun L' h' tk' F' N' => ?_)
  intro A9 E9
  try dsimp only
  dsimp only [List.map, List.zip, List.zipWith, List.reverse, List.reverseAux] at F'
  refine nameM F' ?_
  clear F'
  intro mp9 F'
  k_steps
  all_goals (k_steps; (try dsimp only); first | (refine endI (by assumption) (by k_asm) ?_) | (refine endB (by assumption) (by k_asm) ?_) | (refine endR (by assumption) (by k_asm) ?_))
  rfl
theorem Kges_c.ctK : type_of% @ges_c := @ges_c
open Kges_c
theorem gtu_c (w : World) (x y b : Int) (t u v : Tok) : CtI w 268 [.int x t, .int y u, .int b v] 2 (if y < x then 1 else 0) := by
  intro mean mg mb dp un fr gd s Q E G hR hret
  have KX := G.k
  have T := G.t
  refine enter G (by k_dflt k_is) (by k_dflt k_is) (Room.enter hR) rfl (locs rfl) (fun L' h' tk' F' N' => ?_)
  intro A9 E9
  try dsimp only
  dsimp only [List.map, List.zip, List.zipWith, List.reverse, List.reverseAux] at F'
  refine nameM F' ?_
  clear F'
  intro mp9 F'
  k_steps
  all_goals (k_steps; (try dsimp only); first | (refine endI (by assumption) (by k_asm) ?_) | (refine endB (by assumption) (by k_asm) ?_) | (refine endR (by assumption) (by k_asm) ?_))
  rfl
theorem Kgtu_c.ctK : type_of% @gtu_c := @gtu_c
open Kgtu_c
theorem leu_c (w : World) (x y b : Int) (t u v : Tok) : CtI w 282 [.int x t, .int y u, .int b v] 2 (1 - if y < x then 1 else 0) := by
  intro mean mg mb dp un fr gd s Q E G hR hret
  have KX := G.k
  have T := G.t
  refine enter G (by k_dflt k_is) (by k_dflt k_is) (Room.enter hR) rfl (locs rfl) (fun L' h' tk' F' N' => ?_)
  intro A9 E9
  try dsimp only
  dsimp only [List.map, List.zip, List.zipWith, List.reverse, List.reverseAux] at F'
  refine nameM F' ?_
  clear F'
  intro mp9 F'
  k_steps
  all_goals (k_steps; (try dsimp only); first | (refine endI (by assumption) (by k_asm) ?_) | (refine endB (by assumption) (by k_asm) ?_) | (refine endR (by assumption) (by k_asm) ?_))
  rfl
theorem Kleu_c.ctK : type_of% @leu_c := @leu_c
open Kleu_c
theorem geu_c (w : World) (x y b : Int) (t u v : Tok) : CtI w 296 [.int x t, .int y u, .int b v] 2 (1 - if x < y then 1 else 0) := by
  intro mean mg mb dp un fr gd s Q E G hR hret
  have KX := G.k
  have T := G.t
  refine enter G (by k_dflt k_is) (by k_dflt k_is) (Room.enter hR) rfl (locs rfl) (fun L' h' tk' F' N' => ?_)
  intro A9 E9
  try dsimp only
  dsimp only [List.map, List.zip, List.zipWith, List.reverse, List.reverseAux] at F'
  refine nameM F' ?_
  clear F'
  intro mp9 F'
  k_steps
  all_goals (k_steps; (try dsimp only); first | (refine endI (by assumption) (by k_asm) ?_) | (refine endB (by assumption) (by k_asm) ?_) | (refine endR (by assumption) (by k_asm) ?_))
  rfl
theorem Kgeu_c.ctK : type_of% @geu_c := @geu_c
open Kgeu_c
def takesF (c : Int) : Int := if c = 80 ∨ c = 167 ∨ (81 ≤ c ∧ c ≤ 90) ∨ (121 ≤ c ∧ c ≤ 138) ∨ 194 ≤ c then 64 else 32
theorem tk1 {c : Int} (h : ([80, 167].any fun x => x == c) = true) : 64 = takesF c := by
  simp only [List.any_cons, List.any_nil, Bool.or_false, Bool.or_eq_true, beq_iff_eq] at h
  exact (if_pos (h.elim (fun q => .inl q.symm) fun q => .inr (.inl q.symm))).symm
theorem tk2 {c : Int} (h : (81 ≤ c ∧ c ≤ 90) ∨ (121 ≤ c ∧ c ≤ 138) ∨ 194 ≤ c) : 64 = takesF c := (if_pos (.inr (.inr h))).symm
theorem tk5 {c : Int} (h : ([80, 167].any fun x => x == c) = false) (k : ¬ ((81 ≤ c ∧ c ≤ 90) ∨ (121 ≤ c ∧ c ≤ 138) ∨ 194 ≤ c)) : 32 = takesF c := by
  simp only [List.any_cons, List.any_nil, Bool.or_false, Bool.or_eq_false_iff, beq_eq_false_iff_ne] at h
  exact (if_neg fun q => q.elim (fun q => h.1 q.symm) fun q => q.elim (fun q => h.2 q.symm) k).symm
theorem ltakes_c (w : World) (c : Int) (t : Tok) : CtI w 492 [.int c t] 1 (takesF c) := by
  intro mean mg mb dp un fr gd s Q E G hR hret
  have KX := G.k
  have T := G.t
  refine enter G (by k_dflt k_is) (by k_dflt k_is) (Room.enter hR) rfl (locs rfl) (fun L' h' tk' F' N' => ?_)
  intro A9 E9
  try dsimp only
  dsimp only [List.map, List.zip, List.zipWith, List.reverse, List.reverseAux] at F'
  refine nameM F' ?_
  clear F'
  intro mp9 F'
  k_steps
  all_goals (k_steps; (try dsimp only); first | (refine endI (by assumption) (by k_asm) ?_) | (refine endB (by assumption) (by k_asm) ?_) | (refine endR (by assumption) (by k_asm) ?_))
  all_goals first
    | exact tk1 (by assumption)
    | exact tk2 (by assumption)
    | exact tk5 (by assumption) (by assumption)
theorem Kltakes_c.ctK : type_of% @ltakes_c := @ltakes_c
open Kltakes_c
def isOneF (c : Int) : Bool := ([69, 80, 167, 172, 173].any fun x => x == c) || decide ((103 ≤ c ∧ c ≤ 105) ∨ (121 ≤ c ∧ c ≤ 123) ∨ 192 ≤ c)
theorem one1 {c : Int} (h : ([69, 80, 167, 172, 173].any fun x => x == c) = true) : ([69, 80, 167, 172, 173].any fun x => x == c) = isOneF c := h.trans ((congrArg (· || _) h).trans rfl).symm
theorem one4 {c : Int} (h : ([69, 80, 167, 172, 173].any fun x => x == c) = false) : decide ((103 ≤ c ∧ c ≤ 105) ∨ (121 ≤ c ∧ c ≤ 123) ∨ 192 ≤ c) = isOneF c := ((congrArg (· || _) h).trans (Bool.false_or _)).symm
theorem lisone_c (w : World) (c : Int) (t : Tok) : CtB w 499 [.int c t] 1 (isOneF c) := by
  intro mean mg mb dp un fr gd s Q E G hR hret
  have KX := G.k
  have T := G.t
  refine enter G (by k_dflt k_is) (by k_dflt k_is) (Room.enter hR) rfl (locs rfl) (fun L' h' tk' F' N' => ?_)
  intro A9 E9
  try dsimp only
  dsimp only [List.map, List.zip, List.zipWith, List.reverse, List.reverseAux] at F'
  refine nameM F' ?_
  clear F'
  intro mp9 F'
  k_steps
  all_goals (k_steps; (try dsimp only); first | (refine endI (by assumption) (by k_asm) ?_) | (refine endB (by assumption) (by k_asm) ?_) | (refine endR (by assumption) (by k_asm) ?_))
  all_goals first
    | exact one1 (by assumption)
    | exact one4 (by assumption)
theorem Klisone_c.ctK : type_of% @lisone_c := @lisone_c
open Klisone_c
theorem lsigned_c (w : World) (x b : Int) (t u : Tok) (h0 : 0 < b) (h1 : b ≤ 64) : CtI w 506 [.int x t, .int b u] 1 (sg b x) := by
  intro mean mg mb dp un fr gd s Q E G hR hret
  have KX := G.k
  have T := G.t
  refine enter G (by k_dflt k_is) (by k_dflt k_is) (Room.enter hR) rfl (locs rfl) (fun L' h' tk' F' N' => ?_)
  intro A9 E9
  try dsimp only
  dsimp only [List.map, List.zip, List.zipWith, List.reverse, List.reverseAux] at F'
  refine nameM F' ?_
  clear F'
  intro mp9 F'
  k_steps
  all_goals (k_steps; (try dsimp only); first | (refine endI (by assumption) (by k_asm) ?_) | (refine endB (by assumption) (by k_asm) ?_) | (refine endR (by assumption) (by k_asm) ?_))
  · rename_i h; rw [sg, if_pos h]
  · rename_i h; rw [sg, if_neg h]
theorem Klsigned_c.ctK : type_of% @lsigned_c := @lsigned_c
open Klsigned_c
def plainF (x c : Int) : Bool := if c = 65 then decide (-2 ^ 31 ≤ x ∧ x < 2 ^ 31) else decide (-2 ^ 63 ≤ x ∧ x < 2 ^ 63)
theorem plain_fin {a x b : Int} : (a ≤ x → decide (x < b) = decide (a ≤ x ∧ x < b)) ∧ (¬ a ≤ x → decide (a ≤ x) = decide (a ≤ x ∧ x < b)) := by
  constructor <;> intro h <;> simp [h]
theorem lplain_c (w : World) (x c : Int) (t u : Tok) : CtB w 563 [.int x t, .int c u] 1 (plainF x c) := by
  intro mean mg mb dp un fr gd s Q E G hR hret
  have KX := G.k
  have T := G.t
  refine enter G (by k_dflt k_is) (by k_dflt k_is) (Room.enter hR) rfl (locs rfl) (fun L' h' tk' F' N' => ?_)
  intro A9 E9
  try dsimp only
  dsimp only [List.map, List.zip, List.zipWith, List.reverse, List.reverseAux] at F'
  refine nameM F' ?_
  clear F'
  intro mp9 F'
  k_steps
  all_goals (k_steps; (try dsimp only); first | (refine endI (by assumption) (by k_asm) ?_) | (refine endB (by assumption) (by k_asm) ?_) | (refine endR (by assumption) (by k_asm) ?_))
  all_goals first
    | (exfalso; lia)
    | (rw [plainF, if_pos (by assumption)]; first | exact plain_fin.1 (by assumption) | exact plain_fin.2 (by assumption))
    | (rw [plainF, if_neg (by assumption)]; first | exact plain_fin.1 (by assumption) | exact plain_fin.2 (by assumption))
theorem Klplain_c.ctK : type_of% @lplain_c := @lplain_c
open Klplain_c
end

section
open Kunsigned_c
open Ksigned_c
open Kleast_c
open Kwidened_c
open Keqz_c
open Kadd_c
open Ksub_c
open Kmul_c
open Ktn_c
open Kand_c
open Kor_c
open Kxor_c
open Kshl_c
open Kshrs_c
open Kshru_c
open Krotl_c
open Krotr_c
open Keq_c
open Kne_c
open Kltu_c
open Klts_c
open Kgts_c
open Kles_c
open Kges_c
open Kgtu_c
open Kleu_c
open Kgeu_c
open Kltakes_c
open Klisone_c
open Klsigned_c
open Klplain_c
def placeF (c a b m : Int) : Option (Int × Int) := if a ≤ c ∧ c < a + m then some (c - a, 32) else if b ≤ c ∧ c < b + m then some (c - b, 64) else none
/-- a new tuple of two ints, or None -/
def OptTup2 (r : Option (Int × Int)) : Heap → Heap → Value → Prop := fun h h' v => match r with
  | none => v = .none
  | some (p, q) => ∃ a t u, v = .ref a ∧ h'.get? a = some { cls := .type "tuple", data := .seq #[.int p t, .int q u] } ∧ h.get? a = none
theorem optTup2_some {h₀ L h news p q a t u} {r : Option (Int × Int)} (N : News h₀ L h news) (hm : (a, ({ cls := .type "tuple", data := .seq #[.int p t, .int q u] } : Obj)) ∈ news) (e : r = some (p, q)) : OptTup2 r h₀ h (.ref a) := by
  subst e; exact ⟨a, t, u, rfl, N.get hm, N.fresh hm⟩
theorem optTup2_none {h₀ h} {r : Option (Int × Int)} (e : r = none) : OptTup2 r h₀ h .none := by subst e; rfl
theorem useT {w : World} {f : Addr} {args : List Value} {n : Nat} {r : Option (Int × Int)} {mean : ExcName → Option Value} {mg mb : Str → Option Value} {dp un : Nat} {fr : Option (List Env)} {gd : Option (List Code)} {hh : Heap} {gg : Array GenState} {dd : Drawn} {t0 : Nat} {oo : OsState} {Q E : Value → Shared → Prop}
  {h₀ : Heap} {L : Addr} {m : Str → Option Value} {news : List (Addr × Obj)} (S : Ct w f args n (OptTup2 r)) (F : Fr h₀ L hh m) (N : News h₀ L hh news) (X : (hda.heap_1_39 w.params).In h₀) (T : Top VW LO mean mg mb h₀) (hR : Room dp un n)
    (hn : r = none → ∀ h' tk', Fr h₀ L h' m → News h₀ L h' news → Q .none ⟨h', gg, dd, tk', oo⟩)
    (hs : ∀ p q, r = some (p, q) → ∀ a t u h' tk', Fr h₀ L h' m → News h₀ L h' ((a, { cls := .type "tuple", data := .seq #[.int p t, .int q u] }) :: news) → AllNe a news → Q (.ref a) ⟨h', gg, dd, tk', oo⟩) :
    wpAny (model PR w) (AR dp un fr gd) (call (.ref f) args) Q E ⟨hh, gg, dd, t0, oo⟩ := by
  refine use S F N X T hR fun v h' tk' F' N' e r' => ?_
  unfold OptTup2 at r'
  split at r'
  · subst r'; exact hn rfl h' tk' F' N'
  · obtain ⟨a, t, u, rfl, ho, hf⟩ := r'
    obtain ⟨N₂, l⟩ := newsFresh F N e hf ho
    exact hs _ _ rfl a t u h' tk' F' N₂ l
theorem place_c (w : World) (c a b m : Int) (t u v x : Tok) : Ct w 306 [.int c t, .int a u, .int b v, .int m x] 1 (OptTup2 (placeF c a b m)) := by
  intro mean mg mb dp un fr gd s Q E G hR hret
  have KX := G.k
  have T := G.t
  refine enter G (by k_dflt k_is) (by k_dflt k_is) (Room.enter hR) rfl (locs rfl) (fun L' h' tk' F' N' => ?_)
  intro A9 E9
  try dsimp only
  dsimp only [List.map, List.zip, List.zipWith, List.reverse, List.reverseAux] at F'
  refine nameM F' ?_
  clear F'
  intro mp9 F'
  k_steps
  all_goals (k_steps; (try dsimp only); first | (refine endI (by assumption) (by k_asm) ?_) | (refine endB (by assumption) (by k_asm) ?_) | (refine endR (by assumption) (by k_asm) ?_))
  all_goals first
    | (refine optTup2_some (by assumption) (by k_mem) ?_; first | exact if_pos (by assumption) | exact (if_neg (by assumption)).trans (if_pos (by assumption)))
    | (refine optTup2_none ?_; exact (if_neg (by assumption)).trans (if_neg (by assumption)))
theorem Kplace_c.ctK : type_of% @place_c := @place_c
open Kplace_c
def narrowF (c : Int) : Option (Int × Int) := if 192 ≤ c ∧ c < 194 then some (8 * 2 ^ (c - 192).toNat, 32) else if 194 ≤ c ∧ c < 197 then some (8 * 2 ^ (c - 194).toNat, 64) else if c = 172 then some (32, 64) else none
theorem narrow_c (w : World) (c : Int) (t : Tok) : Ct w 313 [.int c t] 1 (OptTup2 (narrowF c)) := by
  intro mean mg mb dp un fr gd s Q E G hR hret
  have KX := G.k
  have T := G.t
  refine enter G (by k_dflt k_is) (by k_dflt k_is) (Room.enter hR) rfl (locs rfl) (fun L' h' tk' F' N' => ?_)
  intro A9 E9
  try dsimp only
  dsimp only [List.map, List.zip, List.zipWith, List.reverse, List.reverseAux] at F'
  refine nameM F' ?_
  clear F'
  intro mp9 F'
  k_steps
  all_goals (k_steps; (try dsimp only); first | (refine endI (by assumption) (by k_asm) ?_) | (refine endB (by assumption) (by k_asm) ?_) | (refine endR (by assumption) (by k_asm) ?_))
  all_goals first
    | (exfalso; lia)
    | (refine optTup2_some (by assumption) (by k_mem) ?_; rw [narrowF]; first | rw [if_pos (by lia)] | rw [if_neg (by lia), if_pos (by lia)] | rw [if_neg (by lia), if_neg (by lia), if_pos (by lia)])
    | (refine optTup2_none ?_; rw [narrowF, if_neg (by lia), if_neg (by lia), if_neg (by lia)])
theorem Knarrow_c.ctK : type_of% @narrow_c := @narrow_c
open Knarrow_c
def isUnF (c : Int) : Bool := ([69, 80, 167, 173].any fun x => x == c) || (placeF c 103 121 3).isSome || (narrowF c).isSome
theorem isun1 {c : Int} (ha : ([69, 80, 167, 173].any fun x => x == c) = true) : true = isUnF c := by rw [isUnF, ha]; rfl
theorem isun2 {c p q : Int} (h : placeF c 103 121 3 = some (p, q)) : true = isUnF c := by rw [isUnF, h]; simp
theorem isun3 {c p q : Int} (h : narrowF c = some (p, q)) : true = isUnF c := by rw [isUnF, h]; simp
theorem isun4 {c : Int} (ha : ([69, 80, 167, 173].any fun x => x == c) = false) (h : placeF c 103 121 3 = none) (h2 : narrowF c = none) : false = isUnF c := by rw [isUnF, ha, h, h2]; rfl
theorem isun_c (w : World) (c : Int) (t : Tok) : CtB w 320 [.int c t] 2 (isUnF c) := by
  intro mean mg mb dp un fr gd s Q E G hR hret
  have KX := G.k
  have T := G.t
  refine enter G (by k_dflt k_is) (by k_dflt k_is) (Room.enter hR) rfl (locs rfl) (fun L' h' tk' F' N' => ?_)
  intro A9 E9
  try dsimp only
  dsimp only [List.map, List.zip, List.zipWith, List.reverse, List.reverseAux] at F'
  refine nameM F' ?_
  clear F'
  intro mp9 F'
  k_steps
  all_goals (k_steps; (try dsimp only); first | (refine endI (by assumption) (by k_asm) ?_) | (refine endB (by assumption) (by k_asm) ?_) | (refine endR (by assumption) (by k_asm) ?_))
  all_goals first | exact isun1 (by assumption) | exact isun2 (by assumption) | exact isun3 (by assumption) | exact isun4 (by assumption) (by assumption) (by assumption)
theorem Kisun_c.ctK : type_of% @isun_c := @isun_c
open Kisun_c
def isBiF (c : Int) : Bool := (placeF c 70 81 10).isSome || (placeF c 106 124 15).isSome
theorem isbi1 {c p q : Int} (h : placeF c 70 81 10 = some (p, q)) : true = isBiF c := by rw [isBiF, h]; rfl
theorem isbi2 {c p q : Int} (h : placeF c 106 124 15 = some (p, q)) : true = isBiF c := by rw [isBiF, h]; simp
theorem isbi3 {c : Int} (h : placeF c 70 81 10 = none) (h2 : placeF c 106 124 15 = none) : false = isBiF c := by rw [isBiF, h, h2]; rfl
theorem isbi_c (w : World) (c : Int) (t : Tok) : CtB w 327 [.int c t] 2 (isBiF c) := by
  intro mean mg mb dp un fr gd s Q E G hR hret
  have KX := G.k
  have T := G.t
  refine enter G (by k_dflt k_is) (by k_dflt k_is) (Room.enter hR) rfl (locs rfl) (fun L' h' tk' F' N' => ?_)
  intro A9 E9
  try dsimp only
  dsimp only [List.map, List.zip, List.zipWith, List.reverse, List.reverseAux] at F'
  refine nameM F' ?_
  clear F'
  intro mp9 F'
  k_steps
  all_goals (k_steps; (try dsimp only); first | (refine endI (by assumption) (by k_asm) ?_) | (refine endB (by assumption) (by k_asm) ?_) | (refine endR (by assumption) (by k_asm) ?_))
  all_goals first | exact isbi1 (by assumption) | exact isbi2 (by assumption) | exact isbi3 (by assumption) (by assumption)
theorem Kisbi_c.ctK : type_of% @isbi_c := @isbi_c
open Kisbi_c
def lowF (c : Int) : Int := if 121 ≤ c ∧ c ≤ 138 then c - 18 else c
def neuG (low : Int) : Option Int := if low = 106 ∨ low = 107 ∨ (114 ≤ low ∧ low ≤ 120) then some 0 else if 108 ≤ low ∧ low ≤ 110 then some 1 else if low = 113 then some (-1) else none
def neutralF (c : Int) : Option Int :=
  let low := if 121 ≤ c ∧ c ≤ 138 then c - 18 else c
  if low = 106 ∨ low = 107 ∨ (114 ≤ low ∧ low ≤ 120) then some 0 else if 108 ≤ low ∧ low ≤ 110 then some 1 else if low = 113 then some (-1) else none
def OptInt (r : Option Int) : Heap → Heap → Value → Prop := fun _ _ v => match r with
  | none => v = .none
  | some x => ∃ t, v = .int x t
theorem optInt_some {h h' x t} {r : Option Int} (e : r = some x) : OptInt r h h' (.int x t) := by subst e; exact ⟨t, rfl⟩
theorem optInt_none {h h'} {r : Option Int} (e : r = none) : OptInt r h h' .none := by subst e; rfl
theorem useO {w : World} {f : Addr} {args : List Value} {n : Nat} {r : Option Int} {mean : ExcName → Option Value} {mg mb : Str → Option Value} {dp un : Nat} {fr : Option (List Env)} {gd : Option (List Code)} {hh : Heap} {gg : Array GenState} {dd : Drawn} {t0 : Nat} {oo : OsState} {Q E : Value → Shared → Prop}
  {h₀ : Heap} {L : Addr} {m : Str → Option Value} {news : List (Addr × Obj)} (S : Ct w f args n (OptInt r)) (F : Fr h₀ L hh m) (N : News h₀ L hh news) (X : (hda.heap_1_39 w.params).In h₀) (T : Top VW LO mean mg mb h₀) (hR : Room dp un n)
    (hn : r = none → ∀ h' tk', Fr h₀ L h' m → News h₀ L h' news → Q .none ⟨h', gg, dd, tk', oo⟩)
    (hs : ∀ x, r = some x → ∀ t h' tk', Fr h₀ L h' m → News h₀ L h' news → Q (.int x t) ⟨h', gg, dd, tk', oo⟩) :
    wpAny (model PR w) (AR dp un fr gd) (call (.ref f) args) Q E ⟨hh, gg, dd, t0, oo⟩ := by
  refine use S F N X T hR fun v h' tk' F' N' e r' => ?_
  unfold OptInt at r'
  split at r'
  · subst r'; exact hn rfl h' tk' F' N'
  · obtain ⟨t, rfl⟩ := r'
    exact hs _ rfl t h' tk' F' N'
theorem neutral_c (w : World) (c : Int) (t : Tok) : Ct w 412 [.int c t] 1 (OptInt (neutralF c)) := by
  intro mean mg mb dp un fr gd s Q E G hR hret
  have KX := G.k
  have T := G.t
  refine enter G (by k_dflt k_is) (by k_dflt k_is) (Room.enter hR) rfl (locs rfl) (fun L' h' tk' F' N' => ?_)
  intro A9 E9
  try dsimp only
  dsimp only [List.map, List.zip, List.zipWith, List.reverse, List.reverseAux] at F'
  refine nameM F' ?_
  clear F'
  intro mp9 F'
  have hI : Hold (0 < 1) := Nat.zero_lt_one
  k_steps
  refine unhold ?_
  refine mono_F (F := lowF c) ?_ ?_
  · clear hI
    k_steps
    all_goals refine unhold ⟨_, _, congrArg (Value.int · _) ?_, rfl⟩
    all_goals first | exact (if_pos (by assumption)).symm | exact (if_neg (by assumption)).symm
  intro t8 tk8
  clear hI
  rw [show neutralF c = neuG (lowF c) from rfl] at hret
  generalize lowF c = low at *
  (try dsimp only)
  k_steps
  all_goals (k_steps; (try dsimp only); first | (refine endI (by assumption) (by k_asm) ?_) | (refine endB (by assumption) (by k_asm) ?_) | (refine endR (by assumption) (by k_asm) ?_))
  all_goals (try ((with_reducible rename (List.any _ _ = _) => ha); simp only [List.any_cons, List.any_nil, Bool.or_false, Bool.or_eq_true, beq_iff_eq, Bool.or_eq_false_iff, beq_eq_false_iff_ne] at ha))
  all_goals first | (exfalso; lia) | refine optInt_some ?_ | refine optInt_none ?_
  all_goals (simp only [neuG]; repeat (first | rw [if_pos (by lia)] | rw [if_neg (by lia)]))
theorem Kneutral_c.ctK : type_of% @neutral_c := @neutral_c
open Kneutral_c
def widthsF (c : Int) : Int × Int := if c = 167 then (64, 32) else if c = 172 ∨ c = 173 then (32, 64) else
  let takes := if (80 ≤ c ∧ c ≤ 90) ∨ (121 ≤ c ∧ c ≤ 138) ∨ 194 ≤ c then 64 else 32
  (takes, if c ≤ 90 then 32 else takes)
def takesW (c : Int) : Int := if (80 ≤ c ∧ c ≤ 90) ∨ (121 ≤ c ∧ c ≤ 138) ∨ 194 ≤ c then 64 else 32
theorem any172 {c : Int} : ([172, 173].any fun x => x == c) = true ↔ c = 172 ∨ c = 173 := by
  simp only [List.any_cons, List.any_nil, Bool.or_false, Bool.or_eq_true, beq_iff_eq]
  exact ⟨fun h => h.imp Eq.symm Eq.symm, fun h => h.imp Eq.symm Eq.symm⟩
theorem widths1 {c : Int} (h : c = 167) : widthsF c = (64, 32) := if_pos h
theorem widths2 {c : Int} (h : ¬ c = 167) (ha : ([172, 173].any fun x => x == c) = true) : widthsF c = (32, 64) := by rw [widthsF, if_neg h, if_pos (any172.mp ha)]
theorem widths3 {c : Int} (h : ¬ c = 167) (ha : ([172, 173].any fun x => x == c) = false) : widthsF c = (takesW c, if c ≤ 90 then 32 else takesW c) := by
  rw [widthsF, if_neg h, if_neg fun q => by rw [any172.mpr q] at ha; cases ha]; rfl
theorem widths_c (w : World) (c : Int) (t : Tok) : Ct w 433 [.int c t] 1 (OptTup2 (some (widthsF c))) := by
  intro mean mg mb dp un fr gd s Q E G hR hret
  have KX := G.k
  have T := G.t
  refine enter G (by k_dflt k_is) (by k_dflt k_is) (Room.enter hR) rfl (locs rfl) (fun L' h' tk' F' N' => ?_)
  intro A9 E9
  try dsimp only
  dsimp only [List.map, List.zip, List.zipWith, List.reverse, List.reverseAux] at F'
  refine nameM F' ?_
  clear F'
  intro mp9 F'
  have hI : Hold (0 < 1) := Nat.zero_lt_one
  k_steps
  · (k_steps; (try dsimp only); first | (refine endI (by assumption) (by k_asm) ?_) | (refine endB (by assumption) (by k_asm) ?_) | (refine endR (by assumption) (by k_asm) ?_))
    refine optTup2_some (by assumption) (by k_mem) (congrArg some (widths1 (by assumption)))
  · (k_steps; (try dsimp only); first | (refine endI (by assumption) (by k_asm) ?_) | (refine endB (by assumption) (by k_asm) ?_) | (refine endR (by assumption) (by k_asm) ?_))
    refine optTup2_some (by assumption) (by k_mem) (congrArg some (widths2 (by assumption) (by assumption)))
  refine unhold ?_
  refine mono_F (F := takesW c) ?_ ?_
  · clear hI
    k_steps
    all_goals refine unhold ⟨_, _, congrArg (Value.int · _) ?_, rfl⟩
    all_goals first | exact (if_pos (by assumption)).symm | exact (if_neg (by assumption)).symm
  intro t8 tk8
  clear hI
  (try dsimp only)
  k_steps
  all_goals (k_steps; (try dsimp only); first | (refine endI (by assumption) (by k_asm) ?_) | (refine endB (by assumption) (by k_asm) ?_) | (refine endR (by assumption) (by k_asm) ?_))
  all_goals refine optTup2_some (by assumption) (by k_mem) (congrArg some ((widths3 (by assumption) (by assumption)).trans ?_))
  · rw [if_pos (by assumption)]
  · rw [if_neg (by assumption)]
theorem Kwidths_c.ctK : type_of% @widths_c := @widths_c
open Kwidths_c
end

section
open Kunsigned_c
open Ksigned_c
open Kleast_c
open Kwidened_c
open Keqz_c
open Kadd_c
open Ksub_c
open Kmul_c
open Ktn_c
open Kand_c
open Kor_c
open Kxor_c
open Kshl_c
open Kshrs_c
open Kshru_c
open Krotl_c
open Krotr_c
open Keq_c
open Kne_c
open Kltu_c
open Klts_c
open Kgts_c
open Kles_c
open Kges_c
open Kgtu_c
open Kleu_c
open Kgeu_c
open Kltakes_c
open Klisone_c
open Klsigned_c
open Klplain_c
open Kplace_c
open Knarrow_c
open Kisun_c
open Kisbi_c
open Kneutral_c
open Kwidths_c
theorem step2 {h₀ h' : Heap} {L : Addr} {s : Shared} {J : Nat → (Str → Option Value) → List (Addr × Obj) → Prop} {Q : Flow → Shared → Prop} {n n' tk : Nat} {m₂ : Str → Option Value} {news₂ : List (Addr × Obj)}
    (F : Fr h₀ L h' m₂) (N : News h₀ L h' news₂) (hn : n' < n) (hJ : J n' m₂ news₂) : WhileStep2 h₀ L s J Q n .next { s with heap := h', toks := tk } :=
  ⟨h', tk, m₂, news₂, n', rfl, F, N, hn, hJ⟩
def kk (n : Nat) : Int := if n = 0 then 0 else 2 ^ (n - 1)
theorem kk_half (n : Nat) : kk (n + 1) / 2 = kk n := by
  unfold kk
  rcases n with _ | n
  · decide
  · simp only [Nat.add_one_ne_zero, if_false, Nat.add_sub_cancel]
    rw [Int.pow_succ]; lia
theorem kk_le {n : Nat} (h : n ≤ 5) : kk (n + 1) ≤ 32 ∧ (n ≤ 4 → kk (n + 1) ≤ 16) := by
  revert h
  revert n
  decide
theorem kk_pos (n : Nat) : 0 < kk (n + 1) := by rw [kk, if_neg (by lia)]; exact p2pos _
def clzL (b : Int) : Nat → Int → Int → Int
  | 0, _, f => f
  | n + 1, x, f => if x / 2 ^ (b - kk (n + 1)).toNat = 0 then clzL b n (x * 2 ^ (kk (n + 1)).toNat % 2 ^ b.toNat) (f + kk (n + 1)) else clzL b n x f
def clzF (b x : Int) : Int := if x = 0 then b else clzL b (if b = 32 then 5 else 6) x 0
inductive ClzJ (b x₀ : Int) (n : Nat) (m : Str → Option Value) (news : List (Addr × Obj)) : Prop
  | mk : (news = []) → (n ≤ (if b = 32 then 5 else 6)) → ∀ x f t1 t2 t3 t4, (m "x" = some (.int x t1)) → (m "found" = some (.int f t2)) → (m "half" = some (.int (kk n) t3)) → (m "bits" = some (.int b t4)) → (0 ≤ x) → (x < 2 ^ b.toNat) → (clzL b n x f = clzL b (if b = 32 then 5 else 6) x₀ 0) → ClzJ b x₀ n m news
theorem clz_c (w : World) (x b : Int) (t u : Tok) (hb : b = 32 ∨ b = 64) (hx : 0 ≤ x) (hx2 : x < 2 ^ b.toNat) : CtI w 100 [.int x t, .int b u] 2 (clzF b x) := by
  intro mean mg mb dp un fr gd s Q E G hR hret
  have KX := G.k
  have T := G.t
  refine enter G (by k_dflt k_is) (by k_dflt k_is) (Room.enter hR) rfl (locs rfl) (fun L' h' tk' F' N' => ?_)
  intro A9 E9
  try dsimp only
  dsimp only [List.map, List.zip, List.zipWith, List.reverse, List.reverseAux] at F'
  refine nameM F' ?_
  clear F'
  intro mp9 F'
  k_steps
  · (k_steps; (try dsimp only); first | (refine endI (by assumption) (by k_asm) ?_) | (refine endB (by assumption) (by k_asm) ?_) | (refine endR (by assumption) (by k_asm) ?_)); rw [clzF, if_pos (by assumption)]
  · refine unhold ?_
    have hkk : b / 2 ^ Int.toNat 1 = kk (if b = 32 then 5 else 6) := by rcases hb with rfl | rfl <;> decide
    refine While_inv2 (ClzJ b x) (n₀ := if b = 32 then 5 else 6) (by k_asm) (by k_asm) ⟨rfl, Nat.le_refl _, x, 0, _, _, _, _, rfl, rfl, congrArg (fun i => some (Value.int i _)) hkk, rfl, hx, hx2, rfl⟩ ?_
    rintro n m₁ news₁ h₁ tk₁ F₁ N₁ ⟨rfl, hn, x1, f1, t1, t2, t3, t4, e1, e2, e3, e4, g0, g1, ge⟩
    rcases n with _ | n
    · have hk : kk 0 = 0 := rfl
      rw [hk] at e3
      k_steps
      (k_steps; (try dsimp only); first | (refine endI (by assumption) (by k_asm) ?_) | (refine endB (by assumption) (by k_asm) ?_) | (refine endR (by assumption) (by k_asm) ?_))
      rw [clzF, if_neg (by assumption)]; exact ge
    · have hh := kk_half n
      have hk0 := kk_pos n
      have hn5 : n ≤ 5 := by rcases hb with rfl | rfl <;> simp at hn <;> lia
      have hk1 := (kk_le hn5).1
      have hk2 : kk (n + 1) ≤ b := by rcases hb with rfl | rfl <;> lia
      have hgo : clzL b (n + 1) x1 f1 = if x1 / 2 ^ (b - kk (n + 1)).toNat = 0 then clzL b n (x1 * 2 ^ (kk (n + 1)).toNat % 2 ^ b.toNat) (f1 + kk (n + 1)) else clzL b n x1 f1 := rfl
      generalize hkn : kk (n + 1) = K at *
      have hh2 : K.fdiv (2 ^ Int.toNat 1) = kk n := by rw [Int.fdiv_eq_ediv_of_nonneg _ (by decide)]; exact hh
      have hx64 : x1.natAbs < 2 ^ 64 := by rcases hb with rfl | rfl <;> simp at g1 <;> lia
      k_steps
      · refine step2 (by k_asm) (by k_asm) (Nat.lt_succ_self _) ?_
        refine ⟨rfl, by lia, _, _, _, _, _, _, rfl, rfl, congrArg (fun i => some (Value.int i _)) hh2, e4, emod_nn _ _, Int.emod_lt_of_pos _ (p2pos _), ?_⟩
        rw [← ge, hgo, if_pos (by assumption)]
      · refine step2 (by k_asm) (by k_asm) (Nat.lt_succ_self _) ?_
        refine ⟨rfl, by lia, _, _, _, _, _, _, e1, e2, congrArg (fun i => some (Value.int i _)) hh2, e4, g0, g1, ?_⟩
        rw [← ge, hgo, if_neg (by assumption)]
theorem Kclz_c.ctK : type_of% @clz_c := @clz_c
open Kclz_c
def ctzL (b : Int) : Nat → Int → Int → Int
  | 0, _, f => f
  | n + 1, x, f => if x % 2 ^ (kk (n + 1)).toNat = 0 then ctzL b n (x / 2 ^ (kk (n + 1)).toNat) (f + kk (n + 1)) else ctzL b n x f
def ctzF (b x : Int) : Int := if x = 0 then b else ctzL b (if b = 32 then 5 else 6) x 0
inductive CtzJ (b x₀ : Int) (n : Nat) (m : Str → Option Value) (news : List (Addr × Obj)) : Prop
  | mk : (news = []) → (n ≤ (if b = 32 then 5 else 6)) → ∀ x f t1 t2 t3 t4, (m "x" = some (.int x t1)) → (m "found" = some (.int f t2)) → (m "half" = some (.int (kk n) t3)) → (m "bits" = some (.int b t4)) → (0 ≤ x) → (x < 2 ^ b.toNat) → (ctzL b n x f = ctzL b (if b = 32 then 5 else 6) x₀ 0) → CtzJ b x₀ n m news
theorem ctz_c (w : World) (x b : Int) (t u : Tok) (hb : b = 32 ∨ b = 64) (hx : 0 ≤ x) (hx2 : x < 2 ^ b.toNat) : CtI w 107 [.int x t, .int b u] 2 (ctzF b x) := by
  intro mean mg mb dp un fr gd s Q E G hR hret
  have KX := G.k
  have T := G.t
  refine enter G (by k_dflt k_is) (by k_dflt k_is) (Room.enter hR) rfl (locs rfl) (fun L' h' tk' F' N' => ?_)
  intro A9 E9
  try dsimp only
  dsimp only [List.map, List.zip, List.zipWith, List.reverse, List.reverseAux] at F'
  refine nameM F' ?_
  clear F'
  intro mp9 F'
  k_steps
  · (k_steps; (try dsimp only); first | (refine endI (by assumption) (by k_asm) ?_) | (refine endB (by assumption) (by k_asm) ?_) | (refine endR (by assumption) (by k_asm) ?_)); rw [ctzF, if_pos (by assumption)]
  · refine unhold ?_
    have hkk : b / 2 ^ Int.toNat 1 = kk (if b = 32 then 5 else 6) := by rcases hb with rfl | rfl <;> decide
    refine While_inv2 (CtzJ b x) (n₀ := if b = 32 then 5 else 6) (by k_asm) (by k_asm) ⟨rfl, Nat.le_refl _, x, 0, _, _, _, _, rfl, rfl, congrArg (fun i => some (Value.int i _)) hkk, rfl, hx, hx2, rfl⟩ ?_
    rintro n m₁ news₁ h₁ tk₁ F₁ N₁ ⟨rfl, hn, x1, f1, t1, t2, t3, t4, e1, e2, e3, e4, g0, g1, ge⟩
    rcases n with _ | n
    · have hk : kk 0 = 0 := rfl
      rw [hk] at e3
      k_steps
      (k_steps; (try dsimp only); first | (refine endI (by assumption) (by k_asm) ?_) | (refine endB (by assumption) (by k_asm) ?_) | (refine endR (by assumption) (by k_asm) ?_))
      rw [ctzF, if_neg (by assumption)]; exact ge
    · have hh := kk_half n
      have hk0 := kk_pos n
      have hn5 : n ≤ 5 := by rcases hb with rfl | rfl <;> simp at hn <;> lia
      have hk1 := (kk_le hn5).1
      have hgo : ctzL b (n + 1) x1 f1 = if x1 % 2 ^ (kk (n + 1)).toNat = 0 then ctzL b n (x1 / 2 ^ (kk (n + 1)).toNat) (f1 + kk (n + 1)) else ctzL b n x1 f1 := rfl
      generalize hkn : kk (n + 1) = K at *
      have hh2 : K.fdiv (2 ^ Int.toNat 1) = kk n := by rw [Int.fdiv_eq_ediv_of_nonneg _ (by decide)]; exact hh
      have hx3 : x1.fdiv (2 ^ K.toNat) = x1 / 2 ^ K.toNat := Int.fdiv_eq_ediv_of_nonneg _ (Int.le_of_lt (p2pos _))
      have hx4 : 0 ≤ x1 / 2 ^ K.toNat := Int.ediv_nonneg g0 (Int.le_of_lt (p2pos _))
      have hx5 : x1 / 2 ^ K.toNat < 2 ^ b.toNat := Int.lt_of_le_of_lt (Int.ediv_le_self _ g0) g1
      k_steps
      · refine step2 (by k_asm) (by k_asm) (Nat.lt_succ_self _) ?_
        refine ⟨rfl, by lia, _, _, _, _, _, _, congrArg (fun i => some (Value.int i _)) hx3, rfl, congrArg (fun i => some (Value.int i _)) hh2, e4, hx4, hx5, ?_⟩
        rw [← ge, hgo, if_pos (by assumption)]
      · refine step2 (by k_asm) (by k_asm) (Nat.lt_succ_self _) ?_
        refine ⟨rfl, by lia, _, _, _, _, _, _, e1, e2, congrArg (fun i => some (Value.int i _)) hh2, e4, g0, g1, ?_⟩
        rw [← ge, hgo, if_neg (by assumption)]
theorem Kctz_c.ctK : type_of% @ctz_c := @ctz_c
open Kctz_c
def pcL : Nat → Int → Int → Int
  | 0, _, f => f
  | n + 1, x, f => if x = 0 then f else pcL n (Builtin.bitAnd x (x - 1)) (f + 1)
def popF (x : Int) : Int := pcL x.toNat x 0
theorem popStep {x : Int} (h : 0 < x) : 0 ≤ Builtin.bitAnd x (x - 1) ∧ Builtin.bitAnd x (x - 1) < x := by
  have := bitAnd_range x (y := x - 1) (Int.le_sub_one_of_lt h)
  exact ⟨this.1, Int.lt_of_le_of_lt this.2 (Int.sub_lt_self x (by decide))⟩
theorem nat0 {x : Int} (h0 : 0 ≤ x) (h1 : x.toNat ≤ 0) : x = 0 := Int.le_antisymm (Int.toNat_eq_zero.mp (Nat.le_zero.mp h1)) h0
theorem nat_dec {a x : Int} {n : Nat} (h : a < x) (k : x.toNat ≤ n + 1) : a.toNat ≤ n := by lia
theorem pcL_mono : ∀ (n k : Nat) (x f : Int), 0 ≤ x → x.toNat ≤ n → x.toNat ≤ k → pcL n x f = pcL k x f := by
  intro n
  induction n with
  | zero =>
    intro k x f h0 h1 h2
    rw [nat0 h0 h1]
    cases k <;> rfl
  | succ n ih =>
    intro k x f h0 h1 h2
    cases k with
    | zero =>
      rw [nat0 h0 h2]; rfl
    | succ k =>
      simp only [pcL]
      split
      · rfl
      · have := popStep (x := x) (by lia)
        exact ih k _ _ this.1 (nat_dec this.2 h1) (nat_dec this.2 h2)
inductive PopJ (x₀ : Int) (n : Nat) (m : Str → Option Value) (news : List (Addr × Obj)) : Prop
  | mk : (news = []) → ∀ x f t1 t2, (m "x" = some (.int x t1)) → (m "found" = some (.int f t2)) → (0 ≤ x) → (x.toNat = n) → (pcL n x f = popF x₀) → PopJ x₀ n m news
theorem pop_c (w : World) (x b : Int) (t u : Tok) (hx : 0 ≤ x) : CtI w 114 [.int x t, .int b u] 2 (popF x) := by
  intro mean mg mb dp un fr gd s Q E G hR hret
  have KX := G.k
  have T := G.t
  refine enter G (by k_dflt k_is) (by k_dflt k_is) (Room.enter hR) rfl (locs rfl) (fun L' h' tk' F' N' => ?_)
  intro A9 E9
  try dsimp only
  dsimp only [List.map, List.zip, List.zipWith, List.reverse, List.reverseAux] at F'
  refine nameM F' ?_
  clear F'
  intro mp9 F'
  k_steps
  · refine unhold ?_
    refine While_inv2 (PopJ x) (n₀ := x.toNat) (by k_asm) (by k_asm) ⟨rfl, x, 0, _, _, rfl, rfl, hx, rfl, rfl⟩ ?_
    rintro n m₁ news₁ h₁ tk₁ F₁ N₁ ⟨rfl, x1, f1, t1, t2, e1, e2, g0, g1, ge⟩
    k_steps
    · have hp := popStep (x := x1) (by lia)
      refine step2 (n' := (Builtin.bitAnd x1 (x1 - 1)).toNat) (by k_asm) (by k_asm) (by lia) ?_
      refine ⟨rfl, _, _, _, _, rfl, rfl, hp.1, rfl, ?_⟩
      rw [← ge]
      obtain ⟨k, hk⟩ : ∃ k, n = k + 1 := ⟨n - 1, by lia⟩
      rw [hk, pcL, if_neg (by assumption)]
      exact pcL_mono _ _ _ _ hp.1 (Nat.le_refl _) (by lia)
    · (k_steps; (try dsimp only); first | (refine endI (by assumption) (by k_asm) ?_) | (refine endB (by assumption) (by k_asm) ?_) | (refine endR (by assumption) (by k_asm) ?_))
      rw [← ge]; have h : x1 = 0 := by assumption
      rw [h] at g1; subst g1; rfl
theorem Kpop_c.ctK : type_of% @pop_c := @pop_c
open Kpop_c
end

section
open Kunsigned_c
open Ksigned_c
open Kleast_c
open Kwidened_c
open Keqz_c
open Kadd_c
open Ksub_c
open Kmul_c
open Ktn_c
open Kand_c
open Kor_c
open Kxor_c
open Kshl_c
open Kshrs_c
open Kshru_c
open Krotl_c
open Krotr_c
open Keq_c
open Kne_c
open Kltu_c
open Klts_c
open Kgts_c
open Kles_c
open Kges_c
open Kgtu_c
open Kleu_c
open Kgeu_c
open Kltakes_c
open Klisone_c
open Klsigned_c
open Klplain_c
open Kplace_c
open Knarrow_c
open Kisun_c
open Kisbi_c
open Kneutral_c
open Kwidths_c
open Kclz_c
open Kctz_c
open Kpop_c
abbrev bmT : List Value := [.ref 31, .type "Exception", .type "BaseException", .type "object"]
abbrev excObj (dc : Option Addr) (vs : Array Value) : Obj := { cls := .ref 44, dict := dc, data := .fields vs }
abbrev trapCls : Obj := excClassObj (Str.ofString "Trap") (Str.ofString "Trap") 44 43 [.ref 31] bmT true [] [] false none none (some (.ref 35)) none (some (.str (Str.ofString "Trap") 218)) (some (.str (Str.ofString "Trap") 226)) (some (.bool true)) "Exception.__new__"
theorem trap_in {w : World} {h : Heap} (X : (hda.heap_1_39 w.params).In h) : h.get? 44 = some trapCls := X _ _ (by k_dflt k_is)
theorem trap_mro {w : World} {M : Model} {h : Heap} (X : (hda.heap_1_39 w.params).In h) : Looks M h (mroOf (.ref 44)) (.ref 44 :: bmT) := fun A Q E s k q => by
  obtain ⟨hp, g, d, t, os⟩ := s
  exact wpAny_mroOf_exc (k _ _ (trap_in X)) q
theorem trap_pass (self : Value) : refuseLoop self "__setattr__" (.ref 44 :: bmT) = pure () := by
  rw [refuseLoop_ref, refuseLoop_ref]; exact PySem.F.store_Exception.passes self
theorem trap_cd {w : World} {M : Model} {h : Heap} (X : (hda.heap_1_39 w.params).In h) : Looks M h (classData 44) { name := (Str.ofString "Trap"), bases := [.ref 31], mro := .ref 44 :: bmT, ns := 43, qualname := (Str.ofString "Trap"), hasDict := true, slotNames := [], subclasses := [], abstract := false, collection := none, hasDel := false } :=
  looks_clsIn X (by k_dflt k_is)
open PySem.Builtin PySem.Builtin.ObjectAttr in
/-- the field of an exception of the text's own class, laid for the first time -/
theorem trap_store {w : World} {A : Around} {s : Shared} {E : Value → Shared → Prop} {Q : Unit → Shared → Prop} {e : Addr} {vs : Array Value} {v : Value} (X : (hda.heap_1_39 w.params).In s.heap)
    (he : s.heap.get? e = some (excObj none vs))
    (hq : ∀ h' tk' d, (∀ b o, b ≠ e → s.heap.get? b = some o → h'.get? b = some o) → h'.get? e = some (excObj (some d) vs) → Q () { s with heap := h', toks := tk' }) :
    wpAny (model PR w) A (setAttr (.ref e) (Str.ofString "why") v) Q E s := by
  have I : InstAt s.heap e (excObj none vs) 44 none := ⟨he, rfl, rfl, trivial⟩
  refine set_plain X I (by k_dflt k_is) ?_
  have SF := PySem.F.store_object
  obtain ⟨hp, g, d, t, os⟩ := s
  have I' : InstAt hp e (excObj none vs) 44 none := I
  have X' : (hda.heap_1_39 w.params).In hp := X
  have sub : Looks (model PR w) hp (isInstance (.ref e) (.type "object")) true := I'.type.andThen (looks_mroIn X' (by k_dflt k_is))
  refine codeAny_call_builtin SF.slot.plain SF.entry (@check_slot (model PR w) _ _ _ "object.__setattr__" "object" "__setattr__" (.ref e) [.str (Str.ofString "why") _, v] [] _ SF.kind SF.split sub (SF.args (.ref e) (.str (Str.ofString "why") _) v) ?_)
  rw [osa_eq, refuse_eq]
  refine wpAny_bind (wpAny_bind (I'.type.here (wpAny_bind ((trap_mro X').here ?_))))
  rw [trap_pass]
  refine wpAny_pure (wpAny_bind (I'.type.here (wpAny_bind ((looks_findIn X' (r := none) (by k_dflt k_is)).here (wpAny_bind (wpAny_pure ?_))))))
  show wpAny _ _ (storeInOwnDict _ _ _ _ _ _) _ _ _
  unfold storeInOwnDict ownStreamTells
  refine wpAny_bind (wpAny_pure (wpAny_bind ?_))
  show wpAny _ _ (instanceDict e true) _ _ _
  unfold instanceDict
  have he' : hp.get? e = some (excObj none vs) := he
  refine wpAny_bind (wpAny_loadPart_at he' ?_)
  refine wpAny_bind ((trap_cd X').here ?_)
  rw [if_neg (by decide)]
  show wpAny _ _ (alloc _ >>= fun d => update e _ >>= fun _ => pure (some d)) _ _ _
  have hx₁ : (hp.push { cls := .type "dict", data := .dict #[] }).get? e = some (excObj none vs) := Heap.get?_push_of_some _ he'
  have hxs : e ≠ hp.objs.size := Nat.ne_of_lt (Heap.lt_size he')
  refine wpAny_bind (wpAny_alloc' ?_)
  refine wpAny_bind (wpAny_update' hx₁ ?_)
  refine wpAny_pure ?_
  have hgd : ((hp.push { cls := .type "dict", data := .dict #[] }).update e fun o => { cls := o.cls, dict := some hp.objs.size, data := o.data, slots := o.slots }).get? hp.objs.size
      = some { cls := .type "dict", data := .dict #[] } :=
    (Heap.get?_update_ne _ _ _ _ hxs.symm).trans (Heap.get?_push_at rfl rfl)
  have hnd : ((hp.push { cls := .type "dict", data := .dict #[] }).update e fun o => { cls := o.cls, dict := some hp.objs.size, data := o.data, slots := o.slots }).Ns hp.objs.size (fun _ => none) :=
    ⟨_, #[], _, hgd, rfl, fun e he => absurd he (by simp), fun _ => rfl⟩
  show wpAny _ _ (storeInDict hp.objs.size (.str (Str.ofString "why") _) (Str.ofString "why") v) _ _ _
  unfold storeInDict newKeyGuard
  refine wpAny_bind (wpAny_pure (wpAny_bind (wpAny_nsSet1 (Heap.Ns1.of_empty hnd) fun h' hn' hs => ?_)))
  obtain ⟨oD, esD, epD, hoD, hdD, hcD⟩ := hn'.count (Within.cons (Str.ofString "why") v Within.nil)
  refine wpAny_bind (wpAny_lookBehind hoD (by rw [hdD]; exact pastItsLine_dict (Nat.le_trans hcD (by rw [List.length_cons, List.length_nil, sizeLine_eq]; lia))) ?_)
  refine wpAny_pure ?_
  have hx' : h'.get? e = some (excObj (some hp.objs.size) vs) := (hs.2 e hxs).trans (Heap.get?_update_self _ hx₁ rfl)
  exact hq h' _ _ (fun b ob hbx hb => (hs.2 b (Nat.ne_of_lt (Heap.lt_size hb))).trans ((Heap.get?_update_ne _ _ _ _ hbx).trans (Heap.get?_push_of_some _ hb))) hx'
theorem meta_Exception : typeOf (.type "Exception") = pure (.type "type") := by kernel_rfl
abbrev vs6 (t : Addr) : Array Value := #[.ref t, .none, .none, .none, .bool false, .none]
/-- Exception.__init__ upon an exception of the text's own class -/
theorem trap_base_init {w : World} {A : Around} {s : Shared} {E : Value → Shared → Prop} {Q : Value → Shared → Prop} {e t0 : Addr} {v : Value} (X : (hda.heap_1_39 w.params).In s.heap)
    (he : s.heap.get? e = some (excObj none (vs6 t0)))
    (hq : ∀ h' t1, (∀ b o, b ≠ e → s.heap.get? b = some o → h'.get? b = some o) → h'.get? e = some (excObj none (vs6 t1)) → Q .none { s with heap := h' }) :
    wpAny (model PR w) A (call (.builtin "Exception.__init__") [.ref e, v]) Q E s := by
  have F := PySem.F.excBase_Exception
  obtain ⟨hp, g, d, t, os⟩ := s
  have hC := trap_in (h := hp) X
  have he' : hp.get? e = some (excObj none (vs6 t0)) := he
  refine wpAny_call (codeAny_call_builtin F.init.plain F.initEntry ?_)
  have hcB : (Value.ref 44 :: bmT).contains (.type "Exception") = true := by decide
  simp only [checkBuiltinCall, F.initKind, F.initSplit, F.initRow]
  unfold isInstance
  have hshort := F.noStar
  repeat (first | with_reducible refine wpAny_loadPart_at he' ?_ | with_reducible refine wpAny_loadPart_at hC ?_ | (with_reducible refine wpAny_isSubtype_exc hC ?_; rw [hcB]) | wp_step)
  exact hq _ hp.objs.size (fun b o hbe hb => (Heap.get?_update_ne _ _ _ _ hbe).trans (Heap.get?_push_of_some _ hb)) (Heap.get?_update_self _ (Heap.get?_push_of_some _ he') rfl)
section
variable {w : World} {A : Around} {s : Shared} {E : Value → Shared → Prop} {e t0 : Addr} {v : Value} {h₀ : Heap} {L : Addr} {m : Str → Option Value} {dc : Option Addr} {vs : Array Value}
theorem base_init_line {Q : Value → Shared → Prop} (F : Fr h₀ L s.heap m) (N : News h₀ L s.heap [(e, excObj none (vs6 t0))]) (X : (hda.heap_1_39 w.params).In h₀)
    (h : ∀ h' t1, Fr h₀ L h' m → News h₀ L h' [(e, excObj none (vs6 t1))] → Q .none { s with heap := h' }) :
    wpAny (model PR w) A (call (.builtin "Exception.__init__") [.ref e, v]) Q E s :=
  have P := N _ (.head _)
  trap_base_init (X.keeps F.keep) P.1 fun h' t1 k he' => h h' t1 (butFr F k P.2.2 P.2.1) (butNews N k (.head (fun p hp => nomatch hp)) he')
theorem store_line {Q : Unit → Shared → Prop} (F : Fr h₀ L s.heap m) (N : News h₀ L s.heap [(e, excObj none vs)]) (X : (hda.heap_1_39 w.params).In h₀)
    (h : ∀ h' tk' d, Fr h₀ L h' m → News h₀ L h' [(e, excObj (some d) vs)] → Q () { s with heap := h', toks := tk' }) :
    wpAny (model PR w) A (setAttr (.ref e) (Str.ofString "why") v) Q E s :=
  have P := N _ (.head _)
  trap_store (X.keeps F.keep) P.1 fun h' tk' d k he' => h h' tk' d (butFr F k P.2.2 P.2.1) (butNews N k (.head (fun p hp => nomatch hp)) he')
end
theorem init_c {w : World} {mean : ExcName → Option Value} {mg mb : Str → Option Value} {A : Around} {s : Shared} {Q E : Value → Shared → Prop} {h₀ : Heap} {e t0 : Addr} {x : Str} {t : Tok}
    (G : Gd w mean mg mb h₀) (hx : Ext h₀ s.heap) (he : s.heap.get? e = some (excObj none (vs6 t0))) (he0 : h₀.get? e = none) (hR : A.depth < recursionLimit)
    (hret : ∀ h' tk' d t1, But e s.heap h' → h'.get? e = some (excObj (some d) (vs6 t1)) → Q .none { s with heap := h', toks := tk' }) :
    wpAny (model PR w) A (call (.ref 28) [.ref e, .str x t]) Q E s := by
  refine enterH (hid := [(e, excObj none (vs6 t0))]) G hx (fun p hp => by rw [List.mem_singleton.mp hp]; exact ⟨he, he0⟩) (by k_dflt k_is) (by k_dflt k_is) hR rfl (locs rfl) (fun g h₁ tk₁ hg Gg F' N' => ?_)
  intro A9 E9
  have KX := Gg.k
  have T := Gg.t
  dsimp only [List.map, List.zip, List.zipWith, List.reverse, List.reverseAux] at F'
  k_steps
  with_reducible rename News _ _ _ _ => N2
  with_reducible rename Fr _ _ _ _ => F2
  k_steps
  refine leaveC_next (hret _ _ _ _ (fun b o hb q => F2.keep b o ?_) (N2 _ (.head _)).1)
  rw [hg]
  exact hideAll_get _ q (fun z => hb (List.mem_singleton.mp z))
end

section
open Kunsigned_c
open Ksigned_c
open Kleast_c
open Kwidened_c
open Keqz_c
open Kadd_c
open Ksub_c
open Kmul_c
open Ktn_c
open Kand_c
open Kor_c
open Kxor_c
open Kshl_c
open Kshrs_c
open Kshru_c
open Krotl_c
open Krotr_c
open Keq_c
open Kne_c
open Kltu_c
open Klts_c
open Kgts_c
open Kles_c
open Kges_c
open Kgtu_c
open Kleu_c
open Kgeu_c
open Kltakes_c
open Klisone_c
open Klsigned_c
open Klplain_c
open Kplace_c
open Knarrow_c
open Kisun_c
open Kisbi_c
open Kneutral_c
open Kwidths_c
open Kclz_c
open Kctz_c
open Kpop_c
/-- a new exception of the class Trap -/
structure TrapNew (h h' : Heap) (e : Addr) : Prop where
  keeps : Ext h h'
  new : h.get? e = none
  there : ∃ d t1, h'.get? e = some (excObj (some d) (vs6 t1))
theorem trap_check_new {w : World} {M : Model} {A : Around} {E : Value → Shared → Prop} {h : Heap} {g : Array GenState} {d : Drawn} {t : Nat} {os : OsState} {rest : List Value} {Q : Unit → Shared → Prop} (X : (hda.heap_1_39 w.params).In h)
    (hq : Q () ⟨h, g, d, t, os⟩) : wpAny M A (checkBuiltinCall "Exception.__new__" ⟨.ref 44 :: rest, []⟩) Q E ⟨h, g, d, t, os⟩ := by
  have Fn := PySem.F.excBase_Exception
  have hC := trap_in X
  have hcont : (Value.ref 44 :: bmT).contains (.type "Exception") = true := by decide
  have hstar := Fn.noStar
  simp only [checkBuiltinCall, Fn.newKind, Fn.newSplit, Fn.newRow]
  repeat (first | refine wpAny_loadPart_at hC ?_ | (refine wpAny_isSubtype_exc hC ?_; rw [hcont]) | refine wpAny_staticBase_exc hC ?_ | refine wpAny_madeBy_exc hC ?_ | simp only [bne_self_eq_false, Bool.false_eq_true, if_false] | wp_step)
  exact hq
theorem trap_new {w : World} {A : Around} {R : Result → Shared → Prop} {h : Heap} {g : Array GenState} {d : Drawn} {t : Nat} {os : OsState} {rest : List Value} (X : (hda.heap_1_39 w.params).In h)
    (hq : R (.ok (.ret (.ref (h.objs.size + 1)))) ⟨(h.push { cls := .type "tuple", data := .seq rest.toArray }).push (excObj none (vs6 h.objs.size)), g, d, t, os⟩) (hrest : rest.length ≤ sizeLine) :
    codeAny (model PR w) A (.builtin "Exception.__new__" ⟨.ref 44 :: rest, []⟩) R ⟨h, g, d, t, os⟩ := by
  have Fn := PySem.F.excBase_Exception
  have hC := trap_in X
  have hends := Fn.ends
  have hcB : (Value.ref 44 :: bmT).contains (.type "Exception") = true := by decide
  have hcA : (Value.ref 44 :: bmT).contains (.type "AttributeError") = false := by decide
  have hcN : (Value.ref 44 :: bmT).contains (.type "NameError") = false := by decide
  refine codeAny_builtinAt Fn.entry ?_
  unfold Builtin.«BaseException.__new__»
  refine PySem.wpAt_bind ?_
  show PySem.wpAt _ _ _ (stack >>= _) _ _ _
  refine PySem.wpAt_bind (PySem.wpAt_stack fun p below => PySem.wpAt_of_wpAny ?_)
  wp_walk
  refine PySem.wpAt_of_wpAny ?_
  rw [Fn.owner]
  repeat (first | with_reducible refine wpAny_madeHere_exc Fn.canon hC ?_ | with_reducible refine wpAny_loadPart_at hC ?_ | (with_reducible refine wpAny_isSubtype_exc hC ?_; first | rw [hcB] | rw [hcA] | rw [hcN]) | wp_step)
  show R _ _
  rw [Heap.size_push]
  exact hq
theorem trap_type_call {w : World} {mean : ExcName → Option Value} {mg mb : Str → Option Value} {A : Around} {E : Value → Shared → Prop} {h : Heap} {g : Array GenState} {d : Drawn} {t : Nat} {os : OsState} {x : Str} {tx : Tok} {Q : Fin → Shared → Prop}
    (G : Gd w mean mg mb h) (hR : A.depth < recursionLimit)
    (hq : ∀ h' tk' e, TrapNew h h' e → Q (.done (.ret (.ref e))) ⟨h', g, d, tk', os⟩) :
    wpAny (model PR w) A (Builtin.«type.__call__» ⟨[.ref 44, .str x tx], []⟩) Q E ⟨h, g, d, t, os⟩ := by
  have Fn := PySem.F.excBase_Exception
  have X := G.k
  have hC := trap_in X
  repeat (first | with_reducible refine wpAny_loadPart_at hC ?_ | with_reducible refine wpAny_madeBy_exc hC ?_ | wp_step)
  refine codeAny_call_builtin_code (Code.quiet_builtin _ Fn.quiet) (trap_check_new X ?_)
  refine trap_new X ?_ (by rw [sizeLine_eq]; exact Nat.le_of_ble_eq_true rfl)
  have e1 : Ext h ((h.push { cls := .type "tuple", data := .seq [Value.str x tx].toArray }).push (excObj none (vs6 h.objs.size))) := fun b o e => Heap.get?_push_of_some _ (Heap.get?_push_of_some _ e)
  have hget : ((h.push { cls := .type "tuple", data := .seq [Value.str x tx].toArray }).push (excObj none (vs6 h.objs.size))).get? (h.objs.size + 1) = some (excObj none (vs6 h.objs.size)) := by heap_get
  generalize hh : ((h.push { cls := .type "tuple", data := .seq [Value.str x tx].toArray }).push (excObj none (vs6 h.objs.size))) = h₁ at *
  have G₁ := G.ext e1
  have X₁ := G₁.k
  have hC₁ := trap_in X₁
  have I : InstAt h₁ (h.objs.size + 1) (excObj none (vs6 h.objs.size)) 44 none := ⟨hget, rfl, rfl, trivial⟩
  have hcC : (Value.ref 44 :: bmT).contains (.ref 44) = true := by decide
  (try dsimp only)
  unfold isInstance
  repeat (first | with_reducible refine wpAny_loadPart_at hget ?_ | (with_reducible refine wpAny_isSubtype_exc hC₁ ?_; rw [hcC]) | wp_step)
  show wpAny _ _ (typeLookup (.ref 44) _) _ _ _
  refine (looks_findIn X₁ (r := some (.ref 28)) (by k_dflt k_is)).here ?_
  refine wpAny_holding (wpAny_bind ((bind_fn X₁ _ (by k_dflt k_is)).here ?_))
  have he0 : h.get? (h.objs.size + 1) = none := Heap.get?_none_of_le (Nat.le_succ _)
  refine wpAny_bind (init_c G e1 hget he0 hR (fun h' tk' d t1 hb he' => ?_))
  refine wpAny_pure ?_
  (try dsimp only)
  rw [if_neg (by decide)]
  refine wpAny_pure (hq _ _ _ ⟨fun b o q => hb b o (fun z => by rw [z, he0] at q; cases q) (e1 b o q), he0, d, t1, he'⟩)
theorem trap_call {w : World} {mean : ExcName → Option Value} {mg mb : Str → Option Value} {A : Around} {E : Value → Shared → Prop} {s : Shared} {x : Str} {tx : Tok} {Q : Value → Shared → Prop}
    (G : Gd w mean mg mb s.heap) (hR : A.depth + 2 < recursionLimit)
    (hq : ∀ h' tk' e, TrapNew s.heap h' e → Q (.ref e) { s with heap := h', toks := tk' }) :
    wpAny (model PR w) A (call (.ref 44) [.str x tx]) Q E s := by
  obtain ⟨h, g, d, t, os⟩ := s
  have hC := trap_in (h := h) G.k
  have f1 := tc_lookup
  have f2 := tc_bind (.ref 44)
  have hT : (⟨h, g, d, t, os⟩ : Shared).TypeIs (.ref 44) "type" := ⟨_, hC, rfl⟩
  refine wpAny_call (codeAny_of_tree ?_)
  show wpAny _ _ (callAny (.ref 44) _) _ _ _
  repeat (any_goals (first | assumption | with_reducible refine wpAny_loadPart_at hC ?_ | wp_step))
  refine ⟨rfl, ?_⟩
  refine codeAny_call_builtin_at (Code.quiet_builtin _ (by decide +kernel)) entry_typeCall (wpAny_check_type_call_sub hC (trap_type_call G ?_ fun h' tk' e hm => ?_))
  · show A.depth + 1 < recursionLimit; lia
  · exact hq h' tk' e hm
theorem raise_c {w : World} {A : Around} {E : Value → Shared → Prop} {s : Shared} {env : Env} {x : Expr} {pos : Pos} {Q : Flow → Shared → Prop} (hh : A.handled = none)
    (h : wpAny (model PR w) A (eval x env) (fun v s₁ => ∃ e d t1, v = .ref e ∧ (hda.heap_1_39 w.params).In s₁.heap ∧ s₁.heap.get? e = some (excObj (some d) (vs6 t1)) ∧ E (.ref e) s₁) E s) :
    wpAny (model PR w) A (exec (.Raise (some x) none pos) env) Q E s := by
  rw [arm_exec_Raise]
  have hcB : (Value.ref 44 :: bmT).contains (.type "BaseException") = true := by decide
  refine wpAny_bind (wpAny_standAt ?_)
  show wpAny _ _ (raiseStmt env (some (eval x env >>= fun v => standAt pos >>= fun _ => pure v)) none) _ _ _
  unfold raiseStmt
  refine wpAny_bind (wpAny_bind (wpAny_mono h (fun v s₁ h₁ => wpAny_bind (wpAny_standAt (wpAny_pure ?_))) fun _ _ x => x))
  obtain ⟨e, d, t1, rfl, X, he, hE⟩ := h₁
  obtain ⟨hp, g, d, tk, os⟩ := s₁
  have hC := trap_in (h := hp) X
  have he' : hp.get? e = some (excObj (some _) (vs6 t1)) := he
  repeat (first | with_reducible refine wpAny_loadPart_at he' ?_ | with_reducible refine wpAny_loadPart_at hC ?_ | (with_reducible refine wpAny_isSubtype_exc hC ?_; rw [hcB]) | wp_step)
  exact wpAny_raiseNew_none hh hE
end

section
open Kunsigned_c
open Ksigned_c
open Kleast_c
open Kwidened_c
open Keqz_c
open Kadd_c
open Ksub_c
open Kmul_c
open Ktn_c
open Kand_c
open Kor_c
open Kxor_c
open Kshl_c
open Kshrs_c
open Kshru_c
open Krotl_c
open Krotr_c
open Keq_c
open Kne_c
open Kltu_c
open Klts_c
open Kgts_c
open Kles_c
open Kges_c
open Kgtu_c
open Kleu_c
open Kgeu_c
open Kltakes_c
open Klisone_c
open Klsigned_c
open Klplain_c
open Kplace_c
open Knarrow_c
open Kisun_c
open Kisbi_c
open Kneutral_c
open Kwidths_c
open Kclz_c
open Kctz_c
open Kpop_c
/-- the exception e of class Trap flies out of a call: what stood in base stays, the frames outside keep all but their slots -/
def Flies (base : Heap) (outer : List Env) (e : Addr) (h h' : Heap) : Prop := (∃ a0, Heap.FlyingW base outer e (.ref 44) a0 h') ∧ h.UpToSlots h'
def CtX (w : World) (f : Addr) (args : List Value) (n : Nat) (r : Option Int) : Prop :=
  ∀ (mean : ExcName → Option Value) (mg mb : Str → Option Value) (dp un : Nat) (gd : Option (List Code)) (base : Heap) (outer : List Env) (s : Shared) (Q E : Value → Shared → Prop),
    Gd w mean mg mb s.heap → Room dp un n → base.StaysIn s.heap → s.heap.FunFrames base outer →
    (∀ x, r = some x → ∀ t h' tk', Ext s.heap h' → Q (.int x t) { s with heap := h', toks := tk' }) →
    (r = none → ∀ e h' tk', Flies base outer e s.heap h' → E (.ref e) { s with heap := h', toks := tk' }) →
    wpAny (model PR w) (AR dp un (some outer) gd) (call (.ref f) args) Q E s
section
variable {w : World} {mean : ExcName → Option Value} {mg mb : Str → Option Value} {dp un : Nat} {gd : Option (List Code)} {base : Heap} {outer : List Env} {h₀ hh h' : Heap} {g : Array GenState} {d : Drawn} {tk : Nat} {os : OsState} {E E' : Value → Shared → Prop} {L a e : Addr} {m : Str → Option Value} {nm : Str} {scope : Scope} {cd : Value}
theorem frames_in (B : base.StaysIn h₀) (FF : h₀.FunFrames base outer) (F : Fr h₀ L hh m) (hk : scope.kind = .function) : hh.FunFrames base (envOf nm scope L a cd :: outer) := by
  have hnew : base.get? L = none := by
    cases hq : base.get? L with
    | none => rfl
    | some o => exact absurd (Nat.lt_of_lt_of_le (Heap.lt_size (B L o hq)) F.above) (Nat.lt_irrefl _)
  exact .cons (by show scope.kind ≠ .module; rw [hk]; decide) rfl F.ns hnew (FF.of_keeps fun b o q _ => ⟨o, F.keep b o q, rfl⟩)
theorem leave_new {M : Model} (B : base.StaysIn h₀) (FF : h₀.FunFrames base outer) (F : Fr h₀ L hh m) (hn : TrapNew hh h' e) (hk : scope.kind = .function)
    (hE : ∀ h'' tk', Flies base outer e h₀ h'' → E (.ref e) ⟨h'', g, d, tk', os⟩) :
    wpAny M ((AR dp un (some outer) gd).deeper (envOf nm scope L a cd)) (leaving (envOf nm scope L a cd) (.ref e)) (fun _ s'' => E (.ref e) s'') E' ⟨h', g, d, tk, os⟩ := by
  have K := frames_in (nm := nm) (a := a) (cd := cd) B FF F hk
  obtain ⟨dc, t1, he⟩ := hn.there
  have hen : base.get? e = none := by
    cases hq : base.get? e with
    | none => rfl
    | some o => have := F.keep _ _ (B _ _ hq); rw [hn.new] at this; cases this
  refine wpAny_leaving_firstW (base := base) (env := envOf nm scope L a cd) (outer := outer) (a0 := .ref t1) rfl (K.of_keeps fun b o hb _ => ⟨o, hn.keeps b o hb, rfl⟩) rfl he (fun b o hb => hn.keeps b o (F.keep b o (B b o hb))) hen rfl rfl rfl fun h'' hL => ?_
  obtain ⟨k1, ⟨_, _, k2⟩, k3, k4⟩ := hL
  exact hE _ _ ⟨⟨_, k1, hen, k2, k3⟩, (Heap.UpToSlots.of_keeps (fun b o q => hn.keeps b o (F.keep b o q))).trans k4⟩
theorem leave_on {M : Model} {h₁ : Heap} (F : Fr h₀ L h₁ m) (hf : Flies base (envOf nm scope L a cd :: outer) e h₁ h')
    (hE : ∀ h'' tk', Flies base outer e h₀ h'' → E (.ref e) ⟨h'', g, d, tk', os⟩) :
    wpAny M ((AR dp un (some outer) gd).deeper (envOf nm scope L a cd)) (leaving (envOf nm scope L a cd) (.ref e)) (fun _ s'' => E (.ref e) s'') E' ⟨h', g, d, tk, os⟩ := by
  obtain ⟨⟨a0, hfl⟩, hsm⟩ := hf
  refine wpAny_leaves_onW (base := base) (env := envOf nm scope L a cd) (outer := outer) rfl rfl hfl fun h'' x1 x2 => ?_
  exact hE _ _ ⟨⟨a0, x1⟩, (Heap.UpToSlots.of_keeps F.keep).trans (hsm.trans x2)⟩
theorem trap_line {A : Around} {s : Shared} {x : Str} {tx : Tok} {Q E : Value → Shared → Prop} (F : Fr h₀ L s.heap m) (X : (hda.heap_1_39 w.params).In h₀) (T : Top VW LO mean mg mb h₀) (hR : A.depth + 2 < recursionLimit)
    (h : ∀ e h' tk', TrapNew s.heap h' e → Q (.ref e) { s with heap := h', toks := tk' }) : wpAny (model PR w) A (call (.ref 44) [.str x tx]) Q E s :=
  trap_call (Gd.ext ⟨X, T⟩ F.keep) hR fun h' tk' e hm => h e h' tk' hm
end
open H44
theorem useX {w : World} {f : Addr} {args : List Value} {n : Nat} {r : Option Int} {mean : ExcName → Option Value} {mg mb : Str → Option Value} {dp un : Nat} {gd : Option (List Code)} {base : Heap} {outer : List Env} {hh : Heap} {gg : Array GenState} {dd : Drawn} {t0 : Nat} {oo : OsState} {Q E : Value → Shared → Prop}
  {h₀ : Heap} {L a : Addr} {m : Str → Option Value} {news : List (Addr × Obj)} {nm : Str} {scope : Scope} {cd : Value} (S : CtX w f args n r) (B : base.StaysIn h₀) (FF : h₀.FunFrames base outer) (F : Fr h₀ L hh m) (N : News h₀ L hh news) (X : (hda.heap_1_39 w.params).In h₀) (T : Top VW LO mean mg mb h₀) (hR : Room (dp + 1) (un + 3) n)
    (hs : ∀ x, r = some x → ∀ t h' tk', Fr h₀ L h' m → News h₀ L h' news → Q (.int x t) ⟨h', gg, dd, tk', oo⟩)
    (hn : r = none → ∀ e h' tk', Flies base (envOf nm scope L a cd :: outer) e hh h' → E (.ref e) ⟨h', gg, dd, tk', oo⟩) (hk : scope.kind = .function := by rfl) :
    wpAny (model PR w) ((AR dp un (some outer) gd).deeper (envOf nm scope L a cd)) (call (.ref f) args) Q E ⟨hh, gg, dd, t0, oo⟩ :=
  S mean mg mb (dp + 1) (un + 3) gd base (envOf nm scope L a cd :: outer) _ Q E (Gd.ext ⟨X, T⟩ F.keep) hR (fun b o q => F.keep b o (B b o q)) (frames_in B FF F hk)
    (fun x hx t h' tk' e => hs x hx t h' tk' (frExt F e) (newsExt N e)) hn
theorem divu_c (w : World) (x y b : Int) (t u v : Tok) (hx : 0 ≤ x) (hy : 0 ≤ y) (hy2 : y < 2 ^ 64) : CtX w 156 [.int x t, .int y u, .int b v] 3 (if y = 0 then none else some (x / y)) := by
  intro mean mg mb dp un gd base outer s Q E G hR hB hFF hret hexc
  have KX := G.k
  have T := G.t
  refine enter G (by k_dflt k_is) (by k_dflt k_is) (Room.enter hR) rfl (locs rfl) (fun L' h' tk' F' N' => ?_)
  intro A9 E9
  try dsimp only
  dsimp only [List.map, List.zip, List.zipWith, List.reverse, List.reverseAux] at F'
  refine nameM F' ?_
  clear F'
  intro mp9 F'
  k_steps
  all_goals first
    | (refine unhold ?_
       refine trap_line (by k_asm) (by k_asm) (by k_asm) (by have := hR.d; show dp + 1 + 2 < 1000; lia) (fun e9 h9 tk9 n9 => ?_)
       with_reducible rename Fr _ _ _ _ => F2
       obtain ⟨d9, t9, he9⟩ := n9.there
       refine ⟨e9, d9, t9, rfl, KX.keeps (fun b o q => n9.keeps b o (F2.keep b o q)), he9, ?_⟩
       refine leave_new hB hFF F2 n9 rfl (fun h'' tk'' f9 => hexc ?_ _ _ _ f9))
    | ((try dsimp only)
       refine leaveC_ret (hret _ ?_ _ _ _ (Fr.keep (by k_asm))))
  all_goals simp_all
theorem Kdivu_c.ctK : type_of% @divu_c := @divu_c
open Kdivu_c
theorem remu_c (w : World) (x y b : Int) (t u v : Tok) (hx : 0 ≤ x) (hy : 0 ≤ y) (hy2 : y < 2 ^ 64) : CtX w 170 [.int x t, .int y u, .int b v] 3 (if y = 0 then none else some (x % y)) := by
  intro mean mg mb dp un gd base outer s Q E G hR hB hFF hret hexc
  have KX := G.k
  have T := G.t
  refine enter G (by k_dflt k_is) (by k_dflt k_is) (Room.enter hR) rfl (locs rfl) (fun L' h' tk' F' N' => ?_)
  intro A9 E9
  try dsimp only
  dsimp only [List.map, List.zip, List.zipWith, List.reverse, List.reverseAux] at F'
  refine nameM F' ?_
  clear F'
  intro mp9 F'
  k_steps
  all_goals first
    | (refine unhold ?_
       refine trap_line (by k_asm) (by k_asm) (by k_asm) (by have := hR.d; show dp + 1 + 2 < 1000; lia) (fun e9 h9 tk9 n9 => ?_)
       with_reducible rename Fr _ _ _ _ => F2
       obtain ⟨d9, t9, he9⟩ := n9.there
       refine ⟨e9, d9, t9, rfl, KX.keeps (fun b o q => n9.keeps b o (F2.keep b o q)), he9, ?_⟩
       refine leave_new hB hFF F2 n9 rfl (fun h'' tk'' f9 => hexc ?_ _ _ _ f9))
    | ((try dsimp only)
       refine leaveC_ret (hret _ ?_ _ _ _ (Fr.keep (by k_asm))))
  all_goals simp_all
theorem Kremu_c.ctK : type_of% @remu_c := @remu_c
open Kremu_c
def divsF (b x y : Int) : Option Int := if y = 0 then none else if sg b x = - 2 ^ (b - 1).toNat ∧ sg b y = -1 then none else some (tn (sg b x) (sg b y) % 2 ^ b.toNat)
def remsF (b x y : Int) : Option Int := if y = 0 then none else some ((sg b x - sg b y * tn (sg b x) (sg b y)) % 2 ^ b.toNat)
theorem sg_lo {b x : Int} (hb : b = 32 ∨ b = 64) (h0 : 0 ≤ x) (h1 : x < 2 ^ b.toNat) : (sg b x).natAbs < 2 ^ 64 ∧ (x ≠ 0 → sg b x ≠ 0) := by
  rcases hb with rfl | rfl <;> (simp only [sg] at *; simp at h1 ⊢; split <;> lia)
theorem divs1 {b x y : Int} (h : y = 0) : divsF b x y = none := by rw [divsF, if_pos h]
theorem divs2 {b x y : Int} (h : y ≠ 0) (h1 : sg b x = -2 ^ (b - 1).toNat) (h2 : sg b y = -1) : divsF b x y = none := by rw [divsF, if_neg h, if_pos ⟨h1, h2⟩]
theorem divs3 {b x y : Int} (h : y ≠ 0) (h1 : sg b x ≠ -2 ^ (b - 1).toNat) : divsF b x y = some (tn (sg b x) (sg b y) % 2 ^ b.toNat) := by rw [divsF, if_neg h, if_neg (fun z => h1 z.1)]
theorem divs4 {b x y : Int} (h : y ≠ 0) (h2 : sg b y ≠ -1) : divsF b x y = some (tn (sg b x) (sg b y) % 2 ^ b.toNat) := by rw [divsF, if_neg h, if_neg (fun z => h2 z.2)]
theorem divs_c (w : World) (x y b : Int) (t u v : Tok) (hb : b = 32 ∨ b = 64) (hx : 0 ≤ x) (hx2 : x < 2 ^ b.toNat) (hy : 0 ≤ y) (hy2 : y < 2 ^ b.toNat) : CtX w 149 [.int x t, .int y u, .int b v] 3 (divsF b x y) := by
  have hs1 := sg_lo hb hx hx2
  have hs2 := sg_lo hb hy hy2
  intro mean mg mb dp un gd base outer s Q E G hR hB hFF hret hexc
  have KX := G.k
  have T := G.t
  refine enter G (by k_dflt k_is) (by k_dflt k_is) (Room.enter hR) rfl (locs rfl) (fun L' h' tk' F' N' => ?_)
  intro A9 E9
  try dsimp only
  dsimp only [List.map, List.zip, List.zipWith, List.reverse, List.reverseAux] at F'
  refine nameM F' ?_
  clear F'
  intro mp9 F'
  k_steps
  all_goals first
    | (refine unhold ?_
       refine trap_line (by k_asm) (by k_asm) (by k_asm) (by have := hR.d; show dp + 1 + 2 < 1000; lia) (fun e9 h9 tk9 n9 => ?_)
       with_reducible rename Fr _ _ _ _ => F2
       obtain ⟨d9, t9, he9⟩ := n9.there
       refine ⟨e9, d9, t9, rfl, KX.keeps (fun b o q => n9.keeps b o (F2.keep b o q)), he9, ?_⟩
       refine leave_new hB hFF F2 n9 rfl (fun h'' tk'' f9 => hexc ?_ _ _ _ f9))
    | ((try dsimp only)
       refine leaveC_ret (hret _ ?_ _ _ _ (Fr.keep (by k_asm))))
  all_goals first | exact divs1 (by assumption) | exact divs2 (by assumption) (by assumption) (by assumption) | exact divs3 (by assumption) (by assumption) | exact divs4 (by assumption) (by assumption)
theorem Kdivs_c.ctK : type_of% @divs_c := @divs_c
open Kdivs_c
theorem tn_le (a b : Int) : (tn a b).natAbs ≤ a.natAbs := by
  have h : ((if a < 0 then -a else a) / (if b < 0 then -b else b)).natAbs ≤ a.natAbs := by
    have e : (if a < 0 then -a else a) = (a.natAbs : Int) := by split <;> lia
    have e2 : (if b < 0 then -b else b) = (b.natAbs : Int) := by split <;> lia
    rw [e, e2, ← Int.natCast_ediv, Int.natAbs_natCast]
    exact Nat.div_le_self _ _
  unfold tn
  split
  · exact h
  · rw [Int.natAbs_neg]; exact h
theorem rems_c (w : World) (x y b : Int) (t u v : Tok) (hb : b = 32 ∨ b = 64) (hx : 0 ≤ x) (hx2 : x < 2 ^ b.toNat) (hy : 0 ≤ y) (hy2 : y < 2 ^ b.toNat) : CtX w 163 [.int x t, .int y u, .int b v] 3 (remsF b x y) := by
  have hs1 := sg_lo hb hx hx2
  have hs2 := sg_lo hb hy hy2
  have hs3 := tn_le (sg b x) (sg b y)
  have hs4 : (tn (sg b x) (sg b y)).natAbs < 2 ^ 64 := by lia
  intro mean mg mb dp un gd base outer s Q E G hR hB hFF hret hexc
  have KX := G.k
  have T := G.t
  refine enter G (by k_dflt k_is) (by k_dflt k_is) (Room.enter hR) rfl (locs rfl) (fun L' h' tk' F' N' => ?_)
  intro A9 E9
  try dsimp only
  dsimp only [List.map, List.zip, List.zipWith, List.reverse, List.reverseAux] at F'
  refine nameM F' ?_
  clear F'
  intro mp9 F'
  k_steps
  all_goals first
    | (refine unhold ?_
       refine trap_line (by k_asm) (by k_asm) (by k_asm) (by have := hR.d; show dp + 1 + 2 < 1000; lia) (fun e9 h9 tk9 n9 => ?_)
       with_reducible rename Fr _ _ _ _ => F2
       obtain ⟨d9, t9, he9⟩ := n9.there
       refine ⟨e9, d9, t9, rfl, KX.keeps (fun b o q => n9.keeps b o (F2.keep b o q)), he9, ?_⟩
       refine leave_new hB hFF F2 n9 rfl (fun h'' tk'' f9 => hexc ?_ _ _ _ f9))
    | ((try dsimp only)
       refine leaveC_ret (hret _ ?_ _ _ _ (Fr.keep (by k_asm))))
  all_goals (first | rw [remsF, if_pos (by assumption)] | rw [remsF, if_neg (by assumption)])
theorem Krems_c.ctK : type_of% @rems_c := @rems_c
open Krems_c
end

section
open Kunsigned_c
open Ksigned_c
open Kleast_c
open Kwidened_c
open Keqz_c
open Kadd_c
open Ksub_c
open Kmul_c
open Ktn_c
open Kand_c
open Kor_c
open Kxor_c
open Kshl_c
open Kshrs_c
open Kshru_c
open Krotl_c
open Krotr_c
open Keq_c
open Kne_c
open Kltu_c
open Klts_c
open Kgts_c
open Kles_c
open Kges_c
open Kgtu_c
open Kleu_c
open Kgeu_c
open Kltakes_c
open Klisone_c
open Klsigned_c
open Klplain_c
open Kplace_c
open Knarrow_c
open Kisun_c
open Kisbi_c
open Kneutral_c
open Kwidths_c
open Kclz_c
open Kctz_c
open Kpop_c
open Kdivu_c
open Kremu_c
open Kdivs_c
open Krems_c
def restA (p : Int) : Addr := match p.toNat with
  | 0 => 121 | 1 => 128 | 2 => 135 | 3 => 149 | 4 => 156 | 5 => 163 | 6 => 170 | 7 => 177 | 8 => 184 | 9 => 191 | 10 => 198 | 11 => 205 | 12 => 212 | 13 => 219 | _ => 226
def restF (p b x y : Int) : Option Int := match p.toNat with
  | 0 => some ((x + y) % 2 ^ b.toNat) | 1 => some ((x - y) % 2 ^ b.toNat) | 2 => some (x * y % 2 ^ b.toNat) | 3 => divsF b x y | 4 => if y = 0 then none else some (x / y)
  | 5 => remsF b x y | 6 => if y = 0 then none else some (x % y) | 7 => some (Builtin.bitAnd x y) | 8 => some (Builtin.bitOr x y) | 9 => some (Builtin.bitXor x y)
  | 10 => some (x * 2 ^ (y % b).toNat % 2 ^ b.toNat) | 11 => some (sg b x / 2 ^ (y % b).toNat % 2 ^ b.toNat) | 12 => some (x / 2 ^ (y % b).toNat) | 13 => some (rl b x y) | _ => some (rl b x (b - y % b))
def cmpA (p : Int) : Addr := match p.toNat with
  | 0 => 233 | 1 => 240 | 2 => 247 | 3 => 254 | 4 => 261 | 5 => 268 | 6 => 275 | 7 => 282 | 8 => 289 | _ => 296
def cmpF (p b x y : Int) : Int := match p.toNat with
  | 0 => if x = y then 1 else 0 | 1 => if x ≠ y then 1 else 0 | 2 => if sg b x < sg b y then 1 else 0 | 3 => if x < y then 1 else 0 | 4 => if sg b y < sg b x then 1 else 0 | 5 => if y < x then 1 else 0
  | 6 => 1 - if sg b y < sg b x then 1 else 0 | 7 => 1 - if y < x then 1 else 0 | 8 => 1 - if sg b x < sg b y then 1 else 0 | _ => 1 - if x < y then 1 else 0
theorem to15 {p : Int} (h0 : 0 ≤ p) (h1 : p < 15) : p = 0 ∨ p = 1 ∨ p = 2 ∨ p = 3 ∨ p = 4 ∨ p = 5 ∨ p = 6 ∨ p = 7 ∨ p = 8 ∨ p = 9 ∨ p = 10 ∨ p = 11 ∨ p = 12 ∨ p = 13 ∨ p = 14 := by
  obtain ⟨n, rfl⟩ := Int.eq_ofNat_of_zero_le h0
  have h : n < 15 := Int.ofNat_lt.mp h1
  clear h0 h1
  revert h
  revert n
  decide
theorem to10 {p : Int} (h0 : 0 ≤ p) (h1 : p < 10) : p = 0 ∨ p = 1 ∨ p = 2 ∨ p = 3 ∨ p = 4 ∨ p = 5 ∨ p = 6 ∨ p = 7 ∨ p = 8 ∨ p = 9 := by
  obtain ⟨n, rfl⟩ := Int.eq_ofNat_of_zero_le h0
  have h : n < 10 := Int.ofNat_lt.mp h1
  clear h0 h1
  revert h
  revert n
  decide
theorem Room.le {dp un n n' : Nat} (h : Room dp un n) (hn : n' ≤ n) : Room dp un n' := ⟨by have := h.d; lia, by have := h.u; lia⟩
theorem ctx_of {w : World} {f : Addr} {args : List Value} {n n' : Nat} {x : Int} (S : CtI w f args n x) (hn : n ≤ n') : CtX w f args n' (some x) := by
  intro mean mg mb dp un gd base outer s Q E G hR hB hFF hret _
  exact S mean mg mb dp un (some outer) gd s Q E G (hR.le hn) fun v h' tk' e ⟨t, ev⟩ => ev ▸ hret x rfl t h' tk' e
theorem cti_le {w : World} {f : Addr} {args : List Value} {n n' : Nat} {x : Int} (S : CtI w f args n x) (hn : n ≤ n') : CtI w f args n' x :=
  fun mean mg mb dp un fr gd s Q E G hR k => S mean mg mb dp un fr gd s Q E G (hR.le hn) k
theorem rest_c (w : World) (p x y b : Int) (t u v : Tok) (h0 : 0 ≤ p) (h1 : p < 15) (hb : b = 32 ∨ b = 64) (hx : 0 ≤ x) (hx2 : x < 2 ^ b.toNat) (hy : 0 ≤ y) (hy2 : y < 2 ^ b.toNat) :
    CtX w (restA p) [.int x t, .int y u, .int b v] 3 (restF p b x y) := by
  have b0 : 0 < b := by lia
  have b1 : b ≤ 64 := by lia
  have x64 : x < 2 ^ 64 := by rcases hb with rfl | rfl <;> simp at hx2 <;> lia
  have y64 : y < 2 ^ 64 := by rcases hb with rfl | rfl <;> simp at hy2 <;> lia
  rcases to15 h0 h1 with rfl | rfl | rfl | rfl | rfl | rfl | rfl | rfl | rfl | rfl | rfl | rfl | rfl | rfl | rfl
  · exact ctx_of (add_c w x y b t u v (by lia) b1) (by decide)
  · exact ctx_of (sub_c w x y b t u v (by lia) b1) (by decide)
  · exact ctx_of (mul_c w x y b t u v (by lia) b1 (by lia) (by lia)) (by decide)
  · exact divs_c w x y b t u v hb hx hx2 hy hy2
  · exact divu_c w x y b t u v hx hy y64
  · exact rems_c w x y b t u v hb hx hx2 hy hy2
  · exact remu_c w x y b t u v hx hy y64
  · exact ctx_of (and_c w x y b t u v) (by decide)
  · exact ctx_of (or_c w x y b t u v) (by decide)
  · exact ctx_of (xor_c w x y b t u v) (by decide)
  · exact ctx_of (shl_c w x y b t u v b0 b1 (by lia)) (by decide)
  · exact ctx_of (shrs_c w x y b t u v b0 b1 hx) (by decide)
  · exact ctx_of (shru_c w x y b t u v b0 b1) (by decide)
  · exact ctx_of (rotl_c w x y b t u v b0 b1 (by lia)) (by decide)
  · exact ctx_of (rotr_c w x y b t u v b0 b1 (by lia)) (by decide)
theorem cmp_c (w : World) (p x y b : Int) (t u v : Tok) (h0 : 0 ≤ p) (h1 : p < 10) (hb : b = 32 ∨ b = 64) (hx : 0 ≤ x) (hy : 0 ≤ y) :
    CtI w (cmpA p) [.int x t, .int y u, .int b v] 3 (cmpF p b x y) := by
  have b0 : 0 < b := by lia
  have b1 : b ≤ 64 := by lia
  rcases to10 h0 h1 with rfl | rfl | rfl | rfl | rfl | rfl | rfl | rfl | rfl | rfl
  · exact cti_le (eq_c w x y b t u v) (by decide)
  · exact cti_le (ne_c w x y b t u v) (by decide)
  · exact cti_le (lts_c w x y b t u v b0 b1 hx hy) (by decide)
  · exact cti_le (ltu_c w x y b t u v) (by decide)
  · exact cti_le (gts_c w x y b t u v b0 b1 hx hy) (by decide)
  · exact cti_le (gtu_c w x y b t u v) (by decide)
  · exact cti_le (les_c w x y b t u v b0 b1 hx hy) (by decide)
  · exact cti_le (leu_c w x y b t u v) (by decide)
  · exact cti_le (ges_c w x y b t u v b0 b1 hx hy) (by decide)
  · exact cti_le (geu_c w x y b t u v) (by decide)
abbrev restL : List Value := [.ref 121, .ref 128, .ref 135, .ref 149, .ref 156, .ref 163, .ref 170, .ref 177, .ref 184, .ref 191, .ref 198, .ref 205, .ref 212, .ref 219, .ref 226]
abbrev cmpL : List Value := [.ref 233, .ref 240, .ref 247, .ref 254, .ref 261, .ref 268, .ref 275, .ref 282, .ref 289, .ref 296]
abbrev cntL : List Value := [.ref 100, .ref 107, .ref 114]
theorem rest_get {p : Int} (h0 : 0 ≤ p) (h1 : p < 15) : restL[p.toNat]? = some (.ref (restA p)) := by
  rcases to15 h0 h1 with rfl | rfl | rfl | rfl | rfl | rfl | rfl | rfl | rfl | rfl | rfl | rfl | rfl | rfl | rfl <;> rfl
theorem cmp_get {p : Int} (h0 : 0 ≤ p) (h1 : p < 10) : cmpL[p.toNat]? = some (.ref (cmpA p)) := by
  rcases to10 h0 h1 with rfl | rfl | rfl | rfl | rfl | rfl | rfl | rfl | rfl | rfl <;> rfl
theorem rest_keep {P : Params} {p : Int} (h0 : 0 ≤ p) (h1 : p < 15) : keepIn (hda.heap_1_39 P) (.ref (restA p)) = true := by
  rcases to15 h0 h1 with rfl | rfl | rfl | rfl | rfl | rfl | rfl | rfl | rfl | rfl | rfl | rfl | rfl | rfl | rfl <;> dsimp only [restA, Int.toNat] <;> k_dflt k_is
theorem cmp_keep {P : Params} {p : Int} (h0 : 0 ≤ p) (h1 : p < 10) : keepIn (hda.heap_1_39 P) (.ref (cmpA p)) = true := by
  rcases to10 h0 h1 with rfl | rfl | rfl | rfl | rfl | rfl | rfl | rfl | rfl | rfl <;> dsimp only [cmpA, Int.toNat] <;> k_dflt k_is
theorem seqIdx {k : Int} {n : Nat} (h0 : 0 ≤ k) (h1 : k < n) : seqIndex? k n = some k.toNat := by
  have h2 : ¬ k < 0 := by lia
  simp [seqIndex?, h2, h0, h1]
theorem place_lt {c a b m p q : Int} (h : placeF c a b m = some (p, q)) : 0 ≤ p ∧ p < m ∧ (q = 32 ∨ q = 64) := by
  unfold placeF at h
  split at h
  · cases h; rename_i k; exact ⟨Int.sub_nonneg_of_le k.1, Int.sub_left_lt_of_lt_add k.2, .inl rfl⟩
  · split at h
    · cases h; rename_i k; exact ⟨Int.sub_nonneg_of_le k.1, Int.sub_left_lt_of_lt_add k.2, .inr rfl⟩
    · cases h
/-- an item of a tuple of the top at a place that is not written -/
theorem tab_item {w : World} {A : Around} {E : Value → Shared → Prop} {s : Shared} {h₀ : Heap} {L a : Addr} {m : Str → Option Value} {value slice : Expr} {l : List Value} {n : Nat} {dd : Option Addr} {sl : Array (Option Value)} {k : Int} {u : Tok} {v : Value} {Q : Value → Shared → Prop} (F : Fr h₀ L s.heap m) (X₀ : (hda.heap_1_39 w.params).In h₀)
    (hl : (hda.heap_1_39 w.params).lookup a = some ⟨.type "tuple", dd, .seq l.toArray n, sl⟩)
    (h0 : 0 ≤ k) (hhi : k < l.length) (hln : l.length ≤ 100) (hx : l[k.toNat]? = some v) (h : Q v s)
    (hs : subscripted slice false (.ref a) (.int k u) = operate [.ref a, .int k u] (getItem (.ref a) (.int k u)) := by with_unfolding_all rfl) :
    wpAny (model PR w) A (subscriptTail value slice (.ref a) (.int k u)) Q E s :=
  topTup_K F X₀ hl (by lia) (by lia) (seqIdx h0 hhi) hx h hs
theorem placeF_some {c a b m : Int} (h : (placeF c a b m).isSome = true) : (a ≤ c ∧ c < a + m) ∨ (b ≤ c ∧ c < b + m) := by
  unfold placeF at h
  split at h
  · exact .inl (by assumption)
  · split at h
    · exact .inr (by assumption)
    · cases h
theorem place_nat {c a b m p q : Int} {k : Nat} (h : placeF c a b m = some (p, q)) (ha : 0 ≤ a) (hb : 0 ≤ b) (h1 : a + m ≤ k) (h2 : b + m ≤ k) : ∃ n : Nat, n < k ∧ c = n := by
  rcases placeF_some (by rw [h]; rfl) with h | h
  · exact nat_of (Int.le_trans ha h.1) (Int.lt_of_lt_of_le h.2 h1)
  · exact nat_of (Int.le_trans hb h.1) (Int.lt_of_lt_of_le h.2 h2)
theorem place_takes2 {c p q : Int} (h : placeF c 106 124 15 = some (p, q)) : q = takesF c := by
  obtain ⟨n, hn, rfl⟩ := place_nat (k := 139) h (by decide) (by decide) (by decide) (by decide)
  have k : ∀ n, n < 139 → (placeF (n : Nat) 106 124 15).all (fun r => r.2 == takesF n) = true := by decide +kernel
  have := k n hn
  rw [h] at this; exact eq_of_beq this
theorem place_takes3 {c p q : Int} (h : placeF c 70 81 10 = some (p, q)) : q = takesF c := by
  obtain ⟨n, hn, rfl⟩ := place_nat (k := 91) h (by decide) (by decide) (by decide) (by decide)
  have k : ∀ n, n < 91 → (placeF (n : Nat) 70 81 10).all (fun r => r.2 == takesF n) = true := by decide +kernel
  have := k n hn
  rw [h] at this; exact eq_of_beq this
theorem rest_item {w : World} {A : Around} {E : Value → Shared → Prop} {s : Shared} {h₀ : Heap} {L : Addr} {m : Str → Option Value} {value slice : Expr} {c a b k q : Int} {u : Tok} {Q : Value → Shared → Prop} (F : Fr h₀ L s.heap m) (X₀ : (hda.heap_1_39 w.params).In h₀) (hp : placeF c a b 15 = some (k, q))
    (hs : subscripted slice false (.ref 299) (.int k u) = operate [.ref 299, .int k u] (getItem (.ref 299) (.int k u))) (h : Q (.ref (restA k)) s) : wpAny (model PR w) A (subscriptTail value slice (.ref 299) (.int k u)) Q E s :=
  tab_item (l := restL) F X₀ (by k_dflt k_is) (place_lt hp).1 (place_lt hp).2.1 (by decide) (rest_get (place_lt hp).1 (place_lt hp).2.1) h hs
theorem cmp_item {w : World} {A : Around} {E : Value → Shared → Prop} {s : Shared} {h₀ : Heap} {L : Addr} {m : Str → Option Value} {value slice : Expr} {c a b k q : Int} {u : Tok} {Q : Value → Shared → Prop} (F : Fr h₀ L s.heap m) (X₀ : (hda.heap_1_39 w.params).In h₀) (hp : placeF c a b 10 = some (k, q))
    (hs : subscripted slice false (.ref 298) (.int k u) = operate [.ref 298, .int k u] (getItem (.ref 298) (.int k u))) (h : Q (.ref (cmpA k)) s) : wpAny (model PR w) A (subscriptTail value slice (.ref 298) (.int k u)) Q E s :=
  tab_item (l := cmpL) F X₀ (by k_dflt k_is) (place_lt hp).1 (place_lt hp).2.1 (by decide) (cmp_get (place_lt hp).1 (place_lt hp).2.1) h hs
theorem rest_call {P : Params} {c a b p q : Int} (h : placeF c a b 15 = some (p, q)) : keepIn (hda.heap_1_39 P) (.ref (restA p)) = true := rest_keep (place_lt h).1 (place_lt h).2.1
theorem cmp_call {P : Params} {c a b p q : Int} (h : placeF c a b 10 = some (p, q)) : keepIn (hda.heap_1_39 P) (.ref (cmpA p)) = true := cmp_keep (place_lt h).1 (place_lt h).2.1
def r2F (c x y : Int) : Option Int := match placeF c 106 124 15 with
  | some (p, q) => restF p q x y
  | none => match placeF c 70 81 10 with
    | some (p, q) => some (cmpF p q x y)
    | none => none
open G8
open G8
open G8
open G8
theorem reckon2_c (w : World) (c x y : Int) (t u v : Tok) (hc : isBiF c = true) (hx : 0 ≤ x) (hx2 : x < 2 ^ (takesF c).toNat) (hy : 0 ≤ y) (hy2 : y < 2 ^ (takesF c).toNat) :
    CtX w 341 [.int c t, .int x u, .int y v] 5 (r2F c x y) := by
  intro mean mg mb dp un gd base outer s Q E G hR hB hFF hret hexc
  have KX := G.k
  have T := G.t
  refine enter G (by k_dflt k_is) (by k_dflt k_is) (Room.enter hR) rfl (locs rfl) (fun L' h' tk' F' N' => ?_)
  intro A9 E9
  try dsimp only
  dsimp only [List.map, List.zip, List.zipWith, List.reverse, List.reverseAux] at F'
  refine nameM F' ?_
  clear F'
  intro mp9 F'
  k_steps
  · exfalso
    with_reducible rename (placeF _ 70 _ _ = _) => q2
    with_reducible rename (placeF _ 106 _ _ = _) => q1
    rw [isBiF, q1, q2] at hc; cases hc
  · with_reducible rename (placeF _ 70 _ _ = _) => q2
    with_reducible rename (placeF _ 106 _ _ = _) => q1
    have hp := place_lt q2
    refine useI (cmp_c w _ x y _ _ _ _ hp.1 hp.2.1 hp.2.2 hx hy) (by k_asm) (by k_asm) KX T (Room.down hR (by decide) rfl rfl) ?_
    intro t9 h9 tk9 F9 N9
    k_steps
    refine leaveC_ret (hret _ ?_ _ _ _ F9.keep)
    rw [r2F, q1, q2]
  · with_reducible rename (placeF _ 106 _ _ = _) => q1
    have hp := place_lt q1
    have hq := place_takes2 q1
    with_reducible rename Fr _ _ _ _ => F2
    refine useX (rest_c w _ x y _ _ _ _ hp.1 hp.2.1 hp.2.2 hx (by rw [hq]; exact hx2) hy (by rw [hq]; exact hy2)) hB hFF F2 (by k_asm) KX T (Room.down hR (by decide) rfl rfl) ?_ ?_
    · intro x9 hr t9 h9 tk9 F9 N9
      k_steps
      refine leaveC_ret (hret _ ?_ _ _ _ F9.keep)
      rw [r2F, q1]; exact hr
    · intro hr e9 h9 tk9 fl
      refine leave_on F2 fl (fun h'' tk'' f9 => hexc ?_ _ _ _ f9)
      rw [r2F, q1]; exact hr
end

section
open Kunsigned_c
open Ksigned_c
open Kleast_c
open Kwidened_c
open Keqz_c
open Kadd_c
open Ksub_c
open Kmul_c
open Ktn_c
open Kand_c
open Kor_c
open Kxor_c
open Kshl_c
open Kshrs_c
open Kshru_c
open Krotl_c
open Krotr_c
open Keq_c
open Kne_c
open Kltu_c
open Klts_c
open Kgts_c
open Kles_c
open Kges_c
open Kgtu_c
open Kleu_c
open Kgeu_c
open Kltakes_c
open Klisone_c
open Klsigned_c
open Klplain_c
open Kplace_c
open Knarrow_c
open Kisun_c
open Kisbi_c
open Kneutral_c
open Kwidths_c
open Kclz_c
open Kctz_c
open Kpop_c
open Kdivu_c
open Kremu_c
open Kdivs_c
open Krems_c
def cntA (p : Int) : Addr := match p.toNat with
  | 0 => 100 | 1 => 107 | _ => 114
def cntF (p b x : Int) : Int := match p.toNat with
  | 0 => clzF b x | 1 => ctzF b x | _ => popF x
theorem to3 {p : Int} (h0 : 0 ≤ p) (h1 : p < 3) : p = 0 ∨ p = 1 ∨ p = 2 := by lia
theorem cnt_c (w : World) (p x b : Int) (t u : Tok) (h0 : 0 ≤ p) (h1 : p < 3) (hb : b = 32 ∨ b = 64) (hx : 0 ≤ x) (hx2 : x < 2 ^ b.toNat) : CtI w (cntA p) [.int x t, .int b u] 3 (cntF p b x) := by
  rcases to3 h0 h1 with rfl | rfl | rfl
  · exact cti_le (clz_c w x b t u hb hx hx2) (by decide)
  · exact cti_le (ctz_c w x b t u hb hx hx2) (by decide)
  · exact cti_le (pop_c w x b t u hx) (by decide)
theorem cnt_get {p : Int} (h0 : 0 ≤ p) (h1 : p < 3) : cntL[p.toNat]? = some (.ref (cntA p)) := by
  rcases to3 h0 h1 with rfl | rfl | rfl <;> rfl
theorem cnt_keep {P : Params} {p : Int} (h0 : 0 ≤ p) (h1 : p < 3) : keepIn (hda.heap_1_39 P) (.ref (cntA p)) = true := by
  rcases to3 h0 h1 with rfl | rfl | rfl <;> dsimp only [cntA, Int.toNat] <;> k_dflt k_is
theorem place_takes1 {c p q : Int} (h : placeF c 103 121 3 = some (p, q)) : q = takesF c := by
  obtain ⟨n, hn, rfl⟩ := place_nat (k := 124) h (by decide) (by decide) (by decide) (by decide)
  have k : ∀ n, n < 124 → (placeF (n : Nat) 103 121 3).all (fun r => r.2 == takesF n) = true := by decide +kernel
  have := k n hn
  rw [h] at this; exact eq_of_beq this
theorem narrow_ok {c n b : Int} (h : narrowF c = some (n, b)) : 0 < n ∧ n ≤ 64 ∧ (b = 32 ∨ b = 64) := by
  unfold narrowF at h
  split at h
  · have : c = 192 ∨ c = 193 := by lia
    rcases this with rfl | rfl <;> (simp at h; lia)
  · split at h
    · have : c = 194 ∨ c = 195 ∨ c = 196 := by lia
      rcases this with rfl | rfl | rfl <;> (simp at h; lia)
    · split at h
      · simp at h; lia
      · cases h
def r1F (c x : Int) : Int := if c = 69 ∨ c = 80 then (if x = 0 then 1 else 0) else if c = 167 then x % 2 ^ 32 else if c = 173 then x else match placeF c 103 121 3 with
  | some (p, q) => cntF p q x
  | none => match narrowF c with
    | some (n, b) => sg n (x % 2 ^ n.toNat) % 2 ^ b.toNat
    | none => 0
theorem cnt_item {w : World} {A : Around} {E : Value → Shared → Prop} {s : Shared} {h₀ : Heap} {L : Addr} {m : Str → Option Value} {value slice : Expr} {c a b k q : Int} {u : Tok} {Q : Value → Shared → Prop} (F : Fr h₀ L s.heap m) (X₀ : (hda.heap_1_39 w.params).In h₀) (hp : placeF c a b 3 = some (k, q))
    (hs : subscripted slice false (.ref 297) (.int k u) = operate [.ref 297, .int k u] (getItem (.ref 297) (.int k u))) (h : Q (.ref (cntA k)) s) : wpAny (model PR w) A (subscriptTail value slice (.ref 297) (.int k u)) Q E s :=
  tab_item (l := cntL) F X₀ (by k_dflt k_is) (place_lt hp).1 (place_lt hp).2.1 (by decide) (cnt_get (place_lt hp).1 (place_lt hp).2.1) h hs
theorem cnt_call {P : Params} {c a b p q : Int} (h : placeF c a b 3 = some (p, q)) : keepIn (hda.heap_1_39 P) (.ref (cntA p)) = true := cnt_keep (place_lt h).1 (place_lt h).2.1
open G8
open G8
open H86
theorem reckon1_c (w : World) (c x : Int) (t u : Tok) (hc : isUnF c = true) (hx : 0 ≤ x) (hx2 : x < 2 ^ (takesF c).toNat) : CtI w 334 [.int c t, .int x u] 5 (r1F c x) := by
  intro mean mg mb dp un fr gd s Q E G hR hret
  have KX := G.k
  have T := G.t
  refine enter G (by k_dflt k_is) (by k_dflt k_is) (Room.enter hR) rfl (locs rfl) (fun L' h' tk' F' N' => ?_)
  intro A9 E9
  try dsimp only
  dsimp only [List.map, List.zip, List.zipWith, List.reverse, List.reverseAux] at F'
  refine nameM F' ?_
  clear F'
  intro mp9 F'
  k_steps
  · (k_steps; (try dsimp only); first | (refine endI (by assumption) (by k_asm) ?_) | (refine endB (by assumption) (by k_asm) ?_) | (refine endR (by assumption) (by k_asm) ?_)); exact (if_pos (show c = 69 ∨ c = 80 by lia)).symm
  · (k_steps; (try dsimp only); first | (refine endI (by assumption) (by k_asm) ?_) | (refine endB (by assumption) (by k_asm) ?_) | (refine endR (by assumption) (by k_asm) ?_)); exact (if_pos (show c = 69 ∨ c = 80 by lia)).symm
  · (k_steps; (try dsimp only); first | (refine endI (by assumption) (by k_asm) ?_) | (refine endB (by assumption) (by k_asm) ?_) | (refine endR (by assumption) (by k_asm) ?_)); rw [r1F, if_neg (by lia), if_pos (by lia)]; rfl
  · (k_steps; (try dsimp only); first | (refine endI (by assumption) (by k_asm) ?_) | (refine endB (by assumption) (by k_asm) ?_) | (refine endR (by assumption) (by k_asm) ?_)); rw [r1F, if_neg (by lia), if_neg (by lia), if_pos (by lia)]
  · exfalso
    with_reducible rename (placeF _ _ _ _ = _) => q1
    with_reducible rename (narrowF _ = _) => q2
    rw [isUnF, q1, q2] at hc
    simp only [List.any_cons, List.any_nil, Option.isSome_none, Bool.or_false, Bool.or_eq_true, beq_iff_eq] at hc
    lia
  · refine unhold ?_
    with_reducible rename (placeF _ _ _ _ = _) => q1
    with_reducible rename (narrowF _ = _) => q2
    have hp := narrow_ok q2
    refine useI (widened_c w x _ _ _ _ _ hp.1 hp.2.1 (by lia) (by lia)) (by k_asm) (by k_asm) KX T (Room.down hR (by decide) rfl rfl) ?_
    intro t9 h9 tk9 F9 N9
    (try dsimp only)
    (k_steps; (try dsimp only); first | (refine endI (by assumption) (by k_asm) ?_) | (refine endB (by assumption) (by k_asm) ?_) | (refine endR (by assumption) (by k_asm) ?_))
    rw [r1F, if_neg (by lia), if_neg (by lia), if_neg (by lia), q1, q2]
  · with_reducible rename (placeF _ _ _ _ = _) => q1
    have hp := place_lt q1
    have hq := place_takes1 q1
    refine useI (cnt_c w _ x _ _ _ hp.1 hp.2.1 hp.2.2 hx (by rw [hq]; exact hx2)) (by k_asm) (by k_asm) KX T (Room.down hR (by decide) rfl rfl) ?_
    intro t9 h9 tk9 F9 N9
    (try dsimp only)
    (k_steps; (try dsimp only); first | (refine endI (by assumption) (by k_asm) ?_) | (refine endB (by assumption) (by k_asm) ?_) | (refine endR (by assumption) (by k_asm) ?_))
    rw [r1F, if_neg (by lia), if_neg (by lia), if_neg (by lia), q1]
theorem Kreckon1_c.ctK : type_of% @reckon1_c := @reckon1_c
open Kreckon1_c
end

section
open Kunsigned_c
open Ksigned_c
open Kleast_c
open Kwidened_c
open Keqz_c
open Kadd_c
open Ksub_c
open Kmul_c
open Ktn_c
open Kand_c
open Kor_c
open Kxor_c
open Kshl_c
open Kshrs_c
open Kshru_c
open Krotl_c
open Krotr_c
open Keq_c
open Kne_c
open Kltu_c
open Klts_c
open Kgts_c
open Kles_c
open Kges_c
open Kgtu_c
open Kleu_c
open Kgeu_c
open Kltakes_c
open Klisone_c
open Klsigned_c
open Klplain_c
open Kplace_c
open Knarrow_c
open Kisun_c
open Kisbi_c
open Kneutral_c
open Kwidths_c
open Kclz_c
open Kctz_c
open Kpop_c
open Kdivu_c
open Kremu_c
open Kdivs_c
open Krems_c
open Kreckon1_c
def LeaveR (R : Result → Shared → Prop) (fl : Flow) (s' : Shared) : Prop := R (.ok (.ret (match fl with | .ret v => v | _ => .none))) s'
/-- the widest way in: objects set apart, frames hidden, any binding -/
theorem enterC {w : World} {mean : ExcName → Option Value} {mg mb : Str → Option Value} {A : Around} {s : Shared} {R : Result → Shared → Prop} {h₀ : Heap} {hid : List (Addr × Obj)} (fs : List Addr)
    {name qual : Str} {params : Arguments} {body : List Stmt} {scope : Scope} {dV kV doc pm cdv ct oc : Value} {an od : Option Addr} {osl : Array (Option Value)} {f : Addr} {args : List Value} {binds : List (Str × Value)}
    (G : Gd w mean mg mb h₀) (hx : Ext h₀ s.heap) (hh : ∀ p ∈ hid, s.heap.get? p.1 = some p.2 ∧ h₀.get? p.1 = none) (hfs : ∀ a ∈ fs, h₀.get? a = none)
    (ho : (hda.heap_1_39 w.params).lookup f = some ⟨oc, od, .func (fnOf name qual params body scope dV kV doc pm an cdv ct), osl⟩) (hcd : codeIn (hda.heap_1_39 w.params) cdv qual = true) (hroom : A.depth < recursionLimit)
    (hbind : BindsTo s (fnOf name qual params body scope dV kV doc pm an cdv ct) ⟨args, []⟩ binds) (hloc : ∀ y ∈ binds, scope.names.lookup y.1 = some .local)
    (h : ∀ g h₁ tk₁, g = hideAll s.heap (hid.map (·.1) ++ fs) → Gd w mean mg mb g → Ext h₀ g → Fr g s.heap.objs.size h₁ (fun y => binds.reverse.lookup y) → News g s.heap.objs.size h₁ hid → Ext s.heap h₁ →
      let A' := A.deeper (envOf qual scope s.heap.objs.size f cdv)
      let E' : Value → Shared → Prop := fun e s' => wpAny (model PR w) A' (leaving (envOf qual scope s.heap.objs.size f cdv) e) (fun _ s'' => R (.error e) s'') (fun e' s'' => R (.error e') s'') s'
      wpAny (model PR w) A' (execs body (envOf qual scope s.heap.objs.size f cdv)) (LeaveR R) E' { s with heap := h₁, toks := tk₁ })
    (hco : scope.isCoroutine = false := by rfl) (hgen : scope.isGenerator = false := by rfl) (hk : scope.kind = .function := by rfl)
    (hcell : ∀ x ∈ scope.names, x.2 ≠ .cell := by decide) : codeAny (model PR w) A (.call (.ref f) ⟨args, []⟩) R s := by
  have Gs := G.ext hx
  refine codeAny_call_def (fd := fnOf name qual params body scope dV kV doc pm an cdv ct) (body := body) (binds := binds) hroom (Gs.k _ _ ho) rfl Gs.t.nolimit (codeRec_of Gs.k hcd) rfl hbind hcell hloc (fun h₁ hns hk₁ => ?_) hco hgen hk
  have nm : ∀ b o, h₀.get? b = some o → b ∉ hid.map (·.1) ++ fs := fun b o e q => by
    rcases List.mem_append.mp q with q | q
    · obtain ⟨p, hp, rfl⟩ := List.mem_map.mp q
      rw [(hh p hp).2] at e; cases e
    · rw [hfs b q] at e; cases e
  have st : Ext h₀ (hideAll s.heap (hid.map (·.1) ++ fs)) := fun b o e => hideAll_get _ (hx b o e) (nm b o e)
  exact h _ h₁ _ rfl (G.ext st) st ⟨hns, fun b o e => hk₁ b o (of_hideAll _ e), Nat.le_of_eq (hideAll_size _ _)⟩
    (fun p hp => ⟨hk₁ _ _ (hh p hp).1, Nat.ne_of_lt (Heap.lt_size (hh p hp).1), hideAll_none _ (List.mem_append_left _ (List.mem_map_of_mem hp))⟩) hk₁
abbrev pieceDict (h1 h2 h3 : Int) (t1 t2 t3 : Tok) (v : Value) (n : Nat) : Obj := dictOf [⟨h1, .str (Str.ofString "plain") t1, v⟩, ⟨h2, .str (Str.ofString "first") t2, .none⟩, ⟨h3, .str (Str.ofString "second") t3, .none⟩] n
theorem pinit_c {w : World} {mean : ExcName → Option Value} {mg mb : Str → Option Value} {A : Around} {s : Shared} {R : Result → Shared → Prop} {h₀ : Heap} {x dx : Addr} {v : Value}
    (G : Gd w mean mg mb h₀) (hx : Ext h₀ s.heap) (ho1 : s.heap.get? x = some (instObj 379 dx)) (ho2 : s.heap.get? dx = some (dictOf [] 0)) (hx0 : h₀.get? x = none) (hd0 : h₀.get? dx = none) (hlt : dx < x) (hR : A.depth < recursionLimit)
    (hret : ∀ h' tk' h1 h2 h3 t1 t2 t3 n, Ext h₀ h' → (∀ b o, b ≠ dx → s.heap.get? b = some o → h'.get? b = some o) → h'.get? dx = some (pieceDict h1 h2 h3 t1 t2 t3 v n) → R (.ok (.ret .none)) { s with heap := h', toks := tk' }) :
    codeAny (model PR w) A (.call (.ref 356) ⟨[.ref x, v], []⟩) R s := by
  refine enterC (hid := [(x, instObj 379 dx), (dx, dictOf [] 0)]) [] G hx (by intro p hp; rcases List.mem_cons.mp hp with rfl | hp; exact ⟨ho1, hx0⟩; rw [List.mem_singleton.mp hp]; exact ⟨ho2, hd0⟩) (fun _ h => nomatch h) (by k_dflt k_is) (by k_dflt k_is) hR
    (binds_K (G.k.keeps hx) rfl (by k_dflt k_is) rfl rfl rfl) (locs rfl) (fun g h₁ tk₁ hg Gg hg0 F' N' _ => ?_)
  intro A9 E9
  have KX := Gg.k
  have T := Gg.t
  have hlt2 := ltN hlt
  k_steps
  with_reducible rename News _ _ _ _ => N2
  with_reducible rename Fr _ _ _ _ => F2
  refine hret _ _ _ _ _ _ _ _ _ (fun b o q => F2.keep b o (hg0 b o q)) (fun b o hb q => ?_) (N2 _ (.tail _ (.head _))).1
  by_cases hbx : b = x
  · subst hbx; rw [ho1] at q; cases q; exact (N2 _ (.head _)).1
  · refine F2.keep b o ?_
    rw [hg]
    refine hideAll_get _ q (fun z => ?_)
    simp only [List.map_cons, List.map_nil, List.append_nil, List.mem_cons, List.not_mem_nil, or_false] at z
    rcases z with z | z
    · exact hbx z
    · exact hb z
theorem piece_c {w : World} {mean : ExcName → Option Value} {mg mb : Str → Option Value} {A : Around} {s : Shared} {Q E : Value → Shared → Prop} {v : Value} (G : Gd w mean mg mb s.heap) (hR : A.depth + 2 < recursionLimit)
    (hret : ∀ x dx h1 h2 h3 t1 t2 t3 n h' tk', Ext s.heap h' → h'.get? x = some (instObj 379 dx) → h'.get? dx = some (pieceDict h1 h2 h3 t1 t2 t3 v n) → s.heap.get? x = none → s.heap.get? dx = none → x ≠ dx → Q (.ref x) { s with heap := h', toks := tk' }) :
    wpAny (model PR w) A (call (.ref 379) [v]) Q E s := by
  obtain ⟨hh, g, d, t, os⟩ := s
  have X : (hda.heap_1_39 w.params).In hh := G.k
  refine wpAny_call (make_core (makes_of X (by k_dflt k_is)) (looks_findIn X (r := some (.ref 356)) (by k_dflt k_is)) (fun self => bind_fn X self (by k_dflt k_is)) (.inl rfl) ?_)
  have hx0 : hh.get? (hh.objs.size + 1) = none := Heap.get?_none_of_le (Nat.le_succ _)
  have hd0 : hh.get? hh.objs.size = none := Heap.get?_none_of_le (Nat.le_refl _)
  have o1 : ((hh.push emptyDict).push (instObj 379 hh.objs.size)).get? (hh.objs.size + 1) = some (instObj 379 hh.objs.size) := by heap_get
  have o2 : ((hh.push emptyDict).push (instObj 379 hh.objs.size)).get? hh.objs.size = some (dictOf [] 0) := Heap.get?_push_of_some _ (Heap.get?_push_size _ rfl)
  refine pinit_c (s := ⟨(hh.push emptyDict).push (instObj 379 hh.objs.size), g, d, t, os⟩) G (fun b o q => Heap.get?_push_of_some _ (Heap.get?_push_of_some _ q)) o1 o2 hx0 hd0 (Nat.lt_succ_self _) (by show A.depth + 1 < recursionLimit; lia) ?_
  intro h' tk' h1 h2 h3 t1 t2 t3 n e0 eb ed
  exact ⟨rfl, hret _ _ h1 h2 h3 t1 t2 t3 n h' tk' e0 (eb _ _ (Nat.ne_of_gt (Nat.lt_succ_self _)) o1) ed hx0 hd0 (Nat.ne_of_gt (Nat.lt_succ_self _))⟩
theorem fresh_back {h h' : Heap} {x : Addr} (e : Ext h h') (f : h'.get? x = none) : h.get? x = none := by
  cases q : h.get? x with
  | none => rfl
  | some o => have := e _ _ q; rw [f] at this; cases this
structure Ins where
  code : Int
  arg : Option Int
deriving DecidableEq
def ArgIs (rest : List Value) (a : Option Int) : Prop := match a with
  | none => rest = []
  | some n => ∃ u, rest = [.int n u]
abbrev tupOf (l : List Value) : Obj := { cls := .type "tuple", data := .seq l.toArray }
inductive InsAt (h : Heap) (a : Addr) (i : Ins) : Prop
  | mk : ∀ t rest, (h.get? a = some (tupOf (.int i.code t :: rest))) → (ArgIs rest i.arg) → InsAt h a i
theorem InsAt.ext {h h' : Heap} {a : Addr} {i : Ins} (x : InsAt h a i) (e : Ext h h') : InsAt h' a i :=
  let ⟨t, r, x, y⟩ := x; ⟨t, r, e _ _ x, y⟩
/-- the object x is a piece that bears the instruction i -/
inductive PieceAt (h : Heap) (x : Addr) (i : Ins) : Prop
  | mk : ∀ dx h1 h2 h3 t1 t2 t3 a n, (h.get? x = some (instObj 379 dx)) → (h.get? dx = some (pieceDict h1 h2 h3 t1 t2 t3 (.ref a) n)) → (InsAt h a i) → PieceAt h x i
theorem PieceAt.ext {h h' : Heap} {x : Addr} {i : Ins} (p : PieceAt h x i) (e : Ext h h') : PieceAt h' x i := by
  obtain ⟨dx, h1, h2, h3, t1, t2, t3, a, n, p1, p2, p3⟩ := p
  exact ⟨dx, h1, h2, h3, t1, t2, t3, a, n, e _ _ p1, e _ _ p2, p3.ext e⟩
/-- the same, and all of it is new -/
inductive PieceNew (i : Ins) (h h' : Heap) (v : Value) : Prop
  | mk : ∀ x dx h1 h2 h3 t1 t2 t3 a n, (v = .ref x) → (h'.get? x = some (instObj 379 dx)) → (h'.get? dx = some (pieceDict h1 h2 h3 t1 t2 t3 (.ref a) n)) → (InsAt h' a i) → (h.get? x = none) → (h.get? dx = none) → (h.get? a = none) → PieceNew i h h' v
open H379
theorem constant_c (w : World) (b x : Int) (t u : Tok) (hb : 0 < b) (hb2 : b ≤ 64) (hx : 0 ≤ x) : Ct w 426 [.int b t, .int x u] 3 (PieceNew ⟨if b = 32 then 65 else 66, some (sg b x)⟩) := by
  intro mean mg mb dp un fr gd s Q E G hR hret
  have KX := G.k
  have T := G.t
  refine enter G (by k_dflt k_is) (by k_dflt k_is) (Room.enter hR) rfl (locs rfl) (fun L' h' tk' F' N' => ?_)
  intro A9 E9
  try dsimp only
  dsimp only [List.map, List.zip, List.zipWith, List.reverse, List.reverseAux] at F'
  refine nameM F' ?_
  clear F'
  intro mp9 F'
  k_steps
  all_goals
    refine unhold ?_
    with_reducible rename News _ _ _ _ => N2
    with_reducible rename Fr _ _ _ _ => F2
    refine piece_c (Gd.ext ⟨KX, T⟩ F2.keep) (by have := hR.d; show dp + 1 + 2 < 1000; lia) ?_
    intro x dx h1 h2 h3 t1 t2 t3 n h9 tk9 e9 ox odx fx fdx _
    have P := N2 _ (.head _)
    k_steps
    refine leaveC_ret (hret _ _ _ (fun b o q => e9 b o (F2.keep b o q)) ⟨x, dx, h1, h2, h3, t1, t2, t3, _, n, rfl, ox, odx, ?_, fresh_back F2.keep fx, fresh_back F2.keep fdx, P.2.2⟩)
    first
      | (rw [if_pos (by assumption)]; exact ⟨_, [_], e9 _ _ P.1, _, rfl⟩)
      | (rw [if_neg (by assumption)]; exact ⟨_, [_], e9 _ _ P.1, _, rfl⟩)
end

section
open Kunsigned_c
open Ksigned_c
open Kleast_c
open Kwidened_c
open Keqz_c
open Kadd_c
open Ksub_c
open Kmul_c
open Ktn_c
open Kand_c
open Kor_c
open Kxor_c
open Kshl_c
open Kshrs_c
open Kshru_c
open Krotl_c
open Krotr_c
open Keq_c
open Kne_c
open Kltu_c
open Klts_c
open Kgts_c
open Kles_c
open Kges_c
open Kgtu_c
open Kleu_c
open Kgeu_c
open Kltakes_c
open Klisone_c
open Klsigned_c
open Klplain_c
open Kplace_c
open Knarrow_c
open Kisun_c
open Kisbi_c
open Kneutral_c
open Kwidths_c
open Kclz_c
open Kctz_c
open Kpop_c
open Kdivu_c
open Kremu_c
open Kdivs_c
open Krems_c
open Kreckon1_c
/-- a contract whose word hangs on the heap at hand -/
def CtH (w : World) (f : Addr) (args : List Value) (n : Nat) (P : Heap → Prop) (R : Heap → Heap → Value → Prop) : Prop :=
  ∀ (mean : ExcName → Option Value) (mg mb : Str → Option Value) (dp un : Nat) (fr : Option (List Env)) (gd : Option (List Code)) (s : Shared) (Q E : Value → Shared → Prop),
    Gd w mean mg mb s.heap → Room dp un n → P s.heap → (∀ v h' tk', Ext s.heap h' → R s.heap h' v → Q v { s with heap := h', toks := tk' }) →
    wpAny (model PR w) (AR dp un fr gd) (call (.ref f) args) Q E s
section
variable {w : World} {A : Around} {E : Value → Shared → Prop} {s : Shared} {h₀ h : Heap} {L a x C dx : Addr} {m : Str → Option Value} {od : Obj}
theorem instBase (F : Fr h₀ L h m) (h1 : h₀.get? x = some (instObj C dx)) (h2 : h₀.get? dx = some od) : InstAt h x (instObj C dx) C (some od) := ⟨F.keep _ _ h1, rfl, rfl, F.keep _ _ h2⟩
theorem item_base {value slice : Expr} {l : List Value} {k : Int} {u : Tok} {v : Value} {Q : Value → Shared → Prop} (F : Fr h₀ L s.heap m) (ht : h₀.get? a = some (tupOf l))
    (h0 : 0 ≤ k) (hk : k < 2 ^ 63) (hx : l[k.toNat]? = some v)
    (hs : subscripted slice false (.ref a) (.int k u) = operate [.ref a, .int k u] (getItem (.ref a) (.int k u))) (h : Q v s) :
    wpAny (model PR w) A (subscriptTail value slice (.ref a) (.int k u)) Q E s := by
  have hlt : k < l.length := by have := (List.getElem?_eq_some_iff.mp hx).1; lia
  exact item_tupleT (l := l) ⟨_, F.keep _ _ ht, rfl, _, rfl⟩ (by lia) hk (seqIdx h0 hlt) hx h hs
end
theorem code_cc {w : World} {mean : ExcName → Option Value} {mg mb : Str → Option Value} {A : Around} {s : Shared} {R : Result → Shared → Prop} {x : Addr} {i : Ins} (G : Gd w mean mg mb s.heap) (hR : A.depth < recursionLimit) (p : PieceAt s.heap x i)
    (hret : ∀ t h' tk', Ext s.heap h' → R (.ok (.ret (.int i.code t))) { s with heap := h', toks := tk' }) : codeAny (model PR w) A (.call (.ref 363) ⟨[.ref x], []⟩) R s := by
  obtain ⟨dx, h1, h2, h3, t1, t2, t3, a, n, p1, p2, t, rest, p3, p4⟩ := p
  refine enterC (hid := []) [] G (fun _ _ q => q) (fun _ hp => nomatch hp) (fun _ hp => nomatch hp) (by k_dflt k_is) (by k_dflt k_is) hR (BindsTo.of_eq rfl) (locs rfl) (fun g h₁ tk₁ hg Gg hg0 F' N' _ => ?_)
  intro A9 E9
  have hg1 : g = s.heap := hg
  subst hg1
  have KX := Gg.k
  have T := Gg.t
  k_steps
  (try dsimp only)
  exact hret _ _ _ (Fr.keep (by k_asm))
/-- piece.code -/
theorem code_line {w : World} {mean : ExcName → Option Value} {mg mb : Str → Option Value} {A : Around} {s : Shared} {Q E : Value → Shared → Prop} {h₀ : Heap} {L x : Addr} {m : Str → Option Value} {i : Ins} {expr : Bool} (F : Fr h₀ L s.heap m) (X : (hda.heap_1_39 w.params).In h₀) (T : Top VW LO mean mg mb h₀) (hR : A.depth < recursionLimit)
    (p : PieceAt s.heap x i) (h : ∀ t h' tk', Ext s.heap h' → Q (.int i.code t) { s with heap := h', toks := tk' }) : wpAny (model PR w) A (getAttr (.ref x) (Str.ofString "code") expr) Q E s := by
  have G : Gd w mean mg mb s.heap := Gd.ext ⟨X, T⟩ F.keep
  obtain ⟨dx, h1, h2, h3, t1, t2, t3, a, n, p1, p2, p3⟩ := id p
  have I : InstAt s.heap x (instObj 379 dx) 379 (some (pieceDict h1 h2 h3 t1 t2 t3 (.ref a) n)) := ⟨p1, rfl, rfl, p2⟩
  refine get_prop (p := 364) (fget := 363) F X I (by k_dflt k_is) (by k_dflt k_is) (by k_dflt k_is) (by k_dflt k_is) (by k_dflt k_is) (by k_dflt k_is) ?_
  refine code_cc (s := { s with toks := s.toks + 1 }) G hR p (fun t h' tk' e => ?_)
  (try dsimp only)
  rw [handedOut_of (by rfl)]
  exact wpAny_pure (h t h' tk' e)
end

section
open Kunsigned_c
open Ksigned_c
open Kleast_c
open Kwidened_c
open Keqz_c
open Kadd_c
open Ksub_c
open Kmul_c
open Ktn_c
open Kand_c
open Kor_c
open Kxor_c
open Kshl_c
open Kshrs_c
open Kshru_c
open Krotl_c
open Krotr_c
open Keq_c
open Kne_c
open Kltu_c
open Klts_c
open Kgts_c
open Kles_c
open Kges_c
open Kgtu_c
open Kleu_c
open Kgeu_c
open Kltakes_c
open Klisone_c
open Klsigned_c
open Klplain_c
open Kplace_c
open Knarrow_c
open Kisun_c
open Kisbi_c
open Kneutral_c
open Kwidths_c
open Kclz_c
open Kctz_c
open Kpop_c
open Kdivu_c
open Kremu_c
open Kdivs_c
open Krems_c
open Kreckon1_c
theorem code_use {w : World} {mean : ExcName → Option Value} {mg mb : Str → Option Value} {A : Around} {s : Shared} {Q E : Value → Shared → Prop} {h₀ : Heap} {L x : Addr} {m : Str → Option Value} {news : List (Addr × Obj)} {i : Ins} {expr : Bool} (p : PieceAt h₀ x i) (F : Fr h₀ L s.heap m) (N : News h₀ L s.heap news) (X : (hda.heap_1_39 w.params).In h₀) (T : Top VW LO mean mg mb h₀) (hR : A.depth < recursionLimit)
    (h : ∀ t h' tk', Fr h₀ L h' m → News h₀ L h' news → Q (.int i.code t) { s with heap := h', toks := tk' }) : wpAny (model PR w) A (getAttr (.ref x) (Str.ofString "code") expr) Q E s :=
  code_line F X T hR (p.ext F.keep) fun t h' tk' e => h t h' tk' (frExt F e) (newsExt N e)
def constF (i : Ins) : Option Int := if i.code = 65 ∨ i.code = 66 then i.arg else none
theorem any56 {c : Int} (h : ([65, 66].any fun x => x == c) = true) : c = 65 ∨ c = 66 := by simp at h; lia
theorem any56n {c : Int} (h : ([65, 66].any fun x => x == c) = false) : ¬ (c = 65 ∨ c = 66) := by simp at h; lia
theorem any56p {c : Int} (h : ¬ ([65, 66].any fun x => x == c) = true) : ¬ (c = 65 ∨ c = 66) := by simp at h; lia
theorem consto_c (w : World) (x : Addr) (i : Ins) : CtH w 419 [.ref x] 2 (fun h => PieceAt h x i ∧ (i.code = 65 ∨ i.code = 66 → i.arg ≠ none)) (OptInt (constF i)) := by
  intro mean mg mb dp un fr gd s Q E G hR hP hret
  obtain ⟨hP, hA⟩ := hP
  obtain ⟨dx, h1, h2, h3, t1, t2, t3, a, n, p1, p2, t, rest, p3, p4⟩ := id hP
  have KX := G.k
  have T := G.t
  obtain ⟨c, _ | k⟩ := i
  · replace hA : ¬ (c = 65 ∨ c = 66) := fun z => hA z rfl
    refine enter G (by k_dflt k_is) (by k_dflt k_is) (Room.enter hR) rfl (locs rfl) (fun L' h' tk' F' N' => ?_)
    intro A9 E9
    try dsimp only
    dsimp only [List.map, List.zip, List.zipWith, List.reverse, List.reverseAux] at F'
    k_steps
    · exact absurd (any56 (by assumption)) hA
    · (k_steps; (try dsimp only); first | (refine endI (by assumption) (by k_asm) ?_) | (refine endB (by assumption) (by k_asm) ?_) | (refine endR (by assumption) (by k_asm) ?_))
      exact optInt_none (if_neg hA)
  · obtain ⟨u, rfl⟩ := p4
    refine enter G (by k_dflt k_is) (by k_dflt k_is) (Room.enter hR) rfl (locs rfl) (fun L' h' tk' F' N' => ?_)
    intro A9 E9
    try dsimp only
    dsimp only [List.map, List.zip, List.zipWith, List.reverse, List.reverseAux] at F'
    k_steps
    · (k_steps; (try dsimp only); first | (refine endI (by assumption) (by k_asm) ?_) | (refine endB (by assumption) (by k_asm) ?_) | (refine endR (by assumption) (by k_asm) ?_))
      exact optInt_some (if_pos (any56 (by assumption)))
    · (k_steps; (try dsimp only); first | (refine endI (by assumption) (by k_asm) ?_) | (refine endB (by assumption) (by k_asm) ?_) | (refine endR (by assumption) (by k_asm) ?_))
      exact optInt_none (if_neg (by first | exact any56n (by assumption) | exact any56p (by assumption)))
end

section
open Kunsigned_c
open Ksigned_c
open Kleast_c
open Kwidened_c
open Keqz_c
open Kadd_c
open Ksub_c
open Kmul_c
open Ktn_c
open Kand_c
open Kor_c
open Kxor_c
open Kshl_c
open Kshrs_c
open Kshru_c
open Krotl_c
open Krotr_c
open Keq_c
open Kne_c
open Kltu_c
open Klts_c
open Kgts_c
open Kles_c
open Kges_c
open Kgtu_c
open Kleu_c
open Kgeu_c
open Kltakes_c
open Klisone_c
open Klsigned_c
open Klplain_c
open Kplace_c
open Knarrow_c
open Kisun_c
open Kisbi_c
open Kneutral_c
open Kwidths_c
open Kclz_c
open Kctz_c
open Kpop_c
open Kdivu_c
open Kremu_c
open Kdivs_c
open Krems_c
open Kreckon1_c
section
variable {prog : Program} {w : World} {A : Around} {E : Value → Shared → Prop} {s : Shared} {env : Env}
abbrev CompTests (prog : Program) (w : World) (A : Around) (scope : Scope) (cl : List (Str × Addr)) (env : Env) (x : Str) (ifs : List Expr) (p : Value → Bool) (vs : List Value) (s₁ : Shared) : Prop :=
  ∀ C v s₃ m₃ E', v ∈ vs → Fr s₁.heap C s₃.heap m₃ → m₃ x = some v →
    wpAny (model prog w) A (forIn ifs true fun c r => if r = true then do let ok ← isTrue c (compEnvC scope cl C env) (eval c (compEnvC scope cl C env)); pure (ForInStep.yield ok) else pure (ForInStep.yield r))
      (fun ok s₄ => ok = p v ∧ Keeps s₃ s₄) E' s₃
abbrev CompElts (prog : Program) (w : World) (A : Around) (scope : Scope) (cl : List (Str × Addr)) (env : Env) (x : Str) (elt : Expr) (p : Value → Bool) (F : Value → Value → Prop) (vs : List Value) (s₁ : Shared) : Prop :=
  ∀ C v s₃ m₃ E', v ∈ vs → p v = true → Fr s₁.heap C s₃.heap m₃ → m₃ x = some v →
    wpAny (model prog w) A (eval elt (compEnvC scope cl C env)) (fun y s₄ => F v y ∧ Keeps s₃ s₄) E' s₃
theorem compTests_nil {scope : Scope} {cl : List (Str × Addr)} {x : Str} {vs : List Value} {s₁ : Shared} : CompTests prog w A scope cl env x [] (fun _ => true) vs s₁ :=
  fun _ _ s₃ _ _ _ _ _ => wpAny_pure ⟨rfl, _, _, rfl, fun _ _ e => e⟩
theorem ext_of_push {s₁ : Shared} {o : Obj} {h' : Heap} (hk : ∀ b o', b ∉ [s₁.heap.objs.size] → (s₁.heap.push o).get? b = some o' → h'.get? b = some o') : Ext s₁.heap h' :=
  fun b o e => hk b o (fun hm => by rw [List.mem_singleton] at hm; subst hm; exact Nat.lt_irrefl _ (Heap.lt_size e)) (Heap.get?_push_of_some _ e)
/-- a list comprehension over a list or a tuple, its element by any road -/
theorem comp_c {elt iter : Expr} {x : Str} {px : Pos} {ifs : List Expr} {scope : Scope} {cl : List (Str × Addr)} {pos : Pos} {Q : Value → Shared → Prop} (p : Value → Bool) (F : Value → Value → Prop) (hh : A.handled = none)
    (hclos : closureFor scope env = pure cl) (hcell : ∀ y ∈ scope.names, y.2 ≠ .cell) (hkind : scope.kind = .function)
    (hnames : ∀ y ∈ scope.names, y.2 = .local → scope.names.lookup y.1 = some .local) (hx : scope.names.lookup x = some .local)
    (h : wpAny (model prog w) A (eval iter env) (fun xv s₁ => Hold (∃ ax vs, xv = .ref ax ∧ (s₁.heap.IsList ax vs.toArray ∨ s₁.heap.IsTuple ax vs.toArray) ∧ vs.length ≤ sizeLine ∧
      CompTests prog w A scope cl env x ifs p vs s₁ ∧ CompElts prog w A scope cl env x elt p F vs s₁ ∧
      (∀ D h' tk ys n, Ext s₁.heap h' → s₁.heap.get? D = none → h'.get? D = some (PySem.W.listOf ys.toArray n) → Paired F (vs.filter p) ys → Q (.ref D) { s₁ with heap := h', toks := tk }))) E s)
    (hs : ∀ x, foldedSetIterable iter env x = pure x := by intro _; rfl) :
    wpAny (model prog w) A (eval (.ListComp elt [⟨.Name x px, iter, ifs, 0⟩] scope pos) env) Q E s := by
  refine wpAny_ListComp_free p F hclos hcell hkind hnames hx (wpAny_mono h (fun xv s₁ h₁ => ?_) fun _ _ e => e) hs
  obtain ⟨ax, vs, rfl, hl, hsz, ht, he, hQ⟩ := h₁
  have fin : ∀ o I, I = s₁.heap.objs.size → ∀ D h' tk ys (us : List Value), (s₁.heap.push o).get? D = none → h'.PlainList D ys → us.length = vs.toArray.size → (∀ (j : Nat) v, us[j]? = some v → vs.toArray[j]? = some v) → Paired F (us.filter p) ys.toList →
      (∀ b o', b ∉ [s₁.heap.objs.size] → (s₁.heap.push o).get? b = some o' → h'.get? b = some o') → Q (.ref D) { s₁ with heap := h', toks := tk } := by
    rintro o _ rfl D h' tk ys us hD ⟨n, hp⟩ hlen hP hF hk
    have e' : us = vs := by simpa using walked_is hlen hP
    subst e'
    refine hQ D h' tk ys.toList n (ext_of_push hk) ?_ (by rw [Array.toArray_toList]; exact hp) hF
    cases e : s₁.heap.get? D with
    | none => rfl
    | some o' => rw [Heap.get?_push_of_some _ e] at hD; cases hD
  have lt : ax < s₁.heap.objs.size := by rcases hl with ⟨_, e, _⟩ | ⟨_, e, _⟩ <;> exact Heap.lt_size e
  have bd : ∀ o, ∀ b ∈ [s₁.heap.objs.size, ax], b < (s₁.heap.push o).objs.size := fun o b hb => by
    rw [Heap.size_push]
    rcases List.mem_cons.mp hb with rfl | hb
    · exact Nat.lt_succ_self _
    · rw [List.mem_singleton.mp hb]; exact Nat.lt_succ_of_lt lt
  have mem : ∀ {i : Nat} {v : Value}, vs.toArray[i]? = some v → v ∈ vs := fun hP => by simpa using Array.mem_of_getElem? hP
  rcases hl with hl | hl
  · refine wpAny_pyIter_list hl ⟨s₁.heap.objs.size, [s₁.heap.objs.size, ax], [s₁.heap.objs.size], vs.toArray.size, _, _, rfl, Walks.list hh _ _ (Nat.ne_of_lt lt) vs.toArray, (by rw [List.size_toArray]; exact hsz), ⟨⟨_, Heap.get?_push_size _ rfl, rfl, rfl⟩, hl.push _⟩, bd _, ⟨?_, ?_⟩, ?_⟩
    · intro C i v s₃ m₃ E' hC hP hn hm hk _
      exact ht C v s₃ m₃ E' (mem hP) ⟨hn, ext_of_push hk, Nat.le_of_succ_le (by simpa [Heap.size_push] using hC)⟩ hm
    · intro C i v s₃ m₃ E' hC hP hp hn hm hk _
      exact he C v s₃ m₃ E' (mem hP) hp ⟨hn, ext_of_push hk, Nat.le_of_succ_le (by simpa [Heap.size_push] using hC)⟩ hm
    · intro D h' tk ys us hD _ hpl hlen hP hF hk
      exact fin _ _ rfl D h' tk ys us hD hpl hlen hP hF hk
  · refine wpAny_pyIter_tuple hl ⟨s₁.heap.objs.size, [s₁.heap.objs.size, ax], [s₁.heap.objs.size], vs.toArray.size, _, _, rfl, Walks.tuple hh _ _ (Nat.ne_of_lt lt) vs.toArray, (by rw [List.size_toArray]; exact hsz), ⟨⟨_, Heap.get?_push_size _ rfl, rfl, rfl⟩, hl.push _⟩, bd _, ⟨?_, ?_⟩, ?_⟩
    · intro C i v s₃ m₃ E' hC hP hn hm hk _
      exact ht C v s₃ m₃ E' (mem hP) ⟨hn, ext_of_push hk, Nat.le_of_succ_le (by simpa [Heap.size_push] using hC)⟩ hm
    · intro C i v s₃ m₃ E' hC hP hp hn hm hk _
      exact he C v s₃ m₃ E' (mem hP) hp ⟨hn, ext_of_push hk, Nat.le_of_succ_le (by simpa [Heap.size_push] using hC)⟩ hm
    · intro D h' tk ys us hD _ hpl hlen hP hF hk
      exact fin _ _ rfl D h' tk ys us hD hpl hlen hP hF hk
/-- the same, stored in a name at once -/
theorem acomp_c {elt iter : Expr} {x y : Str} {px py : Pos} {ifs : List Expr} {scope : Scope} {cl : List (Str × Addr)} {pos spos : Pos} {Q : Flow → Shared → Prop} (p : Value → Bool) (F : Value → Value → Prop) (hh : A.handled = none) {L : Addr} (hL : env.locals = L)
    (hsw : swapsWith (.ListComp elt [⟨.Name x px, iter, ifs, 0⟩] scope pos) (some (.Name y py)) spos.line env = pure true)
    (hclos : closureFor scope env = pure cl) (hcell : ∀ z ∈ scope.names, z.2 ≠ .cell) (hkind : scope.kind = .function)
    (hnames : ∀ z ∈ scope.names, z.2 = .local → scope.names.lookup z.1 = some .local) (hx : scope.names.lookup x = some .local)
    (hy : env.kindOf y = some .local) (hp : (env.scope.kind == .class || (env.scope.kind == .module && env.locals != env.globals)) = false)
    (h : wpAny (model prog w) A (eval iter env) (fun xv s₁ => Hold (∃ ax vs g m news, xv = .ref ax ∧ (s₁.heap.IsList ax vs.toArray ∨ s₁.heap.IsTuple ax vs.toArray) ∧ vs.length ≤ sizeLine ∧
      CompTests prog w A scope cl env x ifs p vs s₁ ∧ CompElts prog w A scope cl env x elt p F vs s₁ ∧ Fr g L s₁.heap m ∧ News g L s₁.heap news ∧
      (∀ D h' tk ys n, Fr g L h' (fun z => if z = y then some (.ref D) else m z) → News g L h' ((D, PySem.W.listOf ys.toArray n) :: news) → AllNe D news → s₁.heap.get? D = none → Paired F (vs.filter p) ys → Q .next { s₁ with heap := h', toks := tk }))) E s)
    (hs : ∀ x, foldedSetIterable iter env x = pure x := by intro _; rfl) :
    wpAny (model prog w) A (exec (.Assign [.Name y py] (.ListComp elt [⟨.Name x px, iter, ifs, 0⟩] scope pos) spos) env) Q E s := by
  subst hL
  refine wpAny_Assign_ListComp_free p F hsw hclos hcell hkind hnames hx hy hp (wpAny_mono h (fun xv s₁ h₁ => ?_) fun _ _ e => e) hs
  obtain ⟨ax, vs, g, m, news, rfl, hl, hsz, ht, he, Fx, Nx, hQ⟩ := h₁
  have LI : env.locals ∉ [s₁.heap.objs.size] := fun q => by rw [List.mem_singleton] at q; exact absurd Fx.ns.lt (q ▸ Nat.lt_irrefl _)
  have fin : ∀ o D h' tk ys (us : List Value), (s₁.heap.push o).get? D = none → h'.PlainList D ys → us.length = vs.toArray.size → (∀ (j : Nat) v, us[j]? = some v → vs.toArray[j]? = some v) → Paired F (us.filter p) ys.toList →
      h'.Ns env.locals (fun z => if z = y then some (.ref D) else m z) → (∀ b o', b ≠ env.locals → b ∉ [s₁.heap.objs.size] → (s₁.heap.push o).get? b = some o' → h'.get? b = some o') → Q .next { s₁ with heap := h', toks := tk } := by
    intro o D h' tk ys us hD ⟨n, hp⟩ hlen hP hF hns hk
    have e' : us = vs := by simpa using walked_is hlen hP
    subst e'
    have hk' : ∀ b o, b ≠ env.locals → s₁.heap.get? b = some o → h'.get? b = some o := fun b o hb e => hk b o hb (fun hm => by rw [List.mem_singleton] at hm; subst hm; exact Nat.lt_irrefl _ (Heap.lt_size e)) (Heap.get?_push_of_some _ e)
    have hD' : s₁.heap.get? D = none := by
      cases e : s₁.heap.get? D with
      | none => rfl
      | some o' => rw [Heap.get?_push_of_some _ e] at hD; cases hD
    have F' : Fr g env.locals h' (fun z => if z = y then some (.ref D) else m z) := ⟨hns, fun b o e => hk' b o (Nat.ne_of_lt (Nat.lt_of_lt_of_le (Heap.lt_size e) Fx.above)) (Fx.keep b o e), Fx.above⟩
    refine hQ D h' tk ys.toList n F' (fun q hq => ?_) (allNe_of fun q hq z => by have := (Nx q hq).1; rw [z, hD'] at this; cases this) hD' hF
    rcases List.mem_cons.mp hq with rfl | hq
    · refine ⟨by rw [Array.toArray_toList]; exact hp, fun z => ?_, ?_⟩
      · obtain ⟨_, _, _, e, _⟩ := Fx.ns
        dsimp only at z; rw [← z, hD'] at e; cases e
      · cases e : g.get? D with
        | none => rfl
        | some o' => have := Fx.keep _ _ e; rw [hD'] at this; cases this
    · exact ⟨hk' _ _ (Nx q hq).2.1 (Nx q hq).1, (Nx q hq).2⟩
  have lt : ax < s₁.heap.objs.size := by rcases hl with ⟨_, e, _⟩ | ⟨_, e, _⟩ <;> exact Heap.lt_size e
  have bd : ∀ o, ∀ b ∈ [s₁.heap.objs.size, ax], b < (s₁.heap.push o).objs.size := fun o b hb => by
    rw [Heap.size_push]
    rcases List.mem_cons.mp hb with rfl | hb
    · exact Nat.lt_succ_self _
    · rw [List.mem_singleton.mp hb]; exact Nat.lt_succ_of_lt lt
  have mem : ∀ {i : Nat} {v : Value}, vs.toArray[i]? = some v → v ∈ vs := fun hP => by simpa using Array.mem_of_getElem? hP
  rcases hl with hl | hl
  · refine wpAny_pyIter_list hl ⟨s₁.heap.objs.size, [s₁.heap.objs.size, ax], [s₁.heap.objs.size], vs.toArray.size, _, _, m, rfl, Walks.list hh _ _ (Nat.ne_of_lt lt) vs.toArray, (by rw [List.size_toArray]; exact hsz), ⟨⟨_, Heap.get?_push_size _ rfl, rfl, rfl⟩, hl.push _⟩, bd _, LI, (Fx.push _).ns, ⟨?_, ?_⟩, ?_⟩
    · intro C i v s₃ m₃ E' hC hP hn hm hk _
      exact ht C v s₃ m₃ E' (mem hP) ⟨hn, ext_of_push hk, Nat.le_of_succ_le (by simpa [Heap.size_push] using hC)⟩ hm
    · intro C i v s₃ m₃ E' hC hP hp hn hm hk _
      exact he C v s₃ m₃ E' (mem hP) hp ⟨hn, ext_of_push hk, Nat.le_of_succ_le (by simpa [Heap.size_push] using hC)⟩ hm
    · intro D h' tk ys us hD _ hpl hlen hP hF hns hk
      exact fin _ D h' tk ys us hD hpl hlen hP hF hns hk
  · refine wpAny_pyIter_tuple hl ⟨s₁.heap.objs.size, [s₁.heap.objs.size, ax], [s₁.heap.objs.size], vs.toArray.size, _, _, m, rfl, Walks.tuple hh _ _ (Nat.ne_of_lt lt) vs.toArray, (by rw [List.size_toArray]; exact hsz), ⟨⟨_, Heap.get?_push_size _ rfl, rfl, rfl⟩, hl.push _⟩, bd _, LI, (Fx.push _).ns, ⟨?_, ?_⟩, ?_⟩
    · intro C i v s₃ m₃ E' hC hP hn hm hk _
      exact ht C v s₃ m₃ E' (mem hP) ⟨hn, ext_of_push hk, Nat.le_of_succ_le (by simpa [Heap.size_push] using hC)⟩ hm
    · intro C i v s₃ m₃ E' hC hP hp hn hm hk _
      exact he C v s₃ m₃ E' (mem hP) hp ⟨hn, ext_of_push hk, Nat.le_of_succ_le (by simpa [Heap.size_push] using hC)⟩ hm
    · intro D h' tk ys us hD _ hpl hlen hP hF hns hk
      exact fin _ D h' tk ys us hD hpl hlen hP hF hns hk
end
theorem newsNil {h₀ h : Heap} {C : Addr} {m : Str → Option Value} (F : Fr h₀ C h m) : News h₀ C h [] := News.nil
theorem paired1 {F : Value → Value → Prop} {v : Value} {ys : List Value} (h : Paired F [v] ys) : ∃ y, ys = [y] ∧ F v y := by
  cases h with | cons h1 hp => (cases hp; exact ⟨_, rfl, h1⟩)
theorem paired2 {F : Value → Value → Prop} {v v' : Value} {ys : List Value} (h : Paired F [v, v'] ys) : ∃ y y', ys = [y, y'] ∧ F v y ∧ F v' y' := by
  cases h with | cons h1 hp => (cases hp with | cons h2 hq => (cases hq; exact ⟨_, _, rfl, h1, h2⟩))
theorem size1 (v : Value) : [v].length ≤ sizeLine := by rw [sizeLine_eq]; exact Nat.le_of_ble_eq_true rfl
theorem size2 (v v' : Value) : [v, v'].length ≤ sizeLine := by rw [sizeLine_eq]; exact Nat.le_of_ble_eq_true rfl
section
variable {M : Model} {A : Around} {E : Value → Shared → Prop} {s : Shared} {h₀ : Heap} {C c : Addr} {m mg mb : Str → Option Value} {env : Env} {scope : Scope} {cl : List (Str × Addr)} {x : Str} {pos : Pos} {v : Value} {Q : Value → Shared → Prop} {o : Obj}
theorem ldC (F : Fr h₀ C s.heap m) (hv : m x = some v) (h : Q v s) (hk : scope.kind = .function := by rfl) (hx : (compEnvC scope cl C env).kindOf x = some .local := by rfl) (hd : (x == ("__debug__" : Str)) = false := by decide) :
    wpAny M A (eval (.Name x pos) (compEnvC scope cl C env)) Q E s := wpAny_Name (wpAny_loadName_local hk hx F.ns hv h) hd
theorem clC (F : Fr h₀ C s.heap m) (hc : cl.lookup x = some c) (ho : h₀.get? c = some o) (hd : o.data = .cell (some v)) (h : Q v s) (hk : scope.kind = .function := by rfl) (hx : (compEnvC scope cl C env).kindOf x = some .cell := by rfl) (hb : (x == ("__debug__" : Str)) = false := by decide) :
    wpAny M A (eval (.Name x pos) (compEnvC scope cl C env)) Q E s := wpAny_Name (wpAny_loadName_cell hk hx hc ⟨o, F.keep _ _ ho, hd⟩ h) hb
end
open S0
/-- x.parts() of a piece of one instruction -/
theorem parts_c (w : World) (x : Addr) (i : Ins) : CtH w 369 [.ref x] 2 (fun h => PieceAt h x i) (fun h h' v => ∃ a n, v = .ref a ∧ h.get? a = none ∧ h'.get? a = some (PySem.W.listOf #[] n)) := by
  intro mean mg mb dp un fr gd s Q E G hR hP hret
  obtain ⟨dx, h1, h2, h3, t1, t2, t3, a, n, p1, p2, t, rest, p3, p4⟩ := id hP
  have KX := G.k
  have T := G.t
  refine enter G (by k_dflt k_is) (by k_dflt k_is) (Room.enter hR) rfl (locs rfl) (fun L' h' tk' F' N' => ?_)
  intro A9 E9
  try dsimp only
  dsimp only [List.map, List.zip, List.zipWith, List.reverse, List.reverseAux] at F'
  k_steps
  refine unhold ?_
  refine comp_c (fun _ => false) (fun _ _ => True) rfl rfl (by decide) rfl (by decide) rfl ?_
  k_steps
  (try dsimp only)
  with_reducible rename News _ _ _ _ => N2
  with_reducible rename Fr _ _ _ _ => F2
  have P := N2 _ (.head _)
  refine unhold ⟨_, [.none, .none], rfl, .inr ⟨_, P.1, rfl, _, rfl⟩, by rw [sizeLine_eq]; decide, ?_, ?_, ?_⟩
  · intro C v s₃ m₃ E' hv F3 hm
    have hv' : v = .none := by simpa using hv
    subst hv'
    clear N2 F2
    k_steps
    exact ⟨_, _, rfl, fun _ _ e => e⟩
  · intro C v s₃ m₃ E' hv hp
    cases hp
  · intro D h'' tk'' ys n9 hx hD hd hp
    cases hp
    k_steps
    refine leaveC_ret (hret _ _ _ (fun b o q => hx b o (F2.keep b o q)) ⟨D, n9, rfl, fresh_back F2.keep hD, hd⟩)
end

section
open Kunsigned_c
open Ksigned_c
open Kleast_c
open Kwidened_c
open Keqz_c
open Kadd_c
open Ksub_c
open Kmul_c
open Ktn_c
open Kand_c
open Kor_c
open Kxor_c
open Kshl_c
open Kshrs_c
open Kshru_c
open Krotl_c
open Krotr_c
open Keq_c
open Kne_c
open Kltu_c
open Klts_c
open Kgts_c
open Kles_c
open Kges_c
open Kgtu_c
open Kleu_c
open Kgeu_c
open Kltakes_c
open Klisone_c
open Klsigned_c
open Klplain_c
open Kplace_c
open Knarrow_c
open Kisun_c
open Kisbi_c
open Kneutral_c
open Kwidths_c
open Kclz_c
open Kctz_c
open Kpop_c
open Kdivu_c
open Kremu_c
open Kdivs_c
open Krems_c
open Kreckon1_c
/-- the frames that stand open -/
structure Stk (h : Heap) (outer : List Env) (fs : List Addr) : Prop where
  kind : ∀ env ∈ outer, env.scope.kind ≠ .module
  fr : outer.map (·.frame) = fs.map some
  live : ∀ f ∈ fs, ∃ o, h.get? f = some o ∧ ∀ vs, o.data ≠ .fields vs
def SlOn (fs : List Addr) (h h' : Heap) : Prop := ∀ f ∈ fs, ∀ o, h.get? f = some o → (∀ vs, o.data ≠ .fields vs) → ∃ sl, h'.get? f = some { o with slots := sl }
/-- all is kept but what stands at S, and but the slots of the frames -/
structure Kp (S fs : List Addr) (h h' : Heap) : Prop where
  keep : Ext (hideAll h (S ++ fs)) h'
  sl : SlOn fs h h'
theorem Stk.funF {base : Heap} : ∀ {outer : List Env} {fs : List Addr} {h : Heap}, Stk h outer fs → (∀ f ∈ fs, base.get? f = none) → h.FunFrames base outer
  | [], _, _, _, _ => trivial
  | env :: r, [], _, S, _ => by have := S.fr; cases this
  | env :: r, f :: fs, h, S, hb => by
    have e := S.fr
    simp only [List.map_cons, List.cons.injEq] at e
    obtain ⟨o, ho, hd⟩ := S.live f (.head _)
    exact ⟨S.kind env (.head _), ⟨f, o, e.1, hb f (.head _), ho, hd⟩, Stk.funF ⟨fun e he => S.kind e (.tail _ he), e.2, fun g hg => S.live g (.tail _ hg)⟩ fun g hg => hb g (.tail _ hg)⟩
theorem Stk.ext {h h' : Heap} {outer : List Env} {fs : List Addr} (S : Stk h outer fs) (e : Ext h h') : Stk h' outer fs := ⟨S.kind, S.fr, fun f hf => let ⟨o, a, b⟩ := S.live f hf; ⟨o, e _ _ a, b⟩⟩
theorem Stk.sl {h h' : Heap} {outer : List Env} {fs : List Addr} (S : Stk h outer fs) (e : SlOn fs h h') : Stk h' outer fs :=
  ⟨S.kind, S.fr, fun f hf => let ⟨o, a, b⟩ := S.live f hf; let ⟨_, c⟩ := e f hf o a b; ⟨_, c, b⟩⟩
theorem SlOn.of_ext {fs : List Addr} {h h' : Heap} (e : Ext h h') : SlOn fs h h' := fun _ _ o a _ => ⟨o.slots, e _ _ a⟩
theorem SlOn.trans {fs : List Addr} {h h' h'' : Heap} (a : SlOn fs h h') (b : SlOn fs h' h'') : SlOn fs h h'' := fun f hf o x y =>
  let ⟨_, z⟩ := a f hf o x y; let ⟨sl, u⟩ := b f hf _ z y; ⟨sl, u⟩
theorem Stk.push {h₀ h : Heap} {outer : List Env} {fs : List Addr} {L : Addr} {m : Str → Option Value} (S : Stk h₀ outer fs) (F : Fr h₀ L h m) {env : Env} (hk : env.scope.kind = .function) (hf : env.frame = some L) : Stk h (env :: outer) (L :: fs) := by
  obtain ⟨oL, es, ep, hL, hd, _⟩ := F.ns
  have S' := S.ext F.keep
  refine ⟨fun e he => ?_, by simp only [List.map_cons, S.fr, hf], fun f hf => ?_⟩
  · rcases List.mem_cons.mp he with rfl | he
    · rw [hk]; decide
    · exact S.kind e he
  · rcases List.mem_cons.mp hf with rfl | hf
    · exact ⟨oL, hL, fun vs q => by rw [hd] at q; cases q⟩
    · exact S'.live f hf
abbrev gone : Obj := { cls := .none, data := .freed }
/-- of a heap what stood before in another, below an address -/
def cutBy (L : Addr) (h₀ h : Heap) : Heap := { objs := ((List.range L).map fun i => if (h₀.get? i).isSome then (h.get? i).getD gone else gone).toArray, life := h.life }
theorem cutBy_size {L : Addr} {h₀ h : Heap} : (cutBy L h₀ h).objs.size = L := by simp [cutBy]
theorem cutBy_at {L : Addr} {h₀ h : Heap} {b : Addr} (hb : b < L) : (cutBy L h₀ h).objs[b]? = some (if (h₀.get? b).isSome then (h.get? b).getD gone else gone) := by
  have : b < (List.range L).length := by simpa using hb
  simp only [cutBy, List.getElem?_toArray, List.getElem?_map]
  rw [List.getElem?_range hb]; rfl
theorem cutBy_some {L : Addr} {h₀ h : Heap} {b : Addr} {o o₀ : Obj} (hb : b < L) (e₀ : h₀.get? b = some o₀) (e : h.get? b = some o) : (cutBy L h₀ h).get? b = some o := by
  refine Heap.get?_some_iff.mpr ⟨?_, (Heap.get?_some_iff.mp e).2⟩
  rw [cutBy_at hb, e₀, e]; rfl
theorem cutBy_inv {L : Addr} {h₀ h : Heap} {b : Addr} {o : Obj} (e : (cutBy L h₀ h).get? b = some o) : b < L ∧ h.get? b = some o ∧ ∃ o₀, h₀.get? b = some o₀ := by
  have hb : b < L := by have := Heap.lt_size e; rwa [cutBy_size] at this
  obtain ⟨e1, e2⟩ := Heap.get?_some_iff.mp e
  rw [cutBy_at hb] at e1
  cases q : h₀.get? b with
  | none => rw [q] at e1; cases e1; cases e2
  | some o₀ =>
    rw [q] at e1
    cases q2 : h.get? b with
    | none => rw [q2] at e1; cases e1; cases e2
    | some o2 => rw [q2] at e1; cases e1; exact ⟨hb, rfl, _, rfl⟩
/-- a contract under which an exception may fly and be caught: S is what the call may change -/
def CtK (w : World) (f : Addr) (args : List Value) (n : Nat) (S : List Addr) (P : Heap → Heap → Prop) (R : Heap → Heap → Value → Prop) : Prop :=
  ∀ (mean : ExcName → Option Value) (mg mb : Str → Option Value) (dp un : Nat) (gd : Option (List Code)) (outer : List Env) (fs : List Addr) (s : Shared) (Q E : Value → Shared → Prop),
    Gd w mean mg mb (hideAll s.heap (S ++ fs)) → Stk s.heap outer fs → (∀ a ∈ S, a ∉ fs) → Room dp un n → P s.heap (hideAll s.heap (S ++ fs)) → (∀ v h' tk', Kp S fs s.heap h' → R s.heap h' v → Q v { s with heap := h', toks := tk' }) →
    wpAny (model PR w) (AR dp un (some outer) gd) (call (.ref f) args) Q E s
theorem hideAll_none' {h : Heap} {l : List Addr} {b : Addr} (e : h.get? b = none) : (hideAll h l).get? b = none := by
  cases q : (hideAll h l).get? b with
  | none => rfl
  | some o => rw [of_hideAll _ q] at e; cases e
theorem hideAll_iff {h : Heap} {l : List Addr} {b : Addr} {o : Obj} : (hideAll h l).get? b = some o ↔ h.get? b = some o ∧ b ∉ l :=
  ⟨fun e => ⟨of_hideAll _ e, fun q => by rw [hideAll_none _ q] at e; cases e⟩, fun e => hideAll_get _ e.1 e.2⟩
theorem useK {w : World} {f : Addr} {args : List Value} {n : Nat} {S : List Addr} {P : Heap → Heap → Prop} {R : Heap → Heap → Value → Prop} {mean : ExcName → Option Value} {mg mb : Str → Option Value} {dp un : Nat} {gd : Option (List Code)} {outer : List Env} {fs : List Addr} {s : Shared} {Q E : Value → Shared → Prop}
    {h₀ : Heap} {L : Addr} {m : Str → Option Value} {news : List (Addr × Obj)} {env : Env} (C : CtK w f args n S P R) (F : Fr h₀ L s.heap m) (N : News h₀ L s.heap news) (G : Gd w mean mg mb (hideAll h₀ fs)) (SK : Stk h₀ outer fs)
    (hS : ∀ a ∈ S, ∃ o, (a, o) ∈ news) (hk : env.scope.kind = .function) (hf : env.frame = some L) (hR : Room (dp + 1) (un + 3) n) (hP : P s.heap (hideAll s.heap (S ++ L :: fs)))
    (h : ∀ g v h' tk', Fr g L h' m → (∀ p ∈ news, p.1 ∉ S → h'.get? p.1 = some p.2) → (∀ b, h₀.get? b = none → g.get? b = none) → Kp [] fs h₀ g → Gd w mean mg mb g → Stk g outer fs → Kp S (L :: fs) s.heap h' → R s.heap h' v → Q v { s with heap := h', toks := tk' }) :
    wpAny (model PR w) ((AR dp un (some outer) gd).deeper env) (call (.ref f) args) Q E s := by
  have SK2 := SK.push F hk hf
  have hoff : ∀ p ∈ news, p.1 ∉ fs := fun p hp q => by
    obtain ⟨o, e, _⟩ := SK.live p.1 q
    rw [(N p hp).2.2] at e; cases e
  have hSn : ∀ a ∈ S, h₀.get? a = none := fun a ha => let ⟨o, ho⟩ := hS a ha; (N _ ho).2.2
  have hL0 : h₀.get? L = none := Heap.get?_none_of_le F.above
  have sub : Ext (hideAll h₀ fs) (hideAll s.heap (S ++ L :: fs)) := fun b o e => by
    obtain ⟨e1, e2⟩ := hideAll_iff.mp e
    refine hideAll_iff.mpr ⟨F.keep b o e1, fun q => ?_⟩
    rcases List.mem_append.mp q with q | q
    · rw [hSn b q] at e1; cases e1
    · rcases List.mem_cons.mp q with rfl | q
      · rw [hL0] at e1; cases e1
      · exact e2 q
  have hSfs : ∀ a ∈ S, a ∉ L :: fs := fun a ha q => by
    obtain ⟨o, ho⟩ := hS a ha
    rcases List.mem_cons.mp q with q | q
    · exact (N _ ho).2.1 q
    · exact hoff _ ho q
  refine C mean mg mb (dp + 1) (un + 3) gd (env :: outer) (L :: fs) s Q E (G.ext sub) SK2 hSfs hR hP fun v h' tk' K r => ?_
  have hlt : ∀ b o, h₀.get? b = some o → b < L := fun b o e => Nat.lt_of_lt_of_le (Heap.lt_size e) F.above
  let g := cutBy L h₀ h'
  have gsub : Ext g h' := fun b o e => (cutBy_inv e).2.1
  have k0 : Ext (hideAll h₀ fs) g := fun b o e => by
    obtain ⟨e1, e2⟩ := hideAll_iff.mp e
    exact cutBy_some (hlt b o e1) e1 (K.keep b o (sub b o e))
  have sl : SlOn fs h₀ g := fun f hf o e hd => by
    obtain ⟨sl, e'⟩ := K.sl f (.tail _ hf) o (F.keep _ _ e) hd
    exact ⟨sl, cutBy_some (hlt f o e) e e'⟩
  obtain ⟨oL, es, ep, hL, hLd, r1, r2⟩ := F.ns
  obtain ⟨slL, hL'⟩ := K.sl L (.head _) oL hL (fun vs q => by rw [hLd] at q; cases q)
  refine h g v h' tk' ⟨⟨_, es, ep, hL', hLd, r1, r2⟩, gsub, Nat.le_of_eq cutBy_size⟩ (fun p hp hS' => ?_) (fun b hb => ?_) ⟨k0, sl⟩ (G.ext k0) (SK.sl sl) K r
  · refine K.keep _ _ (hideAll_iff.mpr ⟨(N p hp).1, fun q => ?_⟩)
    rcases List.mem_append.mp q with q | q
    · exact hS' q
    · rcases List.mem_cons.mp q with q | q
      · exact (N p hp).2.1 q
      · exact hoff p hp q
  · cases e : g.get? b with
    | none => rfl
    | some o =>
      obtain ⟨_, _, o₀, e0⟩ := cutBy_inv e
      rw [hb] at e0; cases e0
theorem Kp.refl (fs : List Addr) (h : Heap) : Kp [] fs h h := ⟨fun _ _ e => of_hideAll _ e, SlOn.of_ext fun _ _ e => e⟩
theorem Kp.trans {fs : List Addr} {g g' g'' : Heap} (a : Kp [] fs g g') (b : Kp [] fs g' g'') : Kp [] fs g g'' :=
  ⟨fun x o e => b.keep x o (hideAll_iff.mpr ⟨a.keep x o e, (hideAll_iff.mp e).2⟩), a.sl.trans b.sl⟩
theorem kpEnd {S fs : List Addr} {s g g' h : Heap} {L : Addr} {m : Str → Option Value} (hg : g = hideAll s S) (hS : ∀ a ∈ S, a ∉ fs) (K : Kp [] fs g g') (F : Fr g' L h m) : Kp S fs s h := by
  subst hg
  refine ⟨fun b o e => F.keep b o (K.keep b o ?_), fun f hf o e hd => ?_⟩
  · obtain ⟨e1, e2⟩ := hideAll_iff.mp e
    exact hideAll_iff.mpr ⟨hideAll_iff.mpr ⟨e1, fun q => e2 (List.mem_append_left _ q)⟩, fun q => e2 (List.mem_append_right _ q)⟩
  · obtain ⟨sl, e'⟩ := K.sl f hf o (hideAll_iff.mpr ⟨e, fun q => hS f q hf⟩) hd
    exact ⟨sl, F.keep _ _ e'⟩
theorem enterK {w : World} {mean : ExcName → Option Value} {mg mb : Str → Option Value} {A : Around} {s : Shared} {Q E : Value → Shared → Prop} {S fs : List Addr} {outer : List Env} {hid : List (Addr × Obj)}
    {name qual : Str} {params : Arguments} {body : List Stmt} {scope : Scope} {dV kV doc pm cdv ct oc : Value} {an od : Option Addr} {osl : Array (Option Value)} {f : Addr} {args : List Value} {binds : List (Str × Value)}
    (G : Gd w mean mg mb (hideAll s.heap (S ++ fs))) (SK : Stk s.heap outer fs) (hSf : ∀ a ∈ S, a ∉ fs) (hhid : hid.map (·.1) = S) (hh : ∀ p ∈ hid, s.heap.get? p.1 = some p.2)
    (ho : (hda.heap_1_39 w.params).lookup f = some ⟨oc, od, .func (fnOf name qual params body scope dV kV doc pm an cdv ct), osl⟩) (hcd : codeIn (hda.heap_1_39 w.params) cdv qual = true) (hroom : A.depth < recursionLimit)
    (hbind : BindsTo s (fnOf name qual params body scope dV kV doc pm an cdv ct) ⟨args, []⟩ binds) (hloc : ∀ y ∈ binds, scope.names.lookup y.1 = some .local)
    (h : ∀ g h₁ tk₁, g = hideAll s.heap S → Gd w mean mg mb g → Gd w mean mg mb (hideAll g fs) → Stk g outer fs → Fr g s.heap.objs.size h₁ (fun y => binds.reverse.lookup y) → News g s.heap.objs.size h₁ hid → Ext (hideAll s.heap (S ++ fs)) g →
      let A' := A.deeper (envOf qual scope s.heap.objs.size f cdv)
      let E' : Value → Shared → Prop := fun e s' => wpAny (model PR w) A' (leaving (envOf qual scope s.heap.objs.size f cdv) e) (fun _ s'' => E e s'') (fun e' s'' => E e' s'') s'
      wpAny (model PR w) A' (execs body (envOf qual scope s.heap.objs.size f cdv)) (LeaveC Q) E' { s with heap := h₁, toks := tk₁ })
    (hco : scope.isCoroutine = false := by rfl) (hgen : scope.isGenerator = false := by rfl) (hk : scope.kind = .function := by rfl)
    (hcell : ∀ x ∈ scope.names, x.2 ≠ .cell := by decide) : wpAny (model PR w) A (call (.ref f) args) Q E s := by
  refine wpAny_call ?_
  have hm : ∀ p ∈ hid, p.1 ∈ S := fun p hp => hhid ▸ List.mem_map_of_mem hp
  refine enterC (hid := hid) [] G (fun b o e => of_hideAll _ e) (fun p hp => ⟨hh p hp, hideAll_none _ (List.mem_append_left _ (hm p hp))⟩) (fun _ q => nomatch q) ho hcd hroom hbind hloc (fun g h₁ tk₁ hg Gg hx F N _ => ?_) hco hgen hk hcell
  rw [List.append_nil, hhid] at hg
  refine h g h₁ tk₁ hg Gg (G.ext fun b o e => hideAll_iff.mpr ⟨hx b o e, fun q => (hideAll_iff.mp e).2 (List.mem_append_right _ q)⟩) ⟨SK.kind, SK.fr, fun f hf => ?_⟩ F N hx
  obtain ⟨o, ho, hd⟩ := SK.live f hf
  exact ⟨o, hg ▸ hideAll_iff.mpr ⟨ho, fun q => hSf f q hf⟩, hd⟩
end

section
open Kunsigned_c
open Ksigned_c
open Kleast_c
open Kwidened_c
open Keqz_c
open Kadd_c
open Ksub_c
open Kmul_c
open Ktn_c
open Kand_c
open Kor_c
open Kxor_c
open Kshl_c
open Kshrs_c
open Kshru_c
open Krotl_c
open Krotr_c
open Keq_c
open Kne_c
open Kltu_c
open Klts_c
open Kgts_c
open Kles_c
open Kges_c
open Kgtu_c
open Kleu_c
open Kgeu_c
open Kltakes_c
open Klisone_c
open Klsigned_c
open Klplain_c
open Kplace_c
open Knarrow_c
open Kisun_c
open Kisbi_c
open Kneutral_c
open Kwidths_c
open Kclz_c
open Kctz_c
open Kpop_c
open Kdivu_c
open Kremu_c
open Kdivs_c
open Krems_c
open Kreckon1_c
theorem enterQ {w : World} {mean : ExcName → Option Value} {mg mb : Str → Option Value} {A : Around} {s : Shared} {Q E : Value → Shared → Prop}
    {name qual : Str} {params : Arguments} {body : List Stmt} {scope : Scope} {dV kV doc pm cdv ct oc : Value} {an od : Option Addr} {osl : Array (Option Value)} {f : Addr} {args : List Value} {binds : List (Str × Value)} (m : Str → Option Value)
    (G : Gd w mean mg mb s.heap)
    (ho : (hda.heap_1_39 w.params).lookup f = some ⟨oc, od, .func (fnOf name qual params body scope dV kV doc pm an cdv ct), osl⟩) (hcd : codeIn (hda.heap_1_39 w.params) cdv qual = true) (hroom : A.depth < recursionLimit)
    (hbind : BindsTo s (fnOf name qual params body scope dV kV doc pm an cdv ct) ⟨args, []⟩ binds)
    (hkind : ∀ n, ∀ x ∈ binds, scope.names.lookup x.1 = some .local ∨ (scope.names.lookup x.1 = some .cell ∧ ((cellsFrom n scope.names []).lookup x.1).isSome = true))
    (hnd : ((cellsFrom 0 scope.names []).map (·.1)).Nodup)
    (hm : bindL (envOfC qual scope s.heap.objs.size f cdv).kindOf binds (fun _ => none) = m)
    (h : ∀ h₁ tk cells, Fr s.heap s.heap.objs.size h₁ m → News s.heap s.heap.objs.size h₁ cells →
      CellsAre (bindC (envOfC qual scope s.heap.objs.size f cdv).kindOf binds fun _ => none) (cellsFrom (s.heap.objs.size + 1) scope.names []) cells →
      let A' := A.deeper (envOfC qual scope s.heap.objs.size f cdv)
      let E' : Value → Shared → Prop := fun e s' => wpAny (model PR w) A' (leaving (envOfC qual scope s.heap.objs.size f cdv) e) (fun _ s'' => E e s'') (fun e' s'' => E e' s'') s'
      wpAny (model PR w) A' (execs body (envOfC qual scope s.heap.objs.size f cdv)) (LeaveC Q) E' { s with heap := h₁, toks := tk })
    (hco : scope.isCoroutine = false := by rfl) (hgen : scope.isGenerator = false := by rfl) (hk : scope.kind = .function := by rfl) : wpAny (model PR w) A (call (.ref f) args) Q E s := by
  refine wpAny_call ?_
  refine codeAny_call_function hroom (G.k _ _ ho) rfl hco hgen rfl (codeRec_of G.k hcd) (hbind _ _ _ _ ?_)
  refine wpAny_newFunctionEnv_cells hk (hkind _) fun env' he s' x => ?_
  subst he
  refine ⟨G.t.nolimit.keeps x.toInCall.keep, codeAny_func ?_⟩
  obtain ⟨h₁, tk, rfl, _⟩ := x.done
  have hk₁ := x.toInCall.keep
  obtain ⟨cells, NC, Y⟩ := Cl.news (h₀ := s.heap) (Nat.le_refl _) fun n c hm => ⟨x.cell n c (lookup_of_mem_nodup (cellsFrom_names scope.names 0 (s.heap.objs.size + 1) [] [] rfl ▸ hnd) hm), x.above n c hm⟩
  exact h h₁ tk cells ⟨hm ▸ x.toInCall.ns, fun b o e => hk₁ b o e, Nat.le_refl _⟩ NC Y
theorem binds2 {ns : List (Str × NameKind)} {a b : Str} {u v : Value} (h1 : ns.lookup a = some .local) (h2 : ns.lookup b = some .local) : ∀ n, ∀ x ∈ [(a, u), (b, v)], ns.lookup x.1 = some .local ∨ (ns.lookup x.1 = some .cell ∧ ((cellsFrom n ns []).lookup x.1).isSome = true) :=
  fun n x hx => by
    rcases List.mem_cons.mp hx with rfl | hx
    · exact .inl h1
    · rw [List.mem_singleton.mp hx]; exact .inl h2
open S1
open H65
open S2
def putsF (c : Int) : Int := (widthsF c).2
def constI (b x : Int) : Ins := ⟨if b = 32 then 65 else 66, some (sg b x)⟩
def reck1F (c x : Int) : Ins := constI (widthsF c).2 (r1F c (x % 2 ^ (widthsF c).1.toNat))
theorem PieceNew.back {i : Ins} {h₀ h h' : Heap} {v : Value} (e : Ext h₀ h) (p : PieceNew i h h' v) : PieceNew i h₀ h' v := by
  obtain ⟨x, dx, h1, h2, h3, t1, t2, t3, a, n, p1, p2, p3, p4, f1, f2, f3⟩ := p
  exact ⟨x, dx, h1, h2, h3, t1, t2, t3, a, n, p1, p2, p3, p4, fresh_back e f1, fresh_back e f2, fresh_back e f3⟩
theorem widths_b (c : Int) : 0 < (widthsF c).1 ∧ (widthsF c).1 ≤ 64 ∧ 0 < (widthsF c).2 ∧ (widthsF c).2 ≤ 64 := by
  unfold widthsF
  repeat' split
  all_goals decide
theorem widths_takes (c : Int) : (widthsF c).1 = takesF c := by
  by_cases h1 : c = 167
  · subst h1; rfl
  · by_cases h2 : c = 172 ∨ c = 173
    · rcases h2 with rfl | rfl <;> rfl
    · rw [widthsF, if_neg h1, if_neg h2, takesF]
      by_cases q : (80 ≤ c ∧ c ≤ 90) ∨ (121 ≤ c ∧ c ≤ 138) ∨ 194 ≤ c
      · exact (if_pos q).trans (if_pos (q.elim (fun q => (Int.le_iff_lt_or_eq.mp q.1).elim (fun k => .inr (.inr (.inl ⟨k, q.2⟩))) fun k => .inl k.symm) fun q => .inr (.inr (.inr q)))).symm
      · exact (if_neg q).trans (if_neg (fun r => q (r.elim (fun k => .inl ⟨Int.le_of_eq k.symm, Int.le_trans (Int.le_of_eq k) (by decide)⟩) fun r => r.elim (fun k => absurd k h1) fun r => r.elim (fun k => .inl ⟨Int.le_of_lt k.1, k.2⟩) .inr))).symm
theorem takes_or (c : Int) : takesF c = 32 ∨ takesF c = 64 := by unfold takesF; split <;> simp
theorem modw_lo (x c : Int) : 0 ≤ x % 2 ^ (widthsF c).1.toNat := Int.emod_nonneg _ (Int.ne_of_gt (p2pos _))
theorem modw_hi (x c : Int) : x % 2 ^ (widthsF c).1.toNat < 2 ^ (takesF c).toNat := by rw [widths_takes]; exact Int.emod_lt_of_pos _ (p2pos _)
theorem reckoned1_c (w : World) (c x : Int) (t : Tok) (nl : Addr) (hc : isUnF c = true) (hlo : 0 ≤ r1F c (x % 2 ^ (widthsF c).1.toNat)) : CtK w 438 [.int c t, .ref nl] 7 [] (fun h g => ∃ n u, g.get? nl = some (PySem.W.listOf #[.int x u] n)) (fun h h' v => PieceNew (reck1F c x) h h' v) := by
  intro mean mg mb dp un gd outer fs s Q E G SK _ hR hP hret
  obtain ⟨n, u, hP⟩ := hP
  have hx1 := modw_lo x c
  have hx2 := modw_hi x c
  have Gs : Gd w mean mg mb s.heap := G.ext fun b o e => of_hideAll _ e
  have hn := of_hideAll _ hP
  have KX := Gs.k
  have T := Gs.t
  refine enterQ (binds := [(Str.ofString "code", .int c t), (Str.ofString "numbers", .ref nl)]) (fun y => if y = Str.ofString "numbers" then some (.ref nl) else if y = Str.ofString "code" then some (.int c t) else none) Gs (by k_dflt k_is) (by k_dflt k_is) (Room.enter hR) (BindsTo.of_eq rfl) (binds2 rfl rfl) (by decide) rfl (fun h₁ tk cells F' N' C' => ?_)
  intro A9 E9
  obtain ⟨o, rfl, ho⟩ := C'.one
  k_steps
  · cases (by assumption : some (widthsF c) = none)
  refine unhold ?_
  refine acomp_c (fun _ => true) (fun v r => ∃ t, r = .int (x % 2 ^ (widthsF c).1.toNat) t) rfl rfl rfl rfl (by decide) rfl (by decide) rfl rfl rfl ?_
  k_steps
  (try dsimp only)
  with_reducible rename News _ _ _ _ => N2
  with_reducible rename Fr _ _ _ _ => F2
  with_reducible rename (some (widthsF c) = some (_, _)) => hw
  with_reducible rename (Obj.data _ = _) => ho2
  have hw1 := Option.some.inj hw
  obtain ⟨e1, e2⟩ := Prod.ext_iff.mp hw1
  dsimp only at e1 e2
  subst e1
  subst e2
  obtain ⟨hb1, hb2, hb3, hb4⟩ := widths_b c
  have Pc := N2 _ (.tail _ (.head _))
  refine unhold ⟨_, [.int x u], _, _, _, rfl, .inl ⟨_, F2.keep _ _ hn, rfl, _, rfl⟩, size1 _, compTests_nil, ?_, F2, N2, ?_⟩
  · intro C v s₃ m₃ E' hv _ F3 hm
    have hv' : v = .int x u := by simpa using hv
    subst hv'
    have KX3 := KX.keeps F2.keep
    have T3 := T.keeps F2.keep
    have Pc1 := Pc.1
    dsimp only at Pc1
    have N3 := newsNil F3
    clear N2 F2 KX T Pc
    dsimp only at F3 N3
    k_steps
    all_goals
      refine unhold ?_
      refine unsigned_c w x (widthsF c).1 _ _ (Int.le_of_lt hb1) hb2 mean mg mb _ _ _ _ _ _ _ (Gd.ext ⟨KX3, T3⟩ F3.keep) (Room.down hR (by decide) rfl rfl) (fun v h' tk' e r => ?_)
      obtain ⟨t9, rfl⟩ := r
      exact ⟨⟨t9, rfl⟩, _, _, rfl, e⟩
  · intro D h'' tk'' ys n9 F3 N3 l3 hD hp
    obtain ⟨_, rfl, t9, rfl⟩ := paired1 hp
    clear F2 N2
    k_steps
    refine unhold (wpAny_Try_except ?_)
    k_steps
    with_reducible rename Fr _ _ _ _ => F4
    with_reducible rename News _ _ _ _ => N4
    refine use (constant_c w _ _ _ _ hb3 hb4 hlo) F4 N4 KX T (Room.down hR (by decide) rfl rfl) ?_
    intro v9 h9 tk9 F9 N9 x9 p9
    k_steps
    refine leaveC_ret (hret _ _ _ (kpEnd rfl (fun _ q => nomatch q) (Kp.refl fs s.heap) F9) (PieceNew.back F4.keep p9))
end

section
open Kunsigned_c
open Ksigned_c
open Kleast_c
open Kwidened_c
open Keqz_c
open Kadd_c
open Ksub_c
open Kmul_c
open Ktn_c
open Kand_c
open Kor_c
open Kxor_c
open Kshl_c
open Kshrs_c
open Kshru_c
open Krotl_c
open Krotr_c
open Keq_c
open Kne_c
open Kltu_c
open Klts_c
open Kgts_c
open Kles_c
open Kges_c
open Kgtu_c
open Kleu_c
open Kgeu_c
open Kltakes_c
open Klisone_c
open Klsigned_c
open Klplain_c
open Kplace_c
open Knarrow_c
open Kisun_c
open Kisbi_c
open Kneutral_c
open Kwidths_c
open Kclz_c
open Kctz_c
open Kpop_c
open Kdivu_c
open Kremu_c
open Kdivs_c
open Krems_c
open Kreckon1_c
open S1
open H65
open H341
open S2
def reck2F (c x y : Int) : Option Ins := (r2F c (x % 2 ^ (widthsF c).1.toNat) (y % 2 ^ (widthsF c).1.toNat)).map (constI (widthsF c).2)
def OptPiece (r : Option Ins) : Heap → Heap → Value → Prop := fun h h' v => match r with
  | none => v = .none
  | some i => PieceNew i h h' v
theorem reckoned2_c (w : World) (c x y : Int) (t : Tok) (nl : Addr) (hc : isBiF c = true) (hlo : ∀ z, r2F c (x % 2 ^ (widthsF c).1.toNat) (y % 2 ^ (widthsF c).1.toNat) = some z → 0 ≤ z) : CtK w 438 [.int c t, .ref nl] 7 [] (fun h g => ∃ n u u', g.get? nl = some (PySem.W.listOf #[.int x u, .int y u'] n)) (fun h h' v => OptPiece (reck2F c x y) h h' v) := by
  intro mean mg mb dp un gd outer fs s Q E G SK _ hR hP hret
  obtain ⟨n, u, u', hP⟩ := hP
  have hx1 := modw_lo x c
  have hx2 := modw_hi x c
  have hy1 := modw_lo y c
  have hy2 := modw_hi y c
  have Gs : Gd w mean mg mb s.heap := G.ext fun b o e => of_hideAll _ e
  have hn := of_hideAll _ hP
  have KX := Gs.k
  have T := Gs.t
  refine enterQ (binds := [(Str.ofString "code", .int c t), (Str.ofString "numbers", .ref nl)]) (fun y => if y = Str.ofString "numbers" then some (.ref nl) else if y = Str.ofString "code" then some (.int c t) else none) Gs (by k_dflt k_is) (by k_dflt k_is) (Room.enter hR) (BindsTo.of_eq rfl) (binds2 rfl rfl) (by decide) rfl (fun h₁ tk cells F' N' C' => ?_)
  intro A9 E9
  obtain ⟨o, rfl, ho⟩ := C'.one
  k_steps
  · cases (by assumption : some (widthsF c) = none)
  refine unhold ?_
  refine acomp_c (fun _ => true) (fun v r => ∀ z u, v = .int z u → ∃ t, r = .int (z % 2 ^ (widthsF c).1.toNat) t) rfl rfl rfl rfl (by decide) rfl (by decide) rfl rfl rfl ?_
  k_steps
  (try dsimp only)
  with_reducible rename News _ _ _ _ => N2
  with_reducible rename Fr _ _ _ _ => F2
  with_reducible rename (some (widthsF c) = some (_, _)) => hw
  with_reducible rename (Obj.data _ = _) => ho2
  have hw1 := Option.some.inj hw
  obtain ⟨e1, e2⟩ := Prod.ext_iff.mp hw1
  dsimp only at e1 e2
  subst e1
  subst e2
  obtain ⟨hb1, hb2, hb3, hb4⟩ := widths_b c
  have Pc := N2 _ (.tail _ (.head _))
  refine unhold ⟨_, [.int x u, .int y u'], _, _, _, rfl, .inl ⟨_, F2.keep _ _ hn, rfl, _, rfl⟩, size2 _ _, compTests_nil, ?_, F2, N2, ?_⟩
  · intro C v s₃ m₃ E' hv _ F3 hm
    have hv' : ∃ z uz, v = .int z uz := by
      rcases List.mem_cons.mp hv with rfl | hv
      · exact ⟨_, _, rfl⟩
      · exact ⟨_, _, List.mem_singleton.mp hv⟩
    obtain ⟨z, uz, rfl⟩ := hv'
    have KX3 := KX.keeps F2.keep
    have T3 := T.keeps F2.keep
    have Pc1 := Pc.1
    dsimp only at Pc1
    have N3 := newsNil F3
    clear N2 F2 KX T Pc
    dsimp only at F3 N3
    k_steps
    all_goals
      refine unhold ?_
      refine unsigned_c w z (widthsF c).1 _ _ (Int.le_of_lt hb1) hb2 mean mg mb _ _ _ _ _ _ _ (Gd.ext ⟨KX3, T3⟩ F3.keep) (Room.down hR (by decide) rfl rfl) (fun v h' tk' e r => ?_)
      obtain ⟨t9, rfl⟩ := r
      exact ⟨fun z' u' q => by cases q; exact ⟨t9, rfl⟩, _, _, rfl, e⟩
  · intro D h'' tk'' ys n9 F3 N3 l3 hD hp
    obtain ⟨_, _, rfl, q1, q2⟩ := paired2 hp
    obtain ⟨t8, rfl⟩ := q1 _ _ rfl
    obtain ⟨t9, rfl⟩ := q2 _ _ rfl
    clear F2 N2
    k_steps
    refine unhold (wpAny_Try_except ?_)
    k_steps
    with_reducible rename Fr _ _ _ _ => F4
    with_reducible rename News _ _ _ _ => N4
    refine unhold ?_
    refine reckon2_c w c _ _ _ _ _ hc hx1 hx2 hy1 hy2 mean mg mb _ _ _ (hideAll _ (s.heap.objs.size :: fs)) _ _ _ _ (Gd.ext ⟨KX, T⟩ F4.keep) (Room.down hR (by decide) rfl rfl) (fun b o q => of_hideAll _ q) (by exact (SK.push F4 rfl rfl).funF fun f hf => hideAll_none _ hf) (fun z hz t h' tk' e => ?_) (fun hz e h' tk' fl => ?_)
    · have F5 := frExt F4 e
      have N5 := newsExt N4 e
      clear F4 N4
      (try dsimp only)
      k_steps
      with_reducible rename Fr _ _ _ _ => F6
      with_reducible rename News _ _ _ _ => N6
      refine use (constant_c w _ z _ _ hb3 hb4 (hlo z hz)) F6 N6 KX T (Room.down hR (by decide) rfl rfl) ?_
      intro v9 h9 tk9 F9 N9 x9 p9
      have er : reck2F c x y = some (constI (widthsF c).2 z) := congrArg (Option.map (constI (widthsF c).2)) hz
      k_steps
      refine leaveC_ret (hret _ _ _ (kpEnd rfl (fun _ q => nomatch q) (Kp.refl fs s.heap) F9) ?_)
      (try dsimp only)
      rw [er]
      exact PieceNew.back F6.keep p9
    · have hsm := fl.2
      obtain ⟨a0, hfl⟩ := fl.1
      have er : reck2F c x y = none := congrArg (Option.map (constI (widthsF c).2)) hz
      refine wpAny_looks_onW rfl rfl hfl fun h4 hheld4 hsm4 => ?_
      refine wpAny_landsW hheld4 fun h5 hheld hsm5 => ?_
      have hm5 := hsm.trans (hsm4.trans hsm5)
      have sub : Ext (hideAll s.heap fs) (hideAll _ (s.heap.objs.size :: fs)) := fun b o q => by
        obtain ⟨q1, q2⟩ := hideAll_iff.mp q
        exact hideAll_iff.mpr ⟨F4.keep b o q1, fun z => by
          rcases List.mem_cons.mp z with rfl | z
          · exact Nat.lt_irrefl _ (Heap.lt_size q1)
          · exact q2 z⟩
      have F5 : Fr (hideAll s.heap fs) s.heap.objs.size h5 _ := ⟨hm5.ns F4.ns, fun b o q => hheld.1 b o (sub b o q), by rw [hideAll_size]; exact Nat.le_refl _⟩
      have Gf : Gd w mean mg mb (hideAll s.heap fs) := G
      obtain ⟨ob, hob, hobc⟩ := hheld.there
      refine wpAny_handleBy_cons (codeAny_handlers_test (nameX_K F5 Gf.k (topRead_of Gf.t) (v := .ref 44) (by k_dflt k_is) ?_ rfl rfl (by decide))) (by intro q; cases q)
      refine wpAny_excMatches_sub_self (trap_in (Gf.k.keeps F5.keep)) hob hobc (by decide) (codeAny_handlers_suite ?_)
      refine lands_againW hheld fun h6 hfl6 hsm6 => ?_
      have hm6 := hm5.trans hsm6
      have F6 : Fr (hideAll s.heap fs) s.heap.objs.size h6 _ := ⟨hm6.ns F4.ns, fun b o q => hfl6.1 b o (sub b o q), by rw [hideAll_size]; exact Nat.le_refl _⟩
      have hk6 : Kp [] fs s.heap h6 := ⟨fun b o q => F6.keep b o q, fun f hf o q hd => hm6 f o (F4.keep _ _ q) hd⟩
      clear F5
      (try dsimp only)
      refine wpAny_passesOwnAt ?_ ?_
      · passes_own
      · k_steps
        k_steps
        refine leaveC_ret (hret .none _ _ hk6 ?_)
        (try dsimp only)
        rw [er]
        rfl
end

section
open Kunsigned_c
open Ksigned_c
open Kleast_c
open Kwidened_c
open Keqz_c
open Kadd_c
open Ksub_c
open Kmul_c
open Ktn_c
open Kand_c
open Kor_c
open Kxor_c
open Kshl_c
open Kshrs_c
open Kshru_c
open Krotl_c
open Krotr_c
open Keq_c
open Kne_c
open Kltu_c
open Klts_c
open Kgts_c
open Kles_c
open Kges_c
open Kgtu_c
open Kleu_c
open Kgeu_c
open Kltakes_c
open Klisone_c
open Klsigned_c
open Klplain_c
open Kplace_c
open Knarrow_c
open Kisun_c
open Kisbi_c
open Kneutral_c
open Kwidths_c
open Kclz_c
open Kctz_c
open Kpop_c
open Kdivu_c
open Kremu_c
open Kdivs_c
open Krems_c
open Kreckon1_c
def splice (items new : Array Value) (lo hi : Option Int) : Array Value :=
  items.extract 0 (sliceBounds lo hi none items.size).1.toNat ++ new ++ items.extract (max (sliceBounds lo hi none items.size).1 (sliceBounds lo hi none items.size).2.1).toNat items.size
theorem setItem_slice {w : World} {A : Around} {E : Value → Shared → Prop} {s : Shared} {Q : Unit → Shared → Prop} {l b sl : Addr} {items new : Array Value} {n : Nat} {lo hi : Option Int} {vl vu : Value}
    (ho : s.heap.get? l = some (PySem.W.listOf items n)) (hb : s.heap.IsList b new) (hlb : l ≠ b) (hs : s.heap.IsSliceOf sl vl vu .none) (pl : IsPart vl lo) (pu : IsPart vu hi) (hz : items.size ≤ 1000) (hz2 : new.size ≤ 1000)
    (h : ∀ h' n', h'.get? l = some (PySem.W.listOf (splice items new lo hi) n') → Heap.SameBut l s.heap h' → Q () { s with heap := h' }) :
    wpAny (model PR w) A (setItem (.ref l) (.ref sl) (.ref b)) Q E s := by
  have hl : s.heap.IsList l items := ⟨_, ho, rfl, n, rfl⟩
  obtain ⟨os, hos, hcs, hds⟩ := id hs
  obtain ⟨ob, hob, hcb, nb, hdb⟩ := id hb
  have hTs : s.TypeIs (.ref sl) "slice" := ⟨os, hos, hcs⟩
  have hTb : s.TypeIs (.ref b) "list" := ⟨ob, hob, hcb⟩
  unfold setItem
  try with_reducible refine wpAny_holding ?_
  first | refine wpAny_bind (wpAny_pure ?_) | skip
  refine wpAny_bind (wpAny_sequenceKey hl.typeIs (by decide) ?_)
  refine wpAny_bind (wpAny_callSpecial?_slot (name := Str.ofString "__setitem__") hl.typeIs slot_list_setitem
    (wpAny_call_entry slot_list_setitem hl.typeIs entry_list_setitem ?_ (args_list_setitem _ _ _)))
  show wpAny _ _ (Builtin.List.listSubscript? (.ref sl) >>= _) _ _ s
  refine wpAny_bind ?_
  unfold Builtin.List.listSubscript?
  refine wpAny_bind (wpAny_specialOf hTs slice_no_index ?_)
  simp only [Option.isNone_none, if_true]
  refine wpAny_pure ?_
  show wpAny _ _ (typeOf (.ref sl) >>= _) _ _ s
  refine wpAny_bind (wpAny_typeOf hTs ?_)
  rw [if_neg (by decide)]
  rw [listSliceParts_eq]
  refine wpAny_bind (wpAny_bind (wpAny_field hos hds (x := .none) rfl (wpAny_bind (wpAny_listPart .none ?_))))
  rw [if_neg (show ¬ ((rawPart none == rawInt 0) = true) from Bool.false_ne_true)]
  refine wpAny_bind (wpAny_field hos hds (x := vl) rfl (wpAny_bind (wpAny_listPart pl ?_)))
  refine wpAny_bind (wpAny_field hos hds (x := vu) rfl (wpAny_bind (wpAny_listPart pu (wpAny_pure ?_))))
  (try dsimp only)
  have hsame : Builtin.List.listSameRef (.ref l) (.ref b) = false := by
    unfold Builtin.List.listSameRef
    simpa using hlb
  rw [hsame]
  simp only [Bool.false_eq_true, if_false]
  refine wpAny_bind (m := Builtin.List.listAllItems (.ref b) _) ?_
  unfold Builtin.List.listAllItems
  refine wpAny_bind (wpAny_typeOf hTb ?_)
  rw [if_pos (by decide)]
  unfold Builtin.List.listItems
  refine wpAny_bind (wpAny_seqItems hob hdb (wpAny_pure ?_))
  refine wpAny_bind (m := seqItems? (.ref l) >>= _) (wpAny_bind (wpAny_seqItems ho rfl (wpAny_pure ?_)))
  refine wpAny_bind (wpAny_of_eq (sliceIndices_raw lo hi none items.size (by simp)) ?_)
  have e1 : (sliceBounds lo hi none items.size).2.2 = 1 := rfl
  rw [e1, if_pos (by decide)]
  refine wpAny_bind (wpAny_rule ?_)
  have hlong : Builtin.List.listTooLong (items.size + new.size) = false := by
    unfold Builtin.List.listTooLong
    rw [sizeLine_eq]
    simp only [decide_eq_false_iff_not]
    lia
  rw [hlong]
  simp only [Bool.false_eq_true, if_false]
  have hle : (splice items new lo hi).size ≤ sizeLine + 1 := by
    have hx : ∀ a b : Nat, (items.extract a b).size ≤ 1000 := fun a b => by
      rw [Array.size_extract]
      exact Nat.le_trans (Nat.sub_le _ _) (Nat.le_trans (Nat.min_le_right _ _) hz)
    unfold splice
    rw [sizeLine_eq, Array.size_append, Array.size_append]
    exact Nat.le_trans (Nat.add_le_add (Nat.add_le_add (hx _ _) hz2) (hx _ _)) (by decide)
  refine wpAny_bind (wpAny_updateSeq (f := fun xs => xs.extract 0 (sliceBounds lo hi none items.size).1.toNat ++ new ++ xs.extract (max (sliceBounds lo hi none items.size).1 (sliceBounds lo hi none items.size).2.1).toNat xs.size) ho rfl ?_ (by rw [sizeLine_eq]; lia) hle)
  refine wpAny_bind (wpAny_letGo ?_)
  have eq1 : (s.heap.update l (Obj.mapSeq fun xs => xs.extract 0 (sliceBounds lo hi none items.size).1.toNat ++ new ++ xs.extract (max (sliceBounds lo hi none items.size).1 (sliceBounds lo hi none items.size).2.1).toNat xs.size)).get? l
      = some (PySem.W.listOf (splice items new lo hi) (if ((splice items new lo hi).size == items.size) = true then n else n + 1)) := Heap.get?_update_self _ ho rfl
  exact wpAny_pure ⟨.none, rfl, wpAny_pure (h _ _ eq1 (Heap.SameBut.update ..))⟩
theorem spliceT {vs ws : List Value} {k : Nat} (hk : 0 < k) : splice vs.toArray ws.toArray (some (-(k : Int))) none = (vs.take (vs.length - k) ++ ws).toArray := by
  unfold splice
  rw [kms_bounds]
  have h1 : (-(k : Int)) < 0 := by lia
  simp only [kms_lo, kms_hi, if_pos h1, Int.neg_neg, Int.toNat_natCast, List.size_toArray]
  have h2 : (max ((vs.length - k : Nat) : Int) ((vs.length : Nat) : Int)).toNat = vs.length := (congrArg Int.toNat (Int.max_eq_right (Int.ofNat_le.mpr (Nat.sub_le ..)))).trans (Int.toNat_natCast _)
  rw [h2]
  apply Array.toList_inj.mp
  simp
theorem set_line {w : World} {A : Around} {E : Value → Shared → Prop} {s : Shared} {Q : Unit → Shared → Prop} {g hh : Heap} {L l b sl : Addr} {m : Str → Option Value} {news : List (Addr × Obj)} {vs ws : List Value} {n k : Nat} {lo hi : Option Int} {vl vu : Value}
    (F : Fr g L hh m) (N : News g L hh news) (hl : (l, PySem.W.listOf vs.toArray n) ∈ news) (hb : (b, PySem.W.listOf ws.toArray k) ∈ news) (hlb : l ≠ b) (pl : IsPart vl lo) (pu : IsPart vu hi) (hz : vs.length ≤ 1000) (hz2 : ws.length ≤ 1000)
    (hs : s.heap = hh.push { cls := .type "slice", data := .fields #[vl, vu, .none] }) (hi' : sl = hh.objs.size)
    (h : ∀ h' n', Fr g L h' m → (∀ p ∈ news, p.1 ≠ l → h'.get? p.1 = some p.2) → h'.get? l = some (PySem.W.listOf (splice vs.toArray ws.toArray lo hi) n') → Q () { s with heap := h' }) :
    wpAny (model PR w) A (setItem (.ref l) (.ref sl) (.ref b)) Q E s := by
  obtain ⟨h0, gg, d, t, os⟩ := s
  dsimp only at hs
  subst hs
  subst hi'
  have Fp := F.push { cls := .type "slice", data := .fields #[vl, vu, .none] }
  have Pl := N _ hl
  refine setItem_slice (n := n) (Heap.get?_push_of_some _ Pl.1) ⟨_, Heap.get?_push_of_some _ (N _ hb).1, rfl, _, rfl⟩ hlb (Heap.IsSliceOf.new ..) pl pu (by simpa using hz) (by simpa using hz2) (fun h' n' e sb => ?_)
  refine h h' n' (Fp.change sb Pl.2.1 Pl.2.2) (fun p hp hne => ?_) e
  exact (sb.2 _ hne).trans (Heap.get?_push_of_some _ (N p hp).1)
end

section
open Kunsigned_c
open Ksigned_c
open Kleast_c
open Kwidened_c
open Keqz_c
open Kadd_c
open Ksub_c
open Kmul_c
open Ktn_c
open Kand_c
open Kor_c
open Kxor_c
open Kshl_c
open Kshrs_c
open Kshru_c
open Krotl_c
open Krotr_c
open Keq_c
open Kne_c
open Kltu_c
open Klts_c
open Kgts_c
open Kles_c
open Kges_c
open Kgtu_c
open Kleu_c
open Kgeu_c
open Kltakes_c
open Klisone_c
open Klsigned_c
open Klplain_c
open Kplace_c
open Knarrow_c
open Kisun_c
open Kisbi_c
open Kneutral_c
open Kwidths_c
open Kclz_c
open Kctz_c
open Kpop_c
open Kdivu_c
open Kremu_c
open Kdivs_c
open Krems_c
open Kreckon1_c
open S1
open H438
open H419
open S3
theorem last_item {w : World} {A : Around} {E : Value → Shared → Prop} {s : Shared} {value slice : Expr} {l : Addr} {vs : List Value} {n : Nat} {u : Tok} {v : Value} {Q : Value → Shared → Prop} {h₀ : Heap} {L : Addr} {news : List (Addr × Obj)} (N : News h₀ L s.heap news) (hm : (l, PySem.W.listOf vs.toArray n) ∈ news) (hv : vs.getLast? = some v)
    (hs : subscripted slice false (.ref l) (.int (-1) u) = operate [.ref l, .int (-1) u] (getItem (.ref l) (.int (-1) u))) (h : Q v s) :
    wpAny (model PR w) A (subscriptTail value slice (.ref l) (.int (-1) u)) Q E s := by
  have h0 : vs ≠ [] := fun e => by subst e; cases hv
  have h1 : 0 < vs.length := List.length_pos_iff.mpr h0
  refine kde_neg (j := vs.length - 1) ⟨_, (N _ hm).1, rfl, _, rfl⟩ (by decide) (by decide) ?_ ?_ h hs
  · unfold seqIndex?
    simp only [show ((-1 : Int) < 0) by decide, if_true]
    have : ((-1 : Int) + (vs.length : Int)) = ((vs.length - 1 : Nat) : Int) := by lia
    rw [this]
    simp
    lia
  · rw [← List.getLast?_eq_getElem?]; exact hv
def isN : Value → Bool
  | .none => true
  | _ => false
theorem nn_c {w : World} {A : Around} {E : Value → Shared → Prop} {s : Shared} {D : Addr} {vs : List Value} {Q : Value → Shared → Prop} (hl : s.heap.IsList D vs.toArray) (hall : ∀ v ∈ vs, v = .none ∨ ∃ n t, v = .int n t)
    (h : Q (.bool (!vs.any isN)) s) : wpAny (model PR w) A (compareOp .NotIn .none (.ref D)) Q E s := by
  refine SeqAt.notIn_listAt isN hl (fun y hy => ?_) (by rw [List.any_toArray]; exact h)
  rcases hall y (by simpa using hy) with rfl | ⟨n, t, rfl⟩
  · exact SeqAt.EqAt.same _
  · exact SeqAt.EqAt.int_none _ _
theorem opt1 (n : Int) (t : Tok) : ∀ v ∈ [Value.int n t], v = .none ∨ ∃ n t, v = .int n t := fun v hv => .inr ⟨n, t, List.mem_singleton.mp hv⟩
theorem opt1n : ∀ v ∈ [Value.none], v = .none ∨ ∃ n t, v = .int n t := fun v hv => .inl (List.mem_singleton.mp hv)
theorem opt2 {a : Value} {l : List Value} (h1 : ∀ v ∈ [a], v = .none ∨ ∃ n t, v = .int n t) (h2 : ∀ v ∈ l, v = .none ∨ ∃ n t, v = .int n t) : ∀ v ∈ a :: l, v = .none ∨ ∃ n t, v = .int n t := fun v hv => by
  rcases List.mem_cons.mp hv with rfl | hv
  · exact h1 _ (.head _)
  · exact h2 v hv
theorem size_any {vs : List Value} (h : vs.length ≤ 100) : vs.toArray.size ≤ sizeLine := by rw [sizeLine_eq, List.size_toArray]; lia
theorem size_pick {vs : List Value} {lo hi : Option Int} (h : vs.length ≤ 100) : (kms_pick vs lo hi).toArray.size ≤ sizeLine := by
  rw [sizeLine_eq, List.size_toArray]
  unfold kms_pick
  rw [List.length_take, List.length_drop]
  exact Nat.le_trans (Nat.min_le_right _ _) (Nat.le_trans (Nat.sub_le _ _) (Nat.le_trans h (by decide)))
structure LowR : Prop where
  one : ∀ c x, isUnF c = true → 0 ≤ x → x < 2 ^ (takesF c).toNat → 0 ≤ r1F c x
  two : ∀ c x y z, isBiF c = true → 0 ≤ x → x < 2 ^ (takesF c).toNat → 0 ≤ y → y < 2 ^ (takesF c).toNat → r2F c x y = some z → 0 ≤ z
/-- what fold_number leaves of the list vs: none: nothing done; some (k, o): the last k give way to o -/
def FoldRes (l : Addr) (vs : List Value) (r : Option (Nat × Option Ins)) : Heap → Heap → Value → Prop := fun h h' v => match r with
  | none => v = .bool false ∧ h'.get? l = h.get? l
  | some (k, none) => v = .bool true ∧ ∃ n, h'.get? l = some (PySem.W.listOf (vs.take (vs.length - k)).toArray n)
  | some (k, some i) => v = .bool true ∧ ∃ x n, h'.get? l = some (PySem.W.listOf (vs.take (vs.length - k) ++ [Value.ref x]).toArray n) ∧ PieceNew i h h' (.ref x)
def OkArg (i : Ins) : Prop := i.code = 65 ∨ i.code = 66 → i.arg ≠ none
theorem PieceAt.det {h : Heap} {x : Addr} {i j : Ins} (p : PieceAt h x i) (q : PieceAt h x j) : i = j := by
  obtain ⟨dx, h1, h2, h3, t1, t2, t3, a, n, p1, p2, t, r, p3, p4⟩ := p
  obtain ⟨dy, k1, k2, k3, u1, u2, u3, b, m, q1, q2, u, r', q3, q4⟩ := q
  rw [p1] at q1
  have e1 : dx = dy := by
    have := congrArg Obj.dict (Option.some.inj q1)
    exact Option.some.inj this
  subst e1
  rw [p2] at q2
  have e2 : a = b := by
    have := congrArg Obj.data (Option.some.inj q2)
    simp only [pieceDict, dictOf] at this
    injection this with this
    have := congrArg (fun a : Array DictEntry => a[0]?) this
    simp at this
    exact this.2.2
  subst e2
  rw [p3] at q3
  have e3 := congrArg Obj.data (Option.some.inj q3)
  simp only [tupOf] at e3
  injection e3 with e3
  have e4 := congrArg Array.toList e3
  simp at e4
  obtain ⟨⟨e5, _⟩, e6⟩ := e4
  subst e6
  obtain ⟨c, o⟩ := i
  obtain ⟨c', o'⟩ := j
  dsimp only at e5 p4 q4
  subst e5
  congr 1
  cases o with
  | none => cases o' with
    | none => rfl
    | some z => obtain ⟨u, q⟩ := q4; rw [show r = [] from p4] at q; cases q
  | some z =>
    obtain ⟨u, q⟩ := p4
    subst q
    cases o' with
    | none => cases (show [Value.int z u] = [] from q4)
    | some z' => obtain ⟨u', q'⟩ := q4; cases q'; rfl
def OptV (o : Option Int) (r : Value) : Prop := match o with
  | none => r = .none
  | some n => ∃ t, r = .int n t
/-- one element of the list of what stands ahead -/
theorem ahead_elt {w : World} {mean : ExcName → Option Value} {mg mb : Str → Option Value} {dp un : Nat} {fr : Option (List Env)} {gd : Option (List Code)} {g h₁ : Heap} {C y : Addr} {s₃ : Shared} {m₃ : Str → Option Value} {E' : Value → Shared → Prop} {iy : Ins}
    (KX3 : (hda.heap_1_39 w.params).In h₁) (T3 : Top VW LO mean mg mb h₁) (eg : Ext g h₁) (F3 : Fr h₁ C s₃.heap m₃) (py : PieceAt g y iy) (hy : OkArg iy) (hR : Room dp un 2) :
    wpAny (model PR w) (AR dp un fr gd) (call (.ref 419) [.ref y]) (fun r s₄ => (∀ z i, Value.ref y = .ref z → PieceAt g z i → OptV (constF i) r) ∧ Keeps s₃ s₄) E' s₃ := by
  refine consto_c w y iy mean mg mb _ _ _ _ _ _ _ (Gd.ext ⟨KX3, T3⟩ F3.keep) hR ⟨py.ext (eg.trans F3.keep), hy⟩ (fun v h' tk' e r => ?_)
  refine ⟨fun z i q pz => ?_, _, _, rfl, e⟩
  cases q
  cases py.det pz
  exact r
theorem kmsI {p : List Value} {a : Value} : kms_pick (p ++ [a]) none (some (-1)) = p := by
  simp [kms_pick, kms_lo, kms_hi]
theorem kms1 {p : List Value} {a : Value} : kms_pick (p ++ [a]) (some (-1)) none = [a] := by
  simp [kms_pick, kms_lo, kms_hi]
theorem pickU {vs p : List Value} {a b : Value} (h : vs = p ++ [a, b]) : kms_pick (kms_pick vs none (some (-1))) (some (-1)) none = [a] := by
  subst h
  rw [show p ++ [a, b] = (p ++ [a]) ++ [b] by simp, kmsI, kms1]
theorem hid_back {s g : Heap} {l a : Addr} (hg : g = hideAll s [l]) (e : g.get? a = none) (n : a ≠ l) : s.get? a = none := by
  cases q : s.get? a with
  | none => rfl
  | some o =>
    have : g.get? a = some o := hg ▸ hideAll_iff.mpr ⟨q, fun z => n (List.mem_singleton.mp z)⟩
    rw [e] at this; cases this
theorem off_fs {g : Heap} {outer : List Env} {fs : List Addr} {a : Addr} (SK : Stk g outer fs) (e : g.get? a = none) : a ∉ fs := fun q => by
  obtain ⟨o, h, _⟩ := SK.live a q
  rw [e] at h; cases h
theorem off_all {g : Heap} {outer : List Env} {fs : List Addr} {a L : Addr} (SK : Stk g outer fs) (e : a ≠ L ∧ g.get? a = none) : a ∉ [] ++ L :: fs := fun q => by
  rcases List.mem_cons.mp q with q | q
  · exact e.1 q
  · exact off_fs SK e.2 q
theorem new_ne {g h : Heap} {L a : Addr} {m : Str → Option Value} (F : Fr g L h m) (e : h.get? a = none) : a ≠ L := fun z => by
  obtain ⟨_, _, _, q, _⟩ := F.ns
  rw [← z, e] at q; cases q
theorem news_cons {g h : Heap} {L a : Addr} {o : Obj} {l : List (Addr × Obj)} (h1 : h.get? a = some o) (h2 : a ≠ L) (h3 : g.get? a = none) (N : News g L h l) : News g L h ((a, o) :: l) := fun p hp => by
  rcases List.mem_cons.mp hp with rfl | hp
  · exact ⟨h1, h2, h3⟩
  · exact N p hp
theorem numU_c (w : World) (low : LowR) (l x y : Addr) (ix iy : Ins) (vs : List Value) (n : Nat) (hun : isUnF ix.code = true) (hy : OkArg iy) (p : List Value) (hvs : vs = p ++ [Value.ref y, Value.ref x]) (hlen : vs.length ≤ 100) :
    CtK w 443 [.ref l] 9 [l] (fun h g => h.get? l = some (PySem.W.listOf vs.toArray n) ∧ PieceAt g x ix ∧ PieceAt g y iy)
      (FoldRes l vs ((constF iy).map fun a => (2, some (reck1F ix.code a)))) := by
  intro mean mg mb dp un gd outer fs s Q E G SK hSf hR hP hret
  obtain ⟨hl, px, py⟩ := hP
  have hlast : vs.getLast? = some (.ref x) := by subst hvs; simp
  refine enterK (binds := [(Str.ofString "found", .ref l)]) (hid := [(l, PySem.W.listOf vs.toArray n)]) G SK hSf rfl (fun q hq => by rw [List.mem_singleton.mp hq]; exact hl) (by k_dflt k_is) (by k_dflt k_is) (Room.enter hR) (BindsTo.of_eq rfl) (locs rfl) (fun g h₁ tk₁ hg Gg Gf SKg F' N' hx => ?_)
  intro A9 E9
  have KX := Gg.k
  have T := Gg.t
  replace px := px.ext hx
  replace py := py.ext hx
  k_steps
  refine unhold ?_
  refine acomp_c (fun _ => true) (fun v r => ∀ z i, v = .ref z → PieceAt g z i → OptV (constF i) r) rfl rfl rfl rfl (by decide) rfl (by decide) rfl rfl rfl ?_
  k_steps
  (try dsimp only)
  with_reducible rename News _ _ _ _ => N2
  with_reducible rename Fr _ _ _ _ => F2
  have P2 := N2 _ (.head _)
  refine unhold ⟨_, [.ref y], _, _, _, rfl, .inl ⟨_, P2.1, rfl, _, (by show Data.seq _ _ = Data.seq _ _; congr 2; exact pickU hvs)⟩, size1 _, compTests_nil, ?_, F2, N2, ?_⟩
  · intro C v s₃ m₃ E' hv _ F3 hm
    have hv' : v = .ref y := by simpa using hv
    subst hv'
    have KX3 := KX.keeps F2.keep
    have T3 := T.keeps F2.keep
    have eg : Ext g _ := F2.keep
    have N3 := newsNil F3
    clear N2 F2 KX T P2
    dsimp only at F3 N3
    k_steps
    all_goals
      refine unhold ?_
      exact ahead_elt KX3 T3 eg F3 py hy (Room.down hR (by decide) rfl rfl)
  · intro D h'' tk'' ys n9 F3 N3 l3 hD hp
    obtain ⟨_, rfl, q1⟩ := paired1 hp
    replace q1 := q1 _ _ rfl py
    clear F2 N2
    cases ec : constF iy with
    | none =>
      rw [ec] at q1
      cases q1
      k_steps
      with_reducible rename News _ _ _ _ => N4
      with_reducible rename Fr _ _ _ _ => F4
      k_steps
      refine leaveC_ret (hret _ _ _ (kpEnd hg hSf (Kp.refl fs g) F4) ?_)
      rw [ec]
      exact ⟨rfl, (N4 (l, PySem.W.listOf vs.toArray n) (by k_mem)).1.trans hl.symm⟩
    | some a =>
      rw [ec] at q1
      obtain ⟨ta, rfl⟩ := q1
      k_steps
      refine unhold ?_
      with_reducible rename News _ _ _ _ => N4
      with_reducible rename Fr _ _ _ _ => F4
      have PD := N4 (D, PySem.W.listOf #[.int a ta] n9) (by k_mem)
      have Pl := N4 (l, PySem.W.listOf vs.toArray n) (by k_mem)
      refine useK (reckoned1_c w ix.code a _ D hun (low.one _ _ hun (modw_lo _ _) (modw_hi _ _))) F4 N4 Gf SKg (fun _ q => nomatch q) rfl rfl (Room.down hR (by decide) rfl rfl) ⟨n9, ta, hideAll_iff.mpr ⟨PD.1, off_all SKg PD.2⟩⟩ ?_
      intro g5 v5 h5 tk5 F5 hkeep hnone K5 G5 SK5 _ r5
      obtain ⟨x9, dx, h1, h2, h3, t1, t2, t3, a9, m9, rfl, o1, o2, ⟨t4, rest, o3, o4⟩, f1, f2, f3⟩ := r5
      have N5 : News g5 _ h5 [(x9, instObj 379 dx), (dx, pieceDict h1 h2 h3 t1 t2 t3 (.ref a9) m9), (a9, tupOf (.int (reck1F ix.code a).code t4 :: rest)), (l, PySem.W.listOf vs.toArray n)] :=
        news_cons o1 (new_ne F4 f1) (hnone _ (fresh_back F4.keep f1)) (news_cons o2 (new_ne F4 f2) (hnone _ (fresh_back F4.keep f2)) (news_cons o3 (new_ne F4 f3) (hnone _ (fresh_back F4.keep f3)) (news_cons (hkeep (l, PySem.W.listOf vs.toArray n) (by k_mem) (fun q => nomatch q)) Pl.2.1 (hnone _ Pl.2.2) (newsNil F5))))
      have nx1 : x9 ≠ l := fun z => by rw [z, Pl.1] at f1; cases f1
      have nx2 : dx ≠ l := fun z => by rw [z, Pl.1] at f2; cases f2
      have nx3 : a9 ≠ l := fun z => by rw [z, Pl.1] at f3; cases f3
      have s1 := hid_back hg (fresh_back F4.keep f1) nx1
      have s2 := hid_back hg (fresh_back F4.keep f2) nx2
      have s3 := hid_back hg (fresh_back F4.keep f3) nx3
      clear F4 N4 KX T px py Gg Gf
      have KX := G5.k
      have T := G5.t
      k_steps
      refine unhold ?_
      with_reducible rename News _ _ _ _ => N6
      with_reducible rename Fr _ _ _ _ => F6
      have Pb := N6 _ (.head _)
      refine set_line (vs := vs) (n := n) (ws := [.ref x9]) F6 N6 (by k_mem) (.head _) ?_ (IsPart.int _ _) IsPart.none (by lia) (Nat.le_of_ble_eq_true rfl) rfl rfl ?_
      · k_ne
      intro h7 n7 F7 hk7 hl7
      have N7 := newsNil F7
      replace o1 := hk7 (x9, instObj 379 dx) (by k_mem) nx1
      replace o2 := hk7 (dx, pieceDict h1 h2 h3 t1 t2 t3 (.ref a9) m9) (by k_mem) nx2
      replace o3 := hk7 (a9, tupOf (.int (reck1F ix.code a).code t4 :: rest)) (by k_mem) nx3
      clear F6 N6 F5 N5
      k_steps
      k_steps
      refine leaveC_ret (hret _ _ _ (kpEnd hg hSf K5 F7) ?_)
      rw [ec]
      exact ⟨rfl, x9, n7, by rw [← spliceT (k := 2) (by decide)]; exact hl7, x9, dx, h1, h2, h3, t1, t2, t3, a9, m9, rfl, o1, o2, ⟨t4, rest, o3, o4⟩, s1, s2, s3⟩
end

section
open Kunsigned_c
open Ksigned_c
open Kleast_c
open Kwidened_c
open Keqz_c
open Kadd_c
open Ksub_c
open Kmul_c
open Ktn_c
open Kand_c
open Kor_c
open Kxor_c
open Kshl_c
open Kshrs_c
open Kshru_c
open Krotl_c
open Krotr_c
open Keq_c
open Kne_c
open Kltu_c
open Klts_c
open Kgts_c
open Kles_c
open Kges_c
open Kgtu_c
open Kleu_c
open Kgeu_c
open Kltakes_c
open Klisone_c
open Klsigned_c
open Klplain_c
open Kplace_c
open Knarrow_c
open Kisun_c
open Kisbi_c
open Kneutral_c
open Kwidths_c
open Kclz_c
open Kctz_c
open Kpop_c
open Kdivu_c
open Kremu_c
open Kdivs_c
open Krems_c
open Kreckon1_c
open S1
open H438
open H419
open S3
theorem ne_nil_c {w : World} {A : Around} {E : Value → Shared → Prop} {s : Shared} {D b : Addr} {v : Value} {vs : List Value} {Q : Value → Shared → Prop} (hl : s.heap.IsList D (v :: vs).toArray) (hb : s.heap.IsList b #[]) (hu : A.units < cLine)
    (h : Q (.bool true) s) : wpAny (model PR w) A (compareOp .NotEq (.ref D) (.ref b)) Q E s :=
  SeqAt.RcNeAt.lists_lengths hl hb (by simp) hu PR w E Q h
theorem eq_nil_c {w : World} {A : Around} {E : Value → Shared → Prop} {s : Shared} {D b : Addr} {Q : Value → Shared → Prop} (hl : s.heap.IsList D #[]) (hb : s.heap.IsList b #[]) (hu : A.units < cLine)
    (h : Q (.bool false) s) : wpAny (model PR w) A (compareOp .NotEq (.ref D) (.ref b)) Q E s := by
  refine SeqAt.RcNeAt.lists (e := fun _ => true) hl hb rfl hu (fun j h1 => absurd h1 (by simp)) PR w E Q ?_
  exact h
theorem units_ok {dp un n : Nat} {fr : Option (List Env)} {gd : Option (List Code)} {env : Env} (hR : Room dp un n) (hn : 0 < n) : ((AR dp un fr gd).deeper env).units < cLine := by
  have := hR.u
  show un + 3 < 9900
  lia
def binR (c : Int) (oz oy : Option Int) : Option (Nat × Option Ins) := match oy with
  | none => none
  | some b => match oz.bind fun a => reck2F c a b with
    | some i => some (3, some i)
    | none => if neutralF c = some b then some (2, none) else none
theorem binR_no {c b : Int} {oz : Option Int} (h : (oz.bind fun a => reck2F c a b) = none) (n : neutralF c ≠ some b) : binR c oz (some b) = none := by
  unfold binR; simp only [h, if_neg n]
theorem binR_pop {c b : Int} {oz : Option Int} (h : (oz.bind fun a => reck2F c a b) = none) (n : neutralF c = some b) : binR c oz (some b) = some (2, none) := by
  unfold binR; simp only [h, if_pos n]
theorem binR_rep {c b : Int} {oz : Option Int} {i : Ins} (h : (oz.bind fun a => reck2F c a b) = some i) : binR c oz (some b) = some (3, some i) := by
  unfold binR; simp only [h]
theorem neu1 {c b : Int} (h : neutralF c = none) : neutralF c ≠ some b := by rw [h]; exact fun z => nomatch z
theorem neu2 {c b x : Int} (h : neutralF c = some x) (n : ¬ b = x) : neutralF c ≠ some b := by rw [h]; exact fun z => n (Option.some.inj z).symm
theorem neu3 {c b x : Int} (h : neutralF c = some x) (n : b = x) : neutralF c = some b := by rw [h, n]
theorem pick1 {vs : List Value} {a b : Value} (h : vs = [a, b]) : kms_pick (kms_pick vs none (some (-1))) (some (-2)) none = [a] := by
  subst h
  simp [kms_pick, kms_lo, kms_hi]
theorem pick2 {vs p : List Value} {a b c : Value} (h : vs = p ++ [a, b, c]) : kms_pick (kms_pick vs none (some (-1))) (some (-2)) none = [a, b] := by
  subst h
  rw [show p ++ [a, b, c] = (p ++ [a, b]) ++ [c] by simp, kmsI]
  simp [kms_pick, kms_lo, kms_hi]
theorem placeF_no {c a b m : Int} (h1 : ¬ (a ≤ c ∧ c < a + m)) (h2 : ¬ (b ≤ c ∧ c < b + m)) : placeF c a b m = none := by
  unfold placeF; rw [if_neg h1, if_neg h2]
theorem bi_nat {c : Int} (h : isBiF c = true) : ∃ n : Nat, n < 139 ∧ c = n := by
  unfold isBiF at h
  rcases (Bool.or_eq_true _ _).mp h with h | h <;> rcases placeF_some h with h | h <;> exact nat_of (Int.le_trans (by decide) h.1) (Int.lt_of_lt_of_le h.2 (by decide))
theorem bi_rng {c : Int} (h : isBiF c = true) : (70 ≤ c ∧ c < 80) ∨ (81 ≤ c ∧ c < 91) ∨ (106 ≤ c ∧ c < 121) ∨ (124 ≤ c ∧ c < 139) := by
  obtain ⟨n, hn, rfl⟩ := bi_nat h
  revert h; revert hn; revert n; decide +kernel
theorem un_not_bi {c : Int} (h : isBiF c = true) : isUnF c = false := by
  obtain ⟨n, hn, rfl⟩ := bi_nat h
  revert h; revert hn; revert n; decide +kernel
theorem numB1_c (w : World) (l x y : Addr) (ix iy : Ins) (vs : List Value) (n : Nat) (hun : isUnF ix.code = false) (hy : OkArg iy) (hvs : vs = [Value.ref y, Value.ref x]) :
    CtK w 443 [.ref l] 9 [l] (fun h g => h.get? l = some (PySem.W.listOf vs.toArray n) ∧ PieceAt g x ix ∧ PieceAt g y iy)
      (FoldRes l vs (binR ix.code none (constF iy))) := by
  intro mean mg mb dp un gd outer fs s Q E G SK hSf hR hP hret
  obtain ⟨hl, px, py⟩ := hP
  have hlen : vs.length ≤ 100 := by subst hvs; exact Nat.le_of_ble_eq_true rfl
  have hlast : vs.getLast? = some (.ref x) := by subst hvs; simp
  refine enterK (binds := [(Str.ofString "found", .ref l)]) (hid := [(l, PySem.W.listOf vs.toArray n)]) G SK hSf rfl (fun q hq => by rw [List.mem_singleton.mp hq]; exact hl) (by k_dflt k_is) (by k_dflt k_is) (Room.enter hR) (BindsTo.of_eq rfl) (locs rfl) (fun g h₁ tk₁ hg Gg Gf SKg F' N' hx => ?_)
  intro A9 E9
  have KX := Gg.k
  have T := Gg.t
  replace px := px.ext hx
  replace py := py.ext hx
  k_steps
  refine unhold ?_
  refine acomp_c (fun _ => true) (fun v r => ∀ z i, v = .ref z → PieceAt g z i → OptV (constF i) r) rfl rfl rfl rfl (by decide) rfl (by decide) rfl rfl rfl ?_
  k_steps
  (try dsimp only)
  with_reducible rename News _ _ _ _ => N2
  with_reducible rename Fr _ _ _ _ => F2
  have P2 := N2 _ (.head _)
  refine unhold ⟨_, [.ref y], _, _, _, rfl, .inl ⟨_, P2.1, rfl, _, (by show Data.seq _ _ = Data.seq _ _; congr 2; exact pick1 hvs)⟩, size1 _, compTests_nil, ?_, F2, N2, ?_⟩
  · intro C v s₃ m₃ E' hv _ F3 hm
    have hv' : v = .ref y := by simpa using hv
    subst hv'
    have KX3 := KX.keeps F2.keep
    have T3 := T.keeps F2.keep
    have eg : Ext g _ := F2.keep
    have N3 := newsNil F3
    clear N2 F2 KX T P2
    dsimp only at F3 N3
    k_steps
    all_goals
      refine unhold ?_
      exact ahead_elt KX3 T3 eg F3 py hy (Room.down hR (by decide) rfl rfl)
  · intro D h'' tk'' ys n9 F3 N3 l3 hD hp
    obtain ⟨_, rfl, q1⟩ := paired1 hp
    replace q1 := q1 _ _ rfl py
    clear F2 N2
    cases ec : constF iy with
    | none =>
      rw [ec] at q1
      cases q1
      k_steps
      with_reducible rename News _ _ _ _ => N4
      with_reducible rename Fr _ _ _ _ => F4
      k_steps
      refine leaveC_ret (hret _ _ _ (kpEnd hg hSf (Kp.refl fs g) F4) ?_)
      rw [ec]
      exact ⟨rfl, (N4 (l, PySem.W.listOf vs.toArray n) (by k_mem)).1.trans hl.symm⟩
    | some a =>
      rw [ec] at q1
      obtain ⟨ta, rfl⟩ := q1
      k_steps
      all_goals first
        | (refine unhold ?_
           with_reducible rename News _ _ _ _ => N6
           with_reducible rename Fr _ _ _ _ => F6
           refine set_line (vs := vs) (n := n) (ws := []) F6 N6 (by k_mem) (.head _) (by k_ne) (IsPart.int _ _) IsPart.none (by lia) (Nat.le_of_ble_eq_true rfl) rfl rfl ?_
           intro h7 n7 F7 hk7 hl7
           have N7 := newsNil F7
           clear F6 N6
           k_steps
           k_steps
           refine leaveC_ret (hret _ _ _ (kpEnd hg hSf (Kp.refl fs g) F7) ?_)
           rw [ec, binR_pop rfl (neu3 (by assumption) (by assumption))]
           exact ⟨rfl, n7, by rw [← List.append_nil (vs.take _), ← spliceT (k := 2) (by decide)]; exact hl7⟩)
        | (with_reducible rename News _ _ _ _ => N9
           with_reducible rename Fr _ _ _ _ => F9
           k_steps
           refine leaveC_ret (hret _ _ _ (kpEnd hg hSf (Kp.refl fs g) F9) ?_)
           rw [ec, binR_no rfl (by first | exact neu1 (by assumption) | exact neu2 (by assumption) (by assumption))]
           exact ⟨rfl, (N9 (l, PySem.W.listOf vs.toArray n) (by k_mem)).1.trans hl.symm⟩)
end

section
open Kunsigned_c
open Ksigned_c
open Kleast_c
open Kwidened_c
open Keqz_c
open Kadd_c
open Ksub_c
open Kmul_c
open Ktn_c
open Kand_c
open Kor_c
open Kxor_c
open Kshl_c
open Kshrs_c
open Kshru_c
open Krotl_c
open Krotr_c
open Keq_c
open Kne_c
open Kltu_c
open Klts_c
open Kgts_c
open Kles_c
open Kges_c
open Kgtu_c
open Kleu_c
open Kgeu_c
open Kltakes_c
open Klisone_c
open Klsigned_c
open Klplain_c
open Kplace_c
open Knarrow_c
open Kisun_c
open Kisbi_c
open Kneutral_c
open Kwidths_c
open Kclz_c
open Kctz_c
open Kpop_c
open Kdivu_c
open Kremu_c
open Kdivs_c
open Krems_c
open Kreckon1_c
open S1
open H438
open H419
open S3
theorem numB2_c (w : World) (low : LowR) (l x y z : Addr) (ix iy iz : Ins) (vs : List Value) (n : Nat) (hun : isUnF ix.code = false) (hbi : isBiF ix.code = true) (hy : OkArg iy) (hz : OkArg iz) (p : List Value) (hvs : vs = p ++ [Value.ref z, Value.ref y, Value.ref x]) (hlen : vs.length ≤ 100) :
    CtK w 443 [.ref l] 9 [l] (fun h g => h.get? l = some (PySem.W.listOf vs.toArray n) ∧ PieceAt g x ix ∧ PieceAt g y iy ∧ PieceAt g z iz)
      (FoldRes l vs (binR ix.code (constF iz) (constF iy))) := by
  intro mean mg mb dp un gd outer fs s Q E G SK hSf hR hP hret
  obtain ⟨hl, px, py, pz⟩ := hP
  have hlast : vs.getLast? = some (.ref x) := by subst hvs; simp
  refine enterK (binds := [(Str.ofString "found", .ref l)]) (hid := [(l, PySem.W.listOf vs.toArray n)]) G SK hSf rfl (fun q hq => by rw [List.mem_singleton.mp hq]; exact hl) (by k_dflt k_is) (by k_dflt k_is) (Room.enter hR) (BindsTo.of_eq rfl) (locs rfl) (fun g h₁ tk₁ hg Gg Gf SKg F' N' hx => ?_)
  intro A9 E9
  have KX := Gg.k
  have T := Gg.t
  replace px := px.ext hx
  replace py := py.ext hx
  replace pz := pz.ext hx
  k_steps
  refine unhold ?_
  refine acomp_c (fun _ => true) (fun v r => ∀ z i, v = .ref z → PieceAt g z i → OptV (constF i) r) rfl rfl rfl rfl (by decide) rfl (by decide) rfl rfl rfl ?_
  k_steps
  (try dsimp only)
  with_reducible rename News _ _ _ _ => N2
  with_reducible rename Fr _ _ _ _ => F2
  have P2 := N2 _ (.head _)
  refine unhold ⟨_, [.ref z, .ref y], _, _, _, rfl, .inl ⟨_, P2.1, rfl, _, (by show Data.seq _ _ = Data.seq _ _; congr 2; exact pick2 hvs)⟩, size2 _ _, compTests_nil, ?_, F2, N2, ?_⟩
  · intro C v s₃ m₃ E' hv _ F3 hm
    have hv' : ∃ q i, v = .ref q ∧ PieceAt g q i ∧ OkArg i := by
      rcases List.mem_cons.mp hv with rfl | hv
      · exact ⟨_, _, rfl, pz, hz⟩
      · exact ⟨_, _, List.mem_singleton.mp hv, py, hy⟩
    obtain ⟨q, iq, rfl, pq, hq⟩ := hv'
    have KX3 := KX.keeps F2.keep
    have T3 := T.keeps F2.keep
    have eg : Ext g _ := F2.keep
    have N3 := newsNil F3
    clear N2 F2 KX T P2
    dsimp only at F3 N3
    k_steps
    all_goals
      refine unhold ?_
      exact ahead_elt KX3 T3 eg F3 pq hq (Room.down hR (by decide) rfl rfl)
  · intro D h'' tk'' ys n9 F3 N3 l3 hD hp
    obtain ⟨_, _, rfl, q0, q1⟩ := paired2 hp
    replace q0 := q0 _ _ rfl pz
    replace q1 := q1 _ _ rfl py
    clear F2 N2
    cases ec : constF iy with
    | none =>
      rw [ec] at q1
      cases q1
      cases ez : constF iz with
      | none =>
        rw [ez] at q0
        cases q0
        k_steps
        with_reducible rename News _ _ _ _ => N4
        with_reducible rename Fr _ _ _ _ => F4
        k_steps
        refine leaveC_ret (hret _ _ _ (kpEnd hg hSf (Kp.refl fs g) F4) ?_)
        rw [ec]
        exact ⟨rfl, (N4 (l, PySem.W.listOf vs.toArray n) (by k_mem)).1.trans hl.symm⟩
      | some a =>
        rw [ez] at q0
        obtain ⟨ta, rfl⟩ := q0
        k_steps
        with_reducible rename News _ _ _ _ => N4
        with_reducible rename Fr _ _ _ _ => F4
        k_steps
        refine leaveC_ret (hret _ _ _ (kpEnd hg hSf (Kp.refl fs g) F4) ?_)
        rw [ec]
        exact ⟨rfl, (N4 (l, PySem.W.listOf vs.toArray n) (by k_mem)).1.trans hl.symm⟩
    | some b =>
      rw [ec] at q1
      obtain ⟨tb, rfl⟩ := q1
      cases ez : constF iz with
      | none =>
        rw [ez] at q0
        cases q0
        k_steps
        all_goals first
          | (refine unhold ?_
             with_reducible rename News _ _ _ _ => N6
             with_reducible rename Fr _ _ _ _ => F6
             refine set_line (vs := vs) (n := n) (ws := []) F6 N6 (by k_mem) (.head _) (by k_ne) (IsPart.int _ _) IsPart.none (by lia) (Nat.le_of_ble_eq_true rfl) rfl rfl ?_
             intro h7 n7 F7 hk7 hl7
             have N7 := newsNil F7
             clear F6 N6
             k_steps
             k_steps
             refine leaveC_ret (hret _ _ _ (kpEnd hg hSf (Kp.refl fs g) F7) ?_)
             rw [ec, ez, binR_pop (oz := none) rfl (neu3 (by assumption) (by assumption))]
             exact ⟨rfl, n7, by rw [← List.append_nil (vs.take _), ← spliceT (k := 2) (by decide)]; exact hl7⟩)
          | (with_reducible rename News _ _ _ _ => N9
             with_reducible rename Fr _ _ _ _ => F9
             k_steps
             refine leaveC_ret (hret _ _ _ (kpEnd hg hSf (Kp.refl fs g) F9) ?_)
             rw [ec, ez, binR_no (oz := none) rfl (by first | exact neu1 (by assumption) | exact neu2 (by assumption) (by assumption))]
             exact ⟨rfl, (N9 (l, PySem.W.listOf vs.toArray n) (by k_mem)).1.trans hl.symm⟩)
      | some a =>
        rw [ez] at q0
        obtain ⟨ta, rfl⟩ := q0
        k_steps
        refine unhold ?_
        with_reducible rename News _ _ _ _ => N4
        with_reducible rename Fr _ _ _ _ => F4
        have PD := N4 (D, PySem.W.listOf #[.int a ta, .int b tb] n9) (by k_mem)
        have Pl := N4 (l, PySem.W.listOf vs.toArray n) (by k_mem)
        refine useK (reckoned2_c w ix.code a b _ D hbi (fun q => low.two _ _ _ _ hbi (modw_lo _ _) (modw_hi _ _) (modw_lo _ _) (modw_hi _ _))) F4 N4 Gf SKg (fun _ q => nomatch q) rfl rfl (Room.down hR (by decide) rfl rfl) ⟨n9, ta, tb, hideAll_iff.mpr ⟨PD.1, off_all SKg PD.2⟩⟩ ?_
        intro g5 v5 h5 tk5 F5 hkeep hnone K5 G5 SK5 _ r5
        have ND5 : News g5 _ h5 [(D, PySem.W.listOf #[.int a ta, .int b tb] n9), (l, PySem.W.listOf vs.toArray n)] :=
          news_cons (hkeep (D, PySem.W.listOf #[.int a ta, .int b tb] n9) (by k_mem) (fun q => nomatch q)) PD.2.1 (hnone _ PD.2.2) (news_cons (hkeep (l, PySem.W.listOf vs.toArray n) (by k_mem) (fun q => nomatch q)) Pl.2.1 (hnone _ Pl.2.2) (newsNil F5))
        have nDl : l ≠ D := by
          with_reducible rename AllNe _ _ => l9
          have := l9.2.2.1
          exact this
        cases er : reck2F ix.code a b with
        | none =>
          rw [er] at r5
          have r5' : v5 = .none := r5
          subst r5'
          clear F4 N4 KX T px py pz Gg Gf
          have KX := G5.k
          have T := G5.t
          k_steps
          all_goals first
            | (refine unhold ?_
               with_reducible rename News _ _ _ _ => N6
               with_reducible rename Fr _ _ _ _ => F6
               refine set_line (vs := vs) (n := n) (ws := []) F6 N6 (by k_mem) (.head _) (by k_ne) (IsPart.int _ _) IsPart.none (by lia) (Nat.le_of_ble_eq_true rfl) rfl rfl ?_
               intro h7 n7 F7 hk7 hl7
               have N7 := newsNil F7
               clear F6 N6
               k_steps
               k_steps
               refine leaveC_ret (hret _ _ _ (kpEnd hg hSf K5 F7) ?_)
               rw [ec, ez, binR_pop (oz := some a) er (neu3 (by assumption) (by assumption))]
               exact ⟨rfl, n7, by rw [← List.append_nil (vs.take _), ← spliceT (k := 2) (by decide)]; exact hl7⟩)
            | (with_reducible rename News _ _ _ _ => N9
               with_reducible rename Fr _ _ _ _ => F9
               k_steps
               refine leaveC_ret (hret _ _ _ (kpEnd hg hSf K5 F9) ?_)
               rw [ec, ez, binR_no (oz := some a) er (by first | exact neu1 (by assumption) | exact neu2 (by assumption) (by assumption))]
               exact ⟨rfl, (N9 (l, PySem.W.listOf vs.toArray n) (by k_mem)).1.trans hl.symm⟩)
        | some i5 =>
          rw [er] at r5
          obtain ⟨x9, dx, h1, h2, h3, t1, t2, t3, a9, m9, rfl, o1, o2, ⟨t4, rest, o3, o4⟩, f1, f2, f3⟩ := r5
          have N5 : News g5 _ h5 [(x9, instObj 379 dx), (dx, pieceDict h1 h2 h3 t1 t2 t3 (.ref a9) m9), (a9, tupOf (.int i5.code t4 :: rest)), (l, PySem.W.listOf vs.toArray n)] :=
            news_cons o1 (new_ne F4 f1) (hnone _ (fresh_back F4.keep f1)) (news_cons o2 (new_ne F4 f2) (hnone _ (fresh_back F4.keep f2)) (news_cons o3 (new_ne F4 f3) (hnone _ (fresh_back F4.keep f3)) (news_cons (hkeep (l, PySem.W.listOf vs.toArray n) (by k_mem) (fun q => nomatch q)) Pl.2.1 (hnone _ Pl.2.2) (newsNil F5))))
          have nx1 : x9 ≠ l := fun z => by rw [z, Pl.1] at f1; cases f1
          have nx2 : dx ≠ l := fun z => by rw [z, Pl.1] at f2; cases f2
          have nx3 : a9 ≠ l := fun z => by rw [z, Pl.1] at f3; cases f3
          have s1 := hid_back hg (fresh_back F4.keep f1) nx1
          have s2 := hid_back hg (fresh_back F4.keep f2) nx2
          have s3 := hid_back hg (fresh_back F4.keep f3) nx3
          clear F4 N4 KX T px py pz Gg Gf ND5
          have KX := G5.k
          have T := G5.t
          k_steps
          refine unhold ?_
          with_reducible rename News _ _ _ _ => N6
          with_reducible rename Fr _ _ _ _ => F6
          have Pb := N6 _ (.head _)
          refine set_line (vs := vs) (n := n) (ws := [.ref x9]) F6 N6 (by k_mem) (.head _) ?_ (IsPart.int _ _) IsPart.none (by lia) (Nat.le_of_ble_eq_true rfl) rfl rfl ?_
          · k_ne
          intro h7 n7 F7 hk7 hl7
          have N7 := newsNil F7
          replace o1 := hk7 (x9, instObj 379 dx) (by k_mem) nx1
          replace o2 := hk7 (dx, pieceDict h1 h2 h3 t1 t2 t3 (.ref a9) m9) (by k_mem) nx2
          replace o3 := hk7 (a9, tupOf (.int (i5).code t4 :: rest)) (by k_mem) nx3
          clear F6 N6 F5 N5
          k_steps
          k_steps
          refine leaveC_ret (hret _ _ _ (kpEnd hg hSf K5 F7) ?_)
          rw [ec, ez, binR_rep (oz := some a) er]
          exact ⟨rfl, x9, n7, by rw [← spliceT (k := 3) (by decide)]; exact hl7, x9, dx, h1, h2, h3, t1, t2, t3, a9, m9, rfl, o1, o2, ⟨t4, rest, o3, o4⟩, s1, s2, s3⟩
end

section
open Kunsigned_c
open Ksigned_c
open Kleast_c
open Kwidened_c
open Keqz_c
open Kadd_c
open Ksub_c
open Kmul_c
open Ktn_c
open Kand_c
open Kor_c
open Kxor_c
open Kshl_c
open Kshrs_c
open Kshru_c
open Krotl_c
open Krotr_c
open Keq_c
open Kne_c
open Kltu_c
open Klts_c
open Kgts_c
open Kles_c
open Kges_c
open Kgtu_c
open Kleu_c
open Kgeu_c
open Kltakes_c
open Klisone_c
open Klsigned_c
open Klplain_c
open Kplace_c
open Knarrow_c
open Kisun_c
open Kisbi_c
open Kneutral_c
open Kwidths_c
open Kclz_c
open Kctz_c
open Kpop_c
open Kdivu_c
open Kremu_c
open Kdivs_c
open Krems_c
open Kreckon1_c
open S1
open S3
open H443
/-- the pieces of a list bear these instructions -/
abbrev PiecesAt (g : Heap) : List Value → List Ins → Prop := RL (PieceAt g)
theorem PiecesAt.ext {g g' : Heap} (e : Ext g g') {vs : List Value} {is : List Ins} (h : PiecesAt g vs is) : PiecesAt g' vs is := RL.mono (fun _ _ p => p.ext e) h
/-- the last instruction, folded: how many go, and what comes -/
def lastF : List Ins → Option (Nat × Option Ins)
  | ix :: iy :: r => if isUnF ix.code = true then (constF iy).map fun a => (2, some (reck1F ix.code a))
    else if isBiF ix.code = true then binR ix.code (match r with | iz :: _ => constF iz | [] => none) (constF iy) else none
  | _ => none
def OkIns (i : Ins) : Prop := OkArg i ∧ (isUnF i.code = true ∨ isBiF i.code = true ∨ i.code = 65 ∨ i.code = 66 ∨ i.code = 32)
theorem FoldRes.back {s g h h' : Heap} {l : Addr} {vs : List Value} {v : Value} {o : Obj} (hg : g = hideAll s [l]) (e : Ext g h) (hl : h.get? l = some o) (hs : s.get? l = some o) : ∀ {r : Option (Nat × Option Ins)}, FoldRes l vs r h h' v → FoldRes l vs r s h' v := by
  have fr : ∀ a, h.get? a = none → s.get? a = none := fun a ha => hid_back hg (fresh_back e ha) (fun z => by rw [z, hl] at ha; cases ha)
  intro r R
  cases r with
  | none => exact ⟨R.1, R.2.trans (hl.trans hs.symm)⟩
  | some q =>
   obtain ⟨k, i⟩ := q
   cases i with
   | none => exact R
   | some i =>
    obtain ⟨e1, x, n, e2, x', dx, h1, h2, h3, t1, t2, t3, a, m, p0, p1, p2, p3, f1, f2, f3⟩ := R
    exact ⟨e1, x, n, e2, x', dx, h1, h2, h3, t1, t2, t3, a, m, p0, p1, p2, p3, fr _ f1, fr _ f2, fr _ f3⟩
theorem len_c {w : World} {A : Around} {E : Value → Shared → Prop} {s : Shared} {Q : Value → Shared → Prop} {l : Addr} {vs : List Value} (hl : s.heap.IsList l vs.toArray) (hz : vs.length ≤ 100) (h : ∀ t tk, Q (.int (vs.length : Int) t) { s with toks := tk }) :
    wpAny (model PR w) A (call (.builtin "len") [.ref l]) Q E s := by
  refine Calls.call_len_list hl (by rw [List.size_toArray]; lia) ?_
  rw [List.size_toArray]
  exact h _ _
theorem last2 {g : Heap} {vs : List Value} {is : List Ins} (h : PiecesAt g vs is) (hn : ¬ vs.length < 2) : ∃ p y x jp iy ix, vs = p ++ [Value.ref y, Value.ref x] ∧ is = jp ++ [iy, ix] ∧ PiecesAt g p jp ∧ PieceAt g y iy ∧ PieceAt g x ix := by
  obtain ⟨p, x, jp, ix, rfl, rfl, h1, h2⟩ := h.snoc (by lia)
  obtain ⟨q, y, jq, iy, rfl, rfl, h3, h4⟩ := h1.snoc (by rw [List.length_append] at hn; simp only [List.length_cons, List.length_nil] at hn; lia)
  exact ⟨q, y, x, jq, iy, ix, by rw [List.append_assoc]; rfl, by rw [List.append_assoc]; rfl, h3, h4, h2⟩
theorem last1 {g : Heap} {v : Value} {vs : List Value} {i : Ins} {is : List Ins} (h : PiecesAt g (v :: vs) (i :: is)) : ∃ p z jp iz, v :: vs = p ++ [Value.ref z] ∧ i :: is = jp ++ [iz] ∧ PieceAt g z iz := by
  obtain ⟨p, z, jp, iz, e1, e2, _, h4⟩ := h.snoc (by simp)
  exact ⟨p, z, jp, iz, e1, e2, h4⟩
theorem sub_hid {g h : Heap} {outer : List Env} {fs : List Addr} {L l : Addr} {m : Str → Option Value} (F : Fr g L h m) (SK : Stk g outer fs) (hl : g.get? l = none) : Ext (hideAll g fs) (hideAll h ([l] ++ L :: fs)) := fun b o e => by
  obtain ⟨e1, e2⟩ := hideAll_iff.mp e
  refine hideAll_iff.mpr ⟨F.keep b o e1, fun q => ?_⟩
  rcases List.mem_append.mp q with q | q
  · rw [List.mem_singleton.mp q, hl] at e1; cases e1
  · rcases List.mem_cons.mp q with rfl | q
    · rw [Heap.get?_none_of_le F.above] at e1; cases e1
    · exact e2 q
theorem foldLast_c (w : World) (low : LowR) (l : Addr) (vs : List Value) (is : List Ins) (n : Nat) (hok : ∀ i ∈ is, OkIns i) (hlen : vs.length ≤ 100) :
    CtK w 471 [.ref l] 11 [l] (fun h g => h.get? l = some (PySem.W.listOf vs.toArray n) ∧ PiecesAt g vs is) (FoldRes l vs (lastF is.reverse)) := by
  intro mean mg mb dp un gd outer fs s Q E G SK hSf hR hP hret
  obtain ⟨hl, hp⟩ := hP
  refine enterK (binds := [(Str.ofString "found", .ref l)]) (hid := [(l, PySem.W.listOf vs.toArray n)]) G SK hSf rfl (fun q hq => by rw [List.mem_singleton.mp hq]; exact hl) (by k_dflt k_is) (by k_dflt k_is) (Room.enter hR) (BindsTo.of_eq rfl) (locs rfl) (fun g h₁ tk₁ hg Gg Gf SKg F' N' hx => ?_)
  intro A9 E9
  have KX := Gg.k
  have T := Gg.t
  have hpf : PiecesAt (hideAll g fs) vs is := hp.ext (fun b o e => hideAll_iff.mpr ⟨hx b o e, fun q => (hideAll_iff.mp e).2 (List.mem_append_right _ q)⟩)
  replace hp := hp.ext hx
  by_cases h2 : vs.length < 2
  · k_steps
    all_goals first
      | (exfalso; lia)
      | (with_reducible rename News _ _ _ _ => N9
         with_reducible rename Fr _ _ _ _ => F9
         k_steps
         refine leaveC_ret (hret _ _ _ (kpEnd hg hSf (Kp.refl fs g) F9) ?_)
         have e2 := hp.length
         have e3 : lastF is.reverse = none := by
           match is, e2 with
           | [], _ => rfl
           | [_], _ => rfl
           | _ :: _ :: _, e2 => simp only [List.length_cons] at e2; lia
         rw [e3]
         exact ⟨rfl, (N9 (l, PySem.W.listOf vs.toArray n) (by k_mem)).1.trans hl.symm⟩)
  · obtain ⟨p, y, x, jp, iy, ix, hvs, his, hpp, py, px⟩ := last2 hpf h2
    have px' : PieceAt g x ix := px.ext fun b o e => of_hideAll _ e
    have hlast : vs.getLast? = some (.ref x) := by rw [hvs]; simp
    have hir : is.reverse = ix :: iy :: jp.reverse := by rw [his]; simp
    have oy : OkIns iy := hok _ (by rw [his]; simp)
    have ox : OkIns ix := hok _ (by rw [his]; simp)
    rw [hir] at hret
    k_steps
    · refine unhold ?_
      with_reducible rename News _ _ _ _ => N4
      with_reducible rename Fr _ _ _ _ => F4
      with_reducible rename isUnF _ = true => hu
      have Pl := N4 (l, PySem.W.listOf vs.toArray n) (by k_mem)
      refine useK (numU_c w low l x y ix iy vs n hu oy.1 p hvs hlen) F4 N4 Gf SKg (fun a q => by rw [List.mem_singleton.mp q]; exact ⟨_, by k_mem⟩) rfl rfl (Room.down hR (by decide) rfl rfl) ⟨Pl.1, px.ext (sub_hid F4 SKg Pl.2.2), py.ext (sub_hid F4 SKg Pl.2.2)⟩ ?_
      intro g5 v5 h5 tk5 F5 hkeep hnone K5 G5 SK5 _ r5
      k_steps
      refine leaveC_ret (hret _ _ _ (kpEnd hg hSf K5 F5) (FoldRes.back hg F4.keep Pl.1 hl ?_))
      simp only [lastF, if_pos hu]
      exact r5
    · refine unhold ?_
      with_reducible rename News _ _ _ _ => N4
      with_reducible rename Fr _ _ _ _ => F4
      with_reducible rename isUnF _ = false => hu
      with_reducible rename isBiF _ = true => hb
      have Pl := N4 (l, PySem.W.listOf vs.toArray n) (by k_mem)
      cases hpp with
      | nil =>
        refine useK (numB1_c w l x y ix iy vs n hu oy.1 hvs) F4 N4 Gf SKg (fun a q => by rw [List.mem_singleton.mp q]; exact ⟨_, by k_mem⟩) rfl rfl (Room.down hR (by decide) rfl rfl) ⟨Pl.1, px.ext (sub_hid F4 SKg Pl.2.2), py.ext (sub_hid F4 SKg Pl.2.2)⟩ ?_
        intro g5 v5 h5 tk5 F5 hkeep hnone K5 G5 SK5 _ r5
        k_steps
        refine leaveC_ret (hret _ _ _ (kpEnd hg hSf K5 F5) (FoldRes.back hg F4.keep Pl.1 hl ?_))
        simp only [lastF, if_neg (show ¬ isUnF ix.code = true by rw [hu]; decide), if_pos hb]
        exact r5
      | cons p1 r1 =>
        obtain ⟨p', z, jp', iz, e1, e2, pz⟩ := last1 (RL.cons p1 r1)
        rw [e1] at hvs
        rw [e2] at his hir hret
        have oz : OkIns iz := hok _ (by rw [his]; simp)
        refine useK (numB2_c w low l x y z ix iy iz vs n hu hb oy.1 oz.1 p' (by rw [hvs]; simp) hlen) F4 N4 Gf SKg (fun a q => by rw [List.mem_singleton.mp q]; exact ⟨_, by k_mem⟩) rfl rfl (Room.down hR (by decide) rfl rfl) ⟨Pl.1, px.ext (sub_hid F4 SKg Pl.2.2), py.ext (sub_hid F4 SKg Pl.2.2), pz.ext (sub_hid F4 SKg Pl.2.2)⟩ ?_
        intro g5 v5 h5 tk5 F5 hkeep hnone K5 G5 SK5 _ r5
        k_steps
        refine leaveC_ret (hret _ _ _ (kpEnd hg hSf K5 F5) (FoldRes.back hg F4.keep Pl.1 hl ?_))
        simp only [lastF, if_neg (show ¬ isUnF ix.code = true by rw [hu]; decide), if_pos hb, List.reverse_append, List.reverse_cons, List.reverse_nil, List.nil_append, List.singleton_append, List.cons_append]
        exact r5
    · exfalso
      with_reducible rename isUnF _ = false => hu
      with_reducible rename isBiF _ = false => hb
      have h9 := ox.2
      rw [hu, hb] at h9
      simp_all
      lia
    · with_reducible rename News _ _ _ _ => N9
      with_reducible rename Fr _ _ _ _ => F9
      with_reducible rename isUnF _ = false => hu
      with_reducible rename isBiF _ = false => hb
      k_steps
      refine leaveC_ret (hret _ _ _ (kpEnd hg hSf (Kp.refl fs g) F9) ?_)
      have e3 : lastF (ix :: iy :: jp.reverse) = none := by
        simp only [lastF, if_neg (show ¬ isUnF ix.code = true by rw [hu]; decide), if_neg (show ¬ isBiF ix.code = true by rw [hb]; decide)]
      rw [e3]
      exact ⟨rfl, (N9 (l, PySem.W.listOf vs.toArray n) (by k_mem)).1.trans hl.symm⟩
end

section
open Kunsigned_c
open Ksigned_c
open Kleast_c
open Kwidened_c
open Keqz_c
open Kadd_c
open Ksub_c
open Kmul_c
open Ktn_c
open Kand_c
open Kor_c
open Kxor_c
open Kshl_c
open Kshrs_c
open Kshru_c
open Krotl_c
open Krotr_c
open Keq_c
open Kne_c
open Kltu_c
open Klts_c
open Kgts_c
open Kles_c
open Kges_c
open Kgtu_c
open Kleu_c
open Kgeu_c
open Kltakes_c
open Klisone_c
open Klsigned_c
open Klplain_c
open Kplace_c
open Knarrow_c
open Kisun_c
open Kisbi_c
open Kneutral_c
open Kwidths_c
open Kclz_c
open Kctz_c
open Kpop_c
open Kdivu_c
open Kremu_c
open Kdivs_c
open Krems_c
open Kreckon1_c
section
variable {prog : Program} {w : World} {A : Around} {E : Value → Shared → Prop} {s : Shared} {env : Env} {Q : Flow → Shared → Prop}
theorem While_any {test : Expr} {body : List Stmt} {pos : Pos} (J : Nat → Shared → Prop) {n₀ : Nat} (h0 : J n₀ s)
    (turn : ∀ n s', J n s' → wpAny (model prog w) A (isTrue test env (eval test env)) (fun b s₂ => if b = true then wpAny (model prog w) A (execs body env) (fun f s₃ => Hold (f = .next ∧ ∃ n', n' < n ∧ J n' s₃)) E s₂ else Q .next s₂) E s')
    (hE : PassesOwn (model prog w) A env E := by passes_own) : wpAny (model prog w) A (exec (.While test body [] pos) env) Q E s := by
  refine wpAny_While (codeAny_whileLoop J (fun n s' hJ => ?_) n₀ h0)
  refine wpAny_mono (turn n s' hJ) (fun b s₂ h₂ => ?_) hE
  cases b with
  | false =>
    simp only [Bool.false_eq_true, if_false] at h₂ ⊢
    exact wpAny_execs_nil h₂
  | true =>
    simp only [if_true] at h₂ ⊢
    refine wpAny_mono h₂ (fun f s₃ h₃ => ?_) hE
    obtain ⟨rfl, n', hn, h4⟩ := h₃
    exact ⟨n', hn, h4⟩
abbrev LInv : Type := Nat → Heap → (Str → Option Value) → List (Addr × Obj) → Prop
inductive TurnNext (s : Shared) (L : Addr) (J : LInv) (I : Addr) (oI : Obj) (i : Nat) (s₃ : Shared) : Prop
  | mk : ∀ g m news h tk, (s₃ = { s with heap := h, toks := tk }) → (Fr g L h m) → (News g L h ((I, oI) :: news)) → ((∀ p ∈ news, p.1 ≠ I)) → (J i g m news) → TurnNext s L J I oI i s₃
def TurnOut (s : Shared) (L : Addr) (J : LInv) (Q : Flow → Shared → Prop) (I : Addr) (oI : Obj) (i : Nat) (f : Flow) (s₃ : Shared) : Prop :=
  match f with
  | .ret v => Q (.ret v) s₃
  | .brk => False
  | _ => TurnNext s L J I oI i s₃
theorem TurnOut.ret {s : Shared} {L : Addr} {J : LInv} {Q : Flow → Shared → Prop} {I : Addr} {oI : Obj} {i : Nat} {v : Value} {s₃ : Shared} (h : Q (.ret v) s₃) : TurnOut s L J Q I oI i (.ret v) s₃ := h
theorem TurnOut.next {s : Shared} {L : Addr} {J : LInv} {Q : Flow → Shared → Prop} {I : Addr} {oI : Obj} {i : Nat} {g h : Heap} {m : Str → Option Value} {news : List (Addr × Obj)} {tk : Nat}
    (F : Fr g L h m) (N : News g L h ((I, oI) :: news)) (ne : ∀ p ∈ news, p.1 ≠ I) (hJ : J i g m news) : TurnOut s L J Q I oI i .next { s with heap := h, toks := tk } := ⟨g, m, news, h, tk, rfl, F, N, ne, hJ⟩
structure ForSpec (prog : Program) (w : World) (A : Around) (E : Value → Shared → Prop) (env : Env) (x : Str) (body : List Stmt) (Q : Flow → Shared → Prop) (L : Addr) (ax : Addr) (vs : List Value) (s : Shared) (J : LInv) : Prop where
  has : ∀ i g m news h, J i g m news → Fr g L h m → News g L h news → h.IsList ax vs.toArray
  turn : ∀ i v I oI g m news h tk, vs[i]? = some v → J i g m news → Fr g L h (fun y => if y = x then some v else m y) → News g L h ((I, oI) :: news) → (∀ p ∈ news, p.1 ≠ I) → ax ≠ I →
    wpAny (model prog w) A (execs body env) (TurnOut s L J Q I oI (i + 1)) E { s with heap := h, toks := tk }
  done : ∀ g m news h tk, J vs.length g m news → Fr g L h m → News g L h news → Q .next { s with heap := h, toks := tk }
inductive ForStart (prog : Program) (w : World) (A : Around) (E : Value → Shared → Prop) (env : Env) (x : Str) (body : List Stmt) (Q : Flow → Shared → Prop) (L : Addr) (xv : Value) (s₁ : Shared) : Prop
  | mk : ∀ (ax : Addr) (vs : List Value) (g : Heap) (m : Str → Option Value) (news : List (Addr × Obj)) (J : LInv), (xv = .ref ax) → (s₁.heap.IsList ax vs.toArray) → (Fr g L s₁.heap m) → (News g L s₁.heap news) → (J 0 g m news) → ForSpec prog w A E env x body Q L ax vs s₁ J → ForStart prog w A E env x body Q L xv s₁
inductive ForJ (s₁ : Shared) (I ax L : Addr) (J : LInv) (n k : Nat) (s' : Shared) : Prop
  | mk : ∀ (h' : Heap) (tk : Nat) (g : Heap) (m : Str → Option Value) (news : List (Addr × Obj)) (i : Nat), (s' = { s₁ with heap := h', toks := tk }) → (h'.IsListIter I ax i) → (Fr g L h' m) → (News g L h' news) → (∀ p ∈ news, p.1 ≠ I) → (g.get? I = none) → (J i g m news) → (i ≤ n) → (k = n + 1 - i) → ForJ s₁ I ax L J n k s'
/-- a for loop over a list, with a base and a ledger that may change from turn to turn -/
theorem For_any {iter : Expr} {x : Str} {px pos : Pos} {body : List Stmt} {L : Addr} (hh : A.handled = none) (hL : env.locals = L) (hx : env.kindOf x = some .local)
    (hp : (env.scope.kind == .class || (env.scope.kind == .module && env.locals != env.globals)) = false)
    (h : wpAny (model prog w) A (eval iter env) (fun xv s₁ => Hold (ForStart prog w A E env x body Q L xv s₁)) E s)
    (hs : ∀ x, foldedSetIterable iter env x = pure x := by intro _; rfl) (hE : PassesOwn (model prog w) A env E := by passes_own) :
    wpAny (model prog w) A (exec (.For (.Name x px) iter body [] pos) env) Q E s := by
  subst hL
  refine wpAny_For (wpAny_mono h (fun xv s₁ h₁ => ?_) fun _ _ e => e) hs
  obtain ⟨ax, vs, g, m, news, J, rfl, hl, F, N, h0, S⟩ := h₁
  have lt : ax < s₁.heap.objs.size := by obtain ⟨_, e, _⟩ := hl; exact Heap.lt_size e
  have hne : ax ≠ s₁.heap.objs.size := Nat.ne_of_lt lt
  refine wpAny_pyIter_list hl ?_
  have W := Walks.list (prog := prog) (w := w) hh s₁.heap.objs.size ax hne vs.toArray
  have sz : vs.toArray.size = vs.length := by simp
  generalize hI : s₁.heap.objs.size = I at *
  have hLI : env.locals ≠ I := fun z => absurd F.ns.lt (by rw [z, ← hI]; exact Nat.lt_irrefl _)
  refine codeAny_forLoop
    (ForJ s₁ I ax env.locals J vs.length) ?_ (vs.length + 1)
    ⟨_, s₁.toks, g, m, news, 0, rfl, ⟨_, by rw [← hI]; exact Heap.get?_push_size _ rfl, rfl, rfl⟩, F.push _, (fun p hp => ⟨Heap.get?_push_of_some _ (N p hp).1, (N p hp).2⟩), (fun p hp z => by have := Heap.lt_size (N p hp).1; rw [z, hI] at this; exact Nat.lt_irrefl _ this), (by
      cases e : g.get? I with
      | none => rfl
      | some o => have := Heap.lt_size (F.keep _ _ e); rw [hI] at this; exact absurd this (Nat.lt_irrefl _)), h0, Nat.zero_le _, rfl⟩
  rintro k s' ⟨h', tk, g', m', news', i, rfl, hit, F', N', ne', gI, hJ, hi, rfl⟩
  have hl' := S.has i g' m' news' h' hJ F' N'
  by_cases hlt : i < vs.length
  · refine W.item i _ _ _ (by rw [sz]; exact hlt) ⟨hit, hl'⟩ fun v h₁ tk₁ hP hst₁ hk₁ => ?_
    have hP' : vs[i]? = some v := by simpa using hP
    have F₁ : Fr g' env.locals h₁ m' := ⟨F'.ns.at' fun o e => hk₁ _ o (by simpa using hLI) e, fun b o e => hk₁ b o (fun z => by rw [List.mem_singleton.mp z, gI] at e; cases e) (F'.keep b o e), F'.above⟩
    have N₁ : News g' env.locals h₁ news' := fun p hp => ⟨hk₁ _ _ (by simpa using ne' p hp) (N' p hp).1, (N' p hp).2⟩
    obtain ⟨oI, hoI, hcI, hdI⟩ := hst₁.1
    refine wpAny_assign_Name (wpAny_storeName_local hx F₁.ns (fun h₂ hn₂ hs₂ => ?_) hp)
    have F₂ := F₁.set hn₂ hs₂
    have NI : News g' env.locals h₂ ((I, oI) :: news') := fun p hp => by
      rcases List.mem_cons.mp hp with rfl | hp
      · exact ⟨(hs₂.2 _ (Ne.symm hLI)).trans hoI, Ne.symm hLI, gI⟩
      · exact N₁.set hs₂ p hp
    refine wpAny_mono (S.turn i v I oI g' m' news' h₂ _ hP' hJ F₂ NI ne' hne) (fun f s₃ h₃ => ?_) hE
    have fin : TurnNext s₁ env.locals J I oI (i + 1) s₃ → ∃ m_1, m_1 < vs.length + 1 - i ∧ ForJ s₁ I ax env.locals J vs.length m_1 s₃ := by
      rintro ⟨g3, m3, news3, h3, tk3, rfl, F3, N3, ne3, J3⟩
      have P3 := N3 _ (.head _)
      exact ⟨vs.length + 1 - (i + 1), by lia, h3, tk3, g3, m3, news3, i + 1, rfl, ⟨oI, P3.1, hcI, hdI⟩, F3, (fun p hp => N3 p (.tail _ hp)), ne3, P3.2.2, J3, hlt, rfl⟩
    cases f with
    | ret v => exact h₃
    | brk => exact h₃.elim
    | next => exact fin h₃
    | cont => exact fin h₃
  · have hin : i = vs.length := by lia
    subst hin
    refine W.done _ _ _ (by rw [sz]; exact ⟨hit, hl'⟩) fun h₁ tk₁ hk₁ => wpAny_execs_nil ?_
    have F₁ : Fr g' env.locals h₁ m' := ⟨F'.ns.at' fun o e => hk₁ _ o (by simpa using hLI) e, fun b o e => hk₁ b o (fun z => by rw [List.mem_singleton.mp z, gI] at e; cases e) (F'.keep b o e), F'.above⟩
    have N₁ : News g' env.locals h₁ news' := fun p hp => ⟨hk₁ _ _ (by simpa using ne' p hp) (N' p hp).1, (N' p hp).2⟩
    exact S.done g' m' news' h₁ _ hJ F₁ N₁
end
end

section
open Kunsigned_c
open Ksigned_c
open Kleast_c
open Kwidened_c
open Keqz_c
open Kadd_c
open Ksub_c
open Kmul_c
open Ktn_c
open Kand_c
open Kor_c
open Kxor_c
open Kshl_c
open Kshrs_c
open Kshru_c
open Krotl_c
open Krotr_c
open Keq_c
open Kne_c
open Kltu_c
open Klts_c
open Kgts_c
open Kles_c
open Kges_c
open Kgtu_c
open Kleu_c
open Kgeu_c
open Kltakes_c
open Klisone_c
open Klsigned_c
open Klplain_c
open Kplace_c
open Knarrow_c
open Kisun_c
open Kisbi_c
open Kneutral_c
open Kwidths_c
open Kclz_c
open Kctz_c
open Kpop_c
open Kdivu_c
open Kremu_c
open Kdivs_c
open Krems_c
open Kreckon1_c
open S1
open S3
open H369
open H471
open H478
open S4
open S5
open S6
open S7
open S8
def KG (g : Heap) (fs : List Addr) (tl : List (Addr × Obj)) (a : Addr) (o : Obj) : Prop := (hideAll g fs).get? a = some o ∨ (a, o) ∈ tl
inductive PieceBy (K : Addr → Obj → Prop) (x : Addr) (i : Ins) : Prop
  | mk : ∀ dx h1 h2 h3 t1 t2 t3 a n t rest, (K x (instObj 379 dx)) → (K dx (pieceDict h1 h2 h3 t1 t2 t3 (.ref a) n)) → (K a (tupOf (.int i.code t :: rest))) → (ArgIs rest i.arg) → PieceBy K x i
theorem PieceBy.mono {K K' : Addr → Obj → Prop} (e : ∀ a o, K a o → K' a o) {x : Addr} {i : Ins} (p : PieceBy K x i) : PieceBy K' x i := by
  obtain ⟨dx, h1, h2, h3, t1, t2, t3, a, n, t, rest, p1, p2, p3, p4⟩ := p
  exact ⟨dx, h1, h2, h3, t1, t2, t3, a, n, t, rest, e _ _ p1, e _ _ p2, e _ _ p3, p4⟩
theorem PieceBy.at {h : Heap} {x : Addr} {i : Ins} (p : PieceBy (fun a o => h.get? a = some o) x i) : PieceAt h x i := by
  obtain ⟨dx, h1, h2, h3, t1, t2, t3, a, n, t, rest, p1, p2, p3, p4⟩ := p
  exact ⟨dx, h1, h2, h3, t1, t2, t3, a, n, p1, p2, t, rest, p3, p4⟩
theorem PieceAt.by {h : Heap} {x : Addr} {i : Ins} (p : PieceAt h x i) : PieceBy (fun a o => h.get? a = some o) x i := by
  obtain ⟨dx, h1, h2, h3, t1, t2, t3, a, n, p1, p2, t, rest, p3, p4⟩ := p
  exact ⟨dx, h1, h2, h3, t1, t2, t3, a, n, t, rest, p1, p2, p3, p4⟩
abbrev PiecesBy (K : Addr → Obj → Prop) : List Value → List Ins → Prop := RL (PieceBy K)
theorem PiecesBy.mono {K K' : Addr → Obj → Prop} (e : ∀ a o, K a o → K' a o) {vs : List Value} {is : List Ins} (h : PiecesBy K vs is) : PiecesBy K' vs is := RL.mono (fun _ _ p => p.mono e) h
theorem PiecesBy.at {h : Heap} {vs : List Value} {is : List Ins} (p : PiecesBy (fun a o => h.get? a = some o) vs is) : PiecesAt h vs is := RL.mono (fun _ _ p => p.at) p
def stepL (is : List Ins) : Option (List Ins) := (lastF is.reverse).map fun q => is.take (is.length - q.1) ++ q.2.toList
def normL : Nat → List Ins → List Ins
  | 0, is => is
  | n + 1, is => match stepL is with
    | none => is
    | some js => normL n js
theorem binR_ge {c : Int} {oz oy : Option Int} {q : Nat × Option Ins} (h : binR c oz oy = some q) : (q.1 = 2 ∧ q.2 = none) ∨ (q.1 = 3 ∧ oz ≠ none) := by
  unfold binR at h
  cases oy with
  | none => cases h
  | some b =>
    dsimp only at h
    cases oz with
    | none =>
      simp only [Option.bind_none] at h
      split at h
      · cases h; exact .inl ⟨rfl, rfl⟩
      · cases h
    | some a =>
      simp only [Option.bind_some] at h
      cases e : reck2F c a b with
      | some i => rw [e] at h; cases h; exact .inr ⟨rfl, by simp⟩
      | none =>
        rw [e] at h
        dsimp only at h
        split at h
        · cases h; exact .inl ⟨rfl, rfl⟩
        · cases h
theorem lastF_ge : ∀ {l : List Ins} {q : Nat × Option Ins}, lastF l = some q → 2 ≤ q.1 ∧ q.1 ≤ l.length
  | [], _, h => nomatch h
  | [_], _, h => nomatch h
  | ix :: iy :: r, q, h => by
    simp only [lastF] at h
    by_cases hu : isUnF ix.code = true
    · rw [if_pos hu] at h
      cases e : constF iy with
      | none => rw [e] at h; cases h
      | some a => rw [e] at h; cases h; exact ⟨Nat.le_refl _, by simp⟩
    · rw [if_neg hu] at h
      by_cases hb : isBiF ix.code = true
      · rw [if_pos hb] at h
        rcases binR_ge h with ⟨e, _⟩ | ⟨e, ne⟩
        · rw [e]; simp
        · rw [e]
          cases r with
          | nil => exact absurd rfl ne
          | cons _ _ => simp
      · rw [if_neg hb] at h; cases h
theorem stepL_lt {is js : List Ins} (h : stepL is = some js) : js.length < is.length := by
  unfold stepL at h
  cases e : lastF is.reverse with
  | none => rw [e] at h; cases h
  | some q =>
    rw [e] at h
    cases h
    have := lastF_ge e
    simp only [List.length_reverse] at this
    simp only [List.length_append, List.length_take]
    have : q.2.toList.length ≤ 1 := by cases q.2 <;> simp
    lia
theorem normL_fuel : ∀ (n : Nat) (is : List Ins), is.length ≤ n → normL n is = normL is.length is
  | 0, is, h => by rw [show is.length = 0 by lia]
  | n + 1, is, h => by
    cases e : stepL is with
    | none =>
      rw [show normL (n + 1) is = is by simp only [normL, e]]
      cases q : is.length with
      | zero => rfl
      | succ k => simp only [normL, e]
    | some js =>
      have lt := stepL_lt e
      obtain ⟨k, hk⟩ : ∃ k, is.length = k + 1 := ⟨is.length - 1, by lia⟩
      rw [hk]
      simp only [normL, e]
      rw [normL_fuel n js (by lia), normL_fuel k js (by lia)]
termination_by n => n
def normF (is : List Ins) : List Ins := normL is.length is
theorem normF_none {is : List Ins} (h : lastF is.reverse = none) : normF is = is := by
  unfold normF
  cases q : is.length with
  | zero => rfl
  | succ k => simp only [normL, stepL, h, Option.map_none]
theorem normF_some {is : List Ins} {q : Nat × Option Ins} (h : lastF is.reverse = some q) : normF is = normF (is.take (is.length - q.1) ++ q.2.toList) := by
  have e : stepL is = some (is.take (is.length - q.1) ++ q.2.toList) := by unfold stepL; rw [h]; rfl
  have lt := stepL_lt e
  unfold normF
  obtain ⟨k, hk⟩ : ∃ k, is.length = k + 1 := ⟨is.length - 1, by lia⟩
  have e2 : normL is.length is = normL k (is.take (is.length - q.1) ++ q.2.toList) := by
    rw [hk]
    simp only [normL, e]
    rw [hk]
  rw [e2, normL_fuel k _ (by lia)]
def foldN (acc : List Ins) : List Ins → List Ins
  | [] => acc
  | i :: is => foldN (normF (acc ++ [i])) is
theorem foldN_snoc : ∀ {acc is : List Ins} {i : Ins}, foldN acc (is ++ [i]) = normF (foldN acc is ++ [i])
  | _, [], _ => rfl
  | _, _ :: is, _ => by simp only [List.cons_append, foldN]; exact foldN_snoc
inductive FwJ (w : World) (mean : ExcName → Option Value) (mg mb : Str → Option Value) (outer : List Env) (fs : List Addr) (s : Shared) (g : Heap) (m' : Str → Option Value) (I : Addr) (oI : Obj) (Fa l : Addr) (vs : List Value) (n i : Nat) (is : List Ins) (k : Nat) (s' : Shared) : Prop
  | mk : ∀ g2 h2 tk2 tl2 fvs2 fis2 nF2, (s' = { s with heap := h2, toks := tk2 }) → (Fr g2 s.heap.objs.size h2 m') → (News g2 s.heap.objs.size h2 ([(I, oI), (Fa, PySem.W.listOf fvs2.toArray nF2), (l, PySem.W.listOf vs.toArray n)] ++ tl2)) → (Kp [] fs g g2) → (Gd w mean mg mb g2) → (Stk g2 outer fs) → (PiecesBy (KG g2 fs tl2) fvs2 fis2) → (normF fis2 = foldN [] (is.take (i + 1))) → ((∀ p ∈ tl2, p.1 ≠ Fa)) → ((∀ p ∈ tl2, p.1 ≠ l)) → ((∀ p ∈ tl2, p.1 ≠ I)) → (fvs2.length ≤ i + 1) → ((∀ j ∈ fis2, OkIns j)) → (k = fis2.length) → FwJ w mean mg mb outer fs s g m' I oI Fa l vs n i is k s'
inductive FpJ (w : World) (mean : ExcName → Option Value) (mg mb : Str → Option Value) (outer : List Env) (fs : List Addr) (g₀ : Heap) (l F : Addr) (vs : List Value) (is : List Ins) (n : Nat) (i : Nat) (g : Heap) (m : Str → Option Value) (news : List (Addr × Obj)) : Prop
  | mk : ∀ tl fvs fis nF, (news = (F, PySem.W.listOf fvs.toArray nF) :: (l, PySem.W.listOf vs.toArray n) :: tl) → (m (Str.ofString "found") = some (.ref F)) → (m (Str.ofString "pieces") = some (.ref l)) → (Kp [] fs g₀ g) → (Gd w mean mg mb g) → (Stk g outer fs) → (PiecesBy (KG g fs tl) fvs fis) → (fis = foldN [] (is.take i)) → ((∀ p ∈ tl, p.1 ≠ F)) → ((∀ p ∈ tl, p.1 ≠ l)) → (@Ne Nat F l) → (fvs.length ≤ i) → ((∀ j ∈ fis, OkIns j)) → FpJ w mean mg mb outer fs g₀ l F vs is n i g m news
theorem constI_ok (b x : Int) : OkIns (constI b x) := by
  refine ⟨fun _ z => (nomatch z), ?_⟩
  unfold constI
  (try dsimp only)
  split <;> simp
theorem binR_ok {c : Int} {oz oy : Option Int} {k : Nat} {i : Ins} (h : binR c oz oy = some (k, some i)) : OkIns i := by
  unfold binR at h
  cases oy with
  | none => cases h
  | some b =>
    dsimp only at h
    cases e : (oz.bind fun a => reck2F c a b) with
    | none => rw [e] at h; dsimp only at h; split at h <;> cases h
    | some i' =>
      rw [e] at h
      cases h
      cases oz with
      | none => cases e
      | some a =>
        simp only [Option.bind_some, reck2F] at e
        cases e2 : r2F c (a % 2 ^ (widthsF c).1.toNat) (b % 2 ^ (widthsF c).1.toNat) with
        | none => rw [e2] at e; cases e
        | some z => rw [e2] at e; cases e; exact constI_ok _ _
theorem lastF_ok : ∀ {l : List Ins} {k : Nat} {i : Ins}, lastF l = some (k, some i) → OkIns i
  | [], _, _, h => nomatch h
  | [_], _, _, h => nomatch h
  | ix :: iy :: r, k, i, h => by
    simp only [lastF] at h
    by_cases hu : isUnF ix.code = true
    · rw [if_pos hu] at h
      cases e : constF iy with
      | none => rw [e] at h; cases h
      | some a => rw [e] at h; cases h; exact constI_ok _ _
    · rw [if_neg hu] at h
      by_cases hb : isBiF ix.code = true
      · rw [if_pos hb] at h
        exact binR_ok h
      · rw [if_neg hb] at h; cases h
theorem kgHid {g h : Heap} {outer : List Env} {fs : List Addr} {L F : Addr} {m : Str → Option Value} {pre tl : List (Addr × Obj)} (Fx : Fr g L h m) (N : News g L h (pre ++ tl)) (SK : Stk g outer fs) (hF : g.get? F = none) (ht : ∀ p ∈ tl, p.1 ≠ F) : ∀ a o, KG g fs tl a o → (hideAll h ([F] ++ L :: fs)).get? a = some o := by
  rintro a o (e | e)
  · exact sub_hid Fx SK hF a o e
  · have P := N (a, o) (List.mem_append_right _ e)
    refine hideAll_iff.mpr ⟨P.1, fun q => ?_⟩
    rcases List.mem_append.mp q with q | q
    · exact ht _ e (List.mem_singleton.mp q)
    · rcases List.mem_cons.mp q with q | q
      · exact P.2.1 q
      · exact off_fs SK P.2.2 q
theorem KG.move {g g' : Heap} {fs : List Addr} {tl tl' : List (Addr × Obj)} (e : Ext (hideAll g fs) (hideAll g' fs)) (s : ∀ p ∈ tl, p ∈ tl') : ∀ a o, KG g fs tl a o → KG g' fs tl' a o := by
  rintro a o (q | q)
  · exact .inl (e _ _ q)
  · exact .inr (s _ q)
theorem spliceAll {vs ws : List Value} : splice vs.toArray ws.toArray none none = ws.toArray := by
  unfold splice
  rw [kms_bounds]
  simp only [kms_lo, kms_hi, List.size_toArray]
  have h2 : (max ((0 : Nat) : Int) ((vs.length : Nat) : Int)).toNat = vs.length := (congrArg Int.toNat (Int.max_eq_right (Int.ofNat_le.mpr (Nat.zero_le _)))).trans (Int.toNat_natCast _)
  rw [h2]
  apply Array.toList_inj.mp
  simp
theorem Kp.hide {fs : List Addr} {g g' : Heap} (K : Kp [] fs g g') : Ext (hideAll g fs) (hideAll g' fs) := fun b o e => hideAll_iff.mpr ⟨K.keep b o e, (hideAll_iff.mp e).2⟩
theorem foldPieces_c (w : World) (low : LowR) (l : Addr) (vs : List Value) (is : List Ins) (n : Nat) (hok : ∀ i ∈ is, OkIns i) (hlen : vs.length ≤ 100) :
    CtK w 478 [.ref l] 13 [l] (fun h g => h.get? l = some (PySem.W.listOf vs.toArray n) ∧ PiecesAt g vs is)
      (fun h h' v => v = .none ∧ ∃ vs' n', h'.get? l = some (PySem.W.listOf vs'.toArray n') ∧ vs'.length ≤ vs.length ∧ PiecesAt h' vs' (foldN [] is)) := by
  intro mean mg mb dp un gd outer fs s Q E G SK hSf hR hP hret
  obtain ⟨hl, hp⟩ := hP
  refine enterK (binds := [(Str.ofString "pieces", .ref l)]) (hid := [(l, PySem.W.listOf vs.toArray n)]) G SK hSf rfl (fun q hq => by rw [List.mem_singleton.mp hq]; exact hl) (by k_dflt k_is) (by k_dflt k_is) (Room.enter hR) (BindsTo.of_eq rfl) (locs rfl) (fun g h₁ tk₁ hg Gg Gf SKg F' N' hx => ?_)
  intro A9 E9
  have KX := Gg.k
  have T := Gg.t
  have hpf : PiecesAt (hideAll g fs) vs is := hp.ext (fun b o e => hideAll_iff.mpr ⟨hx b o e, fun q => (hideAll_iff.mp e).2 (List.mem_append_right _ q)⟩)
  k_steps
  refine unhold ?_
  with_reducible rename News _ _ _ _ => N2
  with_reducible rename Fr _ _ _ _ => F2
  obtain ⟨Fa, l1, rfl⟩ : ∃ Fa, l < Fa ∧ Fa = _ := ⟨_, by assumption, rfl⟩
  have PF := N2 _ (.head _)
  have Pl := N2 _ (.tail _ (.head _))
  have hFl : @Ne Nat Fa l := (Nat.ne_of_lt l1).symm
  refine For_any (L := s.heap.objs.size) rfl rfl rfl rfl ?_
  k_steps
  refine unhold ⟨l, vs, g, _, _, FpJ w mean mg mb outer fs g l Fa vs is n, rfl, ⟨_, Pl.1, rfl, _, rfl⟩, F2, N2, ⟨[], [], [], 0, rfl, rfl, rfl, Kp.refl fs g, Gg, SKg, .nil, rfl, (fun _ q => nomatch q), (fun _ q => nomatch q), hFl, Nat.zero_le _, (fun _ q => nomatch q)⟩, ?_, ?_, ?_⟩
  · rintro i g1 m1 news1 h1 ⟨tl, fvs, fis, nF, rfl, _⟩ F3 N3
    exact ⟨_, (N3 _ (.tail _ (.head _))).1, rfl, _, rfl⟩
  · rintro i v I oI g1 m1 news1 h1 tk1 hv ⟨tl, fvs, fis, nF, rfl, hm1, hm2, K1, G1, SK1, hpb, hfis, ht1, ht2, _, hle, hok1⟩ F3 N3 neI aI
    obtain ⟨x, jx, rfl, hjx, px⟩ := hpf.get hv
    replace px := px.ext (Kp.hide K1)
    have px1 : PieceAt g1 x jx := px.ext fun b o e => of_hideAll _ e
    obtain ⟨dx, h1', h2', h3', t1', t2', t3', a', n', p1, p2, _⟩ := id px1
    have nIF : @Ne Nat I Fa := fun z => neI _ (.head _) z.symm
    have nIl : @Ne Nat I l := fun z => neI _ (.tail _ (.head _)) z.symm
    have KX1 := G1.k
    have T1 := G1.t
    refine frN (l := [(Str.ofString "piece", .ref x), (Str.ofString "found", .ref Fa), (Str.ofString "pieces", .ref l)]) F3 ⟨rfl, hm1, hm2, ⟨⟩⟩ ?_
    intro m0 m2 F4
    clear F3 F2 N2 KX T
    k_steps
    refine unhold ?_
    refine For_any (L := s.heap.objs.size) rfl rfl rfl rfl ?_
    k_steps
    refine unhold ?_
    with_reducible rename News _ _ _ _ => N5
    with_reducible rename Fr _ _ _ _ => F5
    show wpAny _ _ (call (.ref 369) [.ref x]) _ _ _
    refine parts_c w x jx mean mg mb _ _ _ _ _ _ _ (G1.ext F5.keep) (Room.down hR (by decide) rfl rfl) (px1.ext F5.keep) (fun v' h2 tk2 e r => ?_)
    obtain ⟨pa, pn, rfl, fpa, hpa⟩ := r
    have F6 := frExt F5 e
    have N6 := news_cons hpa (new_ne F5 fpa) (fresh_back F5.keep fpa) (newsExt N5 e)
    refine unhold ⟨pa, [], g1, m2, _, fun _ g' m' news' => g' = g1 ∧ m' = m2 ∧ news' = (pa, PySem.W.listOf #[] pn) :: (I, oI) :: (Fa, PySem.W.listOf fvs.toArray nF) :: (l, PySem.W.listOf vs.toArray n) :: tl, rfl, ⟨_, hpa, rfl, _, rfl⟩, F6, N6, ⟨rfl, rfl, rfl⟩, ?_, ?_, ?_⟩
    · rintro i' g' m' news' h' ⟨rfl, rfl, rfl⟩ F N
      exact ⟨_, (N _ (.head _)).1, rfl, _, rfl⟩
    · intro i' v' I' oI' g' m' news' h' tk' hv'
      cases hv'
    · rintro g' m' news' h3 tk3 ⟨rfl, rfl, rfl⟩ F7 N7'
      have N7 : News _ _ h3 ((I, oI) :: (Fa, PySem.W.listOf fvs.toArray nF) :: (l, PySem.W.listOf vs.toArray n) :: tl) := fun p hp => N7' p (.tail _ hp)
      clear N7' N6 F6 N5 F5
      k_steps
      refine unhold ?_
      with_reducible rename News _ _ _ _ => N8
      with_reducible rename Fr _ _ _ _ => F8
      have hvl : i < vs.length := (List.getElem?_eq_some_iff.mp hv).1
      refine append_K F8 N8 (.tail (Ne.symm (fun z => nIF z.symm)) (.head (fun p hp => by
        rcases List.mem_cons.mp hp with rfl | hp
        · exact fun z => hFl z.symm
        · exact ht1 p hp))) ?_ (by rw [sizeLine_eq, List.size_toArray]; lia)
      intro h4 F9 N9
      clear F8 N8
      k_steps
      refine unhold ?_
      have htgt : normF (fis ++ [jx]) = foldN [] (is.take (i + 1)) := by
        rw [List.take_add_one, hjx, hfis]
        exact foldN_snoc.symm
      have J0 : PiecesBy (KG g' fs tl) (fvs ++ [.ref x]) (fis ++ [jx]) := hpb.append (.cons ((PieceAt.by px).mono fun a o e => .inl e) .nil)
      have ok0 : ∀ j ∈ fis ++ [jx], OkIns j := fun j hj => by
        rcases List.mem_append.mp hj with hj | hj
        · exact hok1 j hj
        · rw [List.mem_singleton.mp hj]; exact hok _ (List.mem_of_getElem? hjx)
      refine While_any (n₀ := (fis ++ [jx]).length) (FwJ w mean mg mb outer fs s g m2 I oI Fa l vs n i is) ?_ ?_
      · exact ⟨g', h4, _, tl, fvs ++ [.ref x], fis ++ [jx], nF + 1, rfl, F9, (by
          have e : fvs.toArray.push (Value.ref x) = (fvs ++ [Value.ref x]).toArray := by simp
          rw [e] at N9; exact N9), K1, G1, SK1, J0, htgt, ht1, ht2, (fun p hp => neI p (.tail _ (.tail _ hp))), by simp; lia, ok0, rfl⟩
      · rintro k s' ⟨g2, h2, tk2, tl2, fvs2, fis2, nF2, rfl, F2, N2, K2, G2, SK2, hpb2, hn2, hf2, hl2, hi2, hle2, hok2, rfl⟩
        have KX2 := G2.k
        have T2 := G2.t
        clear F9 N9 KX1 T1
        k_steps
        refine unhold ?_
        with_reducible rename News _ _ _ _ => N8
        with_reducible rename Fr _ _ _ _ => F8
        have PFa := N8 (Fa, PySem.W.listOf fvs2.toArray nF2) (by k_mem)
        refine useK (foldLast_c w low Fa fvs2 fis2 nF2 hok2 (by lia)) F8 N8 (Gf.ext (Kp.hide K2)) SK2 (fun a q => by rw [List.mem_singleton.mp q]; exact ⟨_, by k_mem⟩) rfl rfl (Room.down hR (by decide) rfl rfl) ⟨PFa.1, (hpb2.mono (kgHid F8 N8 SK2 PFa.2.2 hf2)).at⟩ ?_
        intro g5 v5 h5 tk5 F5 hkeep hnone K5 G5 SK5 _ r5
        have kI := hkeep (I, oI) (by k_mem) (fun q => nIF (List.mem_singleton.mp q))
        have kl := hkeep (l, PySem.W.listOf vs.toArray n) (by k_mem) (fun q => hFl (List.mem_singleton.mp q).symm)
        have PI := N8 (I, oI) (by k_mem)
        have Pl2 := N8 (l, PySem.W.listOf vs.toArray n) (by k_mem)
        have ktl : News g5 _ h5 tl2 := fun p hp => ⟨hkeep p (List.mem_append_right _ hp) (fun q => hf2 p hp (List.mem_singleton.mp q)), (N8 p (List.mem_append_right _ hp)).2.1, hnone _ (N8 p (List.mem_append_right _ hp)).2.2⟩
        have KX5 := G5.k
        have T5 := G5.t
        cases er : lastF fis2.reverse with
        | none =>
          rw [er] at r5
          obtain ⟨rfl, r6⟩ := r5
          have N5 : News g5 _ h5 ((I, oI) :: (Fa, PySem.W.listOf fvs2.toArray nF2) :: (l, PySem.W.listOf vs.toArray n) :: tl2) :=
            news_cons kI PI.2.1 (hnone _ PI.2.2) (news_cons (r6.trans PFa.1) PFa.2.1 (hnone _ PFa.2.2) (news_cons kl Pl2.2.1 (hnone _ Pl2.2.2) ktl))
          clear F8 N8 KX2 T2
          k_steps
          exact TurnOut.next F5 N5 (fun p hp => by
            rcases List.mem_cons.mp hp with rfl | hp
            · exact fun z => nIF z.symm
            · rcases List.mem_cons.mp hp with rfl | hp
              · exact fun z => nIl z.symm
              · exact hi2 p hp) ⟨tl2, fvs2, fis2, nF2, rfl, rfl, rfl, K2.trans K5, G5, SK5, hpb2.mono (KG.move (Kp.hide K5) fun _ q => q), (normF_none er).symm.trans hn2, hf2, hl2, hFl, hle2, hok2⟩
        | some q =>
          obtain ⟨k, o⟩ := q
          rw [er] at r5
          have hge := lastF_ge er
          have hlen2 := hpb2.length
          have hnn := (normF_some er).symm.trans hn2
          simp only [List.length_reverse] at hge
          cases o with
          | none =>
            obtain ⟨rfl, n7, r6⟩ := r5
            have N5 : News g5 _ h5 ((I, oI) :: (Fa, PySem.W.listOf (fvs2.take (fvs2.length - k)).toArray n7) :: (l, PySem.W.listOf vs.toArray n) :: tl2) :=
              news_cons kI PI.2.1 (hnone _ PI.2.2) (news_cons r6 PFa.2.1 (hnone _ PFa.2.2) (news_cons kl Pl2.2.1 (hnone _ Pl2.2.2) ktl))
            clear F8 N8 KX2 T2
            k_steps
            refine unhold ⟨rfl, _, ?_, g5, _, _, tl2, fvs2.take (fvs2.length - k), fis2.take (fis2.length - k), n7, rfl, F5, N5, K2.trans K5, G5, SK5, ?_, ?_, hf2, hl2, hi2, ?_, fun j hj => hok2 j (List.mem_of_mem_take hj), rfl⟩
            · simp only [List.length_take]; lia
            · rw [hlen2]; exact (hpb2.mono (KG.move (Kp.hide K5) fun _ q => q)).take _
            · simpa using hnn
            · simp only [List.length_take]; lia
          | some i5 =>
            obtain ⟨rfl, x9, n7, r6, x9', dx9, a1, a2, a3, b1, b2, b3, a9, m9, hx9, o1, o2, ⟨t4, rest, o3, o4⟩, f1, f2, f3⟩ := r5
            obtain rfl : x9 = x9' := by cases hx9; rfl
            have nl : ∀ a, _ → a ≠ l := fun a (f : Heap.get? _ a = none) z => by rw [z, Pl2.1] at f; cases f
            have nF : ∀ a, _ → a ≠ Fa := fun a (f : Heap.get? _ a = none) z => by rw [z, PFa.1] at f; cases f
            have nI : ∀ a, _ → a ≠ I := fun a (f : Heap.get? _ a = none) z => by rw [z, PI.1] at f; cases f
            have N5 : News g5 _ h5 ((I, oI) :: (Fa, PySem.W.listOf (fvs2.take (fvs2.length - k) ++ [Value.ref x9]).toArray n7) :: (l, PySem.W.listOf vs.toArray n) :: (x9, instObj 379 dx9) :: (dx9, pieceDict a1 a2 a3 b1 b2 b3 (.ref a9) m9) :: (a9, tupOf (.int i5.code t4 :: rest)) :: tl2) :=
              news_cons kI PI.2.1 (hnone _ PI.2.2) (news_cons r6 PFa.2.1 (hnone _ PFa.2.2) (news_cons kl Pl2.2.1 (hnone _ Pl2.2.2)
                (news_cons o1 (new_ne F8 f1) (hnone _ (fresh_back F8.keep f1)) (news_cons o2 (new_ne F8 f2) (hnone _ (fresh_back F8.keep f2)) (news_cons o3 (new_ne F8 f3) (hnone _ (fresh_back F8.keep f3)) ktl)))))
            have all3 : ∀ (b : Addr) (q1 : x9 ≠ b) (q2 : dx9 ≠ b) (q3 : a9 ≠ b) (q4 : ∀ p ∈ tl2, p.1 ≠ b), ∀ p ∈ (x9, instObj 379 dx9) :: (dx9, pieceDict a1 a2 a3 b1 b2 b3 (.ref a9) m9) :: (a9, tupOf (.int i5.code t4 :: rest)) :: tl2, p.1 ≠ b := fun b q1 q2 q3 q4 p hp => by
              rcases List.mem_cons.mp hp with rfl | hp
              · exact q1
              · rcases List.mem_cons.mp hp with rfl | hp
                · exact q2
                · rcases List.mem_cons.mp hp with rfl | hp
                  · exact q3
                  · exact q4 p hp
            have aF := all3 Fa (nF _ f1) (nF _ f2) (nF _ f3) hf2
            have al := all3 l (nl _ f1) (nl _ f2) (nl _ f3) hl2
            have aI3 := all3 I (nI _ f1) (nI _ f2) (nI _ f3) hi2
            clear F8 N8 KX2 T2
            k_steps
            refine unhold ⟨rfl, _, ?_, g5, _, _, _, fvs2.take (fvs2.length - k) ++ [.ref x9], fis2.take (fis2.length - k) ++ [i5], n7, rfl, F5, N5, K2.trans K5, G5, SK5, ?_, ?_, aF, al, aI3, ?_, ?_, rfl⟩
            · simp only [List.length_append, List.length_take, List.length_cons, List.length_nil]; lia
            · rw [hlen2]
              refine RL.append ((hpb2.mono (KG.move (Kp.hide K5) fun _ q => .tail _ (.tail _ (.tail _ q)))).take _) (.cons ⟨dx9, a1, a2, a3, b1, b2, b3, a9, m9, t4, rest, .inr (.head _), .inr (.tail _ (.head _)), .inr (.tail _ (.tail _ (.head _))), o4⟩ .nil)
            · simpa using hnn
            · simp only [List.length_append, List.length_take, List.length_cons, List.length_nil]; lia
            · intro j hj
              rcases List.mem_append.mp hj with hj | hj
              · exact hok2 j (List.mem_of_mem_take hj)
              · rw [List.mem_singleton.mp hj]; exact lastF_ok er
  · rintro g1 m1 news1 h1 tk1 ⟨tl, fvs, fis, nF, rfl, hm1, hm2, K1, G1, SK1, hpb, hfis, ht1, ht2, _, hle, hok1⟩ F3 N3
    have KX1 := G1.k
    have T1 := G1.t
    clear F2 N2 KX T
    k_steps
    refine unhold ?_
    refine set_line (vs := vs) (n := n) (ws := fvs) F3 N3 (.tail _ (.head _)) (.head _) (fun z => hFl z.symm) IsPart.none IsPart.none (by lia) (by lia) rfl rfl ?_
    intro h7 n7 F7 hk7 hl7
    have N7 := newsNil F7
    have N3' := N3
    clear N3 F3
    k_steps
    k_steps
    refine leaveC_next (hret .none _ _ (kpEnd hg hSf K1 F7) ⟨rfl, fvs, n7, by rw [spliceAll] at hl7; exact hl7, hle, ?_⟩)
    have e9 : fis = foldN [] is := by rw [hfis, List.take_of_length_le (by rw [hpf.length]; exact Nat.le_refl _)]
    rw [← e9]
    refine (hpb.mono ?_).at
    rintro a o (q | q)
    · exact F7.keep _ _ (of_hideAll _ q)
    · exact hk7 (a, o) (.tail _ (.tail _ q)) (ht2 _ q)
end

section
open Kunsigned_c
open Ksigned_c
open Kleast_c
open Kwidened_c
open Keqz_c
open Kadd_c
open Ksub_c
open Kmul_c
open Ktn_c
open Kand_c
open Kor_c
open Kxor_c
open Kshl_c
open Kshrs_c
open Kshru_c
open Krotl_c
open Krotr_c
open Keq_c
open Kne_c
open Kltu_c
open Klts_c
open Kgts_c
open Kles_c
open Kges_c
open Kgtu_c
open Kleu_c
open Kgeu_c
open Kltakes_c
open Klisone_c
open Klsigned_c
open Klplain_c
open Kplace_c
open Knarrow_c
open Kisun_c
open Kisbi_c
open Kneutral_c
open Kwidths_c
open Kclz_c
open Kctz_c
open Kpop_c
open Kdivu_c
open Kremu_c
open Kdivs_c
open Krems_c
open Kreckon1_c
open S1
open S3
open S4
open S5
open S6
open S7
open S8
/-- the instructions of a flat body -/
abbrev InsList (g : Heap) : List Value → List Ins → Prop := RL (InsAt g)
theorem InsList.ext {g g' : Heap} (e : Ext g g') {vs : List Value} {is : List Ins} (h : InsList g vs is) : InsList g' vs is := RL.mono (fun _ _ p => p.ext e) h
inductive PutJ (hz g₀ : Heap) (pl b : Addr) (bs : List Value) (is : List Ins) (i : Nat) (g : Heap) (m : Str → Option Value) (news : List (Addr × Obj)) : Prop
  | mk : (g = g₀) → ∀ ws k, (news = [(b, PySem.W.listOf (bs ++ ws).toArray k)]) → (m (Str.ofString "body") = some (.ref b)) → (m (Str.ofString "pieces") = some (.ref pl)) → (InsList hz ws (is.take i)) → PutJ hz g₀ pl b bs is i g m news
theorem put_c {w : World} {mean : ExcName → Option Value} {mg mb : Str → Option Value} {dp un : Nat} {fr : Option (List Env)} {gd : Option (List Code)} {s : Shared} {Q E : Value → Shared → Prop} {h₀ : Heap} {pl b : Addr} {vs bs : List Value} {is : List Ins} {n k : Nat}
    (G : Gd w mean mg mb h₀) (hx : Ext h₀ s.heap) (hb : s.heap.get? b = some (PySem.W.listOf bs.toArray k)) (hb0 : h₀.get? b = none) (hpl : h₀.get? pl = some (PySem.W.listOf vs.toArray n)) (hp : PiecesAt h₀ vs is) (hR : Room dp un 2) (hlen : vs.length ≤ 100) (hbs : bs.length ≤ 100)
    (hret : ∀ h' tk' ws k', But b s.heap h' → h'.get? b = some (PySem.W.listOf (bs ++ ws).toArray k') → InsList h₀ ws is → Q .none { s with heap := h', toks := tk' }) :
    wpAny (model PR w) (AR dp un fr gd) (call (.ref 397) [.ref pl, .ref b]) Q E s := by
  refine enterH (hid := [(b, PySem.W.listOf bs.toArray k)]) G hx (fun p hp => by rw [List.mem_singleton.mp hp]; exact ⟨hb, hb0⟩) (by k_dflt k_is) (by k_dflt k_is) (Room.enter hR) rfl (locs rfl) (fun g h₁ tk₁ hg Gg F' N' => ?_)
  intro A9 E9
  have KX := Gg.k
  have T := Gg.t
  have h0g : Ext h₀ g := fun b' o e => by rw [hg]; exact hideAll_iff.mpr ⟨hx _ _ e, fun q => by rw [List.mem_singleton.mp q, hb0] at e; cases e⟩
  have hplg := h0g _ _ hpl
  have hpg := hp.ext h0g
  k_steps
  refine unhold ?_
  refine For_any (L := s.heap.objs.size) rfl rfl rfl rfl ?_
  k_steps
  with_reducible rename News _ _ _ _ => N2
  with_reducible rename Fr _ _ _ _ => F2
  refine unhold ⟨pl, vs, g, _, _, PutJ h₀ g pl b bs is, rfl, ⟨_, F2.keep _ _ hplg, rfl, _, rfl⟩, F2, N2, ⟨rfl, [], k, by rw [List.append_nil], rfl, rfl, .nil⟩, ?_, ?_, ?_⟩
  · rintro i g1 m1 news1 h1 ⟨rfl, _⟩ F3 N3
    exact ⟨_, F3.keep _ _ hplg, rfl, _, rfl⟩
  · rintro i v I oI g1 m1 news1 h1 tk1 hv ⟨rfl, ws, k1, rfl, hm1, hm2, hws⟩ F3 N3 neI aI
    obtain ⟨x, jx, rfl, hjx, px⟩ := hp.get hv
    obtain ⟨dx, h1', h2', h3', t1', t2', t3', a', n', p1', p2', p3⟩ := id px
    have p1 := h0g _ _ p1'
    have p2 := h0g _ _ p2'
    have nIb : @Ne Nat I b := fun z => neI _ (.head _) z.symm
    refine frN (l := [(Str.ofString "piece", .ref x), (Str.ofString "body", .ref b), (Str.ofString "pieces", .ref pl)]) F3 ⟨rfl, hm1, hm2, ⟨⟩⟩ ?_
    intro m0 m2 F4
    clear F3 F2 N2
    k_steps
    refine unhold ?_
    with_reducible rename News _ _ _ _ => N8
    with_reducible rename Fr _ _ _ _ => F8
    have hvl : i < vs.length := (List.getElem?_eq_some_iff.mp hv).1
    have hwl := hws.length
    refine append_K F8 N8 (.tail (fun z => nIb z) (.head (fun _ q => nomatch q))) ?_ (by rw [sizeLine_eq, List.size_toArray, List.length_append, hwl, List.length_take]; lia)
    intro h4 F9 N9
    have e9 : (bs ++ ws).toArray.push (Value.ref a') = (bs ++ (ws ++ [Value.ref a'])).toArray := by simp
    rw [e9] at N9
    clear F8 N8
    k_steps
    refine TurnOut.next F9 N9 (fun p hp => by rw [List.mem_singleton.mp hp]; exact fun z => nIb z.symm) ⟨rfl, ws ++ [.ref a'], k1 + 1, rfl, rfl, rfl, ?_⟩
    rw [List.take_add_one, hjx]
    exact hws.append (.cons p3 .nil)
  · rintro g1 m1 news1 h1 tk1 ⟨rfl, ws, k1, rfl, hm1, hm2, hws⟩ F3 N3
    clear F2 N2
    k_steps
    k_steps
    refine leaveC_next (hret _ _ ws k1 (fun b' o hne q => F3.keep b' o (by rw [hg]; exact hideAll_iff.mpr ⟨q, fun z => hne (List.mem_singleton.mp z)⟩)) (N3 _ (.head _)).1 ?_)
    rw [List.take_of_length_le (by rw [hpg.length]; exact Nat.le_refl _)] at hws
    exact hws
open H397
inductive NewBody (is : List Ins) (h h' : Heap) (v : Value) : Prop
  | mk : ∀ b ws k, (v = .ref b) → (h.get? b = none) → (h'.get? b = some (PySem.W.listOf ws.toArray k)) → (InsList h' ws (is ++ [⟨11, none⟩])) → NewBody is h h' v
theorem body_c (w : World) (pl : Addr) (vs : List Value) (is : List Ins) (n : Nat) (hlen : vs.length ≤ 100) :
    CtH w 404 [.ref pl] 4 (fun h => h.get? pl = some (PySem.W.listOf vs.toArray n) ∧ PiecesAt h vs is)
      (NewBody is) := by
  intro mean mg mb dp un fr gd s Q E G hR hP hret
  obtain ⟨hpl, hp⟩ := hP
  have KX := G.k
  have T := G.t
  refine enter G (by k_dflt k_is) (by k_dflt k_is) (Room.enter hR) rfl (locs rfl) (fun L' h' tk' F' N' => ?_)
  intro A9 E9
  try dsimp only
  dsimp only [List.map, List.zip, List.zipWith, List.reverse, List.reverseAux] at F'
  k_steps
  refine unhold ?_
  with_reducible rename News _ _ _ _ => N2
  with_reducible rename Fr _ _ _ _ => F2
  have P := N2 _ (.head _)
  refine put_c (h₀ := s.heap) (bs := []) G F2.keep P.1 P.2.2 hpl hp (Room.down hR (by decide) rfl rfl) hlen (Nat.zero_le _) (fun h3 tk3 ws k3 hbut hb3 hws => ?_)
  have F3 := butFr F2 hbut P.2.2 P.2.1
  have N3 := butNews N2 hbut (.head (fun _ q => nomatch q)) hb3
  have hwl := hws.length
  clear F2 N2
  k_steps
  refine unhold ?_
  with_reducible rename News _ _ _ _ => N5
  with_reducible rename Fr _ _ _ _ => F5
  with_reducible rename (_ < _) => l5
  refine append_K F5 N5 (.tail (fun z => Nat.ne_of_gt l5 z) (.head (fun _ q => nomatch q))) ?_ (by rw [sizeLine_eq, List.size_toArray, List.nil_append, hwl, ← hp.length]; lia)
  intro h6 F6 N6
  clear F5 N5
  k_steps
  k_steps
  refine leaveC_ret (hret _ _ _ F6.keep ?_)
  have e9 : ∀ z : Addr, ([] ++ ws).toArray.push (Value.ref z) = (ws ++ [Value.ref z]).toArray := fun z => by simp
  have P6 := N6 _ (.tail _ (.head _))
  dsimp only at P6
  rw [e9] at P6
  refine ⟨_, _, _, rfl, P6.2.2, P6.1, (hws.ext F6.keep).append (.cons ⟨_, [], (N6 _ (.head _)).1, rfl⟩ .nil)⟩
end

section
open Kunsigned_c
open Ksigned_c
open Kleast_c
open Kwidened_c
open Keqz_c
open Kadd_c
open Ksub_c
open Kmul_c
open Ktn_c
open Kand_c
open Kor_c
open Kxor_c
open Kshl_c
open Kshrs_c
open Kshru_c
open Krotl_c
open Krotr_c
open Keq_c
open Kne_c
open Kltu_c
open Klts_c
open Kgts_c
open Kles_c
open Kges_c
open Kgtu_c
open Kleu_c
open Kgeu_c
open Kltakes_c
open Klisone_c
open Klsigned_c
open Klplain_c
open Kplace_c
open Knarrow_c
open Kisun_c
open Kisbi_c
open Kneutral_c
open Kwidths_c
open Kclz_c
open Kctz_c
open Kpop_c
open Kdivu_c
open Kremu_c
open Kdivs_c
open Krems_c
open Kreckon1_c
open S1
open S3
open S4
open S5
open S6
open S7
open S8
open H379
/-- what is new and stays -/
def NewTl (h h' : Heap) (tl : List (Addr × Obj)) : Prop := ∀ p ∈ tl, h'.get? p.1 = some p.2 ∧ h.get? p.1 = none
def KH (h : Heap) (tl : List (Addr × Obj)) (a : Addr) (o : Obj) : Prop := (h.get? a = some o ∧ ∃ l, o = tupOf l) ∨ (a, o) ∈ tl
inductive PoJ (g₀ : Heap) (he dl : Addr) (od : Obj) (is : List Ins) (i : Nat) (g : Heap) (m : Str → Option Value) (news : List (Addr × Obj)) : Prop
  | mk : (g = g₀) → ∀ vs k tl, (news = (he, PySem.W.listOf vs.toArray k) :: (dl, od) :: tl) → (m (Str.ofString "here") = some (.ref he)) → (PiecesBy (KH g₀ tl) vs (is.take i)) → ((∀ p ∈ tl, p.1 ≠ he)) → ((∀ p ∈ tl, p.1 ≠ dl)) → (vs.length ≤ i) → PoJ g₀ he dl od is i g m news
theorem newsTail {g h : Heap} {L : Addr} {q : Addr × Obj} {l : List (Addr × Obj)} (N : News g L h (q :: l)) : News g L h l := fun p hp => N p (.tail _ hp)
theorem nar_rng {c : Int} (h : (narrowF c).isSome = true) : 172 ≤ c ∧ c < 197 := by
  unfold narrowF at h
  split at h
  · lia
  · split at h
    · lia
    · split at h
      · lia
      · cases h
theorem un_rng2 {c : Int} (h : isUnF c = true) : 69 ≤ c ∧ c < 197 := by
  unfold isUnF at h
  rcases (Bool.or_eq_true _ _).mp h with h | h
  · rcases (Bool.or_eq_true _ _).mp h with h | h
    · simp only [List.any_cons, List.any_nil, Bool.or_false, Bool.or_eq_true, beq_iff_eq] at h
      rcases h with rfl | rfl | rfl | rfl <;> decide
    · rcases placeF_some h with h | h <;> exact ⟨by lia, by lia⟩
  · have := nar_rng h
    exact ⟨by lia, by lia⟩
theorem un_rng {c : Int} (h : isUnF c = true) : 69 ≤ c := (un_rng2 h).1
theorem un_nat {c : Int} (h : isUnF c = true) : ∃ n : Nat, n < 197 ∧ c = n := have r := un_rng2 h; nat_of (Int.le_trans (by decide) r.1) r.2
theorem OkIns.ge {i : Ins} (h : OkIns i) : 32 ≤ i.code := by
  rcases h.2 with h | h | h | h | h
  · exact Int.le_trans (by decide) (un_rng h)
  · exact (bi_rng h).elim (fun q => Int.le_trans (by decide) q.1) fun q => q.elim (fun q => Int.le_trans (by decide) q.1) fun q => q.elim (fun q => Int.le_trans (by decide) q.1) fun q => Int.le_trans (by decide) q.1
  · rw [h]; decide
  · rw [h]; decide
  · rw [h]; decide
theorem pickInit {ws : List Value} (h : 0 < ws.length) : kms_pick ws none (some ((ws.length : Int) - 1)) = ws.take (ws.length - 1) := by
  simp only [kms_pick, kms_lo, kms_hi]
  rw [if_neg (by lia)]
  have : min ((ws.length : Int) - 1).toNat ws.length = ws.length - 1 := (congrArg (min · _) (Int.toNat_sub ws.length 1)).trans (Nat.min_eq_left (Nat.sub_le ..))
  rw [this]
  simp
inductive NewPieces (is : List Ins) (h h' : Heap) (v : Value) : Prop
  | mk : ∀ pl vs k tl, (v = .ref pl) → (h.get? pl = none) → (h'.get? pl = some (PySem.W.listOf vs.toArray k)) → (NewTl h h' tl) → ((∀ p ∈ tl, p.1 ≠ pl)) → (PiecesBy (KH h tl) vs is) → NewPieces is h h' v
theorem pieces_c (w : World) (bl : Addr) (ws : List Value) (is : List Ins) (n : Nat) (hok : ∀ i ∈ is, OkIns i) (hlen : ws.length ≤ 100) :
    CtH w 390 [.ref bl] 4 (fun h => h.get? bl = some (PySem.W.listOf ws.toArray n) ∧ InsList h ws (is ++ [⟨11, none⟩]))
      (NewPieces is) := by
  intro mean mg mb dp un fr gd s Q E G hR hP hret
  obtain ⟨hbl, hp⟩ := hP
  have KX := G.k
  have T := G.t
  have hwl := hp.length
  have hbl2 : s.heap.IsList bl ws.toArray := ⟨_, hbl, rfl, _, rfl⟩
  refine enter G (by k_dflt k_is) (by k_dflt k_is) (Room.enter hR) rfl (locs rfl) (fun L' h' tk' F' N' => ?_)
  intro A9 E9
  try dsimp only
  dsimp only [List.map, List.zip, List.zipWith, List.reverse, List.reverseAux] at F'
  k_steps
  refine unhold ?_
  refine For_any (L := L') rfl rfl rfl rfl ?_
  k_steps
  with_reducible rename News _ _ _ _ => N2
  with_reducible rename Fr _ _ _ _ => F2
  have Pd := N2 _ (.head _)
  have Ph := N2 _ (.tail _ (.tail _ (.tail _ (.head _))))
  have hne := l1 _ (.tail _ (.tail _ (.head _)))
  have hw0 : 0 < ws.length := by rw [hwl]; simp
  have hvs : InsList s.heap (kms_pick ws none (some ((ws.length : Int) - 1))) is := by
    rw [pickInit hw0]
    have h9 := hp.take (ws.length - 1)
    have e9 : (is ++ [(⟨11, none⟩ : Ins)]).take (ws.length - 1) = is := by
      rw [hwl]; simp
    rw [e9] at h9
    exact h9
  have hvl := hvs.length
  have hpl : (kms_pick ws none (some ((ws.length : Int) - 1))).length ≤ 100 := by rw [pickInit hw0, List.length_take]; lia
  refine unhold ⟨_, kms_pick ws none (some ((ws.length : Int) - 1)), s.heap, _, _, PoJ s.heap _ _ _ is, rfl, ⟨_, Pd.1, rfl, _, rfl⟩, F2, news_cons Ph.1 Ph.2.1 Ph.2.2 (news_cons Pd.1 Pd.2.1 Pd.2.2 (newsNil F2)), ⟨rfl, [], 0, [], rfl, rfl, .nil, (fun _ q => nomatch q), (fun _ q => nomatch q), Nat.zero_le _⟩, ?_, ?_, ?_⟩
  · rintro i g1 m1 news1 h1 ⟨rfl, vs, k, tl, rfl, _⟩ F3 N3
    exact ⟨_, (N3 _ (.tail _ (.head _))).1, rfl, _, rfl⟩
  · rintro i v I oI g1 m1 news1 h1 tk1 hv ⟨rfl, vs, k, tl, rfl, hm1, hpb, ht1, ht2, hle⟩ F3 N3 neI aI
    obtain ⟨a, jx, rfl, hjx, t9, rest, ia, hr⟩ := hvs.get hv
    have nhe := neI _ (.head _)
    have ndl := neI _ (.tail _ (.head _))
    have hge := (hok _ (List.mem_of_getElem? hjx)).ge
    have hany : ([2, 3, 4].any fun x => x == jx.code) = false := by simp; lia
    have n5 : jx.code ≠ 5 := by lia
    have n11 : jx.code ≠ 11 := by lia
    refine frN (l := [(Str.ofString "plain", .ref a), (Str.ofString "here", .ref _)]) F3 ⟨rfl, hm1, ⟨⟩⟩ ?_
    intro m0 m2 F4
    clear F3 F2 N2
    k_steps
    · exfalso; lia
    · exfalso; lia
    · refine unhold ?_
      with_reducible rename News _ _ _ _ => N5
      with_reducible rename Fr _ _ _ _ => F5
      replace N5 := newsTail N5
      refine piece_c (Gd.ext ⟨KX, T⟩ F5.keep) (by have := hR.d; show dp + 1 + 2 < 1000; lia) ?_
      intro x dx h1' h2' h3' t1' t2' t3' n' h9 tk9 e9 ox odx fx fdx hxd
      have Phe := N5 _ (.tail _ (.head _))
      have PI := N5 _ (.head _)
      have Pdl := N5 _ (.tail _ (.tail _ (.head _)))
      have F6 := frExt F5 e9
      have xF : x ≠ _ := fun z => by rw [z, Phe.1] at fx; cases fx
      have dF : dx ≠ _ := fun z => by rw [z, Phe.1] at fdx; cases fdx
      have xI : x ≠ I := fun z => by rw [z, PI.1] at fx; cases fx
      have dI : dx ≠ I := fun z => by rw [z, PI.1] at fdx; cases fdx
      have xD : x ≠ _ := fun z => by rw [z, Pdl.1] at fx; cases fx
      have dD : dx ≠ _ := fun z => by rw [z, Pdl.1] at fdx; cases fdx
      have N6 := newsExt N5 e9
      have N7 : News s.heap L' h9 ((I, oI) :: (_, PySem.W.listOf vs.toArray k) :: (_, _) :: (x, instObj 379 dx) :: (dx, pieceDict h1' h2' h3' t1' t2' t3' (.ref a) n') :: tl) :=
        news_cons (N6 _ (.head _)).1 PI.2.1 PI.2.2 (news_cons (N6 _ (.tail _ (.head _))).1 Phe.2.1 Phe.2.2 (news_cons (N6 _ (.tail _ (.tail _ (.head _)))).1 Pdl.2.1 Pdl.2.2
          (news_cons ox (new_ne F5 fx) (fresh_back F5.keep fx) (news_cons odx (new_ne F5 fdx) (fresh_back F5.keep fdx) (fun p hp => N6 p (.tail _ (.tail _ (.tail _ hp))))))))
      have aF : ∀ p ∈ (x, instObj 379 dx) :: (dx, pieceDict h1' h2' h3' t1' t2' t3' (.ref a) n') :: tl, p.1 ≠ _ := fun p hp => by
        rcases List.mem_cons.mp hp with rfl | hp
        · exact xF
        · rcases List.mem_cons.mp hp with rfl | hp
          · exact dF
          · exact ht1 p hp
      have aD : ∀ p ∈ (x, instObj 379 dx) :: (dx, pieceDict h1' h2' h3' t1' t2' t3' (.ref a) n') :: tl, p.1 ≠ _ := fun p hp => by
        rcases List.mem_cons.mp hp with rfl | hp
        · exact xD
        · rcases List.mem_cons.mp hp with rfl | hp
          · exact dD
          · exact ht2 p hp
      have aIn : ∀ p ∈ (x, instObj 379 dx) :: (dx, pieceDict h1' h2' h3' t1' t2' t3' (.ref a) n') :: tl, p.1 ≠ I := fun p hp => by
        rcases List.mem_cons.mp hp with rfl | hp
        · exact xI
        · rcases List.mem_cons.mp hp with rfl | hp
          · exact dI
          · exact neI p (.tail _ (.tail _ hp))
      clear F5 N5 N6
      (try dsimp only)
      k_steps
      refine unhold ?_
      with_reducible rename News _ _ _ _ => N8
      with_reducible rename Fr _ _ _ _ => F8
      have hil : i < (kms_pick ws none (some ((ws.length : Int) - 1))).length := (List.getElem?_eq_some_iff.mp hv).1
      refine append_K F8 N8 (.tail (fun z => neI _ (.head _) z.symm) (.head (fun p hp => by
        rcases List.mem_cons.mp hp with rfl | hp
        · exact fun z => Nat.ne_of_gt hne z
        · exact aF p hp))) ?_ (by rw [sizeLine_eq, List.size_toArray]; lia)
      intro h4 F9 N9
      have e9' : vs.toArray.push (Value.ref x) = (vs ++ [Value.ref x]).toArray := by simp
      rw [e9'] at N9
      clear F8 N8
      k_steps
      refine TurnOut.next F9 N9 (fun p hp => by
        rcases List.mem_cons.mp hp with rfl | hp
        · exact nhe
        · rcases List.mem_cons.mp hp with rfl | hp
          · exact ndl
          · exact aIn p hp) ⟨rfl, vs ++ [.ref x], k + 1, _, rfl, rfl, ?_, aF, aD, by simp; lia⟩
      rw [List.take_add_one, hjx]
      exact (hpb.mono (fun a o q => q.elim .inl fun q => .inr (.tail _ (.tail _ q)))).append (.cons ⟨dx, h1', h2', h3', t1', t2', t3', a, n', t9, rest, .inr (.head _), .inr (.tail _ (.head _)), .inl ⟨ia, _, rfl⟩, hr⟩ .nil)
  · rintro g1 m1 news1 h1 tk1 ⟨rfl, vs, k, tl, rfl, hm1, hpb, ht1, ht2, hle⟩ F3 N3
    clear F2 N2
    k_steps
    k_steps
    refine leaveC_ret (hret _ _ _ F3.keep ⟨_, vs, k, tl, rfl, (N3 _ (.head _)).2.2, (N3 _ (.head _)).1, fun p hp => ⟨(N3 p (.tail _ (.tail _ hp))).1, (N3 p (.tail _ (.tail _ hp))).2.2⟩, ht1, ?_⟩)
    rw [List.take_of_length_le (by rw [hvl]; exact Nat.le_refl _)] at hpb
    exact hpb
end

section
open Kunsigned_c
open Ksigned_c
open Kleast_c
open Kwidened_c
open Keqz_c
open Kadd_c
open Ksub_c
open Kmul_c
open Ktn_c
open Kand_c
open Kor_c
open Kxor_c
open Kshl_c
open Kshrs_c
open Kshru_c
open Krotl_c
open Krotr_c
open Keq_c
open Kne_c
open Kltu_c
open Klts_c
open Kgts_c
open Kles_c
open Kges_c
open Kgtu_c
open Kleu_c
open Kgeu_c
open Kltakes_c
open Klisone_c
open Klsigned_c
open Klplain_c
open Kplace_c
open Knarrow_c
open Kisun_c
open Kisbi_c
open Kneutral_c
open Kwidths_c
open Kclz_c
open Kctz_c
open Kpop_c
open Kdivu_c
open Kremu_c
open Kdivs_c
open Krems_c
open Kreckon1_c
open S1
open S3
open S4
open S5
open S6
open S7
open S8
open H379
open S9
def IntVs (vs : List Value) : Prop := ∀ v ∈ vs, ∃ x u, v = .int x u
theorem next_c {w : World} {mean : ExcName → Option Value} {mg mb : Str → Option Value} {dp un : Nat} {fr : Option (List Env)} {gd : Option (List Code)} {s : Shared} {Q E : Value → Shared → Prop} {h₀ : Heap} {t : Addr} {vs : List Value} {n : Nat}
    (G : Gd w mean mg mb h₀) (hx : Ext h₀ s.heap) (ht : s.heap.get? t = some (PySem.W.listOf vs.toArray n)) (ht0 : h₀.get? t = none) (hv : IntVs vs) (hR : Room dp un 2) (hlen : vs.length ≤ 100)
    (hret : ∀ h' tk' x u vs' n', But t s.heap h' → h'.get? t = some (PySem.W.listOf vs'.toArray n') → IntVs vs' → vs'.length ≤ vs.length → Q (.int x u) { s with heap := h', toks := tk' }) :
    wpAny (model PR w) (AR dp un fr gd) (call (.ref 485) [.ref t]) Q E s := by
  refine enterH (hid := [(t, PySem.W.listOf vs.toArray n)]) G hx (fun p hp => by rw [List.mem_singleton.mp hp]; exact ⟨ht, ht0⟩) (by k_dflt k_is) (by k_dflt k_is) (Room.enter hR) rfl (locs rfl) (fun g h₁ tk₁ hg Gg F' N' => ?_)
  intro A9 E9
  have KX := Gg.k
  have T := Gg.t
  have hbut : ∀ h3, Ext g h3 → But t s.heap h3 := fun h3 e b' o hne q => e b' o (by rw [hg]; exact hideAll_iff.mpr ⟨q, fun z => hne (List.mem_singleton.mp z)⟩)
  cases vs with
  | nil =>
    k_steps
    with_reducible rename News _ _ _ _ => N9
    with_reducible rename Fr _ _ _ _ => F9
    k_steps
    refine leaveC_ret (hret _ _ _ _ [] n (hbut _ F9.keep) ?_ hv (Nat.le_refl _))
    first | exact (N9 _ (.tail _ (.head _))).1 | exact (N9 _ (.head _)).1
  | cons v r =>
    obtain ⟨p, y, e⟩ : ∃ p y, kl_last (v :: r) = some (p, y) := by
      cases q : kl_last (v :: r) with
      | none => exact absurd (kl_last_none q) (by simp)
      | some z => exact ⟨z.1, z.2, rfl⟩
    have e2 := kl_last_spec e
    obtain ⟨yx, yu, rfl⟩ := hv y (by rw [e2]; simp)
    k_steps
    refine unhold ?_
    with_reducible rename News _ _ _ _ => N8
    with_reducible rename Fr _ _ _ _ => F8
    show wpAny _ _ (call (.builtin "list.pop") [.ref t]) _ _ _
    refine kl_pop F8 N8 e (.tail (by k_ne) (.head (fun _ q => nomatch q))) (by rw [sizeLine_eq]; show (v :: r).length ≤ _; lia) ?_
    intro h4 F9 N9
    k_steps
    refine leaveC_ret (hret _ _ _ _ p _ (hbut _ F9.keep) (N9 _ (.tail _ (.head _))).1 (fun z hz => hv z (by rw [e2]; exact List.mem_append_left _ hz)) (by rw [e2]; simp))
end

section
open Kunsigned_c
open Ksigned_c
open Kleast_c
open Kwidened_c
open Keqz_c
open Kadd_c
open Ksub_c
open Kmul_c
open Ktn_c
open Kand_c
open Kor_c
open Kxor_c
open Kshl_c
open Kshrs_c
open Kshru_c
open Krotl_c
open Krotr_c
open Keq_c
open Kne_c
open Kltu_c
open Klts_c
open Kgts_c
open Kles_c
open Kges_c
open Kgtu_c
open Kleu_c
open Kgeu_c
open Kltakes_c
open Klisone_c
open Klsigned_c
open Klplain_c
open Kplace_c
open Knarrow_c
open Kisun_c
open Kisbi_c
open Kneutral_c
open Kwidths_c
open Kclz_c
open Kctz_c
open Kpop_c
open Kdivu_c
open Kremu_c
open Kdivs_c
open Krems_c
open Kreckon1_c
open S1
open S3
open S4
open S5
open S6
open S7
open S8
open H379
open S9
open S0
open H549
set_option genSizeOf true in
set_option genInjectivity true in
/-- the law's trees -/
inductive Tr
  | con (b n : Int)
  | loc (b : Int)
  | un (b c : Int) (t : Tr)
  | bin (b c : Int) (t u : Tr)
def Tr.bits : Tr → Int
  | .con b _ => b | .loc b => b | .un b _ _ => b | .bin b _ _ _ => b
def Tr.code : Tr → Int
  | .con _ _ => 0 | .loc _ => 1 | .un _ c _ => c | .bin _ c _ _ => c
inductive ConBy (K : Addr → Obj → Prop) (a : Addr) (b n : Int) : Prop
  | mk : ∀ (u v : Tok) (p : Addr) (u' : Tok) (k : Nat), K a (tupOf [.int b u, .int 0 v, .ref p]) → K p (PySem.W.listOf [Value.int n u'].toArray k) → ConBy K a b n
inductive LocBy (K : Addr → Obj → Prop) (a : Addr) (b : Int) : Prop
  | mk : ∀ (u v : Tok) (p : Addr) (k : Nat), K a (tupOf [.int b u, .int 1 v, .ref p]) → K p (PySem.W.listOf ([] : List Value).toArray k) → LocBy K a b
inductive UnBy (K : Addr → Obj → Prop) (S : Addr → Prop) (a : Addr) (b c : Int) : Prop
  | mk : ∀ (u v : Tok) (p q : Addr) (k : Nat), K a (tupOf [.int b u, .int c v, .ref p]) → K p (PySem.W.listOf [Value.ref q].toArray k) → S q → UnBy K S a b c
inductive BinBy (K : Addr → Obj → Prop) (S S' : Addr → Prop) (a : Addr) (b c : Int) : Prop
  | mk : ∀ (u v : Tok) (p q q' : Addr) (k : Nat), K a (tupOf [.int b u, .int c v, .ref p]) → K p (PySem.W.listOf [Value.ref q, Value.ref q'].toArray k) → S q → S' q' → BinBy K S S' a b c
def TrBy (K : Addr → Obj → Prop) : Addr → Tr → Prop
  | a, .con b n => ConBy K a b n
  | a, .loc b => LocBy K a b
  | a, .un b c t => UnBy K (fun q => TrBy K q t) a b c
  | a, .bin b c t t' => BinBy K (fun q => TrBy K q t) (fun q => TrBy K q t') a b c
theorem TrBy.mono {K K' : Addr → Obj → Prop} (e : ∀ a o, K a o → K' a o) {T : Tr} : ∀ {a : Addr}, TrBy K a T → TrBy K' a T := by
  induction T with
  | con b n => intro a h; obtain ⟨u, v, p, u', k, h1, h2⟩ := h; exact ⟨u, v, p, u', k, e _ _ h1, e _ _ h2⟩
  | loc b => intro a h; obtain ⟨u, v, p, k, h1, h2⟩ := h; exact ⟨u, v, p, k, e _ _ h1, e _ _ h2⟩
  | un b c t ih => intro a h; obtain ⟨u, v, p, q, k, h1, h2, h3⟩ := h; exact ⟨u, v, p, q, k, e _ _ h1, e _ _ h2, ih h3⟩
  | bin b c t t' ih ih' => intro a h; obtain ⟨u, v, p, q, q', k, h1, h2, h3, h4⟩ := h; exact ⟨u, v, p, q, q', k, e _ _ h1, e _ _ h2, ih h3, ih' h4⟩
abbrev TrAt (h : Heap) : Addr → Tr → Prop := TrBy fun a o => h.get? a = some o
theorem TrAt.ext {h h' : Heap} {a : Addr} {T : Tr} (p : TrAt h a T) (e : Ext h h') : TrAt h' a T := p.mono fun _ _ q => e _ _ q
def Tr.depth : Tr → Nat
  | .con _ _ => 0 | .loc _ => 0 | .un _ _ t => t.depth + 1 | .bin _ _ t u => max t.depth u.depth + 1
/-- codes of operations stand above 1 -/
def Tr.ok : Tr → Prop
  | .con _ _ => True | .loc _ => True | .un _ c t => 1 < c ∧ t.ok | .bin _ c t u => 1 < c ∧ t.ok ∧ u.ok
def Tr.bare : Tr → Bool
  | .con _ _ => true | .loc _ => false | .un _ _ t => t.bare | .bin _ _ t u => t.bare && u.bare
theorem tup3_inj {a b c a' b' c' : Value} (h : some (tupOf [a, b, c]) = some (tupOf [a', b', c'])) : a = a' ∧ b = b' ∧ c = c' := by
  have e := congrArg Obj.data (Option.some.inj h)
  simp only [tupOf] at e
  injection e with e
  have e4 := congrArg Array.toList e
  simpa using e4
theorem lst_inj {l l' : List Value} {k k' : Nat} (h : some (PySem.W.listOf l.toArray k) = some (PySem.W.listOf l'.toArray k')) : l = l' := by
  have e := congrArg Obj.data (Option.some.inj h)
  simp only [PySem.W.listOf] at e
  injection e with e
  simpa using congrArg Array.toList e
theorem TrAt.head {h : Heap} {T : Tr} {a : Addr} (q : TrAt h a T) : ∃ u v p, h.get? a = some (tupOf [.int T.bits u, .int T.code v, .ref p]) := by
  cases T with
  | con b n => obtain ⟨u, v, p, _, _, h1, _⟩ := q; exact ⟨u, v, p, h1⟩
  | loc b => obtain ⟨u, v, p, _, h1, _⟩ := q; exact ⟨u, v, p, h1⟩
  | un b c t => obtain ⟨u, v, p, _, _, h1, _⟩ := q; exact ⟨u, v, p, h1⟩
  | bin b c t t' => obtain ⟨u, v, p, _, _, _, h1, _⟩ := q; exact ⟨u, v, p, h1⟩
theorem TrAt.same {h : Heap} {T U : Tr} {a : Addr} (p : TrAt h a T) (q : TrAt h a U) : T.bits = U.bits ∧ T.code = U.code := by
  obtain ⟨_, _, _, h1⟩ := p.head
  obtain ⟨_, _, _, h2⟩ := q.head
  obtain ⟨e1, e2, _⟩ := tup3_inj (h1.symm.trans h2)
  injection e1 with e1; injection e2 with e2
  exact ⟨e1, e2⟩
theorem ne01 {c : Int} (h : 1 < c) : c ≠ 0 ∧ c ≠ 1 := ⟨by lia, by lia⟩
theorem TrAt.det {h : Heap} {T : Tr} : ∀ {U : Tr} {a : Addr}, T.ok → U.ok → TrAt h a T → TrAt h a U → T = U := by
  induction T with
  | con b n =>
    intro U a _ o2 p q
    obtain ⟨eb, ec⟩ := p.same q
    cases U with
    | con b' n' =>
      obtain ⟨_, _, _, _, _, h1, h2⟩ := p
      obtain ⟨_, _, _, _, _, g1, g2⟩ := q
      have e3 := (tup3_inj (h1.symm.trans g1)).2.2
      injection e3 with e3; subst e3
      have e := lst_inj (h2.symm.trans g2)
      injection e with e; injection e with e
      rw [show b = b' from eb, e]
    | loc b' => exact absurd (show (0 : Int) = 1 from ec) (by decide)
    | un b' c t => exact absurd ec.symm (ne01 o2.1).1
    | bin b' c t t' => exact absurd ec.symm (ne01 o2.1).1
  | loc b =>
    intro U a _ o2 p q
    obtain ⟨eb, ec⟩ := p.same q
    cases U with
    | con b' n' => exact absurd (show (1 : Int) = 0 from ec) (by decide)
    | loc b' => rw [show b = b' from eb]
    | un b' c t => exact absurd ec.symm (ne01 o2.1).2
    | bin b' c t t' => exact absurd ec.symm (ne01 o2.1).2
  | un b c t ih =>
    intro U a o1 o2 p q
    obtain ⟨eb, ec⟩ := p.same q
    cases U with
    | con b' n' => exact absurd ec (ne01 o1.1).1
    | loc b' => exact absurd ec (ne01 o1.1).2
    | un b' c' t' =>
      obtain ⟨_, _, _, _, _, h1, h2, h3⟩ := p
      obtain ⟨_, _, _, _, _, g1, g2, g3⟩ := q
      have e3 := (tup3_inj (h1.symm.trans g1)).2.2
      injection e3 with e3; subst e3
      have e := lst_inj (h2.symm.trans g2)
      injection e with e; injection e with e; subst e
      rw [show b = b' from eb, show c = c' from ec, ih o1.2 o2.2 h3 g3]
    | bin b' c' t' u' =>
      obtain ⟨_, _, _, _, _, h1, h2, _⟩ := p
      obtain ⟨_, _, _, _, _, _, g1, g2, _⟩ := q
      have e3 := (tup3_inj (h1.symm.trans g1)).2.2
      injection e3 with e3; subst e3
      have e := congrArg List.length (lst_inj (h2.symm.trans g2))
      exact absurd (show (1 : Nat) = 2 from e) (by decide)
  | bin b c t u ih ih' =>
    intro U a o1 o2 p q
    obtain ⟨eb, ec⟩ := p.same q
    cases U with
    | con b' n' => exact absurd ec (ne01 o1.1).1
    | loc b' => exact absurd ec (ne01 o1.1).2
    | un b' c' t' =>
      obtain ⟨_, _, _, _, _, _, h1, h2, _⟩ := p
      obtain ⟨_, _, _, _, _, g1, g2, _⟩ := q
      have e3 := (tup3_inj (h1.symm.trans g1)).2.2
      injection e3 with e3; subst e3
      have e := congrArg List.length (lst_inj (h2.symm.trans g2))
      exact absurd (show (2 : Nat) = 1 from e) (by decide)
    | bin b' c' t' u' =>
      obtain ⟨_, _, _, _, _, _, h1, h2, h3, h4⟩ := p
      obtain ⟨_, _, _, _, _, _, g1, g2, g3, g4⟩ := q
      have e3 := (tup3_inj (h1.symm.trans g1)).2.2
      injection e3 with e3; subst e3
      have e := lst_inj (h2.symm.trans g2)
      injection e with e e'; injection e with e; injection e' with e'; injection e' with e'; subst e; subst e'
      rw [show b = b' from eb, show c = c' from ec, ih o1.2.1 o2.2.1 h3 g3, ih' o1.2.2 o2.2.2 h4 g4]
theorem bare_c (w : World) : ∀ (T : Tr) (a : Addr), T.ok → CtH w 549 [.ref a] (2 * T.depth + 2) (fun h => TrAt h a T) (fun _ _ v => v = .bool T.bare)
  | .con b n, a, _ => by
    intro mean mg mb dp un fr gd s Q E G hR hP hret
    obtain ⟨u, v, p, u', k, h1, h2⟩ := hP
    have KX := G.k
    have T := G.t
    refine enter G (by k_dflt k_is) (by k_dflt k_is) (Room.enter hR) rfl (locs rfl) (fun L' h' tk' F' N' => ?_)
    intro A9 E9
    try dsimp only
    dsimp only [List.map, List.zip, List.zipWith, List.reverse, List.reverseAux] at F'
    k_steps
    k_steps
    refine leaveC_ret (hret _ _ _ (Fr.keep (by k_asm)) rfl)
  | .loc b, a, _ => by
    intro mean mg mb dp un fr gd s Q E G hR hP hret
    obtain ⟨u, v, p, k, h1, h2⟩ := hP
    have KX := G.k
    have T := G.t
    refine enter G (by k_dflt k_is) (by k_dflt k_is) (Room.enter hR) rfl (locs rfl) (fun L' h' tk' F' N' => ?_)
    intro A9 E9
    try dsimp only
    dsimp only [List.map, List.zip, List.zipWith, List.reverse, List.reverseAux] at F'
    k_steps
    k_steps
    refine leaveC_ret (hret _ _ _ (Fr.keep (by k_asm)) rfl)
  | .un b c t, a, hok => by
    intro mean mg mb dp un fr gd s Q E G hR hP hret
    obtain ⟨u, v, p, q, k, h1, h2, h3⟩ := hP
    have hc : 1 < c := hok.1
    have KX := G.k
    have T := G.t
    refine enter G (by k_dflt k_is) (by k_dflt k_is) (Room.enter hR) rfl (locs rfl) (fun L' h' tk' F' N' => ?_)
    intro A9 E9
    try dsimp only
    dsimp only [List.map, List.zip, List.zipWith, List.reverse, List.reverseAux] at F'
    k_steps
    any_goals (exfalso; lia)
    refine unhold ?_
    show wpAny _ _ (eval (Expr.ListComp _ _ _ _) _) _ _ _
    refine comp_c (fun _ => true) (fun (v r : Value) => r = Value.bool t.bare) rfl rfl (by decide) rfl (by decide) rfl ?_
    k_steps
    with_reducible rename News _ _ _ _ => N2
    with_reducible rename Fr _ _ _ _ => F2
    refine unhold ⟨p, [.ref q], rfl, .inl ⟨_, F2.keep _ _ h2, rfl, _, rfl⟩, size1 _, compTests_nil, ?_, ?_⟩
    · intro C v s₃ m₃ E' hv _ F3 hm
      have hv' : v = .ref q := by simpa using hv
      subst hv'
      have KX3 := KX.keeps F2.keep
      have T3 := T.keeps F2.keep
      have eg : Ext s.heap _ := F2.keep
      have N3 := newsNil F3
      clear N2 F2 KX T
      k_steps
      all_goals
        refine unhold ?_
        exact bare_c w t q hok.2 mean mg mb _ _ _ _ _ _ _ (Gd.ext ⟨KX3, T3⟩ F3.keep) (Room.down hR (by simp only [Tr.depth]; lia) rfl rfl) (TrAt.ext h3 (eg.trans F3.keep)) (fun v h' tk' e r => ⟨r, _, _, rfl, e⟩)
    · intro D h'' tk'' ys n9 hx hD hd hp
      obtain ⟨_, rfl, rfl⟩ := paired1 hp
      have F6 := frExt F2 hx
      have N6 := news_cons hd (new_ne F2 hD) (fresh_back F2.keep hD) (newsExt N2 hx)
      clear F2 N2
      (try dsimp only)
      k_steps
      all_goals first
        | (k_steps; exact leaveC_ret (hret _ _ _ (Fr.keep (by k_asm)) rfl))
        | trace_state
  | .bin b c t t', a, hok => by
    intro mean mg mb dp un fr gd s Q E G hR hP hret
    obtain ⟨u, v, p, q, q', k, h1, h2, h3, h4⟩ := hP
    have hc : 1 < c := hok.1
    have KX := G.k
    have T := G.t
    refine enter G (by k_dflt k_is) (by k_dflt k_is) (Room.enter hR) rfl (locs rfl) (fun L' h' tk' F' N' => ?_)
    intro A9 E9
    try dsimp only
    dsimp only [List.map, List.zip, List.zipWith, List.reverse, List.reverseAux] at F'
    k_steps
    any_goals (exfalso; lia)
    refine unhold ?_
    show wpAny _ _ (eval (Expr.ListComp _ _ _ _) _) _ _ _
    refine comp_c (fun _ => true) (fun (v r : Value) => ∀ z U, v = .ref z → U.ok → TrAt s.heap z U → r = Value.bool U.bare) rfl rfl (by decide) rfl (by decide) rfl ?_
    k_steps
    with_reducible rename News _ _ _ _ => N2
    with_reducible rename Fr _ _ _ _ => F2
    refine unhold ⟨p, [.ref q, .ref q'], rfl, .inl ⟨_, F2.keep _ _ h2, rfl, _, rfl⟩, size2 _ _, compTests_nil, ?_, ?_⟩
    · intro C v s₃ m₃ E' hv _ F3 hm
      obtain ⟨z, U, rfl, hU, hz, hd⟩ : ∃ z U, v = .ref z ∧ Tr.ok U ∧ TrAt s.heap z U ∧ U.depth < (Tr.bin b c t t').depth ∧ (U = t ∨ U = t') := by
        rcases List.mem_cons.mp hv with rfl | hv
        · exact ⟨q, t, rfl, hok.2.1, h3, by simp only [Tr.depth]; lia, .inl rfl⟩
        · exact ⟨q', t', List.mem_singleton.mp hv, hok.2.2, h4, by simp only [Tr.depth]; lia, .inr rfl⟩
      have KX3 := KX.keeps F2.keep
      have T3 := T.keeps F2.keep
      have eg : Ext s.heap _ := F2.keep
      have N3 := newsNil F3
      clear N2 F2 KX T
      k_steps
      all_goals
        refine unhold ?_
        have B : CtH w 549 [.ref z] (2 * U.depth + 2) (fun h => TrAt h z U) (fun _ _ v => v = .bool U.bare) := by
          rcases hd.2 with rfl | rfl
          · exact bare_c w U z hU
          · exact bare_c w U z hU
        have hd1 := hd.1
        refine B mean mg mb _ _ _ _ _ _ _ (Gd.ext ⟨KX3, T3⟩ F3.keep) (Room.down hR (by lia) rfl rfl) (TrAt.ext hz (eg.trans F3.keep)) (fun v h' tk' e r => ⟨fun z' U' q1 q2 q3 => ?_, _, _, rfl, e⟩)
        cases q1
        rw [r, TrAt.det hU q2 hz q3]
    · intro D h'' tk'' ys n9 hx hD hd hp
      obtain ⟨_, _, rfl, q1, q2⟩ := paired2 hp
      cases q1 _ _ rfl hok.2.1 h3
      cases q2 _ _ rfl hok.2.2 h4
      have F6 := frExt F2 hx
      have N6 := news_cons hd (new_ne F2 hD) (fresh_back F2.keep hD) (newsExt N2 hx)
      clear F2 N2
      have hb : (Tr.bin b c t t').bare = (t.bare && t'.bare) := rfl
      rw [hb] at hret
      (try dsimp only)
      k_steps
      all_goals first
        | (k_steps; exact leaveC_ret (hret _ _ _ (Fr.keep (by k_asm)) rfl))
        | trace_state
end

section
/-! numbers -/
theorem sg_back {b v : Int} (hb : b = 32 ∨ b = 64) (h0 : 0 ≤ v) (h1 : v < 2 ^ b.toNat) : sg b v % 2 ^ b.toNat = v := by
  unfold sg
  rcases hb with rfl | rfl
  · simp at h1 ⊢; split <;> lia
  · simp at h1 ⊢; split <;> lia
theorem sg_of {b n : Int} (hb : b = 32 ∨ b = 64) (h0 : -2 ^ (b - 1).toNat ≤ n) (h1 : n < 2 ^ (b - 1).toNat) : sg b (n % 2 ^ b.toNat) = n := by
  unfold sg
  rcases hb with rfl | rfl
  · simp at h0 h1 ⊢; split <;> lia
  · simp at h0 h1 ⊢; split <;> lia
theorem sg_rng {b v : Int} (hb : b = 32 ∨ b = 64) (h0 : 0 ≤ v) (h1 : v < 2 ^ b.toNat) : -2 ^ (b - 1).toNat ≤ sg b v ∧ sg b v < 2 ^ (b - 1).toNat := by
  unfold sg
  rcases hb with rfl | rfl
  · simp at h1 ⊢; split <;> lia
  · simp at h1 ⊢; split <;> lia
theorem takes_b (c : Int) : takesF c = 32 ∨ takesF c = 64 := by unfold takesF; split <;> simp
theorem puts_b (c : Int) : putsF c = 32 ∨ putsF c = 64 := by
  unfold putsF widthsF
  repeat' split
  all_goals simp
/-- what is asked of the numbers -/
structure Num : Prop where
  r1 : ∀ c x, isUnF c = true → 0 ≤ x → x < 2 ^ (takesF c).toNat → 0 ≤ r1F c x ∧ r1F c x < 2 ^ (putsF c).toNat
  r2 : ∀ c x y z, isBiF c = true → 0 ≤ x → x < 2 ^ (takesF c).toNat → 0 ≤ y → y < 2 ^ (takesF c).toNat → r2F c x y = some z → 0 ≤ z ∧ z < 2 ^ (putsF c).toNat
  nt : ∀ c x y, isBiF c = true → 0 ≤ x → x < 2 ^ (takesF c).toNat → 0 ≤ y → y < 2 ^ (takesF c).toNat → neutralF c = some (sg (takesF c) y) → r2F c x y = some x ∧ putsF c = takesF c
/-- the trees that the law builds -/
def Tr.wf : Tr → Prop
  | .con b n => (b = 32 ∨ b = 64) ∧ -2 ^ (b - 1).toNat ≤ n ∧ n < 2 ^ (b - 1).toNat
  | .loc b => b = 32 ∨ b = 64
  | .un b c t => isUnF c = true ∧ b = putsF c ∧ t.bits = takesF c ∧ t.wf
  | .bin b c t u => isBiF c = true ∧ b = putsF c ∧ t.bits = takesF c ∧ u.bits = takesF c ∧ t.wf ∧ u.wf
theorem Tr.wf.b : ∀ {T : Tr}, T.wf → T.bits = 32 ∨ T.bits = 64
  | .con _ _, h => h.1
  | .loc _, h => h
  | .un _ c _, h => by have := puts_b c; rw [← h.2.1] at this; exact this
  | .bin _ c _ _, h => by have := puts_b c; rw [← h.2.1] at this; exact this
def Tr.worth (p0 p1 : Int) : Tr → Option Int
  | .con b n => some (n % 2 ^ b.toNat)
  | .loc b => some (if b = 32 then p0 else p1)
  | .un _ c t => (t.worth p0 p1).map (r1F c)
  | .bin _ c t u => (t.worth p0 p1).bind fun x => (u.worth p0 p1).bind fun y => r2F c x y
abbrev opI (c : Int) : Ins := { code := c, arg := none }
def locI (b : Int) : Ins := ⟨32, some (if b = 32 then 0 else 1)⟩
def Tr.flat : Tr → List Ins
  | .con b n => [⟨if b = 32 then 65 else 66, some n⟩]
  | .loc b => [locI b]
  | .un _ c t => t.flat ++ [opI c]
  | .bin _ c t u => t.flat ++ u.flat ++ [opI c]
/-- the worth of a tree that is one constant when it is folded -/
def Tr.cv : Tr → Option Int
  | .con b n => some (n % 2 ^ b.toNat)
  | .loc _ => none
  | .un _ c t => t.cv.map (r1F c)
  | .bin _ c t u => t.cv.bind fun x => u.cv.bind fun y => r2F c x y
def Tr.drops (c : Int) (u : Tr) : Bool := match u.cv with
  | some y => decide (neutralF c = some (sg u.bits y))
  | none => false
/-- the folded body -/
def Tr.sf : Tr → List Ins
  | .con b n => [⟨if b = 32 then 65 else 66, some n⟩]
  | .loc b => [locI b]
  | .un b c t => match (Tr.un b c t).cv with
    | some v => [constI b v]
    | none => t.sf ++ [opI c]
  | .bin b c t u => match (Tr.bin b c t u).cv with
    | some v => [constI b v]
    | none => if u.drops c then t.sf else t.sf ++ u.sf ++ [opI c]
theorem Tr.worth_rng (N : Num) {p0 p1 : Int} (h0 : 0 ≤ p0 ∧ p0 < 2 ^ 32) (h1 : 0 ≤ p1 ∧ p1 < 2 ^ 64) : ∀ {T : Tr} {v : Int}, T.wf → T.worth p0 p1 = some v → 0 ≤ v ∧ v < 2 ^ T.bits.toNat
  | .con b n, v, _, h => by
    cases h
    exact ⟨Int.emod_nonneg _ (Int.ne_of_gt (p2pos _)), Int.emod_lt_of_pos _ (p2pos _)⟩
  | .loc b, v, hb, h => by
    cases h
    rcases hb with rfl | rfl
    · exact h0
    · exact h1
  | .un b c t, v, hw, h => by
    obtain ⟨hu, rfl, hb, ht⟩ := hw
    simp only [Tr.worth, Option.map_eq_some_iff] at h
    obtain ⟨x, hx, rfl⟩ := h
    have := Tr.worth_rng N h0 h1 ht hx
    rw [hb] at this
    exact N.r1 c x hu this.1 this.2
  | .bin b c t u, v, hw, h => by
    obtain ⟨hu, rfl, hb, hb2, ht, ht2⟩ := hw
    simp only [Tr.worth, Option.bind_eq_some_iff] at h
    obtain ⟨x, hx, y, hy, hz⟩ := h
    have r := Tr.worth_rng N h0 h1 ht hx
    have q := Tr.worth_rng N h0 h1 ht2 hy
    rw [hb] at r
    rw [hb2] at q
    exact N.r2 c x y v hu r.1 r.2 q.1 q.2 hz
theorem Tr.cv_worth {p0 p1 : Int} : ∀ {T : Tr} {v : Int}, T.cv = some v → T.worth p0 p1 = some v
  | .con b n, v, h => h
  | .loc b, v, h => nomatch h
  | .un b c t, v, h => by
    simp only [Tr.cv, Option.map_eq_some_iff] at h
    obtain ⟨x, hx, rfl⟩ := h
    simp only [Tr.worth, Tr.cv_worth hx, Option.map_some]
  | .bin b c t u, v, h => by
    simp only [Tr.cv, Option.bind_eq_some_iff] at h
    obtain ⟨x, hx, y, hy, hz⟩ := h
    simp only [Tr.worth, Tr.cv_worth hx, Tr.cv_worth hy, Option.bind_some, hz]
theorem Tr.cv_bare {p0 p1 : Int} : ∀ {T : Tr}, T.bare = true → T.cv = T.worth p0 p1
  | .con b n, _ => rfl
  | .loc b, h => nomatch h
  | .un b c t, h => by simp only [Tr.cv, Tr.worth, Tr.cv_bare (p0 := p0) (p1 := p1) (T := t) h]
  | .bin b c t u, h => by
    simp only [Tr.bare, Bool.and_eq_true] at h
    simp only [Tr.cv, Tr.worth, Tr.cv_bare (p0 := p0) (p1 := p1) h.1, Tr.cv_bare (p0 := p0) (p1 := p1) h.2]
theorem Tr.cv_rng (N : Num) {T : Tr} {v : Int} (hw : T.wf) (h : T.cv = some v) : 0 ≤ v ∧ v < 2 ^ T.bits.toNat :=
  Tr.worth_rng N (p0 := 0) (p1 := 0) (by decide) (by decide) hw (Tr.cv_worth h)
/-- a tree that is a constant is one constant -/
theorem Tr.sf_cv : ∀ {T : Tr} {v : Int}, T.wf → T.cv = some v → T.sf = [constI T.bits v]
  | .con b n, v, hw, h => by
    cases h
    show [_] = [_]
    unfold constI
    rw [show (Tr.con b n).bits = b from rfl, sg_of hw.1 hw.2.1 hw.2.2]
  | .loc b, v, _, h => nomatch h
  | .un b c t, v, _, h => by simp only [Tr.sf, h]; rfl
  | .bin b c t u, v, _, h => by simp only [Tr.sf, h]; rfl
theorem constI_code (b x : Int) : (constI b x).code = 65 ∨ (constI b x).code = 66 := by unfold constI; dsimp only; split <;> simp
theorem constF_constI (b x : Int) : constF (constI b x) = some (sg b x) := by
  unfold constF
  rw [if_pos (constI_code b x)]; rfl
theorem constF_op {c : Int} (h : isUnF c = true ∨ isBiF c = true) : constF (opI c) = none := by unfold constF; split <;> rfl
theorem un_const {i : Ins} (h : i.code = 65 ∨ i.code = 66 ∨ i.code = 32) : isUnF i.code = false ∧ isBiF i.code = false := by
  rcases h with h | h | h <;> rw [h] <;> decide
theorem lastF_plain {i : Ins} {l : List Ins} (h : i.code = 65 ∨ i.code = 66 ∨ i.code = 32) : lastF (i :: l) = none := by
  obtain ⟨h1, h2⟩ := un_const h
  cases l with
  | nil => rfl
  | cons a r => simp only [lastF, h1, h2]; rfl
theorem lastF_un {c : Int} {a : Ins} {l : List Ins} (h : isUnF c = true) : lastF (opI c :: a :: l) = (constF a).map fun x => (2, some (reck1F c x)) := by simp only [lastF, h, if_true]
theorem lastF_bi {c : Int} {a b : Ins} {l : List Ins} (h : isBiF c = true) : lastF (opI c :: a :: b :: l) = binR c (constF b) (constF a) := by
  simp only [lastF, h, un_not_bi h, if_true]; rfl
/-- nothing more to fold at the end of l -/
def Calm (l : List Ins) : Prop := ∀ acc, lastF (acc ++ l).reverse = none
theorem Calm.norm {l acc : List Ins} (h : Calm l) : normF (acc ++ l) = acc ++ l := normF_none (h acc)
theorem calm_plain {i : Ins} (h : i.code = 65 ∨ i.code = 66 ∨ i.code = 32) (l : List Ins) : Calm (l ++ [i]) := fun acc => by
  rw [← List.append_assoc, List.reverse_append, List.reverse_cons, List.reverse_nil, List.nil_append, List.singleton_append]
  exact lastF_plain h
theorem calm1 {i : Ins} (h : i.code = 65 ∨ i.code = 66 ∨ i.code = 32) : Calm [i] := calm_plain h []
structure SfEnd (l : List Ins) : Prop where
  ends : ∃ p i, l = p ++ [i] ∧ constF i = none
  calm : Calm l
theorem un_step {c : Int} {i : Ins} (hu : isUnF c = true) (hi : constF i = none) (l : List Ins) : Calm (l ++ [i] ++ [opI c]) := fun acc => by
  have e : (acc ++ (l ++ [i] ++ [opI c])).reverse = opI c :: i :: (acc ++ l).reverse := by simp
  rw [e, lastF_un hu, hi]; rfl
theorem bi_step {c : Int} {i j : Ins} (hu : isBiF c = true) (h : binR c (constF j) (constF i) = none) (p q : List Ins) : Calm (p ++ [j] ++ (q ++ [i]) ++ [opI c]) ∨ q ≠ [] := by
  cases q with
  | nil =>
    refine .inl fun acc => ?_
    have e : (acc ++ (p ++ [j] ++ ([] ++ [i]) ++ [opI c])).reverse = opI c :: i :: j :: (acc ++ p).reverse := by simp
    rw [e, lastF_bi hu, h]
  | cons a r => exact .inr (by simp)
theorem bi_none {c : Int} {i : Ins} (hu : isBiF c = true) (hi : constF i = none) (l : List Ins) (hl : l ≠ []) : Calm (l ++ [i] ++ [opI c]) := fun acc => by
  have e : (acc ++ (l ++ [i] ++ [opI c])).reverse = opI c :: i :: (acc ++ l).reverse := by simp
  rw [e]
  cases q : (acc ++ l).reverse with
  | nil => simp_all
  | cons a r => rw [lastF_bi hu, hi]; rfl
theorem Tr.sf_ne : ∀ (T : Tr), T.sf ≠ []
  | .con b n => by simp [Tr.sf]
  | .loc b => by simp [Tr.sf]
  | .un b c t => by simp only [Tr.sf]; split <;> simp
  | .bin b c t u => by
    simp only [Tr.sf]
    split
    · simp
    · split
      · exact t.sf_ne
      · simp
theorem reck2_of (N : Num) {c x y : Int} {b : Int} (hb : b = takesF c) (hx : 0 ≤ x ∧ x < 2 ^ b.toNat) (hy : 0 ≤ y ∧ y < 2 ^ b.toNat) : reck2F c (sg b x) (sg b y) = (r2F c x y).map (constI (putsF c)) := by
  subst hb
  unfold reck2F putsF
  rw [widths_takes, sg_back (takes_b c) hx.1 hx.2, sg_back (takes_b c) hy.1 hy.2]
theorem reck1_of {c x : Int} {b : Int} (hb : b = takesF c) (hx : 0 ≤ x ∧ x < 2 ^ b.toNat) : reck1F c (sg b x) = constI (putsF c) (r1F c x) := by
  subst hb
  unfold reck1F putsF
  rw [widths_takes, sg_back (takes_b c) hx.1 hx.2]
theorem Tr.sf_end (N : Num) : ∀ {T : Tr}, T.wf → T.cv = none → SfEnd T.sf
  | .con b n, _, h => nomatch h
  | .loc b, _, _ => ⟨⟨[], locI b, rfl, by show (if (32 : Int) = 65 ∨ (32 : Int) = 66 then _ else none) = none; rw [if_neg (by decide)]⟩, calm1 (.inr (.inr rfl))⟩
  | .un b c t, hw, h => by
    obtain ⟨hu, rfl, hb, ht⟩ := hw
    simp only [Tr.sf, h]
    have ht0 : t.cv = none := by simpa [Tr.cv] using h
    obtain ⟨⟨p, i, e, hi⟩, _⟩ := Tr.sf_end N ht ht0
    refine ⟨⟨_, _, rfl, constF_op (.inl hu)⟩, ?_⟩
    rw [e]
    exact un_step hu hi p
  | .bin b c t u, hw, h => by
    obtain ⟨hu, rfl, hb, hb2, ht, ht2⟩ := hw
    simp only [Tr.sf, h]
    cases e2 : u.cv with
    | none =>
      have ed : u.drops c = false := by unfold Tr.drops; rw [e2]
      rw [ed]
      obtain ⟨⟨p, i, e, hi⟩, _⟩ := Tr.sf_end N ht2 e2
      refine ⟨⟨_, _, rfl, constF_op (.inr hu)⟩, ?_⟩
      simp only [Bool.false_eq_true, if_false]
      rw [e, ← List.append_assoc]
      exact bi_none hu hi _ (by simp [t.sf_ne])
    | some y =>
      have ry := Tr.cv_rng N ht2 e2
      rw [hb2] at ry
      by_cases hd : u.drops c = true
      · rw [if_pos hd]
        refine Tr.sf_end N ht ?_
        cases e1 : t.cv with
        | none => rfl
        | some x =>
          have rx := Tr.cv_rng N ht e1
          rw [hb] at rx
          unfold Tr.drops at hd
          rw [e2] at hd
          simp only [decide_eq_true_eq, hb2] at hd
          have := N.nt c x y hu rx.1 rx.2 ry.1 ry.2 hd
          simp only [Tr.cv, e1, e2, Option.bind_some, this.1] at h
          cases h
      · rw [if_neg hd]
        have hd2 : neutralF c ≠ some (sg (takesF c) y) := by
          unfold Tr.drops at hd
          rw [e2] at hd
          simpa [hb2] using hd
        refine ⟨⟨_, _, rfl, constF_op (.inr hu)⟩, ?_⟩
        rw [Tr.sf_cv ht2 e2, hb2]
        cases e1 : t.cv with
        | none =>
          obtain ⟨⟨p, i, e, hi⟩, _⟩ := Tr.sf_end N ht e1
          rw [e]
          have := bi_step (i := constI (takesF c) y) (j := i) hu (by rw [constF_constI, hi]; exact binR_no rfl hd2) p []
          simpa using this
        | some x =>
          have rx := Tr.cv_rng N ht e1
          rw [hb] at rx
          rw [Tr.sf_cv ht e1, hb]
          have hz : r2F c x y = none := by simpa [Tr.cv, e1, e2] using h
          have := bi_step (i := constI (takesF c) y) (j := constI (takesF c) x) hu (by
            rw [constF_constI, constF_constI]
            refine binR_no ?_ hd2
            rw [Option.bind_some, reck2_of N rfl rx ry, hz]; rfl) [] []
          simpa using this
theorem Tr.sf_calm (N : Num) {T : Tr} (hw : T.wf) : Calm T.sf := by
  cases e : T.cv with
  | none => exact (Tr.sf_end N hw e).calm
  | some v =>
    rw [Tr.sf_cv hw e]
    exact calm1 ((constI_code _ _).elim .inl fun h => .inr (.inl h))
theorem takeEnd {l m : List Ins} {k : Nat} (h : m.length = k) : (l ++ m).take ((l ++ m).length - k) = l := by subst h; simp
theorem norm_const {acc : List Ins} {b v : Int} : normF (acc ++ [constI b v]) = acc ++ [constI b v] :=
  (calm1 ((constI_code _ _).elim .inl fun h => .inr (.inl h))).norm
theorem Tr.fold (N : Num) : ∀ {T : Tr}, T.wf → ∀ (acc rest : List Ins), foldN acc (T.flat ++ rest) = foldN (acc ++ T.sf) rest
  | .con b n, hw, acc, rest => by
    show foldN (normF (acc ++ _)) rest = _
    have e : (Tr.con b n).sf = [constI b (n % 2 ^ b.toNat)] := Tr.sf_cv hw rfl
    have e2 : (Tr.con b n).flat = [constI b (n % 2 ^ b.toNat)] := e
    rw [e]
    show foldN (normF (acc ++ (Tr.con b n).flat)) rest = _
    rw [e2, norm_const]
  | .loc b, _, acc, rest => by
    show foldN (normF (acc ++ [locI b])) rest = foldN (acc ++ [locI b]) rest
    rw [(calm1 (.inr (.inr rfl))).norm]
  | .un b c t, hw, acc, rest => by
    obtain ⟨hu, rfl, hb, ht⟩ := id hw
    have e0 : (Tr.un (putsF c) c t).flat ++ rest = t.flat ++ (opI c :: rest) := by simp [Tr.flat]
    rw [e0, Tr.fold N ht]
    show foldN (normF (acc ++ t.sf ++ [opI c])) rest = _
    congr 1
    cases e1 : t.cv with
    | none =>
      obtain ⟨⟨p, i, e, hi⟩, _⟩ := Tr.sf_end N ht e1
      have e2 : (Tr.un (putsF c) c t).sf = t.sf ++ [opI c] := by simp only [Tr.sf, Tr.cv, e1, Option.map_none]
      rw [e2, List.append_assoc, e]
      exact (un_step hu hi p).norm
    | some x =>
      have rx := Tr.cv_rng N ht e1
      have e2 : (Tr.un (putsF c) c t).sf = [constI (putsF c) (r1F c x)] := by simp only [Tr.sf, Tr.cv, e1, Option.map_some]
      have e3 : lastF (acc ++ t.sf ++ [opI c]).reverse = some (2, some (constI (putsF c) (r1F c x))) := by
        rw [Tr.sf_cv ht e1]
        have e : (acc ++ [constI t.bits x] ++ [opI c]).reverse = opI c :: constI t.bits x :: acc.reverse := by simp
        rw [e, lastF_un hu, constF_constI, Option.map_some, reck1_of hb rx]
      rw [normF_some e3, e2, Tr.sf_cv ht e1]
      have e4 : (acc ++ [constI t.bits x] ++ [opI c]).take ((acc ++ [constI t.bits x] ++ [opI c]).length - 2) = acc := by
        rw [List.append_assoc]
        simp
      rw [e4]
      exact norm_const
  | .bin b c t u, hw, acc, rest => by
    obtain ⟨hu, rfl, hb, hb2, ht, ht2⟩ := id hw
    have e0 : (Tr.bin (putsF c) c t u).flat ++ rest = t.flat ++ (u.flat ++ (opI c :: rest)) := by simp [Tr.flat]
    rw [e0, Tr.fold N ht, Tr.fold N ht2]
    show foldN (normF (acc ++ t.sf ++ u.sf ++ [opI c])) rest = _
    congr 1
    have stay : (Tr.bin (putsF c) c t u).sf = t.sf ++ u.sf ++ [opI c] → normF (acc ++ t.sf ++ u.sf ++ [opI c]) = acc ++ (Tr.bin (putsF c) c t u).sf := fun e => by
      have q := (Tr.sf_calm N hw).norm (acc := acc)
      rw [e] at q ⊢
      simpa using q
    cases e2 : u.cv with
    | none =>
      refine stay ?_
      have : u.drops c = false := by unfold Tr.drops; rw [e2]
      simp only [Tr.sf, Tr.cv, e2, Option.bind_none, this]
      cases t.cv <;> rfl
    | some y =>
      have ry := Tr.cv_rng N ht2 e2
      rw [hb2] at ry
      cases e3 : (Tr.bin (putsF c) c t u).cv with
      | some z =>
        obtain ⟨x, e1, hz⟩ : ∃ x, t.cv = some x ∧ r2F c x y = some z := by
          simp only [Tr.cv, e2, Option.bind_eq_some_iff, Option.bind_some] at e3
          obtain ⟨x, a, d⟩ := e3
          exact ⟨x, a, by simpa using d⟩
        have rx := Tr.cv_rng N ht e1
        rw [hb] at rx
        have e4 : (Tr.bin (putsF c) c t u).sf = [constI (putsF c) z] := Tr.sf_cv hw e3
        rw [e4, Tr.sf_cv ht e1, Tr.sf_cv ht2 e2, hb, hb2]
        have e5 : lastF (acc ++ [constI (takesF c) x] ++ [constI (takesF c) y] ++ [opI c]).reverse = some (3, some (constI (putsF c) z)) := by
          have e : (acc ++ [constI (takesF c) x] ++ [constI (takesF c) y] ++ [opI c]).reverse = opI c :: constI (takesF c) y :: constI (takesF c) x :: acc.reverse := by simp
          rw [e, lastF_bi hu, constF_constI, constF_constI]
          refine binR_rep ?_
          rw [Option.bind_some, reck2_of N rfl rx ry, hz]; rfl
        rw [normF_some e5]
        have e6 : (acc ++ [constI (takesF c) x] ++ [constI (takesF c) y] ++ [opI c]).take ((acc ++ [constI (takesF c) x] ++ [constI (takesF c) y] ++ [opI c]).length - 3) = acc := by
          rw [List.append_assoc, List.append_assoc]
          simp
        rw [e6]
        exact norm_const
      | none =>
        by_cases hd : u.drops c = true
        · have e4 : (Tr.bin (putsF c) c t u).sf = t.sf := by simp only [Tr.sf, e3, hd, if_true]
          have hd2 := hd
          unfold Tr.drops at hd2
          rw [e2] at hd2
          simp only [decide_eq_true_eq, hb2] at hd2
          have e1 : t.cv = none := by
            cases e1 : t.cv with
            | none => rfl
            | some x =>
              have rx := Tr.cv_rng N ht e1
              rw [hb] at rx
              have := N.nt c x y hu rx.1 rx.2 ry.1 ry.2 hd2
              simp only [Tr.cv, e1, e2, Option.bind_some, this.1] at e3
              cases e3
          obtain ⟨⟨p, i, e, hi⟩, _⟩ := Tr.sf_end N ht e1
          have e5 : lastF (acc ++ t.sf ++ [constI (takesF c) y] ++ [opI c]).reverse = some (2, none) := by
            rw [e]
            have e : (acc ++ (p ++ [i]) ++ [constI (takesF c) y] ++ [opI c]).reverse = opI c :: constI (takesF c) y :: i :: (acc ++ p).reverse := by simp
            rw [e, lastF_bi hu, constF_constI, hi]
            exact binR_pop rfl hd2
          rw [e4, Tr.sf_cv ht2 e2, hb2, normF_some e5]
          have e6 : (acc ++ t.sf ++ [constI (takesF c) y] ++ [opI c]).take ((acc ++ t.sf ++ [constI (takesF c) y] ++ [opI c]).length - 2) = acc ++ t.sf := by
            rw [List.append_assoc (acc ++ t.sf)]
            exact takeEnd rfl
          rw [e6]
          simp only [Option.toList_none, List.append_nil]
          exact (Tr.sf_calm N ht).norm
        · refine stay ?_
          simp only [Tr.sf, e3, if_neg hd]
/-- the n low digits, the lowest first -/
def dg : Nat → Int → List Int
  | 0, _ => []
  | n + 1, x => x % 2 :: dg n (x / 2)
theorem dg_length : ∀ {n : Nat} {x : Int}, (dg n x).length = n
  | 0, _ => rfl
  | n + 1, x => by simp only [dg, List.length_cons, dg_length]
theorem div2pow (x : Int) (k : Nat) : x / 2 / 2 ^ k = x / 2 ^ (k + 1) := by
  rw [Int.ediv_ediv_of_nonneg (by decide), Int.pow_succ, Int.mul_comm]
theorem dg_map : ∀ (n : Nat) (x : Int), (List.range n).map (fun k => x / 2 ^ k % 2) = dg n x
  | 0, _ => rfl
  | n + 1, x => by
    rw [List.range_succ_eq_map, List.map_cons, List.map_map, dg, ← dg_map n (x / 2)]
    congr 1
    · simp
    · refine List.map_congr_left fun k _ => ?_
      show x / 2 ^ (k + 1) % 2 = _
      rw [div2pow]
theorem dg_add : ∀ (h m : Nat) (x : Int), dg (h + m) x = dg h x ++ dg m (x / 2 ^ h)
  | 0, m, x => by simp [dg]
  | h + 1, m, x => by
    rw [show h + 1 + m = (h + m) + 1 by lia]
    simp only [dg, dg_add h m, div2pow, List.cons_append]
theorem mod2pow (x : Int) (h : Nat) : x % 2 ^ (h + 1) = x % 2 + 2 * (x / 2 % 2 ^ h) := by
  have hp := p2pos h
  have e1 := Int.mul_ediv_add_emod (x / 2) (2 ^ h)
  have e2 := Int.mul_ediv_add_emod x 2
  have r1 := Int.emod_nonneg (x / 2) (Int.ne_of_gt hp)
  have r2 := Int.emod_lt_of_pos (x / 2) hp
  have e3 : (2 : Int) ^ (h + 1) = 2 * 2 ^ h := by rw [Int.pow_succ, Int.mul_comm]
  have e4 : 2 * 2 ^ h * (x / 2 / 2 ^ h) = 2 * (2 ^ h * (x / 2 / 2 ^ h)) := Int.mul_assoc ..
  refine (kbt_unique (q := x / 2 / 2 ^ h) (p2pos _) ?_ ?_ ?_).2
  · rw [e3, e4]; lia
  · lia
  · rw [e3]; lia
theorem dg_one : ∀ (h : Nat) (x : Int), 1 ∈ dg h x ↔ x % 2 ^ h ≠ 0
  | 0, x => by simp [dg]
  | h + 1, x => by
    rw [dg, List.mem_cons, dg_one h, mod2pow]
    have := Int.emod_nonneg (x / 2) (Int.ne_of_gt (p2pos h))
    lia
theorem idx_l {l m : List Int} (h : 1 ∈ l) : (l ++ m).idxOf 1 = l.idxOf 1 := by rw [List.idxOf_append, if_pos h]
theorem idx_r {l m : List Int} (h : ¬ 1 ∈ l) : (l ++ m).idxOf 1 = m.idxOf 1 + l.length := by rw [List.idxOf_append, if_neg h]
theorem kk_pow (n : Nat) : kk (n + 1) = 2 ^ n := by unfold kk; rw [if_neg (by lia)]; rfl
theorem kk_nat (n : Nat) : (kk (n + 1)).toNat = 2 ^ n := by rw [kk_pow, ← kbt_cast]; exact Int.toNat_natCast _
theorem ctz_go {b : Int} : ∀ (n : Nat) (x f : Int), x % 2 ^ (2 ^ n) ≠ 0 → ctzL b n x f = f + ((dg (2 ^ n) x).idxOf 1 : Nat)
  | 0, x, f, h => by
    have h1 : x % 2 = 1 := by simp at h; lia
    show f = f + (([x % 2] : List Int).idxOf 1 : Nat)
    rw [h1]; simp
  | n + 1, x, f, h => by
    have e : 2 ^ (n + 1) = 2 ^ n + 2 ^ n := by rw [Nat.pow_succ]; lia
    have h2 : 1 ∈ dg (2 ^ (n + 1)) x := (dg_one _ _).mpr h
    rw [e, dg_add] at h2 ⊢
    simp only [ctzL, kk_nat]
    by_cases c : x % 2 ^ (2 ^ n) = 0
    · have c2 : ¬ 1 ∈ dg (2 ^ n) x := fun q => (dg_one _ _).mp q c
      rw [if_pos c, idx_r c2, dg_length, ctz_go n, kk_pow]
      · rw [← kbt_cast]; lia
      · rcases List.mem_append.mp h2 with q | q
        · exact absurd q c2
        · exact (dg_one _ _).mp q
    · rw [if_neg c, idx_l ((dg_one _ _).mpr c), ctz_go n x f c]
theorem ctz_is {b x : Int} (hb : b = 32 ∨ b = 64) (h0 : 0 ≤ x) (h1 : x < 2 ^ b.toNat) : ctzF b x = ((dg b.toNat x ++ [1]).idxOf 1 : Nat) := by
  unfold ctzF
  by_cases hx : x = 0
  · subst hx
    rw [if_pos rfl, idx_r (fun q => (dg_one _ _).mp q (Int.zero_emod _)), dg_length]
    rcases hb with rfl | rfl <;> rfl
  · have hm : x % 2 ^ b.toNat ≠ 0 := by rw [Int.emod_eq_of_lt h0 h1]; exact hx
    rw [if_neg hx, idx_l ((dg_one _ _).mpr hm)]
    rcases hb with rfl | rfl
    · rw [if_pos rfl, ctz_go 5 x 0 hm, Int.zero_add]; rfl
    · rw [if_neg (by decide), ctz_go 6 x 0 hm, Int.zero_add]; rfl
theorem mem_rev {h : Nat} {x : Int} : 1 ∈ (dg h x).reverse ↔ x % 2 ^ h ≠ 0 := by rw [List.mem_reverse, dg_one]
theorem clz_a1 {b H : Nat} (h : H + H ≤ b) : b - (H + H) + H = b - H := by rw [Nat.sub_add_eq]; exact Nat.sub_add_cancel (Nat.le_sub_of_add_le h)
theorem clz_a2 {b H : Nat} : ((b : Int) - (H : Int)).toNat = b - H := Int.toNat_sub b H
theorem clz_a3 {b H : Nat} (h : H + H ≤ b) : H + (b - H) = b := Nat.add_sub_cancel' (Nat.le_trans (Nat.le_add_left H H) h)
theorem clz_a4 {b H : Nat} (h : H + H ≤ b) : b - H + H = b := Nat.sub_add_cancel (Nat.le_trans (Nat.le_add_left H H) h)
theorem clz_a5 {b H : Nat} (h : H + H ≤ b) : H ≤ b := Nat.le_trans (Nat.le_add_left H H) h
theorem clz_a6 {f : Int} {H k : Nat} : f + (H : Int) + (k : Int) = f + ((k + H : Nat) : Int) := by lia
theorem clz_go {b : Nat} : ∀ (n : Nat) (x f : Int), 2 ^ n ≤ b → 0 ≤ x → x < 2 ^ b → x / 2 ^ (b - 2 ^ n) ≠ 0 → clzL b n x f = f + ((dg (2 ^ n) (x / 2 ^ (b - 2 ^ n))).reverse.idxOf 1 : Nat)
  | 0, x, f, hb, h0, h1, h => by
    have hb1 : (2 : Int) ^ b = 2 * 2 ^ (b - 2 ^ 0) := by
      rw [Int.mul_comm, ← Int.pow_succ]; congr 1; simp at hb ⊢; lia
    have hp := p2pos (b - 2 ^ 0)
    have hq : x / 2 ^ (b - 2 ^ 0) < 2 := by
      apply Int.ediv_lt_of_lt_mul hp
      rw [← hb1]; exact h1
    have hq0 := Int.ediv_nonneg h0 (Int.le_of_lt hp)
    have h9 : x / 2 ^ (b - 2 ^ 0) = 1 := by lia
    rw [h9]
    show f = f + (([1] : List Int).idxOf 1 : Nat)
    simp
  | n + 1, x, f, hb, h0, h1, h => by
    have e : 2 ^ (n + 1) = 2 ^ n + 2 ^ n := by rw [Nat.pow_succ]; lia
    rw [e] at hb h ⊢
    generalize hH : 2 ^ n = H at *
    have hp := p2pos (b - (H + H))
    have e1 : x / 2 ^ (b - (H + H)) / 2 ^ H = x / 2 ^ (b - H) := by
      rw [Int.ediv_ediv_of_nonneg (Int.le_of_lt hp), ← Int.pow_add]
      rw [clz_a1 hb]
    rw [dg_add, List.reverse_append, e1]
    have e2 : ((b : Int) - kk (n + 1)).toNat = b - H := by rw [kk_pow, ← kbt_cast, hH]; exact clz_a2
    have e3 : (kk (n + 1)).toNat = H := by rw [kk_nat, hH]
    have y0 : 0 ≤ x / 2 ^ (b - H) := Int.ediv_nonneg h0 (Int.le_of_lt (p2pos _))
    have y1 : x / 2 ^ (b - H) < 2 ^ H := by
      apply Int.ediv_lt_of_lt_mul (p2pos _)
      rw [← Int.pow_add, clz_a3 hb]; exact h1
    simp only [clzL, e2, e3]
    by_cases c : x / 2 ^ (b - H) = 0
    · have hx : x < 2 ^ (b - H) := (div_zero_iff _ h0).mp c
      have hs : x * 2 ^ H < 2 ^ b := by
        rw [← clz_a4 hb, Int.pow_add]
        exact Int.mul_lt_mul_of_pos_right (by simpa using hx) (p2pos _)
      have hs0 : 0 ≤ x * 2 ^ H := Int.mul_nonneg h0 (Int.le_of_lt (p2pos _))
      have e4 : x * 2 ^ H % 2 ^ ((b : Int)).toNat = x * 2 ^ H := Int.emod_eq_of_lt hs0 (by simpa using hs)
      have e5 : x * 2 ^ H / 2 ^ (b - H) = x / 2 ^ (b - (H + H)) := by
        rw [← clz_a1 hb, Int.pow_add]
        exact Int.mul_ediv_mul_of_pos_left _ _ (p2pos _)
      have c2 : ¬ 1 ∈ (dg H (x / 2 ^ (b - H))).reverse := by rw [mem_rev, c]; simp
      rw [if_pos c, e4, idx_r c2, List.length_reverse, dg_length]
      have ih := clz_go n (x * 2 ^ H) (f + kk (n + 1)) (by rw [hH]; exact clz_a5 hb) hs0 hs (by rw [hH, e5]; exact h)
      rw [hH, e5] at ih
      rw [ih, kk_pow, ← kbt_cast, hH]
      exact clz_a6
    · have c2 : 1 ∈ (dg H (x / 2 ^ (b - H))).reverse := by rw [mem_rev, Int.emod_eq_of_lt y0 y1]; exact c
      have ih := clz_go n x f (by rw [hH]; exact clz_a5 hb) h0 h1 (by rw [hH]; exact c)
      rw [hH] at ih
      rw [if_neg c, idx_l c2, ih]
theorem clz_is {b x : Int} (hb : b = 32 ∨ b = 64) (h0 : 0 ≤ x) (h1 : x < 2 ^ b.toNat) : clzF b x = (((dg b.toNat x).reverse ++ [1]).idxOf 1 : Nat) := by
  unfold clzF
  by_cases hx : x = 0
  · subst hx
    rw [if_pos rfl, idx_r (by rw [mem_rev]; simp), List.length_reverse, dg_length]
    rcases hb with rfl | rfl <;> rfl
  · have hm : x % 2 ^ b.toNat ≠ 0 := by rw [Int.emod_eq_of_lt h0 h1]; exact hx
    rw [if_neg hx, idx_l (mem_rev.mpr hm)]
    rcases hb with rfl | rfl
    · rw [if_pos rfl]
      have := clz_go (b := 32) 5 x 0 (by decide) h0 h1 (by simpa using hx)
      simpa using this
    · rw [if_neg (by decide)]
      have := clz_go (b := 64) 6 x 0 (by decide) h0 h1 (by simpa using hx)
      simpa using this
theorem odd_half {x : Int} (h : x % 2 = 1) : (x - 1) / 2 = x / 2 := by lia
theorem even_half {x : Int} (h : ¬ x % 2 = 1) : (x - 1) / 2 = x / 2 - 1 ∧ x % 2 = 0 := by lia
theorem not_both {x : Int} : ¬ (x % 2 = 1 ∧ (x - 1) % 2 = 1) := by lia
theorem two_mul {a b : Int} (h : a = 2 * b + 0) : a % 2 = 0 ∧ a / 2 = b := by
  rw [h, Int.add_zero]; exact ⟨Int.mul_emod_right 2 b, Int.mul_ediv_cancel_left b (by decide)⟩
theorem half_in {x y : Int} (h0 : 0 < x) (h : x % 2 = 0) (h1 : x < 2 * y) : 0 < x / 2 ∧ x / 2 < y := by lia
theorem and_pred_sum : ∀ (b : Nat) (x : Int), 0 < x → x < 2 ^ b → (dg b (Builtin.bitAnd x (x - 1))).sum = (dg b x).sum - 1
  | 0, x, h0, h1 => by simp at h1; lia
  | b + 1, x, h0, h1 => by
    rw [Int.pow_succ, Int.mul_comm] at h1
    have hh := kbt_halves x (x - 1)
    rw [if_neg not_both] at hh
    simp only [dg, List.sum_cons]
    by_cases p : x % 2 = 1
    · rw [odd_half p, bitAnd_self] at hh
      have e := two_mul hh
      rw [e.1, e.2, p, Int.zero_add, Int.add_comm, Int.add_sub_cancel]
    · have q := even_half p
      rw [q.1] at hh
      have e := two_mul hh
      have r := half_in h0 q.2 h1
      rw [e.1, e.2, and_pred_sum b (x / 2) r.1 r.2, q.2, Int.zero_add, Int.zero_add]
theorem dg_zero : ∀ (b : Nat), (dg b 0).sum = 0
  | 0 => rfl
  | b + 1 => by simp [dg, dg_zero b]
theorem pc_go {b : Nat} : ∀ (n : Nat) (x f : Int), 0 ≤ x → x < 2 ^ b → x.toNat ≤ n → pcL n x f = f + (dg b x).sum
  | 0, x, f, h0, _, h => by
    have : x = 0 := by lia
    subst this
    rw [dg_zero]; simp [pcL]
  | n + 1, x, f, h0, h1, h => by
    simp only [pcL]
    by_cases c : x = 0
    · rw [if_pos c, c, dg_zero]; lia
    · have := popStep (x := x) (by lia)
      rw [if_neg c, pc_go n _ _ this.1 (Int.lt_trans this.2 h1) (by lia), and_pred_sum b x (by lia) h1]
      lia
theorem pop_is {b : Nat} {x : Int} (h0 : 0 ≤ x) (h1 : x < 2 ^ b) : popF x = (dg b x).sum := by
  unfold popF
  rw [pc_go (b := b) _ _ _ h0 h1 (Nat.le_refl _), Int.zero_add]
theorem dg_sum_rng : ∀ (b : Nat) (x : Int), 0 ≤ (dg b x).sum ∧ (dg b x).sum ≤ b
  | 0, x => by simp [dg]
  | b + 1, x => by
    have := dg_sum_rng b (x / 2)
    simp only [dg, List.sum_cons]
    lia
theorem cnt_rng {p b x : Int} (hb : b = 32 ∨ b = 64) (h0 : 0 ≤ x) (h1 : x < 2 ^ b.toNat) : 0 ≤ cntF p b x ∧ cntF p b x < 2 ^ b.toNat := by
  have key : ∀ v : Int, 0 ≤ v → v ≤ b → 0 ≤ v ∧ v < 2 ^ b.toNat := fun v q r => ⟨q, by rcases hb with rfl | rfl <;> simp <;> lia⟩
  unfold cntF
  split
  · rw [clz_is hb h0 h1]
    refine key _ (Int.natCast_nonneg _) ?_
    have : ((dg b.toNat x).reverse ++ [1]).idxOf 1 < ((dg b.toNat x).reverse ++ [(1 : Int)]).length := List.idxOf_lt_length_iff.mpr (by simp)
    simp only [List.length_append, List.length_reverse, dg_length, List.length_cons, List.length_nil] at this
    lia
  · rw [ctz_is hb h0 h1]
    refine key _ (Int.natCast_nonneg _) ?_
    have : (dg b.toNat x ++ [1]).idxOf 1 < (dg b.toNat x ++ [(1 : Int)]).length := List.idxOf_lt_length_iff.mpr (by simp)
    simp only [List.length_append, dg_length, List.length_cons, List.length_nil] at this
    lia
  · rw [pop_is h0 h1]
    have := dg_sum_rng b.toNat x
    exact key _ this.1 (by lia)
theorem modr (x : Int) {b : Int} : 0 ≤ x % 2 ^ b.toNat ∧ x % 2 ^ b.toNat < 2 ^ b.toNat := ⟨Int.emod_nonneg _ (Int.ne_of_gt (p2pos _)), Int.emod_lt_of_pos _ (p2pos _)⟩
theorem puts_of {c p b : Int} (h : widthsF c = (p, b)) : putsF c = b := by unfold putsF; rw [h]
theorem r1_rng (c x : Int) (hu : isUnF c = true) (h0 : 0 ≤ x) (h1 : x < 2 ^ (takesF c).toNat) : 0 ≤ r1F c x ∧ r1F c x < 2 ^ (putsF c).toNat := by
  obtain ⟨nn, hn, hcn⟩ := un_nat hu
  unfold r1F
  by_cases c1 : c = 69 ∨ c = 80
  · rw [if_pos c1]
    have hp := puts_b c
    split <;> rcases hp with hp | hp <;> rw [hp] <;> decide
  · rw [if_neg c1]
    by_cases c2 : c = 167
    · subst c2
      rw [if_pos rfl]
      exact modr x (b := 32)
    · rw [if_neg c2]
      by_cases c3 : c = 173
      · subst c3
        rw [if_pos rfl]
        have e1 : takesF 173 = 32 := by decide
        have e2 : putsF 173 = 64 := by decide
        rw [e1] at h1
        rw [e2]
        exact ⟨h0, by simp at h1 ⊢; lia⟩
      · rw [if_neg c3]
        cases e : placeF c 103 121 3 with
        | some q =>
          obtain ⟨p, q⟩ := q
          have ht := place_takes1 e
          have hl := place_lt e
          dsimp only
          have := cnt_rng (p := p) hl.2.2 h0 (by rw [ht]; exact h1)
          have k : ∀ n, n < 197 → (placeF (n : Nat) 103 121 3).all (fun r => putsF n == r.2) = true := by decide +kernel
          have e9 : putsF c = q := by
            have := k nn hn
            rw [← hcn, e] at this; exact eq_of_beq this
          rw [e9]; exact this
        | none =>
          dsimp only
          cases e2 : narrowF c with
          | none =>
            exfalso
            rw [isUnF, e, e2] at hu
            simp at hu; lia
          | some q =>
            obtain ⟨n, b⟩ := q
            dsimp only
            have k : ∀ n, n < 197 → (narrowF (n : Nat)).all (fun r => putsF n == r.2) = true := by decide +kernel
            have e9 : putsF c = b := by
              have := k nn hn
              rw [← hcn, e2] at this; exact eq_of_beq this
            rw [e9]
            exact modr _
/-! two numbers -/
theorem or_nat {x y : Int} (hx : 0 ≤ x) (hy : 0 ≤ y) : Builtin.bitOr x y = ((x.toNat ||| y.toNat : Nat) : Int) := by
  unfold Builtin.bitOr Builtin.bitAnd
  have h1 : ¬ 0 ≤ Builtin.bitNot x := by unfold Builtin.bitNot; lia
  have h2 : ¬ 0 ≤ Builtin.bitNot y := by unfold Builtin.bitNot; lia
  simp only [h1, h2, decide_false, bitNot_bitNot]
theorem lt_nat {x : Int} {k : Nat} (h0 : 0 ≤ x) : x < 2 ^ k ↔ x.toNat < 2 ^ k := by
  rw [← kbt_cast]; exact (Int.toNat_lt h0).symm
theorem or_rng {x y : Int} {k : Nat} (hx : 0 ≤ x) (hx2 : x < 2 ^ k) (hy : 0 ≤ y) (hy2 : y < 2 ^ k) : 0 ≤ Builtin.bitOr x y ∧ Builtin.bitOr x y < 2 ^ k := by
  rw [or_nat hx hy]
  refine ⟨Int.natCast_nonneg _, ?_⟩
  rw [lt_nat (Int.natCast_nonneg _), Int.toNat_natCast]
  exact Nat.or_lt_two_pow ((lt_nat hx).mp hx2) ((lt_nat hy).mp hy2)
theorem and_rng {x y : Int} {k : Nat} (hx : 0 ≤ x) (hy : 0 ≤ y) (hy2 : y < 2 ^ k) : 0 ≤ Builtin.bitAnd x y ∧ Builtin.bitAnd x y < 2 ^ k := by
  have := bitAnd_range x hy
  exact ⟨this.1, Int.lt_of_le_of_lt this.2 hy2⟩
theorem and_le_l {x y : Int} (hx : 0 ≤ x) : Builtin.bitAnd x y ≤ x := by
  rw [bitAnd_comm]
  exact (bitAnd_range y hx).2
theorem xor_rng {x y : Int} {k : Nat} (hx : 0 ≤ x) (hx2 : x < 2 ^ k) (hy : 0 ≤ y) (hy2 : y < 2 ^ k) : 0 ≤ Builtin.bitXor x y ∧ Builtin.bitXor x y < 2 ^ k := by
  have h1 := or_rng hx hx2 hy hy2
  have h2 := and_rng (k := k) hx hy hy2
  have h3 := bitOr_and x y
  have h4 := and_le_l (x := x) (y := y) hx
  have h5 := (bitAnd_range x hy).2
  unfold Builtin.bitXor
  lia
theorem and_apart : ∀ (k : Nat) (a b : Int), 0 ≤ b → b < 2 ^ k → Builtin.bitAnd (a * 2 ^ k) b = 0
  | 0, a, b, h0, h1 => by
    have : b = 0 := by simp at h1; lia
    rw [this, bitAnd_zero]
  | k + 1, a, b, h0, h1 => by
    have e : (2 : Int) ^ (k + 1) = 2 * 2 ^ k := by rw [Int.pow_succ, Int.mul_comm]
    rw [e] at h1
    have e2 : a * 2 ^ (k + 1) = 2 * (a * 2 ^ k) := by rw [e, ← Int.mul_assoc, ← Int.mul_assoc, Int.mul_comm a 2]
    rw [e2, kbt_halves]
    have e3 : 2 * (a * 2 ^ k) / 2 = a * 2 ^ k := by omega
    have e4 : ¬ (2 * (a * 2 ^ k) % 2 = 1 ∧ b % 2 = 1) := by lia
    rw [e3, if_neg e4, and_apart k a (b / 2) (by lia) (by lia)]
    rfl
theorem or_apart {k : Nat} {a b : Int} (h0 : 0 ≤ b) (h1 : b < 2 ^ k) : Builtin.bitOr (a * 2 ^ k) b = a * 2 ^ k + b := by
  rw [bitOr_and, and_apart k a b h0 h1, Int.sub_zero]
/-- a turn by k of b bits -/
theorem turn_is {b k : Nat} {x : Int} (hk : k ≤ b) (h0 : 0 ≤ x) (h1 : x < 2 ^ b) : Builtin.bitOr (x * 2 ^ k % 2 ^ b) (x / 2 ^ (b - k)) = (x * 2 ^ k + x / 2 ^ (b - k)) % 2 ^ b := by
  have eb : (2 : Int) ^ b = 2 ^ (b - k) * 2 ^ k := by rw [← Int.pow_add]; congr 1; lia
  have hp := p2pos k
  have hq := p2pos (b - k)
  have e1 : x * 2 ^ k % 2 ^ b = (x % 2 ^ (b - k)) * 2 ^ k := by
    rw [eb]
    rw [Int.mul_comm x, Int.mul_comm (2 ^ (b - k)), Int.mul_emod_mul_of_pos _ _ hp, Int.mul_comm]
  have l0 : 0 ≤ x / 2 ^ (b - k) := Int.ediv_nonneg h0 (Int.le_of_lt hq)
  have l1 : x / 2 ^ (b - k) < 2 ^ k := by
    apply Int.ediv_lt_of_lt_mul hq
    rw [← Int.pow_add, show k + (b - k) = b by lia]; exact h1
  have m0 := Int.emod_nonneg x (Int.ne_of_gt hq)
  have m1 := Int.emod_lt_of_pos x hq
  have hs : (x % 2 ^ (b - k)) * 2 ^ k + x / 2 ^ (b - k) < 2 ^ b := by
    have : (x % 2 ^ (b - k) + 1) * 2 ^ k ≤ 2 ^ (b - k) * 2 ^ k := Int.mul_le_mul_of_nonneg_right (by lia) (Int.le_of_lt hp)
    rw [Int.add_mul, Int.one_mul] at this
    rw [eb]; lia
  have hs0 : 0 ≤ (x % 2 ^ (b - k)) * 2 ^ k := Int.mul_nonneg m0 (Int.le_of_lt hp)
  rw [Int.add_emod, e1, or_apart l0 l1]
  rw [Int.emod_eq_of_lt l0 (Int.lt_of_lt_of_le l1 (by rw [← kbt_cast, ← kbt_cast]; exact Int.ofNat_le.mpr (Nat.pow_le_pow_right (by decide) hk)))]
  rw [Int.emod_eq_of_lt (by lia) hs]
theorem toNat_take {b m : Int} (hb : b = 32 ∨ b = 64) (h0 : 0 ≤ m) : (b - m).toNat = b.toNat - m.toNat := by
  obtain ⟨n, rfl⟩ := Int.eq_ofNat_of_zero_le h0
  obtain ⟨k, rfl⟩ := Int.eq_ofNat_of_zero_le (show 0 ≤ b by rcases hb with rfl | rfl <;> decide)
  exact Int.toNat_sub k n
theorem rl_is {b x y : Int} (hb : b = 32 ∨ b = 64) (h0 : 0 ≤ x) (h1 : x < 2 ^ b.toNat) : rl b x y = (x * 2 ^ (y % b).toNat + x / 2 ^ (b - y % b).toNat) % 2 ^ b.toNat := by
  have m0 := Int.emod_nonneg y (show b ≠ 0 by lia)
  have m1 := Int.emod_lt_of_pos y (show 0 < b by lia)
  unfold rl
  rw [toNat_take hb m0]
  exact turn_is (by lia) h0 h1
theorem rr_is {b x y : Int} (hb : b = 32 ∨ b = 64) (h0 : 0 ≤ x) (h1 : x < 2 ^ b.toNat) : rl b x (b - y % b) = (x / 2 ^ (y % b).toNat + x * 2 ^ (b - y % b).toNat) % 2 ^ b.toNat := by
  have m0 := Int.emod_nonneg y (show b ≠ 0 by lia)
  have m1 := Int.emod_lt_of_pos y (show 0 < b by lia)
  rw [rl_is hb h0 h1]
  by_cases c : y % b = 0
  · rw [c, Int.sub_zero, Int.emod_self, Int.sub_zero]
    have e1 : x / 2 ^ b.toNat = 0 := Int.ediv_eq_zero_of_lt h0 h1
    rw [e1]
    simp [Int.add_mul_emod_self_right]
  · have e1 : (b - y % b) % b = b - y % b := Int.emod_eq_of_lt (by lia) (by lia)
    rw [e1, show b - (b - y % b) = y % b by lia, Int.add_comm]
theorem half_rng {b x : Int} {k : Nat} (h0 : 0 ≤ x) (h1 : x < 2 ^ b.toNat) : 0 ≤ x / 2 ^ k ∧ x / 2 ^ k < 2 ^ b.toNat :=
  ⟨Int.ediv_nonneg h0 (Int.le_of_lt (p2pos _)), Int.lt_of_le_of_lt (Int.ediv_le_self _ h0) h1⟩
theorem cases15 {M : Int → Prop} {p : Int} (h0 : 0 ≤ p) (h1 : p < 15) (a0 : M 0) (a1 : M 1) (a2 : M 2) (a3 : M 3) (a4 : M 4) (a5 : M 5) (a6 : M 6) (a7 : M 7) (a8 : M 8) (a9 : M 9) (a10 : M 10) (a11 : M 11) (a12 : M 12) (a13 : M 13) (a14 : M 14) : M p := by
  have h := to15 h0 h1
  clear h0 h1
  rcases h with rfl | rfl | rfl | rfl | rfl | rfl | rfl | rfl | rfl | rfl | rfl | rfl | rfl | rfl | rfl <;> assumption
theorem pm {R : Int → Prop} {v : Int} (r : R v) : ∀ z, some v = some z → R z := fun _ e => Option.some.inj e ▸ r
theorem pi {R : Int → Prop} {c : Prop} [Decidable c] {o : Option Int} (r : ¬ c → ∀ z, o = some z → R z) : ∀ z, (if c then none else o) = some z → R z := by
  split
  · exact fun z e => nomatch e
  · exact r (by assumption)
theorem rest_rng {p b x y z : Int} (hp0 : 0 ≤ p) (hp : p < 15) (hb : b = 32 ∨ b = 64) (h0 : 0 ≤ x) (h1 : x < 2 ^ b.toNat) (g0 : 0 ≤ y) (g1 : y < 2 ^ b.toNat) (h : restF p b x y = some z) : 0 ≤ z ∧ z < 2 ^ b.toNat :=
  cases15 (M := fun p => ∀ z, restF p b x y = some z → 0 ≤ z ∧ z < 2 ^ b.toNat) hp0 hp (pm (modr _)) (pm (modr _)) (pm (modr _)) (pi fun _ => pi fun _ => pm (modr _))
    (pi fun _ => pm ⟨Int.ediv_nonneg h0 g0, Int.lt_of_le_of_lt (Int.ediv_le_self _ h0) h1⟩) (pi fun _ => pm (modr _)) (pi fun k => pm ⟨Int.emod_nonneg _ k, Int.lt_trans (Int.emod_lt_of_pos x (Int.lt_iff_le_and_ne.mpr ⟨g0, fun q => k q.symm⟩)) g1⟩)
    (pm (and_rng h0 g0 g1)) (pm (or_rng h0 h1 g0 g1)) (pm (xor_rng h0 h1 g0 g1)) (pm (modr _)) (pm (modr _)) (pm (half_rng h0 h1)) (pm (rl_is hb h0 h1 ▸ modr _)) (pm (rr_is hb h0 h1 ▸ modr _)) _ h
theorem i01 {c : Prop} [Decidable c] : 0 ≤ (if c then (1 : Int) else 0) ∧ (if c then (1 : Int) else 0) < 2 := by split <;> decide
theorem i10 {c : Prop} [Decidable c] : 0 ≤ (1 - if c then (1 : Int) else 0) ∧ (1 - if c then (1 : Int) else 0) < 2 := by split <;> decide
theorem cmp_rng {p b x y : Int} : 0 ≤ cmpF p b x y ∧ cmpF p b x y < 2 := by
  unfold cmpF
  rcases p.toNat with _ | _ | _ | _ | _ | _ | _ | _ | _ | _ <;> first | exact i01 | exact i10
theorem r2_rest {c p q x y : Int} (h : placeF c 106 124 15 = some (p, q)) : r2F c x y = restF p q x y := by unfold r2F; rw [h]
theorem r2_cmp {c p q x y : Int} (h : placeF c 106 124 15 = none) (h2 : placeF c 70 81 10 = some (p, q)) : r2F c x y = some (cmpF p q x y) := by unfold r2F; rw [h, h2]
theorem rest_puts {c p q : Int} (h : placeF c 106 124 15 = some (p, q)) : putsF c = q ∧ takesF c = q := by
  refine ⟨?_, (place_takes2 h).symm⟩
  obtain ⟨n, hn, rfl⟩ := place_nat (k := 139) h (by decide) (by decide) (by decide) (by decide)
  have k : ∀ n, n < 139 → (placeF (n : Nat) 106 124 15).all (fun r => putsF n == r.2) = true := by decide +kernel
  have := k n hn
  rw [h] at this; exact eq_of_beq this
theorem r2_rng (c x y z : Int) (hu : isBiF c = true) (h0 : 0 ≤ x) (h1 : x < 2 ^ (takesF c).toNat) (g0 : 0 ≤ y) (g1 : y < 2 ^ (takesF c).toNat) (h : r2F c x y = some z) : 0 ≤ z ∧ z < 2 ^ (putsF c).toNat := by
  cases e : placeF c 106 124 15 with
  | some q =>
    obtain ⟨p, q⟩ := q
    obtain ⟨e1, e2⟩ := rest_puts e
    have hl := place_lt e
    rw [r2_rest e] at h
    rw [e2] at h1 g1
    rw [e1]
    exact rest_rng hl.1 hl.2.1 hl.2.2 h0 h1 g0 g1 h
  | none =>
    cases e2 : placeF c 70 81 10 with
    | some q =>
      obtain ⟨p, q⟩ := q
      rw [r2_cmp e e2] at h
      cases h
      have := cmp_rng (p := p) (b := q) (x := x) (y := y)
      have hp := puts_b c
      have : (2 : Int) ≤ 2 ^ (putsF c).toNat := by rcases hp with hp | hp <;> rw [hp] <;> decide
      lia
    | none => rw [isBiF, e, e2] at hu; cases hu
def neuChk (c : Int) : Bool := match neutralF c with
  | none => true
  | some y => match placeF c 106 124 15 with
    | some (p, _) => decide ((p = 0 ∧ y = 0) ∨ (p = 1 ∧ y = 0) ∨ (p = 2 ∧ y = 1) ∨ (p = 3 ∧ y = 1) ∨ (p = 4 ∧ y = 1) ∨ (p = 7 ∧ y = -1) ∨ (8 ≤ p ∧ p ≤ 14 ∧ y = 0))
    | none => false
theorem neu_chk : ∀ n : Nat, n < 139 → isBiF (n : Int) = true → neuChk (n : Int) = true := by decide +kernel
theorem neu_rng {c y : Int} (h : neutralF c = some y) (hu : isBiF c = true) : ∃ p q, placeF c 106 124 15 = some (p, q) ∧ ((p = 0 ∧ y = 0) ∨ (p = 1 ∧ y = 0) ∨ (p = 2 ∧ y = 1) ∨ (p = 3 ∧ y = 1) ∨ (p = 4 ∧ y = 1) ∨ (p = 7 ∧ y = -1) ∨ (8 ≤ p ∧ p ≤ 14 ∧ y = 0)) := by
  obtain ⟨n, hn, rfl⟩ := bi_nat hu
  have k := neu_chk n hn hu
  unfold neuChk at k
  rw [h] at k
  cases e : placeF (n : Int) 106 124 15 with
  | none => rw [e] at k; cases k
  | some r => rw [e] at k; exact ⟨r.1, r.2, rfl, of_decide_eq_true k⟩
theorem sg_inv {b y : Int} (hb : b = 32 ∨ b = 64) (h0 : 0 ≤ y) (h1 : y < 2 ^ b.toNat) : (sg b y = 0 → y = 0) ∧ (sg b y = 1 → y = 1) ∧ (sg b y = -1 → y = 2 ^ b.toNat - 1) := by
  unfold sg
  rcases hb with rfl | rfl
  · simp at h1 ⊢; split <;> lia
  · simp at h1 ⊢; split <;> lia
theorem divsOne {b x : Int} (hb : b = 32 ∨ b = 64) (h0 : 0 ≤ x) (h1 : x < 2 ^ b.toNat) : divsF b x 1 = some x := by
  have s1 : sg b 1 = 1 := by rcases hb with rfl | rfl <;> decide
  unfold divsF
  rw [if_neg (by decide), s1, if_neg (fun q => absurd q.2 (by decide))]
  have e : tn (sg b x) 1 = sg b x := by
    unfold tn
    by_cases c : sg b x < 0
    · rw [if_pos c]; simp [c]
    · rw [if_neg c]; simp [c]
  rw [e, sg_back hb h0 h1]
theorem pick8 {p : Int} (h0 : 8 ≤ p) (h1 : p ≤ 14) : p = 8 ∨ p = 9 ∨ p = 10 ∨ p = 11 ∨ p = 12 ∨ p = 13 ∨ p = 14 := by
  obtain ⟨n, rfl⟩ := Int.eq_ofNat_of_zero_le (Int.le_trans (by decide) h0)
  have a : 8 ≤ n := Int.ofNat_le.mp h0
  have b : n < 15 := Nat.lt_succ_of_le (Int.ofNat_le.mp h1)
  clear h0 h1
  revert a
  revert b
  revert n
  decide
theorem rst {p p' q x y y' : Int} (hp : p = p') (hy : y = y') (e : restF p' q x y' = some x) : restF p q x y = some x := hp ▸ hy ▸ e
theorem neu_val {p q x y : Int} (hb : q = 32 ∨ q = 64) (h0 : 0 ≤ x) (h1 : x < 2 ^ q.toNat) (s0 : sg q y = 0 → y = 0) (s1 : sg q y = 1 → y = 1) (s2 : sg q y = -1 → y = 2 ^ q.toNat - 1)
    (hy : (p = 0 ∧ sg q y = 0) ∨ (p = 1 ∧ sg q y = 0) ∨ (p = 2 ∧ sg q y = 1) ∨ (p = 3 ∧ sg q y = 1) ∨ (p = 4 ∧ sg q y = 1) ∨ (p = 7 ∧ sg q y = -1) ∨ (8 ≤ p ∧ p ≤ 14 ∧ sg q y = 0)) : restF p q x y = some x := by
  have hx := Int.emod_eq_of_lt h0 h1
  have z0 : (0 : Int) % q = 0 := Int.zero_emod q
  have zz : (2 : Int) ^ ((0 : Int) % q).toNat = 1 := congrArg (fun z : Int => (2 : Int) ^ z.toNat) z0
  rcases hy with ⟨hp, hy⟩ | ⟨hp, hy⟩ | ⟨hp, hy⟩ | ⟨hp, hy⟩ | ⟨hp, hy⟩ | ⟨hp, hy⟩ | ⟨p8, p14, hy⟩
  · exact rst hp (s0 hy) (congrArg some ((congrArg (· % _) (Int.add_zero x)).trans hx))
  · exact rst hp (s0 hy) (congrArg some ((congrArg (· % _) (Int.sub_zero x)).trans hx))
  · exact rst hp (s1 hy) (congrArg some ((congrArg (· % _) (Int.mul_one x)).trans hx))
  · exact rst hp (s1 hy) (divsOne hb h0 h1)
  · exact rst hp (s1 hy) (show (if (1 : Int) = 0 then none else some (x / 1)) = some x from (if_neg (by decide)).trans (congrArg some (Int.ediv_one x)))
  · exact rst hp (s2 hy) (congrArg some ((kbt_mask ..).trans hx))
  · have := pick8 p8 p14
    clear p8 p14
    rcases this with hp | hp | hp | hp | hp | hp | hp
    · exact rst hp (s0 hy) (congrArg some (by rw [bitOr_and, bitAnd_zero]; simp))
    · exact rst hp (s0 hy) (congrArg some (bitXor_zero ..))
    · exact rst hp (s0 hy) (congrArg some ((congrArg (x * · % _) zz).trans ((congrArg (· % _) (Int.mul_one x)).trans hx)))
    · exact rst hp (s0 hy) (congrArg some ((congrArg (sg q x / · % _) zz).trans ((congrArg (· % _) (Int.ediv_one _)).trans (sg_back hb h0 h1))))
    · exact rst hp (s0 hy) (congrArg some ((congrArg (x / ·) zz).trans (Int.ediv_one x)))
    · refine rst hp (s0 hy) (congrArg some ?_)
      show rl q x 0 = x
      rw [rl_is hb h0 h1, zz, z0, Int.sub_zero, Int.ediv_eq_zero_of_lt h0 h1, Int.mul_one, Int.add_zero, hx]
    · refine rst hp (s0 hy) (congrArg some ?_)
      show rl q x (q - 0 % q) = x
      rw [rr_is hb h0 h1, zz, z0, Int.sub_zero, Int.ediv_one, Int.add_mul_emod_self_right, hx]
theorem neu_is (c x y : Int) (hu : isBiF c = true) (h0 : 0 ≤ x) (h1 : x < 2 ^ (takesF c).toNat) (g0 : 0 ≤ y) (g1 : y < 2 ^ (takesF c).toNat) (h : neutralF c = some (sg (takesF c) y)) : r2F c x y = some x ∧ putsF c = takesF c := by
  obtain ⟨p, q, e, hy⟩ := neu_rng h hu
  obtain ⟨e1, e2⟩ := rest_puts e
  have hb := (place_lt e).2.2
  refine ⟨?_, e1.trans e2.symm⟩
  rw [r2_rest e]
  rw [e2] at h1 g1 hy
  obtain ⟨s0, s1, s2⟩ := sg_inv hb g0 g1
  exact neu_val hb h0 h1 s0 s1 s2 hy
theorem num : Num := ⟨r1_rng, r2_rng, neu_is⟩
theorem lowR : LowR := ⟨fun c x hu h0 h1 => (r1_rng c x hu h0 h1).1, fun c x y z hu h0 h1 g0 g1 h => (r2_rng c x y z hu h0 h1 g0 g1 h).1⟩
/-- a body, run upon a stack, comes to r (none: it traps) -/
inductive RunTo (p0 p1 : Int) : List Ins → List Int → Option Int → Prop
  | done {v : Int} : RunTo p0 p1 [] [v] (some v)
  | fin {is : List Ins} {st : List Int} {r : Option Int} : RunTo p0 p1 is st r → RunTo p0 p1 (⟨11, none⟩ :: is) st r
  | con {is : List Ins} {st : List Int} {r : Option Int} {b n : Int} : (b = 32 ∨ b = 64) → RunTo p0 p1 is (n % 2 ^ b.toNat :: st) r → RunTo p0 p1 (⟨if b = 32 then 65 else 66, some n⟩ :: is) st r
  | loc {is : List Ins} {st : List Int} {r : Option Int} {b : Int} : (b = 32 ∨ b = 64) → RunTo p0 p1 is ((if b = 32 then p0 else p1) :: st) r → RunTo p0 p1 (locI b :: is) st r
  | un {is : List Ins} {st : List Int} {r : Option Int} {c x : Int} : isUnF c = true → 0 ≤ x → x < 2 ^ (takesF c).toNat → RunTo p0 p1 is (r1F c x :: st) r → RunTo p0 p1 (opI c :: is) (x :: st) r
  | bi {is : List Ins} {st : List Int} {r : Option Int} {c x y z : Int} : isBiF c = true → 0 ≤ x → x < 2 ^ (takesF c).toNat → 0 ≤ y → y < 2 ^ (takesF c).toNat → r2F c x y = some z → RunTo p0 p1 is (z :: st) r → RunTo p0 p1 (opI c :: is) (y :: x :: st) r
  | trap {is : List Ins} {st : List Int} {c x y : Int} : isBiF c = true → 0 ≤ x → x < 2 ^ (takesF c).toNat → 0 ≤ y → y < 2 ^ (takesF c).toNat → r2F c x y = none → RunTo p0 p1 (opI c :: is) (y :: x :: st) none
theorem runConst {p0 p1 : Int} {is : List Ins} {st : List Int} {r : Option Int} {b v : Int} (hb : b = 32 ∨ b = 64) (h0 : 0 ≤ v) (h1 : v < 2 ^ b.toNat) (h : RunTo p0 p1 is (v :: st) r) : RunTo p0 p1 (constI b v :: is) st r := by
  unfold constI
  refine .con hb ?_
  rw [sg_back hb h0 h1]; exact h
theorem Tr.run (N : Num) {p0 p1 : Int} (h0 : 0 ≤ p0 ∧ p0 < 2 ^ 32) (h1 : 0 ≤ p1 ∧ p1 < 2 ^ 64) : ∀ {T : Tr} {rest : List Ins} {st : List Int} {r : Option Int}, T.wf →
    (T.worth p0 p1 = none → r = none) → (∀ v, T.worth p0 p1 = some v → RunTo p0 p1 rest (v :: st) r) → RunTo p0 p1 (T.sf ++ rest) st r
  | .con b n, rest, st, r, hw, _, h => .con hw.1 (h _ rfl)
  | .loc b, rest, st, r, hw, _, h => .loc hw (h _ rfl)
  | .un b c t, rest, st, r, hw, hn, h => by
    have rng := fun v => Tr.worth_rng N h0 h1 (v := v) hw
    cases e3 : (Tr.un b c t).cv with
    | some z =>
      have w3 := Tr.cv_worth (p0 := p0) (p1 := p1) e3
      rw [Tr.sf_cv hw e3]
      exact runConst hw.b (rng z w3).1 (rng z w3).2 (h z w3)
    | none =>
      obtain ⟨hu, rfl, hb, ht⟩ := hw
      have e4 : (Tr.un (putsF c) c t).sf = t.sf ++ [opI c] := by simp only [Tr.sf, e3]
      rw [e4, List.append_assoc]
      refine Tr.run N h0 h1 ht (fun q => hn (by simp only [Tr.worth, q, Option.map_none])) (fun v q => ?_)
      have rv := Tr.worth_rng N h0 h1 ht q
      rw [hb] at rv
      exact .un hu rv.1 rv.2 (h _ (by simp only [Tr.worth, q, Option.map_some]))
  | .bin b c t u, rest, st, r, hw, hn, h => by
    have rng := fun v => Tr.worth_rng N h0 h1 (v := v) hw
    cases e3 : (Tr.bin b c t u).cv with
    | some z =>
      have w3 := Tr.cv_worth (p0 := p0) (p1 := p1) e3
      rw [Tr.sf_cv hw e3]
      exact runConst hw.b (rng z w3).1 (rng z w3).2 (h z w3)
    | none =>
      obtain ⟨hu, rfl, hb, hb2, ht, ht2⟩ := hw
      by_cases hd : u.drops c = true
      · have e4 : (Tr.bin (putsF c) c t u).sf = t.sf := by simp only [Tr.sf, e3, hd, if_true]
        rw [e4]
        unfold Tr.drops at hd
        cases e2 : u.cv with
        | none => rw [e2] at hd; cases hd
        | some y =>
          rw [e2] at hd
          simp only [decide_eq_true_eq, hb2] at hd
          have ry := Tr.cv_rng N ht2 e2
          rw [hb2] at ry
          have w2 := Tr.cv_worth (p0 := p0) (p1 := p1) e2
          refine Tr.run N h0 h1 ht (fun q => hn (by simp only [Tr.worth, q, Option.bind_none])) (fun v q => h v ?_)
          have rv := Tr.worth_rng N h0 h1 ht q
          rw [hb] at rv
          simp only [Tr.worth, q, w2, Option.bind_some]
          exact (N.nt c v y hu rv.1 rv.2 ry.1 ry.2 hd).1
      · have e4 : (Tr.bin (putsF c) c t u).sf = t.sf ++ u.sf ++ [opI c] := by simp only [Tr.sf, e3, if_neg hd]
        rw [e4, List.append_assoc, List.append_assoc]
        refine Tr.run N h0 h1 ht (fun q => hn (by simp only [Tr.worth, q, Option.bind_none])) (fun x qx => ?_)
        have rx := Tr.worth_rng N h0 h1 ht qx
        rw [hb] at rx
        refine Tr.run N h0 h1 ht2 (fun q => hn (by simp only [Tr.worth, qx, q, Option.bind_none, Option.bind_some])) (fun y qy => ?_)
        have ry := Tr.worth_rng N h0 h1 ht2 qy
        rw [hb2] at ry
        cases ez : r2F c x y with
        | none =>
          have := hn (by simp only [Tr.worth, qx, qy, Option.bind_some, ez])
          rw [this]
          exact .trap hu rx.1 rx.2 ry.1 ry.2 ez
        | some z => exact .bi hu rx.1 rx.2 ry.1 ry.2 ez (h z (by simp only [Tr.worth, qx, qy, Option.bind_some, ez]))
/-- the law's own look at one instruction behind two others -/
def ChkI (a0 a1 : Option Int) (i : Ins) : Prop :=
  (∃ b n : Int, (b = 32 ∨ b = 64) ∧ i = ⟨if b = 32 then 65 else 66, some n⟩ ∧ -2 ^ (b - 1).toNat ≤ n ∧ n < 2 ^ (b - 1).toNat) ∨ (∃ b : Int, (b = 32 ∨ b = 64) ∧ i = locI b) ∨
  (∃ c, i = opI c ∧ ((isUnF c = true ∧ a1 = none) ∨ (isBiF c = true ∧ ∀ y, a1 = some y → neutralF c ≠ some y ∧ ∀ x, a0 = some x → r2F c (x % 2 ^ (takesF c).toNat) (y % 2 ^ (takesF c).toNat) = none)))
def chkL (a0 a1 : Option Int) : List Ins → Prop
  | [] => True
  | i :: is => ChkI a0 a1 i ∧ chkL a1 (constF i) is
def stA : Option Int × Option Int → List Ins → Option Int × Option Int
  | a, [] => a
  | a, i :: is => stA (a.2, constF i) is
theorem stA_append : ∀ {l m : List Ins} {a : Option Int × Option Int}, stA a (l ++ m) = stA (stA a l) m
  | [], _, _ => rfl
  | _ :: l, _, _ => stA_append (l := l)
theorem chkL_append : ∀ {l m : List Ins} {a0 a1 : Option Int}, chkL a0 a1 (l ++ m) ↔ chkL a0 a1 l ∧ chkL (stA (a0, a1) l).1 (stA (a0, a1) l).2 m
  | [], _, _, _ => by simp [chkL, stA]
  | i :: l, m, a0, a1 => by
    simp only [List.cons_append, chkL, stA]
    rw [chkL_append (l := l)]
    exact and_assoc.symm
theorem stA_snoc {l : List Ins} {i : Ins} {a : Option Int × Option Int} : stA a (l ++ [i]) = ((stA a l).2, constF i) := by rw [stA_append]; rfl
theorem Tr.chk (N : Num) : ∀ {T : Tr} {a0 a1 : Option Int}, T.wf → chkL a0 a1 T.sf ∧ (T.cv = none → (stA (a0, a1) T.sf).2 = none) ∧ (∀ v, T.cv = some v → stA (a0, a1) T.sf = (a1, some (sg T.bits v)))
  | T, a0, a1, hw => by
    have last : T.cv = none → (stA (a0, a1) T.sf).2 = none := fun e => by
      obtain ⟨⟨p, i, e2, hi⟩, _⟩ := Tr.sf_end N hw e
      rw [e2, stA_snoc, hi]
    have cst : ∀ v, T.cv = some v → chkL a0 a1 T.sf ∧ stA (a0, a1) T.sf = (a1, some (sg T.bits v)) := fun v e => by
      have rv := Tr.cv_rng N hw e
      rw [Tr.sf_cv hw e]
      refine ⟨⟨.inl ⟨T.bits, sg T.bits v, hw.b, rfl, sg_rng hw.b rv.1 rv.2⟩, trivial⟩, ?_⟩
      simp only [stA, constF_constI]
    refine ⟨?_, last, fun v e => (cst v e).2⟩
    cases e : T.cv with
    | some v => exact (cst v e).1
    | none =>
      match T, hw, e, last with
      | .con b n, _, e, _ => cases e
      | .loc b, hw, _, _ => exact ⟨.inr (.inl ⟨b, hw, rfl⟩), trivial⟩
      | .un b c t, hw, e, _ =>
        obtain ⟨hu, rfl, hb, ht⟩ := hw
        have e4 : (Tr.un (putsF c) c t).sf = t.sf ++ [opI c] := by simp only [Tr.sf, e]
        have e1 : t.cv = none := by simpa [Tr.cv] using e
        obtain ⟨c1, c2, _⟩ := Tr.chk N (T := t) (a0 := a0) (a1 := a1) ht
        rw [e4, chkL_append]
        exact ⟨c1, .inr (.inr ⟨c, rfl, .inl ⟨hu, c2 e1⟩⟩), trivial⟩
      | .bin b c t u, hw, e, _ =>
        obtain ⟨hu, rfl, hb, hb2, ht, ht2⟩ := hw
        obtain ⟨c1, c2, c3⟩ := Tr.chk N (T := t) (a0 := a0) (a1 := a1) ht
        by_cases hd : u.drops c = true
        · have e4 : (Tr.bin (putsF c) c t u).sf = t.sf := by simp only [Tr.sf, e, hd, if_true]
          rw [e4]; exact c1
        · have e4 : (Tr.bin (putsF c) c t u).sf = t.sf ++ u.sf ++ [opI c] := by simp only [Tr.sf, e, if_neg hd]
          obtain ⟨d1, d2, d3⟩ := Tr.chk N (T := u) (a0 := (stA (a0, a1) t.sf).1) (a1 := (stA (a0, a1) t.sf).2) ht2
          rw [e4, chkL_append, chkL_append]
          refine ⟨⟨c1, d1⟩, .inr (.inr ⟨c, rfl, .inr ⟨hu, fun y hy => ?_⟩⟩), trivial⟩
          rw [stA_append] at hy ⊢
          cases e2 : u.cv with
          | none => rw [d2 e2] at hy; cases hy
          | some y' =>
            have ry := Tr.cv_rng N ht2 e2
            rw [hb2] at ry
            have d4 := d3 y' e2
            rw [d4] at hy ⊢
            cases hy
            rw [hb2]
            refine ⟨fun q => hd ?_, fun x hx => ?_⟩
            · unfold Tr.drops
              rw [e2]
              rw [← hb2] at q
              simpa using q
            · cases e1 : t.cv with
              | none => rw [c2 e1] at hx; cases hx
              | some x' =>
                have rx := Tr.cv_rng N ht e1
                rw [hb] at rx
                rw [c3 x' e1] at hx
                cases hx
                rw [hb, sg_back (takes_b c) rx.1 rx.2, sg_back (takes_b c) ry.1 ry.2]
                simpa [Tr.cv, e1, e2] using e
/-- the same, told by place -/
theorem chkL_get : ∀ {l : List Ins} {a0 a1 : Option Int} {k : Nat} {i : Ins}, chkL a0 a1 l → l[k]? = some i → ChkI (stA (a0, a1) (l.take k)).1 (stA (a0, a1) (l.take k)).2 i
  | [], _, _, _, _, _, h => nomatch h
  | i :: l, a0, a1, 0, _, hc, h => by simp at h; subst h; exact hc.1
  | i :: l, a0, a1, k + 1, _, hc, h => by
    simp only [List.take_succ_cons, stA]
    exact chkL_get hc.2 (by simpa using h)
end

section
open Kunsigned_c
open Ksigned_c
open Kleast_c
open Kwidened_c
open Keqz_c
open Kadd_c
open Ksub_c
open Kmul_c
open Ktn_c
open Kand_c
open Kor_c
open Kxor_c
open Kshl_c
open Kshrs_c
open Kshru_c
open Krotl_c
open Krotr_c
open Keq_c
open Kne_c
open Kltu_c
open Klts_c
open Kgts_c
open Kles_c
open Kges_c
open Kgtu_c
open Kleu_c
open Kgeu_c
open Kltakes_c
open Klisone_c
open Klsigned_c
open Klplain_c
open Kplace_c
open Knarrow_c
open Kisun_c
open Kisbi_c
open Kneutral_c
open Kwidths_c
open Kclz_c
open Kctz_c
open Kpop_c
open Kdivu_c
open Kremu_c
open Kdivs_c
open Krems_c
open Kreckon1_c
open S1
open S3
open S4
open S5
open S6
open S7
open S8
open H379
open S9
open S0
open H539
open S10
section
variable {prog : Program} {w : World} {A : Around} {E : Value → Shared → Prop} {s : Shared} {env : Env} {h₀ : Heap} {L : Addr} {m : Str → Option Value} {news : List (Addr × Obj)}
theorem unpackB {elts : List Expr} {k} {pos : Pos} {t : Addr} {l : List Value} {Q : Unit → Shared → Prop} (F : Fr h₀ L s.heap m) (N : News h₀ L s.heap news) (ht : h₀.get? t = some (tupOf l))
    (hh : A.handled = none) (hn : (assignEach elts env).length = l.length) (hstar : (assignEach elts env).findIdx? (·.1) = none)
    (h : ∀ h', Fr h₀ L h' m → News h₀ L h' news → wpAny (model prog w) A (assignInOrder ((assignEach elts env).map (·.2)) l) Q E { s with heap := h' }) :
    wpAny (model prog w) A (assign (.Tuple elts k pos) env (.ref t)) Q E s :=
  unpackN_ F N ⟨_, F.keep _ _ ht, rfl, _, rfl⟩ hh hn hstar h
end
theorem ite_dn {c p q : Prop} [Decidable c] (h : ¬ c) (hq : q) : if decide c = true then p else q := by rw [if_neg (by simpa using h)]; exact hq
theorem ite_dp {c p q : Prop} [Decidable c] (h : c) (hq : p) : if decide c = true then p else q := by rw [if_pos (by simpa using h)]; exact hq
theorem ite_bn {a b : Int} {p q : Prop} (h : ¬ a = b) (hq : q) : if (a == b) = true then p else q := by rw [if_neg (by simpa using h)]; exact hq
theorem ite_bp {a b : Int} {p q : Prop} (h : a = b) (hq : p) : if (a == b) = true then p else q := by rw [if_pos (by simpa using h)]; exact hq
theorem ite_cn {c p q : Prop} [Decidable c] (h : ¬ c) (hq : q) : if c then p else q := by rw [if_neg h]; exact hq
theorem ite_cp {c p q : Prop} [Decidable c] (h : c) (hq : p) : if c then p else q := by rw [if_pos h]; exact hq
open S11
/-- the instructions of a list, as far as K knows -/
def InBy (K : Addr → Obj → Prop) (a : Addr) (i : Ins) : Prop := ∃ t rest, K a (tupOf (.int i.code t :: rest)) ∧ ArgIs rest i.arg
abbrev InsBy (K : Addr → Obj → Prop) : List Value → List Ins → Prop := RL (InBy K)
theorem InsBy.mono {K K' : Addr → Obj → Prop} (e : ∀ a o, K a o → K' a o) {vs : List Value} {is : List Ins} (h : InsBy K vs is) : InsBy K' vs is := RL.mono (fun _ _ ⟨t, r, p, q⟩ => ⟨t, r, e _ _ p, q⟩) h
theorem InsBy.at {h : Heap} {vs : List Value} {is : List Ins} (k : InsBy (fun a o => h.get? a = some o) vs is) : InsList h vs is := RL.mono (fun _ _ ⟨_, _, p, q⟩ => ⟨_, _, p, q⟩) k
def InTl (tl : List (Addr × Obj)) (a : Addr) (o : Obj) : Prop := (a, o) ∈ tl
/-- a new list of instructions -/
inductive NewIns (is : List Ins) (h h' : Heap) (v : Value) : Prop
  | mk : ∀ l vs k tl, (v = .ref l) → (h.get? l = none) → (h'.get? l = some (PySem.W.listOf vs.toArray k)) → (NewTl h h' tl) → ((∀ p ∈ tl, p.1 ≠ l)) → (InsBy (InTl tl) vs is) → NewIns is h h' v
abbrev TrsAt (h : Heap) : List Value → List Tr → Prop := RL (TrAt h)
theorem TrsAt.ext {h h' : Heap} (e : Ext h h') {vs : List Value} {ts : List Tr} (k : TrsAt h vs ts) : TrsAt h' vs ts := RL.mono (fun _ _ p => TrAt.ext p e) k
def flats (ts : List Tr) : List Ins := ts.flatMap Tr.flat
inductive OpAt (b c : Int) (ts : List Tr) (a : Addr) (h : Heap) : Prop
  | mk : ∀ u v p vs k, (h.get? a = some (tupOf [.int b u, .int c v, .ref p])) → (h.get? p = some (PySem.W.listOf vs.toArray k)) → (TrsAt h vs ts) → OpAt b c ts a h
inductive FlJ (g₀ : Heap) (p : Addr) (c : Int) (f : Addr) (ts : List Tr) (i : Nat) (g : Heap) (m : Str → Option Value) (news : List (Addr × Obj)) : Prop
  | mk : (g = g₀) → ∀ vs k tl t, (news = (f, PySem.W.listOf vs.toArray k) :: tl) → (m (Str.ofString "found") = some (.ref f)) → (m (Str.ofString "code") = some (.int c t)) → (m (Str.ofString "parts") = some (.ref p)) → (InsBy (InTl tl) vs (flats (ts.take i))) → ((∀ p ∈ tl, p.1 ≠ f)) → FlJ g₀ p c f ts i g m news
theorem argIs_of {k n : Int} {u : Tok} (h : k = n) : ArgIs [.int k u] (some n) := ⟨u, by rw [h]⟩
theorem newIns1 {h h' : Heap} {l D : Addr} {n : Nat} {c : Int} {t : Tok} {rest : List Value} {i : Ins} (Pl : h'.get? l = some (PySem.W.listOf #[Value.ref D] n)) (hl : h.get? l = none) (PD : h'.get? D = some (tupOf (.int c t :: rest))) (hD : h.get? D = none) (ne : D ≠ l) (hc : c = i.code) (ha : ArgIs rest i.arg) : NewIns [i] h h' (.ref l) := by
  subst hc
  exact ⟨l, [.ref D], n, [(D, tupOf (.int i.code t :: rest))], rfl, hl, Pl, fun p hp => by rw [List.mem_singleton.mp hp]; exact ⟨PD, hD⟩, fun p hp => by rw [List.mem_singleton.mp hp]; exact ne, .cons ⟨_, _, .head _, ha⟩ .nil⟩
theorem newInsA {h h' : Heap} {l D : Addr} {n : Nat} {c : Int} {t : Tok} {rest vs : List Value} {is : List Ins} {i : Ins} {tl : List (Addr × Obj)} (Pl : h'.get? l = some (PySem.W.listOf (vs ++ [Value.ref D]).toArray n)) (hl : h.get? l = none) (PD : h'.get? D = some (tupOf (.int c t :: rest))) (hD : h.get? D = none) (ne : D ≠ l) (hc : c = i.code) (ha : ArgIs rest i.arg)
    (hib : InsBy (InTl tl) vs is) (ht : NewTl h h' tl) (hn : ∀ p ∈ tl, p.1 ≠ l) : NewIns (is ++ [i]) h h' (.ref l) := by
  subst hc
  refine ⟨l, vs ++ [.ref D], n, (D, tupOf (.int i.code t :: rest)) :: tl, rfl, hl, Pl, fun p hp => ?_, fun p hp => ?_, (hib.mono fun a o q => .tail _ q).append (.cons ⟨_, _, .head _, ha⟩ .nil)⟩
  · rcases List.mem_cons.mp hp with rfl | hp
    · exact ⟨PD, hD⟩
    · exact ht p hp
  · rcases List.mem_cons.mp hp with rfl | hp
    · exact ne
    · exact hn p hp
theorem flats_le : ∀ (ts : List Tr) (k : Nat), (flats (ts.take k)).length ≤ (flats ts).length
  | _, 0 => by simp [flats]
  | [], _ + 1 => by simp [flats]
  | t :: ts, k + 1 => by
    have := flats_le ts k
    simp only [flats, List.take_succ_cons, List.flatMap_cons, List.length_append] at this ⊢
    lia
theorem Tr.flat_ne : ∀ (T : Tr), T.flat ≠ []
  | .con _ _ => by simp [Tr.flat]
  | .loc _ => by simp [Tr.flat]
  | .un _ _ _ => by simp [Tr.flat]
  | .bin _ _ _ _ => by simp [Tr.flat]
theorem flat_op (w : World) (b c : Int) (ts : List Tr) (a : Addr) (n : Nat) (hc : 1 < c) (hlen : (flats ts).length ≤ 100) (IH : ∀ t ∈ ts, ∀ q, CtH w 539 [.ref q] n (fun h => TrAt h q t) (NewIns t.flat)) :
    CtH w 539 [.ref a] (n + 1) (OpAt b c ts a) (NewIns (flats ts ++ [opI c])) := by
  intro mean mg mb dp un fr gd s Q E G hR hP hret
  obtain ⟨u, v, p, qs, k, h1, h2, h3⟩ := hP
  have hc0 : ¬ c = 0 := by lia
  have hc1 : ¬ c = 1 := by lia
  have KX := G.k
  have T := G.t
  refine enter G (by k_dflt k_is) (by k_dflt k_is) (Room.enter hR) rfl (locs rfl) (fun L' h' tk' F' N' => ?_)
  intro A9 E9
  try dsimp only
  dsimp only [List.map, List.zip, List.zipWith, List.reverse, List.reverseAux] at F'
  k_steps
  all_goals try (exfalso; lia)
  refine unhold ?_
  refine For_any (L := L') rfl rfl rfl rfl ?_
  k_steps
  with_reducible rename News _ _ _ _ => N2
  with_reducible rename Fr _ _ _ _ => F2
  have hql := h3.length
  refine unhold ⟨p, qs, s.heap, _, _, FlJ s.heap p c _ ts, rfl, ⟨_, F2.keep _ _ h2, rfl, _, rfl⟩, F2, N2, ⟨rfl, [], 0, [], v, rfl, rfl, rfl, rfl, .nil, (fun _ q => nomatch q)⟩, ?_, ?_, ?_⟩
  · rintro i g1 m1 news1 h1' ⟨rfl, _⟩ F3 N3
    exact ⟨_, F3.keep _ _ h2, rfl, _, rfl⟩
  · rintro i v0 I oI g1 m1 news1 h4 tk1 hv ⟨rfl, vs, k1, tl, t1, rfl, hm1, hm2, hm3, hib, htl⟩ F3 N3 neI aI
    obtain ⟨q, tr, rfl, htr, hq⟩ := h3.get hv
    have nIF : @Ne Nat I _ := fun z => neI _ (.head _) z.symm
    refine frN (l := [(Str.ofString "part", .ref q), (Str.ofString "found", .ref _), (Str.ofString "code", .int c t1), (Str.ofString "parts", .ref p)]) F3 ⟨rfl, hm1, hm2, hm3, ⟨⟩⟩ ?_
    intro m0 m2 F4
    clear F3 F2 N2
    k_steps
    refine unhold ?_
    have Gq : Gd w mean mg mb h4 := G.ext F4.keep
    refine IH tr (List.mem_of_getElem? htr) q mean mg mb _ _ _ _ _ _ _ Gq (Room.down hR (Nat.lt_succ_self _) rfl rfl) (TrAt.ext hq F4.keep) (fun v9 h9 tk9 e9 r9 => ?_)
    obtain ⟨l9, ws, k9, tl9, rfl, hl9, hl9', ht9, hn9, hi9⟩ := r9
    dsimp only at hl9 ht9 hi9
    have F5 := frExt F4 e9
    have N5 := newsExt N3 e9
    have lF : @Ne Nat l9 _ := fun z => by rw [z, (N3 _ (.tail _ (.head _))).1] at hl9; cases hl9
    have lI : @Ne Nat l9 I := fun z => by rw [z, (N3 _ (.head _)).1] at hl9; cases hl9
    have t9F : ∀ p ∈ tl9, p.1 ≠ _ := fun p hp z => by have := (ht9 p hp).2; rw [z, (N3 _ (.tail _ (.head _))).1] at this; cases this
    have t9I : ∀ p ∈ tl9, p.1 ≠ I := fun p hp z => by have := (ht9 p hp).2; rw [z, (N3 _ (.head _)).1] at this; cases this
    have N6 : News s.heap L' h9 ((I, oI) :: (_, PySem.W.listOf vs.toArray k1) :: (l9, PySem.W.listOf ws.toArray k9) :: (tl9 ++ tl)) := fun p hp => by
      rcases List.mem_cons.mp hp with rfl | hp
      · exact N5 _ (.head _)
      · rcases List.mem_cons.mp hp with rfl | hp
        · exact N5 _ (.tail _ (.head _))
        · rcases List.mem_cons.mp hp with rfl | hp
          · exact ⟨hl9', new_ne F4 hl9, fresh_back F4.keep hl9⟩
          · rcases List.mem_append.mp hp with hp | hp
            · exact ⟨(ht9 p hp).1, new_ne F4 (ht9 p hp).2, fresh_back F4.keep (ht9 p hp).2⟩
            · exact N5 p (.tail _ (.tail _ hp))
    have aF : ∀ p ∈ tl9 ++ tl, p.1 ≠ _ := fun p hp => (List.mem_append.mp hp).elim (t9F p) (htl p)
    have aI2 : ∀ p ∈ tl9 ++ tl, p.1 ≠ I := fun p hp => (List.mem_append.mp hp).elim (t9I p) (fun q => neI p (.tail _ q))
    clear F4 N3 N5 Gq
    (try dsimp only)
    k_steps
    refine unhold ?_
    with_reducible rename News _ _ _ _ => N8
    with_reducible rename Fr _ _ _ _ => F8
    have hvl := hib.length
    have hwl := hi9.length
    have hil : i < ts.length := (List.getElem?_eq_some_iff.mp htr).1
    have hsum : (flats (ts.take (i + 1))).length ≤ 100 := Nat.le_trans (flats_le _ _) hlen
    have hfl : flats (ts.take (i + 1)) = flats (ts.take i) ++ tr.flat := by rw [List.take_add_one, htr]; simp [flats]
    rw [hfl, List.length_append] at hsum
    have hne : ws.length ≠ 0 := by rw [hwl]; exact fun z => Tr.flat_ne tr (List.length_eq_zero_iff.mp z)
    refine kl_extend F8 N8 (b := l9) (its2 := ws.toArray) (n2 := k9) (.tail _ (.tail _ (.head _))) (l := vs ++ ws) (by simp) (by simpa using hne) (.tail (fun z => nIF z) (.head (fun p hp => ?_))) (by simp only [Builtin.List.listTooLong, sizeLine_eq, List.size_toArray]; simp; lia) (by rw [sizeLine_eq]; simp; lia) (by rw [sizeLine_eq]; simp; lia) ?_
    · rcases List.mem_cons.mp hp with rfl | hp
      · exact lF
      · exact aF p hp
    intro h6 F9 N9
    clear F8 N8
    k_steps
    with_reducible rename News _ _ _ _ => N9
    with_reducible rename Fr _ _ _ _ => F9
    refine TurnOut.next (news := (_, PySem.W.listOf (vs ++ ws).toArray (k1 + 1)) :: (tl9 ++ tl)) F9 (fun p hp => ?_) (fun p hp => ?_) ⟨rfl, vs ++ ws, k1 + 1, tl9 ++ tl, t1, rfl, rfl, rfl, rfl, ?_, aF⟩
    · rcases List.mem_cons.mp hp with rfl | hp
      · exact N9 _ (.head _)
      · rcases List.mem_cons.mp hp with rfl | hp
        · exact N9 _ (.tail _ (.head _))
        · exact N9 _ (.tail _ (.tail _ (.tail _ hp)))
    · rcases List.mem_cons.mp hp with rfl | hp
      · exact fun z => nIF z.symm
      · exact aI2 p hp
    · rw [hfl]
      exact (hib.mono (fun a o q => List.mem_append_right _ q)).append (hi9.mono fun a o q => List.mem_append_left _ q)
  · rintro g1 m1 news1 h4 tk1 ⟨rfl, vs, k1, tl, t1, rfl, hm1, hm2, hm3, hib, htl⟩ F3 N3
    clear F2 N2
    k_steps
    refine unhold ?_
    with_reducible rename News _ _ _ _ => N8
    with_reducible rename Fr _ _ _ _ => F8
    have hvl := hib.length
    rw [List.take_of_length_le (by lia)] at hib hvl
    refine kmk_add_lit F8 N8 (zs := vs ++ [.ref _]) ⟨_, (N8 _ (.tail _ (.tail _ (.head _)))).1, rfl, _, rfl⟩ ⟨_, (N8 _ (.head _)).1, rfl, _, rfl⟩ (by exact rfl) ?_ (by rw [sizeLine_eq]; simp; lia)
    intro D3 h10 F9 N9 l9
    have P9 := N9 _ (.head _)
    have PD := N9 _ (.tail _ (.tail _ (.head _)))
    k_steps
    exact leaveC_ret (hret _ _ _ F9.keep (newInsA P9.1 P9.2.2 PD.1 PD.2.2 (Nat.ne_of_lt (l9 _ (.tail _ (.head _)))) rfl rfl hib
      (fun p hp => ⟨(N9 _ (.tail _ (.tail _ (.tail _ (.tail _ hp))))).1, (N9 _ (.tail _ (.tail _ (.tail _ (.tail _ hp))))).2.2⟩) (fun p hp => Nat.ne_of_lt (l9 _ (.tail _ (.tail _ (.tail _ hp)))))))
theorem item_baseL {w : World} {A : Around} {E : Value → Shared → Prop} {s : Shared} {h₀ : Heap} {L a : Addr} {m : Str → Option Value} {value slice : Expr} {l : List Value} {n : Nat} {k : Int} {u : Tok} {v : Value} {Q : Value → Shared → Prop} (F : Fr h₀ L s.heap m) (ht : h₀.get? a = some (PySem.W.listOf l.toArray n))
    (h0 : 0 ≤ k) (hk : k < 2 ^ 63) (hx : l[k.toNat]? = some v)
    (hs : subscripted slice false (.ref a) (.int k u) = operate [.ref a, .int k u] (getItem (.ref a) (.int k u))) (h : Q v s) :
    wpAny (model PR w) A (subscriptTail value slice (.ref a) (.int k u)) Q E s := by
  have hl : s.heap.IsList a l.toArray := ⟨_, F.keep _ _ ht, rfl, _, rfl⟩
  exact tail_any hl.typeIs slot_list_getitem.lookup (wpAny_getItem_list hl h0 hk (by simpa using hx) h) hs
theorem opAt_un {b c : Int} {t : Tr} {a : Addr} {h : Heap} (p : TrAt h a (.un b c t)) : OpAt b c [t] a h := by
  obtain ⟨u, v, p, q, k, h1, h2, h3⟩ := p
  exact ⟨u, v, p, [.ref q], k, h1, h2, .cons h3 .nil⟩
theorem opAt_bin {b c : Int} {t t' : Tr} {a : Addr} {h : Heap} (p : TrAt h a (.bin b c t t')) : OpAt b c [t, t'] a h := by
  obtain ⟨u, v, p, q, q', k, h1, h2, h3, h4⟩ := p
  exact ⟨u, v, p, [.ref q, .ref q'], k, h1, h2, .cons h3 (.cons h4 .nil)⟩
theorem CtH.le {w : World} {f : Addr} {args : List Value} {n n' : Nat} {P P' : Heap → Prop} {R : Heap → Heap → Value → Prop} (C : CtH w f args n P R) (hn : n ≤ n') (hp : ∀ h, P' h → P h) : CtH w f args n' P' R :=
  fun mean mg mb dp un fr gd s Q E G hR hP k => C mean mg mb dp un fr gd s Q E G (hR.le hn) (hp _ hP) k
theorem flat_c (w : World) : ∀ (T : Tr) (a : Addr), T.ok → T.flat.length ≤ 100 → CtH w 539 [.ref a] (T.depth + 2) (fun h => TrAt h a T) (NewIns T.flat)
  | .con b n, a, _, _ => by
    intro mean mg mb dp un fr gd s Q E G hR hP hret
    obtain ⟨u, v, p, u', k, h1, h2⟩ := hP
    have KX := G.k
    have T := G.t
    refine enter G (by k_dflt k_is) (by k_dflt k_is) (Room.enter hR) rfl (locs rfl) (fun L' h' tk' F' N' => ?_)
    intro A9 E9
    try dsimp only
    dsimp only [List.map, List.zip, List.zipWith, List.reverse, List.reverseAux] at F'
    k_steps
    all_goals
      with_reducible rename News _ _ _ _ => N8
      with_reducible rename Fr _ _ _ _ => F8
      have P8 := N8 _ (.head _)
      have P9 := N8 _ (.tail _ (.head _))
      k_steps
      refine leaveC_ret (hret _ _ _ F8.keep (newIns1 P8.1 P8.2.2 P9.1 P9.2.2 (Nat.ne_of_lt (by assumption)) ?_ ⟨_, rfl⟩))
      first
        | exact (if_pos (by assumption)).symm
        | exact (if_neg (by assumption)).symm
  | .loc b, a, _, _ => by
    intro mean mg mb dp un fr gd s Q E G hR hP hret
    obtain ⟨u, v, p, k, h1, h2⟩ := hP
    have KX := G.k
    have T := G.t
    refine enter G (by k_dflt k_is) (by k_dflt k_is) (Room.enter hR) rfl (locs rfl) (fun L' h' tk' F' N' => ?_)
    intro A9 E9
    try dsimp only
    dsimp only [List.map, List.zip, List.zipWith, List.reverse, List.reverseAux] at F'
    k_steps
    all_goals
      with_reducible rename News _ _ _ _ => N8
      with_reducible rename Fr _ _ _ _ => F8
      have P8 := N8 _ (.head _)
      have P9 := N8 _ (.tail _ (.head _))
      k_steps
      refine leaveC_ret (hret _ _ _ F8.keep (newIns1 P8.1 P8.2.2 P9.1 P9.2.2 (Nat.ne_of_lt (by assumption)) rfl ?_))
      first
        | exact argIs_of (if_pos (by assumption)).symm
        | exact argIs_of (if_neg (by assumption)).symm
  | .un b c t, a, hok, hl => by
    have e : Tr.flat (.un b c t) = flats [t] ++ [opI c] := by simp [flats, Tr.flat]
    rw [e] at hl ⊢
    refine CtH.le (flat_op w b c [t] a (t.depth + 2) hok.1 (by simp at hl ⊢; lia) (fun t' ht' q => ?_)) (by simp only [Tr.depth]; lia) (fun h => opAt_un)
    rw [List.mem_singleton.mp ht']
    exact flat_c w t q hok.2 (by simp [flats] at hl; lia)
  | .bin b c t t', a, hok, hl => by
    have e : Tr.flat (.bin b c t t') = flats [t, t'] ++ [opI c] := by simp [flats, Tr.flat]
    rw [e] at hl ⊢
    refine CtH.le (flat_op w b c [t, t'] a (max t.depth t'.depth + 2) hok.1 (by simp at hl ⊢; lia) (fun t2 ht2 q => ?_)) (by simp only [Tr.depth]; lia) (fun h => opAt_bin)
    have hl1 : t.flat.length + t'.flat.length ≤ 99 := by simp [flats] at hl; lia
    rcases List.mem_cons.mp ht2 with ht2 | ht2
    · rw [ht2]
      exact CtH.le (flat_c w t q hok.2.1 (by lia)) (by lia) (fun _ h => h)
    · rw [List.mem_singleton.mp ht2]
      exact CtH.le (flat_c w t' q hok.2.2 (by lia)) (by lia) (fun _ h => h)
end

section
open Kunsigned_c
open Ksigned_c
open Kleast_c
open Kwidened_c
open Keqz_c
open Kadd_c
open Ksub_c
open Kmul_c
open Ktn_c
open Kand_c
open Kor_c
open Kxor_c
open Kshl_c
open Kshrs_c
open Kshru_c
open Krotl_c
open Krotr_c
open Keq_c
open Kne_c
open Kltu_c
open Klts_c
open Kgts_c
open Kles_c
open Kges_c
open Kgtu_c
open Kleu_c
open Kgeu_c
open Kltakes_c
open Klisone_c
open Klsigned_c
open Klplain_c
open Kplace_c
open Knarrow_c
open Kisun_c
open Kisbi_c
open Kneutral_c
open Kwidths_c
open Kclz_c
open Kctz_c
open Kpop_c
open Kdivu_c
open Kremu_c
open Kdivs_c
open Krems_c
open Kreckon1_c
theorem sub_p {w : World} {A : Around} {E : Value → Shared → Prop} {hh : Heap} {gg : Array GenState} {dd : Drawn} {tk : Nat} {oo : OsState} {a b p : Int} {t u : Tok} {Q : Value → Shared → Prop} (e : a - b = p) (h : Q (.int p tk) ⟨hh, gg, dd, tk + 1, oo⟩) : wpAny (model PR w) A (binaryOp .Sub (.int a t) (.int b u)) Q E ⟨hh, gg, dd, tk, oo⟩ := by
  subst e; exact sub_int h
open G1
theorem cmpv (b x y : Int) : cmpF 0 b x y = (if x = y then 1 else 0) ∧ cmpF 1 b x y = (if x ≠ y then 1 else 0) ∧ cmpF 2 b x y = (if sg b x < sg b y then 1 else 0) ∧ cmpF 3 b x y = (if x < y then 1 else 0) ∧ cmpF 4 b x y = (if sg b y < sg b x then 1 else 0) ∧ cmpF 5 b x y = (if y < x then 1 else 0) ∧
    cmpF 6 b x y = (1 - if sg b y < sg b x then 1 else 0) ∧ cmpF 7 b x y = (1 - if y < x then 1 else 0) ∧ cmpF 8 b x y = (1 - if sg b x < sg b y then 1 else 0) ∧ cmpF 9 b x y = (1 - if x < y then 1 else 0) := ⟨rfl, rfl, rfl, rfl, rfl, rfl, rfl, rfl, rfl, rfl⟩
theorem le_one (x y : Int) : (if x ≤ y then (1 : Int) else 0) = 1 - if y < x then 1 else 0 := by
  by_cases h : x ≤ y
  · rw [if_pos h, if_neg (by lia)]; rfl
  · rw [if_neg h, if_pos (by lia)]; rfl
theorem cmp01_c (w : World) (p x y b : Int) (t u v z : Tok) (h : p = 0 ∨ p = 1) : CtI w 518 [.int p t, .int x u, .int y v, .int b z] 2 (cmpF p b x y) := by
  have hp : p < 2 := by lia
  intro mean mg mb dp un fr gd s Q E G hR hret
  have KX := G.k
  have T := G.t
  refine enter G (by k_dflt k_is) (by k_dflt k_is) (Room.enter hR) rfl (locs rfl) (fun L' h' tk' F' N' => ?_)
  intro A9 E9
  try dsimp only
  dsimp only [List.map, List.zip, List.zipWith, List.reverse, List.reverseAux] at F'
  k_steps
  all_goals (k_steps; (try dsimp only); first | (refine endI (by assumption) (by k_asm) ?_) | (refine endB (by assumption) (by k_asm) ?_) | (refine endR (by assumption) (by k_asm) ?_))
  rcases h with rfl | rfl
  all_goals
    simp only [cmpv]
    by_cases q : x = y <;> simp [q]
theorem to4e {p : Int} (h0 : 2 ≤ p) (h1 : p < 10) (h : p % 2 = 0) : p = 2 ∨ p = 4 ∨ p = 6 ∨ p = 8 := by
  obtain ⟨n, rfl⟩ := Int.eq_ofNat_of_zero_le (Int.le_trans (by decide) h0)
  have a : 2 ≤ n := Int.ofNat_le.mp h0
  have b : n < 10 := Int.ofNat_lt.mp h1
  clear h0 h1
  revert h
  revert a
  revert b
  revert n
  decide
theorem to4o {p : Int} (h0 : 2 ≤ p) (h1 : p < 10) (h : ¬ p % 2 = 0) : p = 3 ∨ p = 5 ∨ p = 7 ∨ p = 9 := by
  obtain ⟨n, rfl⟩ := Int.eq_ofNat_of_zero_le (Int.le_trans (by decide) h0)
  have a : 2 ≤ n := Int.ofNat_le.mp h0
  have b : n < 10 := Int.ofNat_lt.mp h1
  clear h0 h1
  revert h
  revert a
  revert b
  revert n
  decide
theorem compare_c (w : World) (p x y b : Int) (t u v z : Tok) (h0 : 0 ≤ p) (h1 : p < 10) (hb0 : 0 < b) (hb1 : b ≤ 64) : CtI w 518 [.int p t, .int x u, .int y v, .int b z] 2 (cmpF p b x y) := by
  by_cases hp : p < 2
  · exact cmp01_c w p x y b t u v z (by lia)
  have hI : Hold True := trivial
  by_cases he : p % 2 = 0
  · intro mean mg mb dp un fr gd s Q E G hR hret
    have KX := G.k
    have T := G.t
    refine enter G (by k_dflt k_is) (by k_dflt k_is) (Room.enter hR) rfl (locs rfl) (fun L' h' tk' F' N' => ?_)
    intro A9 E9
    try dsimp only
    dsimp only [List.map, List.zip, List.zipWith, List.reverse, List.reverseAux] at F'
    k_steps
    refine unhold ?_
    rcases to4e (by lia) h1 he with rfl | rfl | rfl | rfl
    all_goals
      clear hI
      k_steps
      all_goals (k_steps; (try dsimp only); first | (refine endI (by assumption) (by k_asm) ?_) | (refine endB (by assumption) (by k_asm) ?_) | (refine endR (by assumption) (by k_asm) ?_))
      (try simp only [decide_eq_true_eq])
      simp only [cmpv]
      first | done | rfl | exact le_one _ _
  · intro mean mg mb dp un fr gd s Q E G hR hret
    have KX := G.k
    have T := G.t
    refine enter G (by k_dflt k_is) (by k_dflt k_is) (Room.enter hR) rfl (locs rfl) (fun L' h' tk' F' N' => ?_)
    intro A9 E9
    try dsimp only
    dsimp only [List.map, List.zip, List.zipWith, List.reverse, List.reverseAux] at F'
    k_steps
    refine unhold ?_
    rcases to4o (by lia) h1 he with rfl | rfl | rfl | rfl
    all_goals
      clear hI
      k_steps
      all_goals (k_steps; (try dsimp only); first | (refine endI (by assumption) (by k_asm) ?_) | (refine endB (by assumption) (by k_asm) ?_) | (refine endR (by assumption) (by k_asm) ?_))
      (try simp only [decide_eq_true_eq])
      simp only [cmpv]
      first | done | rfl | exact le_one _ _
open H492
open H518
theorem lowEnd {z : Int} {k : Nat} (h : 0 ≤ z ∧ z < 2 ^ k) : z % 2 ^ k = z := Int.emod_eq_of_lt h.1 h.2
theorem rest_zero {p b x y : Int} (hp : p = 3 ∨ p = 4 ∨ p = 5 ∨ p = 6) (h : y = 0) : restF p b x y = none := by
  subst h
  rcases hp with rfl | rfl | rfl | rfl <;> rfl
theorem divu_end {b x y : Int} (y0 : ¬ y = 0) (hx : 0 ≤ x) (hx2 : x < 2 ^ b.toNat) (yp : 0 < y) (hy2 : y < 2 ^ b.toNat) : restF 4 b x y = some (x / y % 2 ^ b.toNat) := by
  show (if y = 0 then none else some (x / y)) = _
  rw [if_neg y0, Int.emod_eq_of_lt (Int.ediv_nonneg hx (by lia)) (Int.lt_of_le_of_lt (Int.ediv_le_self _ hx) hx2)]
theorem remu_end {b x y : Int} (y0 : ¬ y = 0) (hx : 0 ≤ x) (hx2 : x < 2 ^ b.toNat) (yp : 0 < y) (hy2 : y < 2 ^ b.toNat) : restF 6 b x y = some (x % y % 2 ^ b.toNat) := by
  show (if y = 0 then none else some (x % y)) = _
  rw [if_neg y0, Int.emod_eq_of_lt (Int.emod_nonneg _ y0) (Int.lt_trans (Int.emod_lt_of_pos x yp) hy2)]
theorem sg_ne {b y : Int} (hb : b = 32 ∨ b = 64) (hy : 0 ≤ y) (hy2 : y < 2 ^ b.toNat) (y0 : ¬ y = 0) : ¬ sg b y = 0 := fun q => y0 ((sg_inv hb hy hy2).1 q)
theorem abs_pos {a : Int} (h : ¬ a = 0) : 0 < (if a < 0 then -a else a) := by split <;> lia
theorem abs_lt {b y : Int} (hb : b = 32 ∨ b = 64) (hy : 0 ≤ y) (hy2 : y < 2 ^ b.toNat) : (if sg b y < 0 then -sg b y else sg b y) < 2 ^ 65 := by
  have := sg_rng hb hy hy2
  rcases hb with rfl | rfl
  · simp at this ⊢; split <;> lia
  · simp at this ⊢; split <;> lia
theorem divs_trap {b x y : Int} (y0 : ¬ y = 0) (am : sg b x = -2 ^ (b - 1).toNat) (bm : sg b y = -1) : restF 3 b x y = none := by
  show divsF b x y = none
  unfold divsF
  rw [if_neg y0, if_pos ⟨am, bm⟩]
theorem divs_end1 {b x y : Int} (y0 : ¬ y = 0) (n : ¬ (sg b x = -2 ^ (b - 1).toNat ∧ sg b y = -1)) (h : (decide (sg b x < 0) == decide (sg b y < 0)) = true) :
    restF 3 b x y = some ((if sg b x < 0 then -sg b x else sg b x) / (if sg b y < 0 then -sg b y else sg b y) % 2 ^ b.toNat) := by
  show divsF b x y = _
  unfold divsF
  rw [if_neg y0, if_neg n, tn, if_pos h]
theorem divs_end2 {b x y : Int} (y0 : ¬ y = 0) (n : ¬ (sg b x = -2 ^ (b - 1).toNat ∧ sg b y = -1)) (h : (decide (sg b x < 0) == decide (sg b y < 0)) = false) :
    restF 3 b x y = some (-((if sg b x < 0 then -sg b x else sg b x) / (if sg b y < 0 then -sg b y else sg b y)) % 2 ^ b.toNat) := by
  show divsF b x y = _
  unfold divsF
  rw [if_neg y0, if_neg n, tn, h]; rfl
theorem rem_core {a b : Int} (h : ¬ b = 0) : a - b * tn a b = if a ≥ 0 then (if a < 0 then -a else a) % (if b < 0 then -b else b) else -((if a < 0 then -a else a) % (if b < 0 then -b else b)) := by
  unfold tn
  have e1 := Int.mul_ediv_add_emod a b
  have e2 := Int.mul_ediv_add_emod a (-b)
  have e3 := Int.mul_ediv_add_emod (-a) b
  have e4 := Int.mul_ediv_add_emod (-a) (-b)
  by_cases ha : a < 0
  · by_cases hb : b < 0
    · rw [if_pos (by simp [ha, hb]), if_pos ha, if_pos hb, if_neg (by lia)]
      rw [Int.neg_mul] at e4
      lia
    · rw [if_neg (by simp [ha, hb]), if_pos ha, if_neg hb, if_neg (by lia), Int.mul_neg]
      lia
  · by_cases hb : b < 0
    · rw [if_neg (by simp [ha, hb]), if_neg ha, if_pos hb, if_pos (by lia), Int.mul_neg]
      rw [Int.neg_mul] at e2
      lia
    · rw [if_pos (by simp [ha, hb]), if_neg ha, if_neg hb, if_pos (by lia)]
      lia
theorem rems_end1 {b x y : Int} (y0 : ¬ y = 0) (s0 : ¬ sg b y = 0) (h : sg b x ≥ 0) : restF 5 b x y = some ((if sg b x < 0 then -sg b x else sg b x) % (if sg b y < 0 then -sg b y else sg b y) % 2 ^ b.toNat) := by
  show remsF b x y = _
  unfold remsF
  rw [if_neg y0, rem_core s0, if_pos h]
theorem rems_end2 {b x y : Int} (y0 : ¬ y = 0) (s0 : ¬ sg b y = 0) (h : ¬ sg b x ≥ 0) : restF 5 b x y = some (-((if sg b x < 0 then -sg b x else sg b x) % (if sg b y < 0 then -sg b y else sg b y)) % 2 ^ b.toNat) := by
  show remsF b x y = _
  unfold remsF
  rw [if_neg y0, rem_core s0, if_neg h]
def opA (B : Int) : Int := if B = 32 then 106 else 124
theorem opA_rest {c p B x y : Int} (hb : B = 32 ∨ B = 64) (hp : c - opA B = p) (h0 : 0 ≤ p) (h1 : p < 15) : r2F c x y = restF p B x y ∧ takesF c = B ∧ ¬ c ≤ 90 := by
  have e : placeF c 106 124 15 = some (p, B) := by
    unfold placeF
    unfold opA at hp
    rcases hb with rfl | rfl
    · rw [if_pos rfl] at hp
      rw [if_pos (by lia)]; congr 2
    · rw [if_neg (by decide)] at hp
      rw [if_neg (by lia), if_pos (by lia)]; congr 2
  refine ⟨r2_rest e, (rest_puts e).2, ?_⟩
  unfold opA at hp
  rcases hb with rfl | rfl
  · rw [if_pos rfl] at hp; lia
  · rw [if_neg (by decide)] at hp; lia
theorem two_cmp (w : World) (c x y p : Int) (B : Int) (t u v : Tok) (hB : takesF c = B) (hb : B = 32 ∧ c = 70 + p ∨ B = 64 ∧ c = 81 + p) (h0 : 0 ≤ p) (h1 : p < 10) : Ct w 525 [.int c t, .int x u, .int y v] 4 (OptInt (some (cmpF p B x y))) := by
  have hl : c ≤ 90 := by lia
  rcases hb with ⟨rfl, hcp⟩ | ⟨rfl, hcp⟩
  all_goals
    first
      | have hq : c - 70 = p := by lia
      | have hq : c - 81 = p := by lia
    intro mean mg mb dp un fr gd s Q E G hR hret
    have KX := G.k
    have T := G.t
    refine enter G (by k_dflt k_is) (by k_dflt k_is) (Room.enter hR) rfl (locs rfl) (fun L' h' tk' F' N' => ?_)
    intro A9 E9
    try dsimp only
    dsimp only [List.map, List.zip, List.zipWith, List.reverse, List.reverseAux] at F'
    k_steps
    refine unhold ?_
    with_reducible rename News _ _ _ _ => N2
    with_reducible rename Fr _ _ _ _ => F2
    refine useI (ltakes_c w _ _) F2 N2 KX T (Room.down hR (by decide) rfl rfl) ?_
    intro t9 h9 tk9 F9 N9
    rw [hB]
    clear F2 N2
    (try dsimp only)
    k_steps
    refine unhold ?_
    with_reducible rename News _ _ _ _ => N2
    with_reducible rename Fr _ _ _ _ => F2
    refine useI (compare_c w p x y _ _ _ _ _ h0 h1 (by decide) (by decide)) F2 N2 KX T (Room.down hR (by decide) rfl rfl) ?_
    intro t8 h8 tk8 F8 N8
    (try dsimp only)
    k_steps
    exact leaveC_ret (hret _ _ _ F8.keep ⟨t8, rfl⟩)
theorem mono_B {w : World} {A : Around} {E : Value → Shared → Prop} {s : Shared} {Q : Bool → Shared → Prop} {e : Sem Bool} {F : Bool} (h1 : wpAny (model PR w) A e (fun v s' => Hold (v = F ∧ ∃ tk, s' = { s with toks := tk })) E s) (h2 : ∀ tk, Q F { s with toks := tk }) : wpAny (model PR w) A e Q E s :=
  wpAny_mono h1 (fun v s' ⟨e1, tk, e2⟩ => e1 ▸ e2 ▸ h2 tk) fun _ _ z => z
abbrev trapP (p B x y : Int) : Prop := ((3 ≤ p ∧ p ≤ 6) ∧ y = 0) ∨ (p = 3 ∧ sg B x = -2 ^ (B - 1).toNat ∧ sg B y = -1)
theorem pick6 {p : Int} (h0 : 0 ≤ p) (h1 : p < 10) (n3 : p ≠ 3) (n4 : p ≠ 4) (n5 : p ≠ 5) (n6 : p ≠ 6) : p = 0 ∨ p = 1 ∨ p = 2 ∨ p = 7 ∨ p = 8 ∨ p = 9 := by
  rcases to10 h0 h1 with rfl | rfl | rfl | rfl | rfl | rfl | rfl | rfl | rfl | rfl
  all_goals first | exact absurd rfl n3 | exact absurd rfl n4 | exact absurd rfl n5 | exact absurd rfl n6 | decide
theorem pick4 {p : Int} (h0 : 0 ≤ p) (h1 : p < 15) (n : ¬ p < 10) (n11 : p ≠ 11) : p = 10 ∨ p = 12 ∨ p = 13 ∨ p = 14 := by
  rcases to15 h0 h1 with rfl | rfl | rfl | rfl | rfl | rfl | rfl | rfl | rfl | rfl | rfl | rfl | rfl | rfl | rfl
  all_goals first | exact absurd (by decide) n | exact absurd rfl n11 | decide
theorem trap_none {p B x y : Int} (h : trapP p B x y) : restF p B x y = none := by
  rcases h with ⟨⟨h3, h6⟩, y0⟩ | ⟨rfl, am, bm⟩
  · exact rest_zero (by lia) y0
  · by_cases y0 : y = 0
    · exact rest_zero (.inl rfl) y0
    · exact divs_trap y0 am bm
set_option maxHeartbeats 8000000 in
theorem item_anyJ {w : World} {A : Around} {E : Value → Shared → Prop} {s : Shared} {h₀ : Heap} {L a : Addr} {news : List (Addr × Obj)} {value slice : Expr} {l : List Value} {n : Nat} {k : Int} {u : Tok} {P : Int → Prop} {Q : Value → Shared → Prop} (N : News h₀ L s.heap news) (ht : (a, PySem.W.listOf l.toArray n) ∈ news)
    (h0 : 0 ≤ k) (hk : k < 2 ^ 63) (hx : ∃ z t, l[k.toNat]? = some (.int z t) ∧ P z) (h : ∀ z t, P z → Q (.int z t) s)
    (hs : subscripted slice false (.ref a) (.int k u) = operate [.ref a, .int k u] (getItem (.ref a) (.int k u)) := by with_unfolding_all rfl) :
    wpAny (model PR w) A (subscriptTail value slice (.ref a) (.int k u)) Q E s := by
  obtain ⟨z, t, e, p⟩ := hx
  have hl : s.heap.IsList a l.toArray := ⟨_, (N _ ht).1, rfl, _, rfl⟩
  exact tail_any hl.typeIs slot_list_getitem.lookup (wpAny_getItem_list hl h0 hk (by simpa using e) (h z t p)) hs
theorem pick6_val {B x y p : Int} (hx : 0 ≤ x) (hx2 : x < 2 ^ B.toNat) (hy : 0 ≤ y) (hy2 : y < 2 ^ B.toNat) (h : p = 0 ∨ p = 1 ∨ p = 2 ∨ p = 7 ∨ p = 8 ∨ p = 9) {t0 t1 t2 t3 t4 t5 t6 t7 t8 t9 : Tok} :
    ∃ z t, ([.int (x + y) t0, .int (x - y) t1, .int (x * y) t2, .int 0 t3, .int 0 t4, .int 0 t5, .int 0 t6, .int (Builtin.bitAnd x y) t7, .int (Builtin.bitOr x y) t8, .int (Builtin.bitXor x y) t9] : List Value)[p.toNat]? = some (.int z t) ∧ restF p B x y = some (z % 2 ^ B.toNat) := by
  rcases h with rfl | rfl | rfl | rfl | rfl | rfl
  · exact ⟨_, _, rfl, rfl⟩
  · exact ⟨_, _, rfl, rfl⟩
  · exact ⟨_, _, rfl, rfl⟩
  · exact ⟨_, _, rfl, congrArg some (lowEnd (and_rng hx hy hy2)).symm⟩
  · exact ⟨_, _, rfl, congrArg some (lowEnd (or_rng hx hx2 hy hy2)).symm⟩
  · exact ⟨_, _, rfl, congrArg some (lowEnd (xor_rng hx hx2 hy hy2)).symm⟩
theorem pick4_val {B x y p : Int} (hb : B = 32 ∨ B = 64) (hx : 0 ≤ x) (hx2 : x < 2 ^ B.toNat) (h : p = 10 ∨ p = 12 ∨ p = 13 ∨ p = 14) {t0 t1 t2 t3 t4 : Tok} :
    ∃ z t, ([.int (x * 2 ^ (y % B).toNat) t0, .int 0 t1, .int (x / 2 ^ (y % B).toNat) t2, .int (x * 2 ^ (y % B).toNat + x / 2 ^ (B - y % B).toNat) t3, .int (x / 2 ^ (y % B).toNat + x * 2 ^ (B - y % B).toNat) t4] : List Value)[(p - 10).toNat]? = some (.int z t) ∧ restF p B x y = some (z % 2 ^ B.toNat) := by
  rcases h with rfl | rfl | rfl | rfl
  · exact ⟨_, _, rfl, rfl⟩
  · exact ⟨_, _, rfl, congrArg some (lowEnd (half_rng hx hx2)).symm⟩
  · exact ⟨_, _, rfl, congrArg some (rl_is hb hx hx2)⟩
  · exact ⟨_, _, rfl, congrArg some (rr_is hb hx hx2)⟩
theorem mi {w : World} {A : Around} {E : Value → Shared → Prop} {hh : Heap} {gg : Array GenState} {dd : Drawn} {tk : Nat} {oo : OsState} {a b : Int} {t u : Tok} {Q : Value → Shared → Prop} (hm : PySem.IntMulOk a b) (hq : Q (.int (a * b) tk) ⟨hh, gg, dd, tk + 1, oo⟩) : wpAny (model PR w) A (binaryOp .Mult (.int a t) (.int b u)) Q E ⟨hh, gg, dd, tk, oo⟩ := mul_int hq hm
theorem mulX {a b : Int} (h : a.natAbs < 2 ^ 64) : PySem.IntMulOk a b := PySem.IntMulOk.of_left (PySem.intBits_le_64 (by lia) (by lia))
theorem two_rest (w : World) (c x y B : Int) (t u v : Tok) (hb : B = 32 ∨ B = 64) (h0 : 0 ≤ c - opA B) (h1 : c - opA B < 15) (hx : 0 ≤ x) (hx2 : x < 2 ^ (takesF c).toNat) (hy : 0 ≤ y) (hy2 : y < 2 ^ (takesF c).toNat) : Ct w 525 [.int c t, .int x u, .int y v] 4 (OptInt (r2F c x y)) := by
  obtain ⟨p, hp⟩ : ∃ p, c - opA B = p := ⟨_, rfl⟩
  rw [hp] at h0 h1
  rw [(opA_rest (x := 0) (y := 0) hb hp h0 h1).2.1] at hx2 hy2
  have hI : Hold (0 < 1) := Nat.zero_lt_one
  obtain ⟨hr, hB, hl⟩ := opA_rest (x := x) (y := y) hb hp h0 h1
  have b0 : 0 < B := by lia
  have b1 : B ≤ 64 := by lia
  have x64 : x.natAbs < 2 ^ 64 := by rcases hb with rfl | rfl <;> simp at hx2 <;> lia
  have y64 : y.natAbs < 2 ^ 64 := by rcases hb with rfl | rfl <;> simp at hy2 <;> lia
  have hm1 : PySem.IntMulOk x y := mulX x64
  have hm2 : PySem.IntMulOk x (2 ^ (y % B).toNat) := mulX x64
  have hm3 : PySem.IntMulOk x (2 ^ (B - y % B).toNat) := mulX x64
  have k0 : 0 ≤ y % B := Int.emod_nonneg _ (by lia)
  have k1 : y % B < B := Int.emod_lt_of_pos _ b0
  rw [hr]
  intro mean mg mb dp un fr gd s Q E G hR hret
  have KX := G.k
  have T := G.t
  refine enter G (by k_dflt k_is) (by k_dflt k_is) (Room.enter hR) rfl (locs rfl) (fun L' h' tk' F' N' => ?_)
  intro A9 E9
  try dsimp only
  dsimp only [List.map, List.zip, List.zipWith, List.reverse, List.reverseAux] at F'
  k_steps
  refine unhold ?_
  with_reducible rename News _ _ _ _ => N2
  with_reducible rename Fr _ _ _ _ => F2
  refine useI (ltakes_c w c _) F2 N2 KX T (Room.down hR (by decide) rfl rfl) ?_
  intro t9 h9 tk9 F9 N9
  rw [hB]
  clear F2 N2
  (try dsimp only)
  k_steps
  refine unhold ?_
  refine mono_F (F := opA B) ?_ ?_
  · clear hI
    rcases hb with rfl | rfl
    all_goals
      k_steps
      refine unhold ⟨_, _, rfl, rfl⟩
  intro t8 tk8
  clear hI
  have hK : Hold (0 < 3) := Nat.zero_lt_succ 2
  k_steps
  refine unhold ?_
  clear hK
  refine wpAny_If ?_
  refine mono_B (F := decide (trapP p B x y)) ?_ (fun tk9 => ?_)
  · k_steps
    all_goals refine unhold ⟨?_, _, rfl⟩
    all_goals first
      | exact (decide_eq_true (p := trapP p B x y) (Or.inl (by assumption))).symm
      | exact (decide_eq_true (p := trapP p B x y) (Or.inr ⟨by assumption, by assumption, by assumption⟩)).symm
      | exact (decide_eq_false (p := trapP p B x y) (fun q => q.elim (fun q => absurd q (by assumption)) (fun q => by first | exact absurd q.1 (by assumption) | exact absurd q.2.1 (by assumption) | exact absurd q.2.2 (by assumption)))).symm
      | (exfalso; lia)
      | trace_state
  by_cases tp : trapP p B x y
  · k_steps
    all_goals (try dsimp only)
    all_goals refine endR hret (by k_asm) (optInt_none ?_)
    all_goals exact trap_none tp
  · have hK : Hold (0 < 3) := Nat.zero_lt_succ 2
    k_steps
    refine unhold ?_
    clear hK
    with_reducible rename SQ _ _ _ _ _ _ _ => hq
    with_reducible rename (Flow → Shared → Prop) => Q8
    have fin : ∀ (z : Int) (tz tb : Tok) (h : Heap) (m : Str → Option Value) (news : List (Addr × Obj)) (tk : Nat), Fr s.heap L' h m → News s.heap L' h news → m (Str.ofString "found") = some (.int z tz) → m (Str.ofString "bits") = some (.int B tb) → restF p B x y = some (z % 2 ^ B.toNat) → Q8 .next { s with heap := h, toks := tk } := by
      intro z tz tb h m news tk F N e1 e2 e3
      with_reducible rename Fr _ _ _ _ => Fz
      refine SQ.nx hq ?_
      clear hq
      k_steps
      refine endR hret (by k_asm) (optInt_some e3)
    clear hq
    have hA : Hold (0 < 4) := Nat.zero_lt_succ 3
    k_steps
    all_goals refine unhold ?_
    all_goals clear hA
    all_goals first
      | have e9 : p = 3 := by with_reducible assumption
        subst e9
        have y0 : ¬ y = 0 := fun q => tp (.inl ⟨⟨by decide, by decide⟩, q⟩)
        have nt : Hold (¬ (sg B x = -2 ^ (B - 1).toNat ∧ sg B y = -1)) := fun q => tp (.inr ⟨rfl, q.1, q.2⟩)
        have yp : 0 < y := by lia
        have s0 := sg_ne hb hy hy2 y0
        have hb8 := abs_pos s0
        have hb9 := abs_lt hb hy hy2
        clear hp h0 h1 tp
        k_steps
        all_goals (try dsimp only)
        all_goals refine fin _ _ _ _ _ _ _ (by k_asm) (by k_asm) rfl rfl ?_
        all_goals first | exact divs_end1 y0 nt (by assumption) | exact divs_end2 y0 nt (by assumption)
      | have e9 : p = 4 := by with_reducible assumption
        subst e9
        have y0 : ¬ y = 0 := fun q => tp (.inl ⟨⟨by decide, by decide⟩, q⟩)
        have yp : 0 < y := by lia
        have y65 : y < 2 ^ 65 := by rcases hb with rfl | rfl <;> simp at hy2 <;> lia
        clear hp h0 h1 tp
        k_steps
        all_goals (try dsimp only)
        all_goals refine fin _ _ _ _ _ _ _ (by k_asm) (by k_asm) rfl rfl ?_
        all_goals exact divu_end y0 hx hx2 yp hy2
      | have e9 : p = 5 := by with_reducible assumption
        subst e9
        have y0 : ¬ y = 0 := fun q => tp (.inl ⟨⟨by decide, by decide⟩, q⟩)
        have s0 := sg_ne hb hy hy2 y0
        have hb8 := abs_pos s0
        have hb9 := abs_lt hb hy hy2
        clear hp h0 h1 tp
        k_steps
        all_goals (try dsimp only)
        all_goals refine fin _ _ _ _ _ _ _ (by k_asm) (by k_asm) rfl rfl ?_
        all_goals first | exact rems_end1 y0 s0 (by assumption) | exact rems_end2 y0 s0 (by assumption)
      | have e9 : p = 6 := by with_reducible assumption
        subst e9
        have y0 : ¬ y = 0 := fun q => tp (.inl ⟨⟨by decide, by decide⟩, q⟩)
        have yp : 0 < y := by lia
        have y65 : y < 2 ^ 65 := by rcases hb with rfl | rfl <;> simp at hy2 <;> lia
        clear hp h0 h1 tp
        k_steps
        all_goals (try dsimp only)
        all_goals refine fin _ _ _ _ _ _ _ (by k_asm) (by k_asm) rfl rfl ?_
        all_goals exact remu_end y0 hx hx2 yp hy2
      | have h := pick6 h0 (by with_reducible assumption : p < 10) (by with_reducible assumption) (by with_reducible assumption) (by with_reducible assumption) (by with_reducible assumption)
        have p63 : p < 2 ^ 63 := by lia
        have hJ : Hold True := trivial
        clear hp h1 tp
        k_steps
        refine unhold ?_
        clear hJ
        with_reducible rename News _ _ _ _ => N8
        refine item_anyJ N8 (by k_mem) h0 p63 (pick6_val hx hx2 hy hy2 h) ?_
        intro z tz hz
        clear h h0 p63
        k_steps
        (try dsimp only)
        exact fin _ _ _ _ _ _ _ (by k_asm) (by k_asm) rfl rfl hz
      | have e9 : p = 11 := by with_reducible assumption
        subst e9
        clear hp h0 h1 tp
        k_steps
        all_goals (try dsimp only)
        all_goals refine fin _ _ _ _ _ _ _ (by k_asm) (by k_asm) rfl rfl ?_
        all_goals rfl
      | have h := pick4 h0 h1 (by with_reducible assumption) (by with_reducible assumption)
        have p0 : 0 ≤ p - 10 := by lia
        have p63 : p - 10 < 2 ^ 63 := by lia
        have hJ : Hold True := trivial
        clear hp h0 h1 tp
        k_steps
        refine unhold ?_
        clear hJ
        with_reducible rename News _ _ _ _ => N8
        refine item_anyJ N8 (by k_mem) p0 p63 (pick4_val hb hx hx2 h) ?_
        intro z tz hz
        clear h p0 p63
        k_steps
        (try dsimp only)
        exact fin _ _ _ _ _ _ _ (by k_asm) (by k_asm) rfl rfl hz
abbrev TwoK (c : Int) : Prop := (placeF c 106 124 15 = none ∧ placeF c 70 81 10 = some (c - 70, 32) ∧ takesF c = 32 ∧ c = 70 + (c - 70) ∧ 0 ≤ c - 70 ∧ c - 70 < 10) ∨
  (placeF c 106 124 15 = none ∧ placeF c 70 81 10 = some (c - 81, 64) ∧ takesF c = 64 ∧ c = 81 + (c - 81) ∧ 0 ≤ c - 81 ∧ c - 81 < 10) ∨ (0 ≤ c - opA 32 ∧ c - opA 32 < 15) ∨ (0 ≤ c - opA 64 ∧ c - opA 64 < 15)
set_option synthInstance.maxSize 2000 in
theorem two_k {c : Int} (hc : isBiF c = true) : TwoK c := by
  obtain ⟨n, hn, rfl⟩ := bi_nat hc
  revert hc; revert hn; revert n; decide +kernel
theorem two_c (w : World) (c x y : Int) (t u v : Tok) (hc : isBiF c = true) (hx : 0 ≤ x) (hx2 : x < 2 ^ (takesF c).toNat) (hy : 0 ≤ y) (hy2 : y < 2 ^ (takesF c).toNat) : Ct w 525 [.int c t, .int x u, .int y v] 4 (OptInt (r2F c x y)) := by
  rcases two_k hc with h | h | h | h
  · rw [r2_cmp h.1 h.2.1]
    exact two_cmp w c x y (c - 70) 32 t u v h.2.2.1 (.inl ⟨rfl, h.2.2.2.1⟩) h.2.2.2.2.1 h.2.2.2.2.2
  · rw [r2_cmp h.1 h.2.1]
    exact two_cmp w c x y (c - 81) 64 t u v h.2.2.1 (.inr ⟨rfl, h.2.2.2.1⟩) h.2.2.2.2.1 h.2.2.2.2.2
  · exact two_rest w c x y 32 t u v (.inl rfl) h.1 h.2 hx hx2 hy hy2
  · exact two_rest w c x y 64 t u v (.inr rfl) h.1 h.2 hx hx2 hy hy2
end

section
open Kunsigned_c
open Ksigned_c
open Kleast_c
open Kwidened_c
open Keqz_c
open Kadd_c
open Ksub_c
open Kmul_c
open Ktn_c
open Kand_c
open Kor_c
open Kxor_c
open Kshl_c
open Kshrs_c
open Kshru_c
open Krotl_c
open Krotr_c
open Keq_c
open Kne_c
open Kltu_c
open Klts_c
open Kgts_c
open Kles_c
open Kges_c
open Kgtu_c
open Kleu_c
open Kgeu_c
open Kltakes_c
open Klisone_c
open Klsigned_c
open Klplain_c
open Kplace_c
open Knarrow_c
open Kisun_c
open Kisbi_c
open Kneutral_c
open Kwidths_c
open Kclz_c
open Kctz_c
open Kpop_c
open Kdivu_c
open Kremu_c
open Kdivs_c
open Krems_c
open Kreckon1_c
open H492
theorem binds1c {ns : List (Str × NameKind)} {a b : Str} {u v : Value} (h1 : ns.lookup a = some .local) (h2 : ns.lookup b = some .cell) (h3 : ∀ n, ((cellsFrom n ns []).lookup b).isSome = true) : ∀ n, ∀ x ∈ [(a, u), (b, v)], ns.lookup x.1 = some .local ∨ (ns.lookup x.1 = some .cell ∧ ((cellsFrom n ns []).lookup x.1).isSome = true) :=
  fun n x hx => by
    rcases List.mem_cons.mp hx with rfl | hx
    · exact .inl h1
    · rw [List.mem_singleton.mp hx]; exact .inr ⟨h2, h3 n⟩
open S12
theorem ite_b {b : Bool} {p q : Prop} (h1 : b = true → p) (h2 : b = false → q) : if b = true then p else q := by
  cases b with
  | false => rw [if_neg (by decide)]; exact h2 rfl
  | true => rw [if_pos rfl]; exact h1 rfl
theorem ite_be {a b : Int} {p q : Prop} (h1 : a = b → p) (h2 : ¬ a = b → q) : if (a == b) = true then p else q := by
  by_cases h : a = b
  · exact ite_bp h (h1 h)
  · exact ite_bn h (h2 h)
open G2
open G2
theorem in2_c {w : World} {A : Around} {E : Value → Shared → Prop} {s : Shared} {h₀ : Heap} {L t : Addr} {news : List (Addr × Obj)} {a b x : Int} {ta tb u : Tok} {Q : Value → Shared → Prop}
    (N : News h₀ L s.heap ((t, { cls := .type "tuple", data := .seq #[.int a ta, .int b tb] }) :: news)) (h : Q (.bool ([a, b].any fun z => z == x)) s) : wpAny (model PR w) A (compareOp .In (.int x u) (.ref t)) Q E s :=
  in_tuple_ints ⟨_, (N _ (.head _)).1, rfl, _, rfl⟩ (.cons _ _ (.cons _ _ .nil)) h
open G2
theorem ldLC {M : Model} {A : Around} {E : Value → Shared → Prop} {s : Shared} {name : Str} {scope : Scope} {L a : Addr} {cd : Value} {h₀ : Heap} {m : Str → Option Value} {x : Str} {pos : Pos} {v : Value} {Q : Value → Shared → Prop} (F : Fr h₀ L s.heap m) (hv : m x = some v) (h : Q v s)
    (hk : scope.kind = .function := by rfl) (hl : (envOfC name scope L a cd).kindOf x = some .local := by rfl) (hdb : (x == ("__debug__" : Str)) = false := by decide) :
    wpAny M A (eval (.Name x pos) (envOfC name scope L a cd)) Q E s := wpAny_Name (wpAny_loadName_local hk hl F.ns hv h) hdb
theorem item_lit {w : World} {A : Around} {E : Value → Shared → Prop} {s : Shared} {h₀ : Heap} {L d : Addr} {news : List (Addr × Obj)} {o : Obj} {kvs : List (Int × Value)} {c : Int} {u : Tok} {v : Value} {value slice : Expr} {Q : Value → Shared → Prop}
    (N : News h₀ L s.heap ((d, o) :: news)) (hd : Obj.IsDictOf (intKind PR w) o kvs) (hv : valueAt kvs c = some v) (h : ∀ n, Q v (Shared.mk s.heap s.gens s.drawn n s.os))
    (hs : subscripted slice false (.ref d) (.int c u) = operate [.ref d, .int c u] (getItem (.ref d) (.int c u)) := by with_unfolding_all rfl) : wpAny (model PR w) A (subscriptTail value slice (.ref d) (.int c u)) Q E s :=
  have hD := Heap.dictOf_iff.mpr ⟨o, (N _ (.head _)).1, hd⟩
  tail_any hD.typeIs slot_dict_getitem.lookup (wpAny_getItem_of (intKind_is PR w c u) hD.mapOf hv (h _)) hs
def narW (c : Int) : Int := if c = 172 ∨ c = 196 then 32 else if c = 193 ∨ c = 195 then 16 else 8
theorem dict6 {w : World} {o : Obj} {c : Int} {a1 a2 a3 a4 a5 a6 b1 b2 b3 b4 b5 b6 : Tok} (hd : Obj.IsDictOf (intKind PR w) o (intKeyPairs [(.int 172 a1, .int 32 b1), (.int 192 a2, .int 8 b2), (.int 193 a3, .int 16 b3), (.int 194 a4, .int 8 b4), (.int 195 a5, .int 16 b5), (.int 196 a6, .int 32 b6)])) (h6 : c = 172 ∨ c = 192 ∨ c = 193 ∨ c = 194 ∨ c = 195 ∨ c = 196) :
    ∃ t5, valueAt (intKeyPairs [(.int 172 a1, .int 32 b1), (.int 192 a2, .int 8 b2), (.int 193 a3, .int 16 b3), (.int 194 a4, .int 8 b4), (.int 195 a5, .int 16 b5), (.int 196 a6, .int 32 b6)]) c = some (.int (narW c) t5) := by
  rcases h6 with rfl | rfl | rfl | rfl | rfl | rfl <;> exact ⟨_, rfl⟩
theorem nar_end {c x : Int} {B : Nat} (h6 : c = 172 ∨ c = 192 ∨ c = 193 ∨ c = 194 ∨ c = 195 ∨ c = 196) (hB : takesF c = B) : (c = 172 → sg (narW c) (x % 2 ^ (narW c).toNat) % 2 ^ (64 : Int).toNat = r1F c x) ∧ (¬ c = 172 → sg (narW c) (x % 2 ^ (narW c).toNat) % 2 ^ (B : Int).toNat = r1F c x) := by
  rcases h6 with rfl | rfl | rfl | rfl | rfl | rfl
  · exact ⟨fun _ => rfl, fun q => absurd rfl q⟩
  · rw [show takesF 192 = 32 from by decide] at hB; rw [← hB]; exact ⟨fun q => absurd q (by decide), fun _ => rfl⟩
  · rw [show takesF 193 = 32 from by decide] at hB; rw [← hB]; exact ⟨fun q => absurd q (by decide), fun _ => rfl⟩
  · rw [show takesF 194 = 64 from by decide] at hB; rw [← hB]; exact ⟨fun q => absurd q (by decide), fun _ => rfl⟩
  · rw [show takesF 195 = 64 from by decide] at hB; rw [← hB]; exact ⟨fun q => absurd q (by decide), fun _ => rfl⟩
  · rw [show takesF 196 = 64 from by decide] at hB; rw [← hB]; exact ⟨fun q => absurd q (by decide), fun _ => rfl⟩
open G6
theorem holdSubD {M : Model} {A : Around} {E : Value → Shared → Prop} {s : Shared} {Q : Value → Shared → Prop} {env : Env} {a b e : _} {p q : Pos} (_ : Hold True) (h : Hold (wpAny M A (eval (.Subscript (.Dict a b p) e q) env) Q E s)) : wpAny M A (eval (.Subscript (.Dict a b p) e q) env) Q E s := h
theorem digs (x : Int) (B : Nat) : (rangeKs 0 ((B : Int) - 0).toNat).map (fun k' => x / 2 ^ k'.toNat % 2) = dg B x := by
  rw [← dg_map]
  have : ((B : Int) - 0).toNat = B := by lia
  rw [this]
  simp [rangeKs]
theorem bits_dg : ∀ (b : Nat) (x : Int), ∀ n ∈ dg b x, n = 0 ∨ n = 1
  | 0, _, _, h => nomatch h
  | b + 1, x, n, h => by
    rcases List.mem_cons.mp h with rfl | h
    · lia
    · exact bits_dg b _ n h
theorem bits_rev {l : List Int} (h : ∀ n ∈ l, n = 0 ∨ n = 1) : ∀ n ∈ l.reverse, n = 0 ∨ n = 1 := fun n hn => h n (List.mem_reverse.mp hn)
theorem bits_app {l : List Int} (h : ∀ n ∈ l, n = 0 ∨ n = 1) : ∀ n ∈ l ++ [1], n = 0 ∨ n = 1 := fun n hn => (List.mem_append.mp hn).elim (h n) fun q => .inr (List.mem_singleton.mp q)
theorem lay_all : ∀ {ns : List Int}, (∀ n ∈ ns, n = 0 ∨ n = 1) → PyData.canLayAll0 (ns.map .int) = true ∧ PyData.depthAll (ns.map .int) = 0 ∧ PyData.weightAll (ns.map .int) ≤ 2 * ns.length
  | [], _ => ⟨rfl, rfl, Nat.le_refl _⟩
  | n :: ns, h => by
    obtain ⟨h1, h2, h3⟩ := lay_all (ns := ns) fun m hm => h m (.tail _ hm)
    have hw : PyData.weight (.int n) ≤ 1 := by
      rcases h n (.head _) with rfl | rfl
      · decide
      · decide
    simp only [List.map_cons, PyData.canLayAll0, PyData.depthAll, PyData.weightAll, h1, h2, PyData.canLay0, PyData.depth, List.length_cons]
    refine ⟨rfl, rfl, by lia⟩
theorem lay_bits {ns : List Int} (h : ∀ n ∈ ns, n = 0 ∨ n = 1) (hl : ns.length ≤ 100) : PyData.layable0 (.list (ns.map .int)) = true := by
  obtain ⟨h1, h2, h3⟩ := lay_all h
  have h4 : PyData.weightAll (ns.map .int) ≤ 2 ^ 20 := Nat.le_trans h3 (Nat.le_trans (Nat.mul_le_mul_left 2 hl) (Nat.le_of_ble_eq_true rfl))
  simp only [PyData.layable0, PyData.canLay0, PyData.depth, PyData.weight, h1, h2, Bool.true_and, Bool.and_eq_true, decide_eq_true_eq]
  exact ⟨by decide, decide_eq_true h4⟩
theorem any2 {a b c : Int} (h : ([a, b].any fun x => x == c) = true) : c = a ∨ c = b := by simp at h; lia
theorem any2n {a b c : Int} (h : ([a, b].any fun x => x == c) = false) : c ≠ a ∧ c ≠ b := by simp at h; lia
theorem one69 {c x : Int} (h : ([69, 80].any fun x => x == c) = true) : (if (x == 0) = true then (1 : Int) else 0) = r1F c x := by
  rw [r1F, if_pos (any2 h)]; simp
theorem r1_place {c p q x : Int} (h : placeF c 103 121 3 = some (p, q)) : r1F c x = cntF p q x := by
  obtain ⟨n, hn, hc⟩ := place_nat (k := 124) h (by decide) (by decide) (by decide) (by decide)
  have k : ∀ n, n < 124 → (placeF (n : Nat) 103 121 3).isSome = true → ¬ (((n : Nat) : Int) = 69 ∨ ((n : Nat) : Int) = 80) ∧ ¬ ((n : Nat) : Int) = 167 ∧ ¬ ((n : Nat) : Int) = 173 := by decide +kernel
  have := k n hn (by rw [← hc, h]; rfl)
  rw [← hc] at this
  rw [r1F, if_neg this.1, if_neg this.2.1, if_neg this.2.2, h]
theorem cnt_at {c x : Int} {B : Nat} {p : Int} (h : c = 103 + p ∨ c = 121 + p) (h0 : 0 ≤ p) (h3 : p < 3) (hB : takesF c = B) : r1F c x = cntF p B x := by
  obtain ⟨n, rfl⟩ := Int.eq_ofNat_of_zero_le h0
  have k : ∀ n, n < 3 → placeF (103 + (n : Nat)) 103 121 3 = some (((n : Nat) : Int), takesF (103 + (n : Nat))) ∧ placeF (121 + (n : Nat)) 103 121 3 = some (((n : Nat) : Int), takesF (121 + (n : Nat))) := by decide +kernel
  have k := k n (Int.ofNat_lt.mp h3)
  refine r1_place ?_
  rw [← hB]
  rcases h with h | h <;> rw [h]
  · exact k.1
  · exact k.2
theorem one103 {c x : Int} {B : Nat} (h : ([103, 121].any fun x => x == c) = true) (hB : takesF c = B) (h0 : 0 ≤ x) (h1 : x < 2 ^ (takesF c).toNat) : ((((dg B x).reverse ++ [1]).idxOf 1 : Nat) : Int) = r1F c x := by
  rw [cnt_at (p := 0) (by have := any2 h; lia) (by decide) (by decide) hB]
  have := clz_is (takes_b c) h0 h1
  rw [hB] at this
  exact this.symm
theorem one104 {c x : Int} {B : Nat} (h : ([104, 122].any fun x => x == c) = true) (hB : takesF c = B) (h0 : 0 ≤ x) (h1 : x < 2 ^ (takesF c).toNat) : (((dg B x ++ [1]).idxOf 1 : Nat) : Int) = r1F c x := by
  rw [cnt_at (p := 1) (by have := any2 h; lia) (by decide) (by decide) hB]
  have := ctz_is (takes_b c) h0 h1
  rw [hB] at this
  exact this.symm
theorem one105 {c x : Int} {B : Nat} (h : ([105, 123].any fun x => x == c) = true) (hB : takesF c = B) (h0 : 0 ≤ x) (h1 : x < 2 ^ (takesF c).toNat) : (dg B x).sum = r1F c x := by
  rw [cnt_at (p := 2) (by have := any2 h; lia) (by decide) (by decide) hB]
  have := pop_is h0 h1
  rw [hB] at this
  exact this.symm
def unChk (c : Int) : Bool := !isUnF c || (([69, 80].any fun x => x == c) || (([103, 121].any fun x => x == c) || (([104, 122].any fun x => x == c) || (([105, 123].any fun x => x == c) || (decide (c = 167) || (decide (c = 173) || decide (c = 172 ∨ c = 192 ∨ c = 193 ∨ c = 194 ∨ c = 195 ∨ c = 196)))))))
theorem un_chk : ∀ n : Nat, n < 128 → unChk (69 + (n : Int)) = true := by decide +kernel
theorem un_left {c : Int} (hc : isUnF c = true) (h1 : ([69, 80].any fun x => x == c) = false) (h2 : ([103, 121].any fun x => x == c) = false) (h3 : ([104, 122].any fun x => x == c) = false) (h4 : ([105, 123].any fun x => x == c) = false) (h5 : c ≠ 167) (h6 : c ≠ 173) :
    c = 172 ∨ c = 192 ∨ c = 193 ∨ c = 194 ∨ c = 195 ∨ c = 196 := by
  have hr := un_rng2 hc
  have k := un_chk (c - 69).toNat (by lia)
  rw [show (69 : Int) + ((c - 69).toNat : Int) = c by lia] at k
  unfold unChk at k
  rw [hc, h1, h2, h3, h4, decide_eq_false h5, decide_eq_false h6] at k
  exact of_decide_eq_true k
theorem not69 {c : Int} (h : ([69, 80].any fun x => x == c) = false) : ¬ (c = 69 ∨ c = 80) := fun q => q.elim (any2n h).1 (any2n h).2
theorem one_c (w : World) (c x : Int) (t u : Tok) (hc : isUnF c = true) (hx : 0 ≤ x) (hx2 : x < 2 ^ (takesF c).toNat) : CtI w 511 [.int c t, .int x u] 3 (r1F c x) := by
  intro mean mg mb dp un fr gd s Q E G hR hret
  have KX := G.k
  have T := G.t
  obtain ⟨B, hB, hB2⟩ : ∃ B : Nat, takesF c = B ∧ (B = 32 ∨ B = 64) := by
    rcases takes_b c with h | h
    · exact ⟨32, h, .inl rfl⟩
    · exact ⟨64, h, .inr rfl⟩
  have hB3 : B ≤ 64 := by lia
  have hB4 : 0 < B := by lia
  refine enterQ (binds := [(Str.ofString "code", .int c t), (Str.ofString "x", .int x u)]) (fun y => if y = Str.ofString "code" then some (.int c t) else none) G (by k_dflt k_is) (by k_dflt k_is) (Room.enter hR) (BindsTo.of_eq rfl) (binds1c rfl rfl (fun _ => rfl)) (by decide) rfl (fun h₁ tk cells F' N' C' => ?_)
  intro A9 E9
  obtain ⟨o, rfl, ho⟩ := C'.one
  have ho2 : o.data = Data.cell (some (.int x u)) := ho
  clear ho C'
  k_steps
  refine unhold ?_
  with_reducible rename News _ _ _ _ => N2
  with_reducible rename Fr _ _ _ _ => F2
  refine useI (ltakes_c w c _) F2 N2 KX T (Room.down hR (by decide) rfl rfl) ?_
  intro t9 h9 tk9 F9 N9
  rw [hB]
  clear F2 N2
  have hJ : Hold True := trivial
  (try dsimp only)
  k_steps
  · (k_steps; (try dsimp only); first | (refine endI (by assumption) (by k_asm) ?_) | (refine endB (by assumption) (by k_asm) ?_) | (refine endR (by assumption) (by k_asm) ?_)); exact one69 (by assumption)
  · refine unhold ?_
    with_reducible rename News _ _ _ _ => N2
    with_reducible rename Fr _ _ _ _ => F2
    with_reducible rename IntsAre _ (_ ++ _) => hI2
    rw [digs] at hI2
    refine index_list_ints ⟨_, (N2 _ (.head _)).1, rfl, _, rfl⟩ hI2 (lay_bits (bits_app (bits_rev (bits_dg _ _))) (by simp [dg_length]; lia)) (by simp) ?_
    k_steps
    exact leaveC_ret (hret _ _ _ F2.keep ⟨_, by rw [one103 (by assumption) hB hx hx2]⟩)
  · refine unhold ?_
    with_reducible rename News _ _ _ _ => N2
    with_reducible rename Fr _ _ _ _ => F2
    with_reducible rename IntsAre _ (_ ++ _) => hI2
    rw [digs] at hI2
    refine index_list_ints ⟨_, (N2 _ (.head _)).1, rfl, _, rfl⟩ hI2 (lay_bits (bits_app (bits_dg _ _)) (by simp [dg_length]; lia)) (by simp) ?_
    k_steps
    exact leaveC_ret (hret _ _ _ F2.keep ⟨_, by rw [one104 (by assumption) hB hx hx2]⟩)
  · (k_steps; (try dsimp only); first | (refine endI (by assumption) (by k_asm) ?_) | (refine endB (by assumption) (by k_asm) ?_) | (refine endR (by assumption) (by k_asm) ?_)); rw [digs]; exact one105 (by assumption) hB hx hx2
  · (k_steps; (try dsimp only); first | (refine endI (by assumption) (by k_asm) ?_) | (refine endB (by assumption) (by k_asm) ?_) | (refine endR (by assumption) (by k_asm) ?_)); rw [r1F, if_neg (not69 (by assumption)), if_pos (by assumption)]; rfl
  · (k_steps; (try dsimp only); first | (refine endI (by assumption) (by k_asm) ?_) | (refine endB (by assumption) (by k_asm) ?_) | (refine endR (by assumption) (by k_asm) ?_)); rw [r1F, if_neg (not69 (by assumption)), if_neg (by assumption), if_pos (by assumption)]
  · refine unhold ?_
    with_reducible rename isUnF _ = true => hc
    have h6 : c = 172 ∨ c = 192 ∨ c = 193 ∨ c = 194 ∨ c = 195 ∨ c = 196 := un_left hc (by assumption) (by assumption) (by assumption) (by assumption) (by assumption) (by assumption)
    clear hJ
    k_steps
    refine unhold ?_
    with_reducible rename Obj.IsDictOf _ _ _ => hd
    with_reducible rename News _ _ _ _ => N3
    with_reducible rename Fr _ _ _ _ => F3
    obtain ⟨t5, ht5⟩ := dict6 hd h6
    refine item_lit N3 hd ht5 (fun n5 => ?_)
    have Pc := N3 (s.heap.objs.size + 1, o) (by k_mem)
    have N5 := news_cons Pc.1 Pc.2.1 Pc.2.2 (newsNil F3)
    clear hd N3 ht5 Pc
    have n0 : 0 < narW c := by unfold narW; repeat' split
                               all_goals decide
    have n1 : narW c ≤ 64 := by unfold narW; repeat' split
                                all_goals decide
    have hE := nar_end (x := x) h6 hB
    (try dsimp only)
    k_steps
    all_goals (k_steps; (try dsimp only); first | (refine endI (by assumption) (by k_asm) ?_) | (refine endB (by assumption) (by k_asm) ?_) | (refine endR (by assumption) (by k_asm) ?_))
    · exact hE.1 (by assumption)
    · exact hE.2 (by assumption)
end

section
open Kunsigned_c
open Ksigned_c
open Kleast_c
open Kwidened_c
open Keqz_c
open Kadd_c
open Ksub_c
open Kmul_c
open Ktn_c
open Kand_c
open Kor_c
open Kxor_c
open Kshl_c
open Kshrs_c
open Kshru_c
open Krotl_c
open Krotr_c
open Keq_c
open Kne_c
open Kltu_c
open Klts_c
open Kgts_c
open Kles_c
open Kges_c
open Kgtu_c
open Kleu_c
open Kgeu_c
open Kltakes_c
open Klisone_c
open Klsigned_c
open Klplain_c
open Kplace_c
open Knarrow_c
open Kisun_c
open Kisbi_c
open Kneutral_c
open Kwidths_c
open Kclz_c
open Kctz_c
open Kpop_c
open Kdivu_c
open Kremu_c
open Kdivs_c
open Krems_c
open Kreckon1_c
open S1
open S3
open S4
open S5
open S6
open S7
open S8
open H379
open S9
open S0
open H544
open H511
open H525
/-- the two locals -/
def PlAt (h : Heap) (pl : Addr) (p0 p1 : Int) : Prop := ∃ u v k, h.get? pl = some (PySem.W.listOf [Value.int p0 u, Value.int p1 v].toArray k)
theorem PlAt.ext {h h' : Heap} {pl : Addr} {p0 p1 : Int} (p : PlAt h pl p0 p1) (e : Ext h h') : PlAt h' pl p0 p1 := let ⟨u, v, k, q⟩ := p; ⟨u, v, k, e _ _ q⟩
theorem in_c {w : World} {A : Around} {E : Value → Shared → Prop} {s : Shared} {D : Addr} {vs : List Value} {Q : Value → Shared → Prop} (hl : s.heap.IsList D vs.toArray) (hall : ∀ v ∈ vs, v = .none ∨ ∃ n t, v = .int n t)
    (h : Q (.bool (vs.any isN)) s) : wpAny (model PR w) A (compareOp .In .none (.ref D)) Q E s := by
  refine SeqAt.in_listAt isN hl (fun y hy => ?_) (by rw [List.any_toArray]; exact h)
  rcases hall y (by simpa using hy) with rfl | ⟨n, t, rfl⟩
  · exact SeqAt.EqAt.same _
  · exact SeqAt.EqAt.int_none _ _
theorem worth_c (w : World) {p0 p1 : Int} (h0 : 0 ≤ p0 ∧ p0 < 2 ^ 32) (h1 : 0 ≤ p1 ∧ p1 < 2 ^ 64) (pl : Addr) : ∀ (T : Tr) (a : Addr), T.wf → T.ok → CtH w 544 [.ref a, .ref pl] (6 * T.depth + 6) (fun h => TrAt h a T ∧ PlAt h pl p0 p1) (OptInt (T.worth p0 p1))
  | .con b n, a, hw, _ => by
    intro mean mg mb dp un fr gd s Q E G hR hP hret
    obtain ⟨⟨u, v, p, u', k, g1, g2⟩, ⟨v0, v1, kp, g3⟩⟩ := hP
    have hb0 : 0 ≤ b := by have := hw.1; lia
    have hb1 : b ≤ 64 := by have := hw.1; lia
    have KX := G.k
    have T9 := G.t
    refine enterQ (binds := [(Str.ofString "tree", .ref a), (Str.ofString "places", .ref pl)]) (fun y => if y = Str.ofString "tree" then some (.ref a) else none) G (by k_dflt k_is) (by k_dflt k_is) (Room.enter hR) (BindsTo.of_eq rfl) (binds1c rfl rfl (fun _ => rfl)) (by decide) rfl (fun h₁ tk cells F' N' C' => ?_)
    intro A9 E9
    obtain ⟨o, rfl, ho⟩ := C'.one
    have ho2 : o.data = Data.cell (some (.ref pl)) := ho
    clear ho C'
    k_steps
    k_steps
    exact leaveC_ret (hret _ _ _ (Fr.keep (by k_asm)) (optInt_some rfl))
  | .loc b, a, hw, _ => by
    intro mean mg mb dp un fr gd s Q E G hR hP hret
    obtain ⟨⟨u, v, p, k, g1, g2⟩, ⟨v0, v1, kp, g3⟩⟩ := hP
    have KX := G.k
    have T9 := G.t
    refine enterQ (binds := [(Str.ofString "tree", .ref a), (Str.ofString "places", .ref pl)]) (fun y => if y = Str.ofString "tree" then some (.ref a) else none) G (by k_dflt k_is) (by k_dflt k_is) (Room.enter hR) (BindsTo.of_eq rfl) (binds1c rfl rfl (fun _ => rfl)) (by decide) rfl (fun h₁ tk cells F' N' C' => ?_)
    intro A9 E9
    obtain ⟨o, rfl, ho⟩ := C'.one
    have ho2 : o.data = Data.cell (some (.ref pl)) := ho
    clear ho C'
    k_steps
    · k_steps
      exact leaveC_ret (hret _ _ _ (Fr.keep (by k_asm)) (optInt_some (congrArg some (if_pos (by assumption)))))
    · k_steps
      exact leaveC_ret (hret _ _ _ (Fr.keep (by k_asm)) (optInt_some (congrArg some (if_neg (by assumption)))))
  | .un b c t, a, hw, hok => by
    intro mean mg mb dp un fr gd s Q E G hR hP hret
    obtain ⟨⟨u, v, p, q, k, g1, g2, g4⟩, hpl⟩ := hP
    obtain ⟨hu, rfl, hb, ht⟩ := hw
    have hc := hok.1
    have hc0 : ¬ c = 0 := by lia
    have hc1 : ¬ c = 1 := by lia
    have KX := G.k
    have T9 := G.t
    refine enterQ (binds := [(Str.ofString "tree", .ref a), (Str.ofString "places", .ref pl)]) (fun y => if y = Str.ofString "tree" then some (.ref a) else none) G (by k_dflt k_is) (by k_dflt k_is) (Room.enter hR) (BindsTo.of_eq rfl) (binds1c rfl rfl (fun _ => rfl)) (by decide) rfl (fun h₁ tk cells F' N' C' => ?_)
    intro A9 E9
    obtain ⟨o, rfl, ho⟩ := C'.one
    have ho2 : o.data = Data.cell (some (.ref pl)) := ho
    clear ho C'
    k_steps
    refine unhold ?_
    refine acomp_c (fun _ => true) (fun v r => ∀ z U, v = .ref z → U.ok → TrAt s.heap z U → OptV (U.worth p0 p1) r) rfl rfl rfl rfl (by decide) rfl (by decide) rfl rfl rfl ?_
    k_steps
    with_reducible rename News _ _ _ _ => N2
    with_reducible rename Fr _ _ _ _ => F2
    have Pc := N2 _ (.head _)
    refine unhold ⟨p, [.ref q], _, _, _, rfl, .inl ⟨_, F2.keep _ _ g2, rfl, _, rfl⟩, size1 _, compTests_nil, ?_, F2, N2, ?_⟩
    · intro C v s₃ m₃ E' hv _ F3 hm
      have hv' : v = .ref q := by simpa using hv
      subst hv'
      have KX3 := KX.keeps F2.keep
      have T3 := T9.keeps F2.keep
      have eg : Ext s.heap _ := F2.keep
      have Pc1 := Pc.1
      dsimp only at Pc1
      have N3 := newsNil F3
      clear N2 F2 KX T9 Pc
      k_steps
      all_goals
        refine unhold ?_
        refine worth_c w h0 h1 pl t q ht hok.2 mean mg mb _ _ _ _ _ _ _ (Gd.ext ⟨KX3, T3⟩ F3.keep) (Room.down hR (by simp only [Tr.depth]; lia) rfl rfl) ⟨TrAt.ext g4 (eg.trans F3.keep), hpl.ext (eg.trans F3.keep)⟩ (fun v h' tk' e r => ⟨fun z U q1 q3 q4 => ?_, _, _, rfl, e⟩)
        cases q1
        rw [TrAt.det q3 hok.2 q4 g4]
        exact r
    · intro D h'' tk'' ys n9 F3 N3 l3 hD hp
      obtain ⟨r, rfl, q1⟩ := paired1 hp
      replace q1 := q1 _ _ rfl hok.2 g4
      clear F2 N2 Pc
      have hwt : (Tr.un (putsF c) c t).worth p0 p1 = (t.worth p0 p1).map (r1F c) := rfl
      rw [hwt] at hret
      cases ew : t.worth p0 p1 with
      | none =>
        rw [ew] at q1 hret
        obtain rfl : r = .none := q1
        k_steps
        k_steps
        exact leaveC_ret (hret _ _ _ (Fr.keep (by k_asm)) rfl)
      | some x =>
        rw [ew] at q1 hret
        obtain ⟨tx, rfl⟩ : ∃ tx, r = .int x tx := q1
        have rng := Tr.worth_rng num h0 h1 ht ew
        rw [hb] at rng
        k_steps
        refine unhold ?_
        with_reducible rename News _ _ _ _ => N5
        with_reducible rename Fr _ _ _ _ => F5
        refine useI (one_c w c x _ _ hu rng.1 rng.2) F5 N5 KX T9 (Room.down hR (by lia) rfl rfl) ?_
        intro t9 h9 tk9 F9 N9
        k_steps
        exact leaveC_ret (hret _ _ _ F9.keep ⟨t9, rfl⟩)
  | .bin b c t t', a, hw, hok => by
    intro mean mg mb dp un fr gd s Q E G hR hP hret
    obtain ⟨⟨u, v, p, q, q', k, g1, g2, g4, g5⟩, hpl⟩ := hP
    have hc := hok.1
    have hc0 : ¬ c = 0 := by lia
    have hc1 : ¬ c = 1 := by lia
    obtain ⟨hu, rfl, hb, hb2, ht, ht2⟩ := hw
    have KX := G.k
    have T9 := G.t
    refine enterQ (binds := [(Str.ofString "tree", .ref a), (Str.ofString "places", .ref pl)]) (fun y => if y = Str.ofString "tree" then some (.ref a) else none) G (by k_dflt k_is) (by k_dflt k_is) (Room.enter hR) (BindsTo.of_eq rfl) (binds1c rfl rfl (fun _ => rfl)) (by decide) rfl (fun h₁ tk cells F' N' C' => ?_)
    intro A9 E9
    obtain ⟨o, rfl, ho⟩ := C'.one
    have ho2 : o.data = Data.cell (some (.ref pl)) := ho
    clear ho C'
    k_steps
    refine unhold ?_
    refine acomp_c (fun _ => true) (fun v r => ∀ z U, v = .ref z → U.ok → TrAt s.heap z U → OptV (U.worth p0 p1) r) rfl rfl rfl rfl (by decide) rfl (by decide) rfl rfl rfl ?_
    k_steps
    with_reducible rename News _ _ _ _ => N2
    with_reducible rename Fr _ _ _ _ => F2
    have Pc := N2 _ (.head _)
    refine unhold ⟨p, [.ref q, .ref q'], _, _, _, rfl, .inl ⟨_, F2.keep _ _ g2, rfl, _, rfl⟩, size2 _ _, compTests_nil, ?_, F2, N2, ?_⟩
    · intro C v s₃ m₃ E' hv _ F3 hm
      obtain ⟨z, U, rfl, hU, hz, hd, hUs⟩ : ∃ z U, v = .ref z ∧ Tr.ok U ∧ TrAt s.heap z U ∧ U.depth < (Tr.bin (putsF c) c t t').depth ∧ (U = t ∨ U = t') := by
        rcases List.mem_cons.mp hv with rfl | hv
        · exact ⟨q, t, rfl, hok.2.1, g4, by simp only [Tr.depth]; lia, .inl rfl⟩
        · exact ⟨q', t', List.mem_singleton.mp hv, hok.2.2, g5, by simp only [Tr.depth]; lia, .inr rfl⟩
      have KX3 := KX.keeps F2.keep
      have T3 := T9.keeps F2.keep
      have eg : Ext s.heap _ := F2.keep
      have Pc1 := Pc.1
      dsimp only at Pc1
      have N3 := newsNil F3
      clear N2 F2 KX T9 Pc
      k_steps
      all_goals
        refine unhold ?_
        have B : CtH w 544 [.ref z, .ref pl] (6 * U.depth + 6) (fun h => TrAt h z U ∧ PlAt h pl p0 p1) (OptInt (U.worth p0 p1)) := by
          rcases hUs with h | h
          · rw [h]; exact worth_c w h0 h1 pl t z ht hok.2.1
          · rw [h]; exact worth_c w h0 h1 pl t' z ht2 hok.2.2
        refine B mean mg mb _ _ _ _ _ _ _ (Gd.ext ⟨KX3, T3⟩ F3.keep) (Room.down hR (by lia) rfl rfl) ⟨TrAt.ext hz (eg.trans F3.keep), hpl.ext (eg.trans F3.keep)⟩ (fun v h' tk' e r => ⟨fun z' U' q1 q3 q4 => ?_, _, _, rfl, e⟩)
        cases q1
        rw [TrAt.det q3 hU q4 hz]
        exact r
    · intro D h'' tk'' ys n9 F3 N3 l3 hD hp
      obtain ⟨r, r', rfl, q1, q2⟩ := paired2 hp
      replace q1 := q1 _ _ rfl hok.2.1 g4
      replace q2 := q2 _ _ rfl hok.2.2 g5
      clear F2 N2 Pc
      have hwt : (Tr.bin (putsF c) c t t').worth p0 p1 = (t.worth p0 p1).bind fun x => (t'.worth p0 p1).bind fun y => r2F c x y := rfl
      rw [hwt] at hret
      cases ew : t.worth p0 p1 with
      | none =>
        rw [ew] at q1 hret
        obtain rfl : r = .none := q1
        cases ew2 : t'.worth p0 p1 with
        | none =>
          rw [ew2] at q2
          obtain rfl : r' = .none := q2
          k_steps
          k_steps
          exact leaveC_ret (hret _ _ _ (Fr.keep (by k_asm)) rfl)
        | some y =>
          rw [ew2] at q2
          obtain ⟨ty, rfl⟩ : ∃ ty, r' = .int y ty := q2
          k_steps
          k_steps
          exact leaveC_ret (hret _ _ _ (Fr.keep (by k_asm)) rfl)
      | some x =>
        rw [ew] at q1 hret
        obtain ⟨tx, rfl⟩ : ∃ tx, r = .int x tx := q1
        have rng := Tr.worth_rng num h0 h1 ht ew
        rw [hb] at rng
        cases ew2 : t'.worth p0 p1 with
        | none =>
          rw [ew2] at q2 hret
          obtain rfl : r' = .none := q2
          k_steps
          k_steps
          exact leaveC_ret (hret _ _ _ (Fr.keep (by k_asm)) rfl)
        | some y =>
          rw [ew2] at q2 hret
          obtain ⟨ty, rfl⟩ : ∃ ty, r' = .int y ty := q2
          have rng2 := Tr.worth_rng num h0 h1 ht2 ew2
          rw [hb2] at rng2
          k_steps
          refine unhold ?_
          with_reducible rename News _ _ _ _ => N5
          with_reducible rename Fr _ _ _ _ => F5
          refine use (two_c w c x y _ _ _ hu rng.1 rng.2 rng2.1 rng2.2) F5 N5 KX T9 (Room.down hR (by lia) rfl rfl) ?_
          intro v9 h9 tk9 F9 N9 _ r9
          k_steps
          exact leaveC_ret (hret _ _ _ F9.keep r9)
end

section
open Kunsigned_c
open Ksigned_c
open Kleast_c
open Kwidened_c
open Keqz_c
open Kadd_c
open Ksub_c
open Kmul_c
open Ktn_c
open Kand_c
open Kor_c
open Kxor_c
open Kshl_c
open Kshrs_c
open Kshru_c
open Krotl_c
open Krotr_c
open Keq_c
open Kne_c
open Kltu_c
open Klts_c
open Kgts_c
open Kles_c
open Kges_c
open Kgtu_c
open Kleu_c
open Kgeu_c
open Kltakes_c
open Klisone_c
open Klsigned_c
open Klplain_c
open Kplace_c
open Knarrow_c
open Kisun_c
open Kisbi_c
open Kneutral_c
open Kwidths_c
open Kclz_c
open Kctz_c
open Kpop_c
open Kdivu_c
open Kremu_c
open Kdivs_c
open Krems_c
open Kreckon1_c
open S1
open S3
open S4
open S5
open S6
open S7
open S8
open H379
open S9
open S0
open H511
open H525
theorem ints_snoc {ns : List Int} : ∀ {vs : List Value} {x : Int}, IntsAre vs (ns ++ [x]) → ∃ p t, vs = p ++ [Value.int x t] ∧ IntsAre p ns := by
  induction ns with
  | nil =>
    intro vs x h
    cases h with
    | cons _ t r => cases r; exact ⟨[], t, rfl, .nil⟩
  | cons n ns ih =>
    intro vs x h
    cases h with
    | cons _ t r =>
      obtain ⟨p, t', e, hp⟩ := ih r
      exact ⟨.int n t :: p, t', by rw [e]; rfl, .cons n t hp⟩
def StOf (vs : List Value) (st : List Int) : Prop := IntsAre vs st.reverse
theorem StOf.push {vs : List Value} {st : List Int} {x : Int} {t : Tok} (h : StOf vs st) : StOf (vs ++ [.int x t]) (x :: st) := by
  unfold StOf at h ⊢
  rw [List.reverse_cons]
  exact h.append (.cons x t .nil)
theorem StOf.pop {vs : List Value} {st : List Int} {x : Int} (h : StOf vs (x :: st)) : ∃ p t, vs = p ++ [Value.int x t] ∧ StOf p st := by
  unfold StOf at h
  rw [List.reverse_cons] at h
  exact ints_snoc h
theorem kl_last_snoc {p : List Value} {y : Value} : kl_last (p ++ [y]) = some (p, y) := by
  cases q : kl_last (p ++ [y]) with
  | none => exact absurd (kl_last_none q) (by simp)
  | some z =>
    obtain ⟨a, b⟩ := z
    have e := kl_last_spec q
    obtain ⟨e1, e2⟩ := List.append_inj' e rfl
    cases e2; rw [e1]
theorem un_one {c : Int} (h : isUnF c = true) : isOneF c = true := by
  obtain ⟨n, hn, rfl⟩ := un_nat h
  revert h; revert hn; revert n; decide +kernel
theorem bi_one {c : Int} (h : isBiF c = true) : isOneF c = false := by
  obtain ⟨n, hn, rfl⟩ := bi_nat h
  revert h; revert hn; revert n; decide +kernel
theorem any56x {c : Int} (h : 69 ≤ c) : ¬ (([65, 66].any fun x => x == c) = true) := by simp; lia
inductive RnJ (g₀ : Heap) (p0 p1 : Int) (pl S : Addr) (is : List Ins) (r : Option Int) (i : Nat) (g : Heap) (m : Str → Option Value) (news : List (Addr × Obj)) : Prop
  | mk : (g = g₀) → ∀ vs st k, (news = [(S, PySem.W.listOf vs.toArray k)]) → (m (Str.ofString "stack") = some (.ref S)) → (m (Str.ofString "places") = some (.ref pl)) → (StOf vs st) → (RunTo p0 p1 (is.drop i) st r) → (vs.length ≤ i) → RnJ g₀ p0 p1 pl S is r i g m news
theorem run_c (w : World) {p0 p1 : Int} (pl bl : Addr) (ws : List Value) (is : List Ins) (n : Nat) (r : Option Int) (hlen : ws.length ≤ 100) (hrun : RunTo p0 p1 is [] r) :
    CtH w 556 [.ref bl, .ref pl] 6 (fun h => h.get? bl = some (PySem.W.listOf ws.toArray n) ∧ InsList h ws is ∧ PlAt h pl p0 p1) (OptInt r) := by
  intro mean mg mb dp un fr gd s Q E G hR hP hret
  obtain ⟨hbl, hp, ⟨v0, v1, kp, hpl⟩⟩ := hP
  have KX := G.k
  have T := G.t
  have hwl := hp.length
  refine enter G (by k_dflt k_is) (by k_dflt k_is) (Room.enter hR) rfl (locs rfl) (fun L' h' tk' F' N' => ?_)
  intro A9 E9
  try dsimp only
  dsimp only [List.map, List.zip, List.zipWith, List.reverse, List.reverseAux] at F'
  k_steps
  refine unhold ?_
  refine For_any (L := L') rfl rfl rfl rfl ?_
  k_steps
  with_reducible rename News _ _ _ _ => N2
  with_reducible rename Fr _ _ _ _ => F2
  refine unhold ⟨bl, ws, s.heap, _, _, RnJ s.heap p0 p1 pl _ is r, rfl, ⟨_, F2.keep _ _ hbl, rfl, _, rfl⟩, F2, N2, ⟨rfl, [], [], 0, rfl, rfl, rfl, .nil, hrun, Nat.zero_le _⟩, ?_, ?_, ?_⟩
  · rintro i g1 m1 news1 h1 ⟨rfl, _⟩ F3 N3
    exact ⟨_, F3.keep _ _ hbl, rfl, _, rfl⟩
  · rintro i v I oI g1 m1 news1 h4 tk1 hv ⟨rfl, vs, st, k1, rfl, hm1, hm2, hst, hr1, hle⟩ F3 N3 neI aI
    obtain ⟨a, jx, rfl, hjx, t9, rest, ia, harg⟩ := hp.get hv
    have hil : i < ws.length := (List.getElem?_eq_some_iff.mp hv).1
    have hdr : is.drop i = jx :: is.drop (i + 1) := by
      obtain ⟨hi, e⟩ := List.getElem?_eq_some_iff.mp hjx
      rw [← e]; exact List.drop_eq_getElem_cons hi
    have nIS : @Ne Nat _ I := neI _ (.head _)
    dsimp only at nIS
    refine frN (l := [(Str.ofString "plain", .ref a), (Str.ofString "stack", .ref _), (Str.ofString "places", .ref pl)]) F3 ⟨rfl, hm1, hm2, ⟨⟩⟩ ?_
    intro m0 m2 F4
    clear F3 F2 N2
    rw [hdr] at hr1
    have hz : vs.toArray.size ≤ sizeLine := by rw [sizeLine_eq, List.size_toArray]; lia
    cases hr1 with
    | fin hr2 =>
      k_steps
      with_reducible rename News _ _ _ _ => N9
      with_reducible rename Fr _ _ _ _ => F9
      exact TurnOut.next F9 N9 (fun p hp => by rw [List.mem_singleton.mp hp]; exact nIS) ⟨rfl, _, _, k1, rfl, rfl, rfl, hst, hr2, by lia⟩
    | @con _ _ _ b n5 hb hr2 =>
      obtain ⟨u9, rfl⟩ := harg
      rcases hb with rfl | rfl
      · change s.heap.get? a = some (tupOf [.int 65 t9, .int n5 u9]) at ia
        k_steps
        refine unhold ?_
        with_reducible rename News _ _ _ _ => N8
        with_reducible rename Fr _ _ _ _ => F8
        refine append_K F8 N8 (by k_upd) ?_ hz
        intro h9 F9 N9
        have e9 : ∀ z : Value, vs.toArray.push z = (vs ++ [z]).toArray := fun z => by simp
        rw [e9] at N9
        clear F8 N8
        k_steps
        refine TurnOut.next F9 N9 (fun p hp => by rw [List.mem_singleton.mp hp]; exact nIS) ⟨rfl, _, _, k1 + 1, rfl, rfl, rfl, hst.push, hr2, by simp at hle ⊢; lia⟩
      · change s.heap.get? a = some (tupOf [.int 66 t9, .int n5 u9]) at ia
        k_steps
        refine unhold ?_
        with_reducible rename News _ _ _ _ => N8
        with_reducible rename Fr _ _ _ _ => F8
        refine append_K F8 N8 (by k_upd) ?_ hz
        intro h9 F9 N9
        have e9 : ∀ z : Value, vs.toArray.push z = (vs ++ [z]).toArray := fun z => by simp
        rw [e9] at N9
        clear F8 N8
        k_steps
        refine TurnOut.next F9 N9 (fun p hp => by rw [List.mem_singleton.mp hp]; exact nIS) ⟨rfl, _, _, k1 + 1, rfl, rfl, rfl, hst.push, hr2, by simp at hle ⊢; lia⟩
    | @loc _ _ _ b hb hr2 =>
      obtain ⟨u9, rfl⟩ := harg
      rcases hb with rfl | rfl
      · change s.heap.get? a = some (tupOf [.int 32 t9, .int 0 u9]) at ia
        k_steps
        refine unhold ?_
        with_reducible rename News _ _ _ _ => N8
        with_reducible rename Fr _ _ _ _ => F8
        refine append_K F8 N8 (by k_upd) ?_ hz
        intro h9 F9 N9
        have e9 : ∀ z : Value, vs.toArray.push z = (vs ++ [z]).toArray := fun z => by simp
        rw [e9] at N9
        clear F8 N8
        k_steps
        refine TurnOut.next F9 N9 (fun p hp => by rw [List.mem_singleton.mp hp]; exact nIS) ⟨rfl, _, _, k1 + 1, rfl, rfl, rfl, hst.push, hr2, by simp at hle ⊢; lia⟩
      · change s.heap.get? a = some (tupOf [.int 32 t9, .int 1 u9]) at ia
        k_steps
        refine unhold ?_
        with_reducible rename News _ _ _ _ => N8
        with_reducible rename Fr _ _ _ _ => F8
        refine append_K F8 N8 (by k_upd) ?_ hz
        intro h9 F9 N9
        have e9 : ∀ z : Value, vs.toArray.push z = (vs ++ [z]).toArray := fun z => by simp
        rw [e9] at N9
        clear F8 N8
        k_steps
        refine TurnOut.next F9 N9 (fun p hp => by rw [List.mem_singleton.mp hp]; exact nIS) ⟨rfl, _, _, k1 + 1, rfl, rfl, rfl, hst.push, hr2, by simp at hle ⊢; lia⟩
    | @un _ st2 _ c x hu hx hx2 hr2 =>
      obtain rfl : rest = [] := harg
      change s.heap.get? a = some (tupOf [.int c t9]) at ia
      have hc := un_rng hu
      have ha := any56x hc
      have hn32 : ¬ c = 32 := by lia
      have hn11 : ¬ c = 11 := by lia
      have hone := un_one hu
      obtain ⟨p, tp, rfl, hp2⟩ := hst.pop
      k_steps
      all_goals try (exfalso; exact hn11 (by assumption))
      refine unhold ?_
      with_reducible rename News _ _ _ _ => N8
      with_reducible rename Fr _ _ _ _ => F8
      refine kl_pop F8 N8 (kl_last_snoc (p := p)) (by k_upd) (by rw [sizeLine_eq]; simp at hle ⊢; lia) ?_
      intro h6 F9 N9
      clear F8 N8
      k_steps
      refine unhold ?_
      with_reducible rename News _ _ _ _ => N8
      with_reducible rename Fr _ _ _ _ => F8
      refine useI (one_c w c x _ _ hu hx hx2) F8 N8 KX T (Room.down hR (by decide) rfl rfl) ?_
      intro t7 h7 tk7 F9 N9
      clear F8 N8
      (try dsimp only)
      k_steps
      refine unhold ?_
      with_reducible rename News _ _ _ _ => N8
      with_reducible rename Fr _ _ _ _ => F8
      refine append_K F8 N8 (by k_upd) ?_ (by rw [sizeLine_eq, List.size_toArray]; simp at hle; lia)
      intro h9 F9 N9
      have e9 : ∀ z : Value, p.toArray.push z = (p ++ [z]).toArray := fun z => by simp
      rw [e9] at N9
      clear F8 N8
      k_steps
      refine TurnOut.next F9 N9 (fun p hp => by rw [List.mem_singleton.mp hp]; exact nIS) ⟨rfl, _, _, _, rfl, rfl, rfl, hp2.push, hr2, by simp at hle ⊢; lia⟩
    | @bi _ st2 _ c x y z hu hx hx2 hy hy2 hz2 hr2 =>
      obtain rfl : rest = [] := harg
      change s.heap.get? a = some (tupOf [.int c t9]) at ia
      have hc := bi_rng hu
      have ha : ¬ (([65, 66].any fun x => x == c) = true) := any56x (by lia)
      have hn32 : ¬ c = 32 := by lia
      have hn11 : ¬ c = 11 := by lia
      have hone : ¬ isOneF c = true := by rw [bi_one hu]; decide
      obtain ⟨p1, ty, rfl, hp1⟩ := hst.pop
      obtain ⟨p, tx, rfl, hp2⟩ := hp1.pop
      k_steps
      all_goals try (exfalso; exact hn11 (by assumption))
      refine unhold ?_
      with_reducible rename News _ _ _ _ => N8
      with_reducible rename Fr _ _ _ _ => F8
      refine kl_pop F8 N8 (kl_last_snoc (p := p ++ [.int x tx])) (by k_upd) (by rw [sizeLine_eq]; simp at hle ⊢; lia) ?_
      intro h6 F9 N9
      clear F8 N8
      k_steps
      refine unhold ?_
      with_reducible rename News _ _ _ _ => N8
      with_reducible rename Fr _ _ _ _ => F8
      refine kl_pop F8 N8 (kl_last_snoc (p := p)) (by k_upd) (by rw [sizeLine_eq]; simp at hle ⊢; lia) ?_
      intro h6 F9 N9
      clear F8 N8
      k_steps
      refine unhold ?_
      with_reducible rename News _ _ _ _ => N8
      with_reducible rename Fr _ _ _ _ => F8
      refine use (two_c w c x y _ _ _ hu hx hx2 hy hy2) F8 N8 KX T (Room.down hR (by decide) rfl rfl) ?_
      intro v7 h7 tk7 F9 N9 _ r7
      rw [hz2] at r7
      obtain ⟨t7, rfl⟩ : ∃ t7, v7 = .int z t7 := r7
      clear F8 N8
      (try dsimp only)
      k_steps
      refine unhold ?_
      with_reducible rename News _ _ _ _ => N8
      with_reducible rename Fr _ _ _ _ => F8
      refine append_K F8 N8 (by k_upd) ?_ (by rw [sizeLine_eq, List.size_toArray]; simp at hle; lia)
      intro h9 F9 N9
      have e9 : ∀ z : Value, p.toArray.push z = (p ++ [z]).toArray := fun z => by simp
      rw [e9] at N9
      clear F8 N8
      k_steps
      refine TurnOut.next F9 N9 (fun p hp => by rw [List.mem_singleton.mp hp]; exact nIS) ⟨rfl, _, _, _, rfl, rfl, rfl, hp2.push, hr2, by simp at hle ⊢; lia⟩
    | @trap _ st2 c x y hu hx hx2 hy hy2 hz2 =>
      obtain rfl : rest = [] := harg
      change s.heap.get? a = some (tupOf [.int c t9]) at ia
      have hc := bi_rng hu
      have ha : ¬ (([65, 66].any fun x => x == c) = true) := any56x (by lia)
      have hn32 : ¬ c = 32 := by lia
      have hn11 : ¬ c = 11 := by lia
      have hone : ¬ isOneF c = true := by rw [bi_one hu]; decide
      obtain ⟨p1, ty, rfl, hp1⟩ := hst.pop
      obtain ⟨p, tx, rfl, hp2⟩ := hp1.pop
      k_steps
      all_goals try (exfalso; exact hn11 (by assumption))
      refine unhold ?_
      with_reducible rename News _ _ _ _ => N8
      with_reducible rename Fr _ _ _ _ => F8
      refine kl_pop F8 N8 (kl_last_snoc (p := p ++ [.int x tx])) (by k_upd) (by rw [sizeLine_eq]; simp at hle ⊢; lia) ?_
      intro h6 F9 N9
      clear F8 N8
      k_steps
      refine unhold ?_
      with_reducible rename News _ _ _ _ => N8
      with_reducible rename Fr _ _ _ _ => F8
      refine kl_pop F8 N8 (kl_last_snoc (p := p)) (by k_upd) (by rw [sizeLine_eq]; simp at hle ⊢; lia) ?_
      intro h6 F9 N9
      clear F8 N8
      k_steps
      refine unhold ?_
      with_reducible rename News _ _ _ _ => N8
      with_reducible rename Fr _ _ _ _ => F8
      refine use (two_c w c x y _ _ _ hu hx hx2 hy hy2) F8 N8 KX T (Room.down hR (by decide) rfl rfl) ?_
      intro v7 h7 tk7 F9 N9 _ r7
      rw [hz2] at r7
      obtain rfl : v7 = .none := r7
      clear F8 N8
      (try dsimp only)
      k_steps
      refine TurnOut.ret ?_
      k_steps
      exact leaveC_ret (hret _ _ _ (Fr.keep (by k_asm)) rfl)
  · rintro g1 m1 news1 h4 tk1 ⟨rfl, vs, st, k1, rfl, hm1, hm2, hst, hr1, hle⟩ F3 N3
    clear F2 N2
    rw [List.drop_of_length_le (by lia)] at hr1
    cases hr1
    obtain ⟨p, t5, rfl, hp5⟩ := hst.pop
    obtain rfl : p = [] := IntsAre.nil_inv hp5
    k_steps
    k_steps
    exact leaveC_ret (hret _ _ _ (Fr.keep (by k_asm)) ⟨_, rfl⟩)
end

section
open Kunsigned_c
open Ksigned_c
open Kleast_c
open Kwidened_c
open Keqz_c
open Kadd_c
open Ksub_c
open Kmul_c
open Ktn_c
open Kand_c
open Kor_c
open Kxor_c
open Kshl_c
open Kshrs_c
open Kshru_c
open Krotl_c
open Krotr_c
open Keq_c
open Kne_c
open Kltu_c
open Klts_c
open Kgts_c
open Kles_c
open Kges_c
open Kgtu_c
open Kleu_c
open Kgeu_c
open Kltakes_c
open Klisone_c
open Klsigned_c
open Klplain_c
open Kplace_c
open Knarrow_c
open Kisun_c
open Kisbi_c
open Kneutral_c
open Kwidths_c
open Kclz_c
open Kctz_c
open Kpop_c
open Kdivu_c
open Kremu_c
open Kdivs_c
open Krems_c
open Kreckon1_c
open S1
open S3
open S4
open S5
open S6
open S7
open S8
open H379
open S9
open S0
open H485
open H532
open S16
open G4
theorem item_at {w : World} {A : Around} {E : Value → Shared → Prop} {s : Shared} {h₀ : Heap} {L a : Addr} {news : List (Addr × Obj)} {value slice : Expr} {l : List Value} {n : Nat} {k : Int} {u : Tok} {v : Value} {Q : Value → Shared → Prop} (N : News h₀ L s.heap news) (ht : (a, PySem.W.listOf l.toArray n) ∈ news)
    (h0 : 0 ≤ k) (hk : k < 2 ^ 63) (hx : l[k.toNat]? = some v) (h : Q v s)
    (hs : subscripted slice false (.ref a) (.int k u) = operate [.ref a, .int k u] (getItem (.ref a) (.int k u)) := by with_unfolding_all rfl) :
    wpAny (model PR w) A (subscriptTail value slice (.ref a) (.int k u)) Q E s := by
  have hl : s.heap.IsList a l.toArray := ⟨_, (N _ ht).1, rfl, _, rfl⟩
  exact tail_any hl.typeIs slot_list_getitem.lookup (wpAny_getItem_list hl h0 hk (by simpa using hx) h) hs
theorem some8 {b k : Int} {t0 t1 t2 t3 t4 t5 t6 t7 : Tok} (hb : b = 32 ∨ b = 64) (h0 : 0 ≤ k) (h8 : k < 8) :
    ∃ x u, ([.int 0 t0, .int 1 t1, .int (-1) t2, .int 2 t3, .int (-2 ^ (b - 1).toNat) t4, .int (2 ^ (b - 1).toNat - 1) t5, .int 31 t6, .int 64 t7] : List Value)[k.toNat]? = some (.int x u) ∧ -2 ^ (b - 1).toNat ≤ x ∧ x < 2 ^ (b - 1).toNat := by
  have : k = 0 ∨ k = 1 ∨ k = 2 ∨ k = 3 ∨ k = 4 ∨ k = 5 ∨ k = 6 ∨ k = 7 := by lia
  rcases hb with rfl | rfl <;> rcases this with rfl | rfl | rfl | rfl | rfl | rfl | rfl | rfl <;> exact ⟨_, _, rfl, by decide, by decide⟩
theorem row8 {b k : Int} {a0 a1 a2 a3 a4 a5 a6 a7 : Int} (h : ∀ c ∈ [a0, a1, a2, a3, a4, a5, a6, a7], isUnF c = true ∧ putsF c = b) (h0 : 0 ≤ k) (h8 : k < 8) :
    isUnF (([a0, a1, a2, a3, a4, a5, a6, a7] : List Int).getD k.toNat 0) = true ∧ putsF (([a0, a1, a2, a3, a4, a5, a6, a7] : List Int).getD k.toNat 0) = b := by
  have m : ([a0, a1, a2, a3, a4, a5, a6, a7] : List Int).getD k.toNat 0 ∈ [a0, a1, a2, a3, a4, a5, a6, a7] := by
    rw [List.getD_eq_getElem?_getD, List.getElem?_eq_getElem (show k.toNat < 8 by lia)]; exact List.getElem_mem _
  exact h _ m
theorem useNext {w : World} {mean : ExcName → Option Value} {mg mb : Str → Option Value} {dp un : Nat} {fr : Option (List Env)} {gd : Option (List Code)} {s : Shared} {Q E : Value → Shared → Prop} {h₀ : Heap} {L t : Addr} {m : Str → Option Value} {vs : List Value} {n : Nat} {rest : List (Addr × Obj)}
    (F : Fr h₀ L s.heap m) (N : News h₀ L s.heap ((t, PySem.W.listOf vs.toArray n) :: rest)) (hap : ∀ p ∈ rest, p.1 ≠ t) (G : Gd w mean mg mb h₀) (hR : Room dp un 2) (hv : IntVs vs) (hlen : vs.length ≤ 100)
    (h : ∀ h' tk' x u vs' n', Fr h₀ L h' m → News h₀ L h' ((t, PySem.W.listOf vs'.toArray n') :: rest) → IntVs vs' → vs'.length ≤ 100 → Q (.int x u) { s with heap := h', toks := tk' }) :
    wpAny (model PR w) (AR dp un fr gd) (call (.ref 485) [.ref t]) Q E s := by
  have P := N _ (.head _)
  refine next_c G F.keep P.1 P.2.2 hv hR hlen (fun h' tk' x u vs' n' hb ht hv' hl' => ?_)
  refine h h' tk' x u vs' n' (butFr F hb P.2.2 P.2.1) (fun p hp => ?_) hv' (by lia)
  rcases List.mem_cons.mp hp with rfl | hp
  · exact ⟨ht, P.2⟩
  · exact ⟨hb _ _ (hap p hp) (N p (.tail _ hp)).1, (N p (.tail _ hp)).2⟩
def TreeOk (w : World) (d : Nat) : Prop :=
  ∀ {mean : ExcName → Option Value} {mg mb : Str → Option Value} {dp un : Nat} {fr : Option (List Env)} {gd : Option (List Code)} {s : Shared} {Q E : Value → Shared → Prop} {h₀ : Heap} {t : Addr} {vs : List Value} {n : Nat} {b D : Int} {ub ud : Tok},
    Gd w mean mg mb h₀ → Ext h₀ s.heap → s.heap.get? t = some (PySem.W.listOf vs.toArray n) → h₀.get? t = none → IntVs vs → (b = 32 ∨ b = 64) → D = (d : Int) → Room dp un (2 * d + 4) → vs.length ≤ 100 →
    (∀ h' tk' a T vs' n' tl, But t s.heap h' → h'.get? t = some (PySem.W.listOf vs'.toArray n') → IntVs vs' → vs'.length ≤ 100 → NewTl s.heap h' tl → (∀ p ∈ tl, p.1 ≠ t) → TrBy (InTl tl) a T → T.wf → T.ok → T.bits = b → T.depth ≤ d → Q (.ref a) { s with heap := h', toks := tk' }) →
    wpAny (model PR w) (AR dp un fr gd) (call (.ref 532) [.ref t, .int b ub, .int D ud]) Q E s
theorem useTree {w : World} {d : Nat} (IH : TreeOk w d) {mean : ExcName → Option Value} {mg mb : Str → Option Value} {dp un : Nat} {fr : Option (List Env)} {gd : Option (List Code)} {s : Shared} {Q E : Value → Shared → Prop} {h₀ : Heap} {L t : Addr} {m : Str → Option Value} {vs : List Value} {n : Nat} {rest : List (Addr × Obj)} {b D : Int} {ub ud : Tok}
    (F : Fr h₀ L s.heap m) (N : News h₀ L s.heap ((t, PySem.W.listOf vs.toArray n) :: rest)) (hap : ∀ p ∈ rest, p.1 ≠ t) (G : Gd w mean mg mb h₀) (hR : Room dp un (2 * d + 4)) (hv : IntVs vs) (hlen : vs.length ≤ 100) (hb : b = 32 ∨ b = 64) (hD : D = (d : Int))
    (h : ∀ h' tk' a T vs' n' tz, Fr h₀ L h' m → News h₀ L h' ((t, PySem.W.listOf vs'.toArray n') :: tz) → (∀ p ∈ tz, p.1 ≠ t) → (∀ p ∈ rest, p ∈ tz) → IntVs vs' → vs'.length ≤ 100 → TrBy (InTl tz) a T → T.wf → T.ok → T.bits = b → T.depth ≤ d → Q (.ref a) { s with heap := h', toks := tk' }) :
    wpAny (model PR w) (AR dp un fr gd) (call (.ref 532) [.ref t, .int b ub, .int D ud]) Q E s := by
  have P := N _ (.head _)
  refine IH G F.keep P.1 P.2.2 hv hb hD hR hlen (fun h' tk' a T vs' n' tl hbt ht hv' hl' hnt hne hT h1 h2 h3 h4 => ?_)
  refine h h' tk' a T vs' n' (tl ++ rest) (butFr F hbt P.2.2 P.2.1) (fun p hp => ?_) (fun p hp => (List.mem_append.mp hp).elim (hne p) (hap p)) (fun p hp => List.mem_append_right _ hp) hv' hl' (hT.mono fun a o q => List.mem_append_left _ q) h1 h2 h3 h4
  rcases List.mem_cons.mp hp with rfl | hp
  · exact ⟨ht, P.2⟩
  · rcases List.mem_append.mp hp with hp | hp
    · exact ⟨(hnt p hp).1, new_ne F (hnt p hp).2, fresh_back F.keep (hnt p hp).2⟩
    · exact ⟨hbt _ _ (hap p hp) (N p (.tail _ hp)).1, (N p (.tail _ hp)).2⟩
theorem news_swap {g h : Heap} {L : Addr} {a b : Addr × Obj} {l : List (Addr × Obj)} (N : News g L h (a :: b :: l)) : News g L h (b :: a :: l) := fun p hp => by
  rcases List.mem_cons.mp hp with rfl | hp
  · exact N _ (.tail _ (.head _))
  · rcases List.mem_cons.mp hp with rfl | hp
    · exact N _ (.head _)
    · exact N _ (.tail _ (.tail _ hp))
theorem rowA {b : Int} (_ : b = 32 ∨ b = 64) (h : b = 32) : ∀ c ∈ ([69, 80, 103, 104, 105, 167, 192, 193] : List Int), isUnF c = true ∧ putsF c = b := by subst h; decide
theorem rowB {b : Int} (hb : b = 32 ∨ b = 64) (h : ¬ b = 32) : ∀ c ∈ ([121, 122, 123, 172, 173, 194, 195, 196] : List Int), isUnF c = true ∧ putsF c = b := by
  obtain rfl : b = 64 := by lia
  decide
def nB (b : Int) : Int := if b = 32 then 35 else 15
theorem nB_pos (b : Int) : 0 < nB b := by unfold nB; split <;> decide
def codeB (b p : Int) : Int := if b = 64 then 124 + p else if p < 15 then 106 + p else if p < 25 then 70 + p - 15 else 81 + p - 25
theorem codeB_ok {b p : Int} (hb : b = 32 ∨ b = 64) (h0 : 0 ≤ p) (h1 : p < nB b) : isBiF (codeB b p) = true ∧ putsF (codeB b p) = b := by
  rcases hb with rfl | rfl
  · obtain ⟨n, hn, rfl⟩ := nat_of (k := 35) h0 h1
    revert hn; clear h0 h1; revert n; decide +kernel
  · obtain ⟨n, hn, rfl⟩ := nat_of (k := 15) h0 h1
    revert hn; clear h0 h1; revert n; decide +kernel
def TreeRet (t : Addr) (b : Int) (d : Nat) (s : Shared) (Q : Value → Shared → Prop) : Prop :=
  ∀ h' tk' a T vs' n' tl, But t s.heap h' → h'.get? t = some (PySem.W.listOf (List.toArray vs') n') → IntVs vs' → vs'.length ≤ 100 → NewTl s.heap h' tl → (∀ p ∈ tl, p.1 ≠ t) → TrBy (InTl tl) a T → T.wf → T.ok → T.bits = b → T.depth ≤ d → Q (.ref a) { s with heap := h', toks := tk' }
theorem treeEnd {s : Shared} {Q : Value → Shared → Prop} {t D l L : Addr} {b : Int} {d n3 tk : Nat} {g h : Heap} {m : Str → Option Value} {oD oL : Obj} {more tz : List (Addr × Obj)} {vs3 : List Value} (T : Tr) (hret : TreeRet t b d s Q) (hg : g = hideAll s.heap [t]) (F : Fr g L h m)
    (N : News g L h ((D, oD) :: (l, oL) :: more)) (ht : (t, PySem.W.listOf vs3.toArray n3) ∈ more) (nD : @Ne Nat D t) (nl : @Ne Nat l t) (hv3 : IntVs vs3) (hl3 : vs3.length ≤ 100)
    (hz : ∀ p ∈ tz, p ∈ more) (hzt : ∀ p ∈ tz, p.1 ≠ t) (hT : TrBy (InTl ((D, oD) :: (l, oL) :: tz)) D T) (h1 : T.wf) (h2 : T.ok) (h3 : T.bits = b) (h4 : T.depth ≤ d) : LeaveC Q (.ret (.ref D)) { s with heap := h, toks := tk } := by
  have hne : ∀ p ∈ (D, oD) :: (l, oL) :: tz, p.1 ≠ t := fun p hp => by
    rcases List.mem_cons.mp hp with rfl | hp
    · exact nD
    · rcases List.mem_cons.mp hp with rfl | hp
      · exact nl
      · exact hzt p hp
  have hin : ∀ p ∈ (D, oD) :: (l, oL) :: tz, p ∈ (D, oD) :: (l, oL) :: more := fun p hp => by
    rcases List.mem_cons.mp hp with rfl | hp
    · exact .head _
    · rcases List.mem_cons.mp hp with rfl | hp
      · exact .tail _ (.head _)
      · exact .tail _ (.tail _ (hz p hp))
  k_steps
  refine leaveC_ret (hret _ _ D T vs3 n3 ((D, oD) :: (l, oL) :: tz) (fun b' o hn q => F.keep b' o (by rw [hg]; exact hideAll_iff.mpr ⟨q, fun z => hn (List.mem_singleton.mp z)⟩)) (N _ (.tail _ (.tail _ ht))).1 hv3 hl3 (fun p hp => ⟨(N p (hin p hp)).1, hid_back hg (N p (hin p hp)).2.2 (hne p hp)⟩) hne hT h1 h2 h3 h4)
theorem tree_go (w : World) (d : Nat) (IH : ∀ e, e + 1 = d → TreeOk w e) : TreeOk w d := by
  intro mean mg mb dp un fr gd s Q E h₀ t vs n b D ub ud G hx ht ht0 hv hb hD hR hlen hret
  have b0 : 0 < b := by lia
  have b1 : b ≤ 64 := by lia
  refine enterH (hid := [(t, PySem.W.listOf vs.toArray n)]) G hx (fun p hp => by rw [List.mem_singleton.mp hp]; exact ⟨ht, ht0⟩) (by k_dflt k_is) (by k_dflt k_is) (Room.enter hR) rfl (locs rfl) (fun g h₁ tk₁ hg Gg F' N' => ?_)
  intro A9 E9
  have KX := Gg.k
  have T := Gg.t
  dsimp only [List.map, List.zip, List.zipWith, List.reverse, List.reverseAux] at F'
  have hbut : ∀ h3, Ext g h3 → But t s.heap h3 := fun h3 e b' o hne q => e b' o (by rw [hg]; exact hideAll_iff.mpr ⟨q, fun z => hne (List.mem_singleton.mp z)⟩)
  have hI : Hold (0 < 6) := Nat.zero_lt_succ 5
  have hR4 : Room dp un 4 := hR.le (by lia)
  replace hret : TreeRet t b d s Q := hret
  k_steps
  refine unhold ?_
  with_reducible rename News _ _ _ _ => N2
  with_reducible rename Fr _ _ _ _ => F2
  refine useNext F2 N2 (fun _ q => nomatch q) Gg (Room.down hR (by lia) rfl rfl) hv hlen (fun h3 tk3 x u vs1 n1 F3 N3 hv1 hl1 => ?_)
  clear F2 N2
  (try dsimp only)
  have hK : Hold (0 < 3) := Nat.zero_lt_succ 2
  k_steps
  refine unhold ?_
  clear hK
  refine ifL (by k_dflt (exact rfl)) (by walk_at "f") (by k_dflt (exact @rfl _ (some _))) ?_
  intro tk9
  by_cases hp : D = 0 ∨ x % 8 < 2
  · k_steps
    clear hp
    refine unhold ?_
    with_reducible rename News _ _ _ _ => N2
    with_reducible rename Fr _ _ _ _ => F2
    have nS : @Ne Nat _ t := Ne.symm (Nat.ne_of_lt (by assumption))
    have N3 := news_swap N2
    refine useNext F2 N3 (fun p hp => by rw [List.mem_singleton.mp hp]; exact nS) Gg (Room.down hR4 (by decide) rfl rfl) hv1 hl1 (fun h4 tk4 x4 u4 vs2 n2 F4 N4 hv2 hl2 => ?_)
    clear F2 N2 N3
    (try dsimp only)
    k_steps
    refine unhold ?_
    with_reducible rename News _ _ _ _ => N2
    with_reducible rename Fr _ _ _ _ => F2
    refine useNext F2 N2 (fun p hp => by rw [List.mem_singleton.mp hp]; exact nS) Gg (Room.down hR4 (by decide) rfl rfl) hv2 hl2 (fun h5 tk5 x5 u5 vs3 n3 F5 N5 hv3 hl3 => ?_)
    clear F2 N2
    (try dsimp only)
    k_steps
    · with_reducible rename News _ _ _ _ => N9
      with_reducible rename Fr _ _ _ _ => F9
      exact treeEnd (s := s) (tz := []) (.loc b) hret hg F9 N9 (by k_mem) (by k_ne) (by k_ne) hv3 hl3 (fun _ q => nomatch q) (fun _ q => nomatch q) ⟨_, _, _, _, .head _, .tail _ (.head _)⟩ hb trivial rfl (Nat.zero_le _)
    · refine unhold ?_
      with_reducible rename News _ _ _ _ => N2
      obtain ⟨x9, u9, e9, lo9, hi9⟩ := some8 hb (show 0 ≤ x4 % 11 by lia) (by assumption)
      refine item_at N2 (by k_mem) (by lia) (by lia) e9 ?_
      k_steps
      with_reducible rename News _ _ _ _ => N9
      with_reducible rename Fr _ _ _ _ => F9
      exact treeEnd (s := s) (tz := []) (.con b _) hret hg F9 N9 (by k_mem) (by k_ne) (by k_ne) hv3 hl3 (fun _ q => nomatch q) (fun _ q => nomatch q) ⟨_, _, _, _, _, .head _, .tail _ (.head _)⟩ ⟨hb, lo9, hi9⟩ trivial rfl (Nat.zero_le _)
    · with_reducible rename News _ _ _ _ => N9
      with_reducible rename Fr _ _ _ _ => F9
      have h8 := sg_rng hb (modr x5 (b := b)).1 (modr x5 (b := b)).2
      exact treeEnd (s := s) (tz := []) (.con b _) hret hg F9 N9 (by k_mem) (by k_ne) (by k_ne) hv3 hl3 (fun _ q => nomatch q) (fun _ q => nomatch q) ⟨_, _, _, _, _, .head _, .tail _ (.head _)⟩ ⟨hb, h8.1, h8.2⟩ trivial rfl (Nat.zero_le _)
  · have hD0 : ¬ D = 0 := fun q => hp (.inl q)
    have hx2 : ¬ x % 8 < 2 := fun q => hp (.inr q)
    obtain ⟨d, rfl⟩ : ∃ e, d = e + 1 := by
      cases d with
      | zero => exact absurd hD hD0
      | succ d => exact ⟨d, rfl⟩
    have hRR : Hold (Room dp un (2 * (d + 1) + 4)) := hR
    clear hR
    replace hR4 : Room dp un 4 := hR4
    have hR9 : Room dp un 4 := hR4
    k_steps
    · refine unhold ?_
      with_reducible rename News _ _ _ _ => N2
      with_reducible rename Fr _ _ _ _ => F2
      have nS : @Ne Nat _ t := Ne.symm (Nat.ne_of_lt (by assumption))
      have N3 := news_swap N2
      refine useNext F2 N3 (fun p hp => by rw [List.mem_singleton.mp hp]; exact nS) Gg (Room.down hR4 (by decide) rfl rfl) hv1 hl1 (fun h4 tk4 x4 u4 vs2 n2 F4 N4 hv2 hl2 => ?_)
      clear F2 N2 N3
      (try dsimp only)
      k_steps
      obtain ⟨hu, hpc⟩ := row8 (rowA hb (by assumption)) (show 0 ≤ x4 % 8 by lia) (by lia)
      generalize ([69, 80, 103, 104, 105, 167, 192, 193] : List Int).getD (x4 % 8).toNat 0 = c at *
      refine unhold ?_
      with_reducible rename News _ _ _ _ => N5
      with_reducible rename Fr _ _ _ _ => F5
      refine useTree (IH d rfl) F5 N5 (fun p hp => by rw [List.mem_singleton.mp hp]; exact nS) Gg (Room.down hRR (by lia) rfl rfl) hv2 hl2 (takes_b c) (by lia) (fun h6 tk6 a T1 vs3 n3 tz F6 N6 hz1 hz2 hv3 hl3 hT1 w1 o1 bt1 dp1 => ?_)
      clear F5 N5
      (try dsimp only)
      k_steps
      with_reducible rename News _ _ _ _ => N9
      with_reducible rename Fr _ _ _ _ => F9
      exact treeEnd (s := s) (tz := tz) (.un b c T1) hret hg F9 N9 (.head _) (by k_ne) (by k_ne) hv3 hl3 (fun p hp => .tail _ hp) hz1 ⟨_, _, _, _, _, .head _, .tail _ (.head _), hT1.mono fun _ _ q => .tail _ (.tail _ q)⟩ ⟨hu, hpc.symm, bt1, w1⟩ ⟨by have := un_rng hu; lia, o1⟩ rfl (by simp only [Tr.depth]; lia)
    · refine unhold ?_
      with_reducible rename News _ _ _ _ => N2
      with_reducible rename Fr _ _ _ _ => F2
      have nS : @Ne Nat _ t := Ne.symm (Nat.ne_of_lt (by assumption))
      have N3 := news_swap N2
      refine useNext F2 N3 (fun p hp => by rw [List.mem_singleton.mp hp]; exact nS) Gg (Room.down hR4 (by decide) rfl rfl) hv1 hl1 (fun h4 tk4 x4 u4 vs2 n2 F4 N4 hv2 hl2 => ?_)
      clear F2 N2 N3
      (try dsimp only)
      k_steps
      obtain ⟨hu, hpc⟩ := row8 (rowB hb (by assumption)) (show 0 ≤ x4 % 8 by lia) (by lia)
      generalize ([121, 122, 123, 172, 173, 194, 195, 196] : List Int).getD (x4 % 8).toNat 0 = c at *
      refine unhold ?_
      with_reducible rename News _ _ _ _ => N5
      with_reducible rename Fr _ _ _ _ => F5
      refine useTree (IH d rfl) F5 N5 (fun p hp => by rw [List.mem_singleton.mp hp]; exact nS) Gg (Room.down hRR (by lia) rfl rfl) hv2 hl2 (takes_b c) (by lia) (fun h6 tk6 a T1 vs3 n3 tz F6 N6 hz1 hz2 hv3 hl3 hT1 w1 o1 bt1 dp1 => ?_)
      clear F5 N5
      (try dsimp only)
      k_steps
      with_reducible rename News _ _ _ _ => N9
      with_reducible rename Fr _ _ _ _ => F9
      exact treeEnd (s := s) (tz := tz) (.un b c T1) hret hg F9 N9 (.head _) (by k_ne) (by k_ne) hv3 hl3 (fun p hp => .tail _ hp) hz1 ⟨_, _, _, _, _, .head _, .tail _ (.head _), hT1.mono fun _ _ q => .tail _ (.tail _ q)⟩ ⟨hu, hpc.symm, bt1, w1⟩ ⟨by have := un_rng hu; lia, o1⟩ rfl (by simp only [Tr.depth]; lia)
    · refine unhold ?_
      with_reducible rename News _ _ _ _ => N2
      with_reducible rename Fr _ _ _ _ => F2
      refine useNext F2 N2 (fun _ q => nomatch q) Gg (Room.down hR4 (by decide) rfl rfl) hv1 hl1 (fun h4 tk4 x4 u4 vs2 n2 F4 N4 hv2 hl2 => ?_)
      clear F2 N2
      (try dsimp only)
      k_steps
      refine unhold ?_
      refine mono_F (F := nB b) ?_ ?_
      · clear hI
        k_steps
        · exact unhold ⟨_, _, by rw [nB, if_pos (by assumption)], rfl⟩
        · exact unhold ⟨_, _, by rw [nB, if_neg (by assumption)], rfl⟩
      intro t8 tk8
      have hnb := nB_pos b
      k_steps
      refine unhold ?_
      have q0 : 0 ≤ x4 % nB b := Int.emod_nonneg _ (by lia)
      have q1 : x4 % nB b < nB b := Int.emod_lt_of_pos _ hnb
      refine mono_F (F := codeB b (x4 % nB b)) ?_ ?_
      · clear hI
        k_steps
        all_goals exact unhold ⟨_, _, by unfold codeB; repeat (first | rw [if_pos (by assumption)] | rw [if_neg (by assumption)]), rfl⟩
      intro t7 tk7
      clear hI
      obtain ⟨hu, hpc⟩ := codeB_ok hb q0 q1
      generalize codeB b (x4 % nB b) = c at *
      k_steps
      refine unhold ?_
      with_reducible rename News _ _ _ _ => N5
      with_reducible rename Fr _ _ _ _ => F5
      refine useTree (IH d rfl) F5 N5 (fun _ q => nomatch q) Gg (Room.down hRR (by lia) rfl rfl) hv2 hl2 (takes_b c) (by lia) (fun h6 tk6 a1 T1 vs3 n3 tz F6 N6 hz1 _ hv3 hl3 hT1 w1 o1 bt1 dp1 => ?_)
      clear F5 N5
      (try dsimp only)
      k_steps
      refine unhold ?_
      with_reducible rename News _ _ _ _ => N5
      with_reducible rename Fr _ _ _ _ => F5
      refine useTree (IH d rfl) F5 N5 hz1 Gg (Room.down hRR (by lia) rfl rfl) hv3 hl3 (takes_b c) (by lia) (fun h8 tk8 a2 T2 vs4 n4 ty F8 N8 hy1 hy2 hv4 hl4 hT2 w2 o2 bt2 dp2 => ?_)
      clear F5 N5
      (try dsimp only)
      k_steps
      with_reducible rename News _ _ _ _ => N9
      with_reducible rename Fr _ _ _ _ => F9
      exact treeEnd (s := s) (tz := ty) (.bin b c T1 T2) hret hg F9 N9 (.head _) (by k_ne) (by k_ne) hv4 hl4 (fun p hp => .tail _ hp) hy1 ⟨_, _, _, _, _, _, .head _, .tail _ (.head _), hT1.mono fun _ _ q => .tail _ (.tail _ (hy2 _ q)), hT2.mono fun _ _ q => .tail _ (.tail _ q)⟩ ⟨hu, hpc.symm, bt1, bt2, w1, w2⟩ ⟨by have := bi_rng hu; lia, o1, o2⟩ rfl (by simp only [Tr.depth]; lia)
theorem tree_c (w : World) : ∀ d, TreeOk w d
  | 0 => tree_go w 0 fun e h => absurd h (Nat.succ_ne_zero e)
  | d + 1 => tree_go w (d + 1) fun e h => by cases h; exact tree_c w d
end

section
open Kunsigned_c
open Ksigned_c
open Kleast_c
open Kwidened_c
open Keqz_c
open Kadd_c
open Ksub_c
open Kmul_c
open Ktn_c
open Kand_c
open Kor_c
open Kxor_c
open Kshl_c
open Kshrs_c
open Kshru_c
open Krotl_c
open Krotr_c
open Keq_c
open Kne_c
open Kltu_c
open Klts_c
open Kgts_c
open Kles_c
open Kges_c
open Kgtu_c
open Kleu_c
open Kgeu_c
open Kltakes_c
open Klisone_c
open Klsigned_c
open Klplain_c
open Kplace_c
open Knarrow_c
open Kisun_c
open Kisbi_c
open Kneutral_c
open Kwidths_c
open Kclz_c
open Kctz_c
open Kpop_c
open Kdivu_c
open Kremu_c
open Kdivs_c
open Krems_c
open Kreckon1_c
open S1
open S3
open S4
open S5
open S6
open S7
open S8
open H379
open S9
open S0
open S13
open S14
open S11
open S15
def anyK : ItemKind Value := ⟨fun a v => v = a, some, fun _ _ h => by rw [h]⟩
theorem anyK_are : ∀ vs : List Value, AreOf anyK vs vs
  | [] => .nil
  | v :: vs => .cons rfl (anyK_are vs)
/-- enumerate over a list that the call has made and that nothing else asks for -/
theorem call_enumB {w : World} {A : Around} {E : Value → Shared → Prop} {s : Shared} {h₀ : Heap} {L l : Addr} {m : Str → Option Value} {news : List (Addr × Obj)} {vs : List Value} {n : Nat} {Q : Value → Shared → Prop} (hh : A.handled = none)
    (F : Fr h₀ L s.heap m) (N : News h₀ L s.heap ((l, PySem.W.listOf vs.toArray n) :: news)) (hap : ∀ p ∈ news, p.1 ≠ l)
    (h : ∀ h' e, Fr h₀ L h' m → News h₀ L h' news → PairSrcL PR w A E h₀ L anyK vs (.ref e) { s with heap := h' } m news → Q (.ref e) { s with heap := h' }) :
    wpAny (model PR w) A (call (.type "enumerate") [.ref l]) Q E s := by
  have P := N _ (.head _)
  have hls : s.heap.IsList l vs.toArray := ⟨_, P.1, rfl, _, rfl⟩
  have hLs : L < s.heap.objs.size := F.ns.lt
  have hab : h₀.objs.size ≤ L := F.above
  have hl2 : l < s.heap.objs.size := Heap.lt_size P.1
  refine call_enumerate_list hls fun h' he hit hsz hk => ?_
  have F' : Fr h₀ L h' m := ⟨F.ns.keeps hk, fun b o e => hk b o (F.keep b o e), F.above⟩
  have N' : News h₀ L h' news := fun p hp => ⟨hk _ _ (N p (.tail _ hp)).1, (N p (.tail _ hp)).2⟩
  refine h h' _ F' N' fun env hL => ?_
  subst hL
  refine enumSrc (Draws.list (A := A.in1) hh s.heap.objs.size l (Nat.ne_of_lt hl2) vs.toArray) he ⟨hit, hls.at fun o e => hk l o e⟩ (Nat.succ_ne_self _) ?_ (by simp) ?_
    (Heap.get?_none_of_le (Nat.le_trans hab (Nat.le_of_lt (Nat.lt_succ_of_lt hLs)))) (Heap.get?_none_of_le (Nat.le_trans hab (Nat.le_of_lt hLs))) ?_ (by simp) (fun i x hx => ⟨x, by simpa using hx, rfl⟩) F' N'
  · intro hm
    rcases List.mem_cons.mp hm with e | hm
    · exact Nat.succ_ne_self _ e
    · exact Nat.ne_of_gt (Nat.lt_succ_of_lt hl2) (List.mem_singleton.mp hm)
  · intro hm
    rcases List.mem_cons.mp hm with e | hm
    · exact Nat.ne_of_lt (Nat.lt_succ_of_lt hLs) e
    · rcases List.mem_cons.mp hm with e | hm
      · exact Nat.ne_of_lt hLs e
      · exact P.2.1 (List.mem_singleton.mp hm).symm
  · intro b hb q hq e
    have hq1 : q.1 < s.heap.objs.size := Heap.lt_size (N q (.tail _ hq)).1
    rcases List.mem_cons.mp hb with e1 | hb
    · exact Nat.ne_of_gt (Nat.lt_succ_of_lt hq1) (e1.symm.trans e)
    · rcases List.mem_cons.mp hb with e1 | hb
      · exact Nat.ne_of_gt hq1 (e1.symm.trans e)
      · exact hap q hq ((List.mem_singleton.mp hb).symm.trans e).symm
theorem insSnoc {g : Heap} {is : List Ins} : ∀ {ws : List Value} {i : Ins}, InsList g ws (is ++ [i]) → ∃ ws' a, ws = ws' ++ [Value.ref a] ∧ InsList g ws' is := by
  induction is with
  | nil =>
    intro ws i h
    cases h with
    | cons p r => cases r; exact ⟨[], _, rfl, .nil⟩
  | cons j is ih =>
    intro ws i h
    cases h with
    | cons p r =>
      obtain ⟨ws', a, e, h⟩ := ih r
      exact ⟨_, a, by rw [e]; rfl, .cons p h⟩
theorem news_turn {g h : Heap} {L : Addr} {l : List (Addr × Obj)} {p : Addr × Obj} (N : News g L h (l ++ [p])) : News g L h (p :: l) := fun q hq => by
  rcases List.mem_cons.mp hq with rfl | hq
  · exact N _ (by simp)
  · exact N _ (List.mem_append_left _ hq)
def neuT : List (Int × Int) := [(0, 0), (1, 0), (2, 1), (3, 1), (4, 1), (7, -1), (8, 0), (9, 0), (10, 0), (11, 0), (12, 0), (13, 0), (14, 0)]
def neuP (p : Int) : Option Int := (neuT.find? fun q => q.1 = p).map (·.2)
/-- the table of neutral numbers -/
def NeuD (w : World) (o : Obj) : Prop := ∃ kvs, Obj.IsDictOf (intKind PR w) o kvs ∧ ∀ p : Int, (neuP p = none → valueAt kvs p = none) ∧ (∀ x, neuP p = some x → ∃ t, valueAt kvs p = some (.int x t))
inductive TV : List (Int × Int) → List (Int × Value) → Prop
  | nil : TV [] []
  | cons {k x t l kvs} : TV l kvs → TV ((k, x) :: l) ((k, .int x t) :: kvs)
theorem TV.at {l : List (Int × Int)} {kvs : List (Int × Value)} (h : TV l kvs) (p : Int) : ((l.find? fun q => q.1 = p).map (·.2) = none → valueAt kvs p = none) ∧ ∀ x, (l.find? fun q => q.1 = p).map (·.2) = some x → ∃ t, valueAt kvs p = some (.int x t) := by
  unfold valueAt
  induction h with
  | nil => exact ⟨fun _ => rfl, fun x e => by cases e⟩
  | @cons k x t l kvs _ ih =>
    rw [List.find?_cons, List.find?_cons]
    cases decide (k = p) with
    | true => exact ⟨fun e => (by cases e), fun x e => (by cases e; exact ⟨_, rfl⟩)⟩
    | false => exact ih
theorem neuD {w : World} {o : Obj} {a0 b0 a1 b1 a2 b2 a3 b3 a4 b4 a5 b5 a6 b6 a7 b7 a8 b8 a9 b9 a10 b10 a11 b11 a12 b12 : Tok} (hd : Obj.IsDictOf (intKind PR w) o (intKeyPairs [(.int 0 a0, .int 0 b0), (.int 1 a1, .int 0 b1), (.int 2 a2, .int 1 b2), (.int 3 a3, .int 1 b3), (.int 4 a4, .int 1 b4), (.int 7 a5, .int (-1) b5), (.int 8 a6, .int 0 b6), (.int 9 a7, .int 0 b7), (.int 10 a8, .int 0 b8), (.int 11 a9, .int 0 b9), (.int 12 a10, .int 0 b10), (.int 13 a11, .int 0 b11), (.int 14 a12, .int 0 b12)])) : NeuD w o :=
  ⟨_, hd, TV.at (by repeat constructor)⟩
theorem neu_of {c p x : Int} (hu : isBiF c = true) (h90 : 90 < c) (hp : c - opA (takesF c) = p) (h : neuP p = some x) : neutralF c = some x := by
  obtain ⟨n, hn, rfl⟩ := bi_nat hu
  have k : ∀ n, n < 139 → isBiF (n : Nat) = true → 90 < ((n : Nat) : Int) → neuP (n - opA (takesF n)) = none ∨ neutralF n = neuP (n - opA (takesF n)) := by decide +kernel
  subst hp
  exact (k n hn hu h90).elim (fun e => by rw [h] at e; cases e) (fun e => e.trans h)
/-- the end of a turn, held: the library's closers there take 20 s each to fall -/
structure HoldS (P : Prop) : Prop where
  h : P
theorem holdS {P : Prop} (x : HoldS P) : P := x.h
open G3
theorem turn3 {h₀ h : Heap} {L d : Addr} {od : Obj} {own : List (Addr × Obj)} {m : Str → Option Value} {Jn : (Str → Option Value) → List (Addr × Obj) → Prop} {s₁ : Shared} {Qr : Value → Shared → Prop} {Qb : Shared → Prop} {tk : Nat}
    (F : Fr h₀ L h m) (N : News h₀ L h ((d, od) :: own)) (hJ : Jn m [(d, od)]) : HoldS (LoopStep3 h₀ L own [(d, od)] Jn s₁ Qr Qb .next (Shared.mk h s₁.gens s₁.drawn tk s₁.os)) :=
  ⟨⟨rfl, h, tk, m, [(d, od)], rfl, F, fun p hp => (List.mem_append.mp hp).elim (fun q => N p (.tail _ q)) (fun q => by rw [List.mem_singleton.mp q]; exact N _ (.head _)), rfl, hJ⟩⟩
inductive OptsAre : List (Option Int) → List Value → Prop
  | nil : OptsAre [] []
  | cons {o : Option Int} {r : Value} {os : List (Option Int)} {rs : List Value} : OptV o r → OptsAre os rs → OptsAre (o :: os) (r :: rs)
theorem last_opts {l : List Ins} : ∀ {a b : Option Int} {ys : List Value}, OptsAre (a :: b :: l.map constF) ys → ∃ p r0 r1, ys = p ++ [r0, r1] ∧ OptV (stA (a, b) l).1 r0 ∧ OptV (stA (a, b) l).2 r1 := by
  induction l with
  | nil =>
    intro a b ys h
    cases h with
    | cons h1 h => cases h with
      | cons h2 h => cases h; exact ⟨[], _, _, rfl, h1, h2⟩
  | cons i l ih =>
    intro a b ys h
    cases h with
    | cons h1 h =>
      obtain ⟨p, r0, r1, e, h2, h3⟩ := ih h
      exact ⟨_ :: p, r0, r1, by rw [e]; rfl, h2, h3⟩
def NearF (h : Heap) (v r : Value) : Prop := ∀ a, v = .ref a → (∀ j, InsAt h a j → OptV (constF j) r) ∧ (h.get? a = none → r = .none)
theorem any56r {c : Int} (h : c = 65 ∨ c = 66) : ([65, 66].any fun x => x == c) = true := by rcases h with rfl | rfl <;> rfl
theorem newTup_c {w : World} {A : Around} {E : Value → Shared → Prop} {s : Shared} {h₀ : Heap} {L : Addr} {m : Str → Option Value} {news : List (Addr × Obj)} {vs : List Value} {Q : Value → Shared → Prop} (F : Fr h₀ L s.heap m) (N : News h₀ L s.heap news)
    (h : Fr h₀ L (s.heap.push { cls := .type "tuple", data := .seq vs.toArray }) m → News h₀ L (s.heap.push { cls := .type "tuple", data := .seq vs.toArray }) ((s.heap.objs.size, { cls := .type "tuple", data := .seq vs.toArray }) :: news) → Q (.ref s.heap.objs.size) { s with heap := s.heap.push { cls := .type "tuple", data := .seq vs.toArray } }) (hz : vs.length ≤ 100 := by exact Nat.le_of_ble_eq_true rfl) :
    wpAny (model PR w) A (newTuple vs) Q E s := wpAny_newTuple (h (F.push _) (News.push F N _)) (by rw [sizeLine_eq]; lia)
open H525
theorem in_lit {w : World} {A : Around} {E : Value → Shared → Prop} {s : Shared} {h₀ : Heap} {L d : Addr} {news : List (Addr × Obj)} {o : Obj} {kvs : List (Int × Value)} {c : Int} {u : Tok} {Q : Value → Shared → Prop}
    (N : News h₀ L s.heap news) (hm : (d, o) ∈ news) (lo : (d == sysModules) = false) (hd : Obj.IsDictOf (intKind PR w) o kvs) (h : Q (.bool (valueAt kvs c).isSome) { s with toks := s.toks + 1 }) : wpAny (model PR w) A (compareOp .In (.int c u) (.ref d)) Q E s :=
  wpAny_in_of (intKind_is PR w c u) lo (Heap.dictOf_iff.mpr ⟨o, (N _ hm).1, hd⟩).mapOf h
theorem item_lit2 {w : World} {A : Around} {E : Value → Shared → Prop} {s : Shared} {h₀ : Heap} {L d : Addr} {news : List (Addr × Obj)} {o : Obj} {kvs : List (Int × Value)} {c : Int} {u : Tok} {v : Value} {value slice : Expr} {Q : Value → Shared → Prop}
    (N : News h₀ L s.heap news) (hm : (d, o) ∈ news) (hd : Obj.IsDictOf (intKind PR w) o kvs) (hv : valueAt kvs c = some v) (h : Q v { s with toks := s.toks + 1 })
    (hs : subscripted slice false (.ref d) (.int c u) = operate [.ref d, .int c u] (getItem (.ref d) (.int c u)) := by with_unfolding_all rfl) : wpAny (model PR w) A (subscriptTail value slice (.ref d) (.int c u)) Q E s :=
  have hD := Heap.dictOf_iff.mpr ⟨o, (N _ hm).1, hd⟩
  tail_any hD.typeIs slot_dict_getitem.lookup (wpAny_getItem_of (intKind_is PR w c u) hD.mapOf hv h) hs
open G7
open G7
open S16
theorem near_opts {h : Heap} : ∀ {zs : List Value} {js : List Ins} {ys : List Value}, InsList h zs js → Paired (NearF h) zs ys → OptsAre (js.map constF) ys
  | _, _, _, .nil, .nil => .nil
  | _, _, _, .cons p r, .cons f q => .cons ((f _ rfl).1 _ p) (near_opts r q)
theorem paired_len {F : Value → Value → Prop} : ∀ {vs ys : List Value}, Paired F vs ys → ys.length = vs.length
  | _, _, .nil => rfl
  | _, _, .cons _ r => by simp only [List.length_cons, paired_len r]
theorem newsEnd {g h : Heap} {L : Addr} {l l' : List (Addr × Obj)} (N : News g L h l) (e : ∀ p ∈ l', p ∈ l) : News g L h l' := fun p hp => N p (e p hp)
theorem near_all {h : Heap} {z1 z2 : Addr} {zs ys : List Value} {js : List Ins} (h1 : h.get? z1 = none) (h2 : h.get? z2 = none) (hz : InsList h zs js) (hp : Paired (NearF h) (.ref z1 :: .ref z2 :: zs) ys) : OptsAre (none :: none :: js.map constF) ys := by
  cases hp with
  | cons f1 hp => cases hp with
    | cons f2 hp => exact .cons ((f1 _ rfl).2 h1) (.cons ((f2 _ rfl).2 h2) (near_opts hz hp))
theorem InsAt.det {h : Heap} {a : Addr} {i j : Ins} (p : InsAt h a i) (q : InsAt h a j) : i = j := by
  obtain ⟨t, r, p3, p4⟩ := p
  obtain ⟨u, r', q3, q4⟩ := q
  rw [p3] at q3
  have e3 := congrArg Obj.data (Option.some.inj q3)
  simp only [tupOf] at e3
  injection e3 with e3
  have e4 := congrArg Array.toList e3
  simp at e4
  obtain ⟨⟨e5, _⟩, e6⟩ := e4
  subst e6
  obtain ⟨c, o⟩ := i
  obtain ⟨c', o'⟩ := j
  dsimp only at e5 p4 q4
  subst e5
  congr 1
  cases o with
  | none => cases o' with
    | none => rfl
    | some z => obtain ⟨u, q⟩ := q4; rw [show r = [] from p4] at q; cases q
  | some z =>
    obtain ⟨u, q⟩ := p4
    subst q
    cases o' with
    | none => cases (show [Value.int z u] = [] from q4)
    | some z' => obtain ⟨u', q'⟩ := q4; cases q'; rfl
theorem chk_arg {a0 a1 : Option Int} {i : Ins} (h : ChkI a0 a1 i) : OkArg i := by
  intro hc
  rcases h with ⟨b, n, _, rfl, _⟩ | ⟨b, _, rfl⟩ | ⟨c, rfl, h⟩
  · exact fun q => nomatch q
  · exact fun q => nomatch q
  · exfalso
    have : 69 ≤ c := by
      rcases h with ⟨h, _⟩ | ⟨h, _⟩
      · exact un_rng h
      · have := bi_rng h; lia
    dsimp only at hc
    lia
theorem chkL_arg : ∀ {l : List Ins} {a0 a1 : Option Int}, chkL a0 a1 l → ∀ i ∈ l, OkArg i
  | [], _, _, _, _, h => nomatch h
  | i :: l, _, _, hc, j, h => by
    rcases List.mem_cons.mp h with rfl | h
    · exact chk_arg hc.1
    · exact chkL_arg hc.2 j h
theorem insMem {g : Heap} : ∀ {vs : List Value} {is : List Ins} {v : Value}, InsList g vs is → v ∈ vs → ∃ a j, v = .ref a ∧ j ∈ is ∧ InsAt g a j
  | _, _, _, .cons p r, h => by
    rcases List.mem_cons.mp h with rfl | h
    · exact ⟨_, _, rfl, .head _, p⟩
    · obtain ⟨a, j, e, m, q⟩ := insMem r h
      exact ⟨a, j, e, .tail _ m, q⟩
theorem pickTo {ws' : List Value} {z : Value} {i : Nat} (h : i ≤ ws'.length) : kms_pick (ws' ++ [z]) none (some (i : Int)) = ws'.take i := by
  simp only [kms_pick, kms_lo, kms_hi]
  rw [if_neg (by lia)]
  have : min ((i : Int)).toNat (ws' ++ [z]).length = i := by simp; lia
  rw [this]
  simp [List.take_append_of_le_length h]
theorem pickLast2 {p : List Value} {r0 r1 : Value} : kms_pick (p ++ [r0, r1]) (some (-2)) none = [r0, r1] := by
  simp [kms_pick, kms_lo, kms_hi]
def FoJ (d : Addr) (od : Obj) (bl : Addr) (i : Nat) (m : Str → Option Value) (news : List (Addr × Obj)) : Prop := m (Str.ofString "neutral") = some (.ref d) ∧ m (Str.ofString "body") = some (.ref bl) ∧ news = [(d, od)]
set_option maxHeartbeats 4000000 in
theorem folded_c (w : World) (bl : Addr) (ws : List Value) (is : List Ins) (n : Nat) (hlen : ws.length ≤ 100) (hchk : chkL none none is) :
    CtH w 568 [.ref bl] 6 (fun h => h.get? bl = some (PySem.W.listOf ws.toArray n) ∧ InsList h ws (is ++ [⟨11, none⟩])) (fun _ _ v => v = .bool true) := by
  intro mean mg mb dp un fr gd s Q E G hR hP hret
  obtain ⟨hbl, hp⟩ := hP
  have KX := G.k
  have T := G.t
  have hwl := hp.length
  have hbl2 : s.heap.IsList bl ws.toArray := ⟨_, hbl, rfl, _, rfl⟩
  refine enter G (by k_dflt k_is) (by k_dflt k_is) (Room.enter hR) rfl (locs rfl) (fun L' h' tk' F' N' => ?_)
  intro A9 E9
  try dsimp only
  dsimp only [List.map, List.zip, List.zipWith, List.reverse, List.reverseAux] at F'
  k_steps
  refine unhold ?_
  refine For_pair3 s.heap rfl rfl rfl rfl ?_ (by intro _; rfl)
  k_steps
  refine unhold ?_
  with_reducible rename Obj.IsDictOf _ _ _ => hd
  with_reducible rename News _ _ _ _ => N2
  with_reducible rename Fr _ _ _ _ => F2
  have hD := neuD hd
  (repeat ((with_reducible rename PyProof.V.FlatPairs _ _ _ => hz); clear hz))
  clear hd
  with_reducible rename Obj => od
  with_reducible rename ((_ == sysModules) = false) => lo
  with_reducible rename (∀ p ∈ _, _ < _) => lD
  obtain ⟨ws', ze, hws, hi'⟩ := insSnoc hp
  have epick : kms_pick ws.toArray.toList none (some (-1)) = ws' := by rw [show ws.toArray.toList = ws from rfl, hws, kmsI]
  rw [epick] at N2
  refine call_enumB rfl F2 N2 (fun p hp => Nat.ne_of_lt (lD p hp)) (fun h3 e3 F3 N3 S => ?_)
  refine S _ rfl _ _ _ _ (FoJ _ od bl) ⟨rfl, rfl, rfl⟩ ?_ ?_
  · rintro i a t v m₁ news₁ s₁ own ⟨h4, tk4, rfl⟩ ha hk ⟨hm1, hm2, rfl⟩ hmap hown F4 N4
    obtain rfl : v = a := hk
    obtain ⟨pa, jx, rfl, hjx, t9, rest, ia, harg⟩ := hi'.get ha
    have hc := chkL_get hchk hjx
    replace N4 := news_turn N4
    dsimp only at F4 N4
    change News s.heap L' h4 _ at N4
    refine frN (l := [(Str.ofString "plain", .ref pa), (Str.ofString "at", .int i t), (Str.ofString "neutral", .ref _), (Str.ofString "body", .ref bl)]) F4 ⟨rfl, rfl, hm1, hm2, ⟨⟩⟩ ?_
    intro m0 m2 F5
    clear F4 F3 N3 F2 N2 S
    (try dsimp only)
    rcases hc with ⟨b, n5, hb, rfl, hlo, hhi⟩ | ⟨b, hb, rfl⟩ | ⟨c, rfl, hop⟩
    · obtain ⟨u9, rfl⟩ := harg
      rcases hb with rfl | rfl
      · change s.heap.get? pa = some (tupOf [.int 65 t9, .int n5 u9]) at ia
        have hpl : plainF n5 65 = true := by unfold plainF; rw [if_pos rfl]; exact decide_eq_true ⟨hlo, hhi⟩
        k_steps
        with_reducible rename News _ _ _ _ => N9
        with_reducible rename Fr _ _ _ _ => F9
        exact turn3 F9 (by first | exact N9 | exact newsTail N9 | exact newsTail (newsTail N9)) ⟨rfl, rfl, rfl⟩
      · change s.heap.get? pa = some (tupOf [.int 66 t9, .int n5 u9]) at ia
        have hpl : plainF n5 66 = true := by unfold plainF; rw [if_neg (by decide)]; exact decide_eq_true ⟨hlo, hhi⟩
        k_steps
        with_reducible rename News _ _ _ _ => N9
        with_reducible rename Fr _ _ _ _ => F9
        exact turn3 F9 (by first | exact N9 | exact newsTail N9 | exact newsTail (newsTail N9)) ⟨rfl, rfl, rfl⟩
    · change s.heap.get? pa = some (tupOf (.int 32 t9 :: rest)) at ia
      k_steps
      with_reducible rename News _ _ _ _ => N9
      with_reducible rename Fr _ _ _ _ => F9
      exact turn3 F9 (by first | exact N9 | exact newsTail N9 | exact newsTail (newsTail N9)) ⟨rfl, rfl, rfl⟩
    · obtain rfl : rest = [] := harg
      change s.heap.get? pa = some (tupOf [.int c t9]) at ia
      replace hop : Hold _ := hop
      have hge : 69 ≤ c := by
        rcases hop with ⟨h, _⟩ | ⟨h, _⟩
        · exact un_rng h
        · have := bi_rng h; lia
      have h56 := any56x hge
      have h32 : ¬ c = 32 := by lia
      have hil : i < ws'.length := (List.getElem?_eq_some_iff.mp ha).1
      have hw1 : ws.length = ws'.length + 1 := by rw [hws]; simp
      k_steps
      all_goals try (exfalso; exact h32 (by assumption))
      refine unhold ?_
      refine comp_c (fun _ => true) (NearF s.heap) rfl rfl (by decide) rfl (by decide) rfl ?_
      k_steps
      refine unhold ?_
      with_reducible rename News _ _ _ _ => N8
      with_reducible rename Fr _ _ _ _ => F8
      have hpk : kms_pick ws.toArray.toList none (some (i : Int)) = ws'.take i := by rw [show ws.toArray.toList = ws from rfl, hws]; exact pickTo (by lia)
      rw [hpk] at N8
      refine kmk_add_lit F8 N8 (zs := .ref _ :: .ref _ :: ws'.take i) ⟨_, (N8 _ (.tail _ (.head _))).1, rfl, _, rfl⟩ ⟨_, (N8 _ (.head _)).1, rfl, _, rfl⟩ (by exact rfl) ?_ (by rw [sizeLine_eq]; simp; lia)
      intro D3 h10 F9 N9 l9
      have Z2 := N9 _ (.tail _ (.tail _ (.tail _ (.head _))))
      have Z1 := N9 _ (.tail _ (.tail _ (.tail _ (.tail _ (.head _)))))
      have Nd := N9 _ (.tail _ (.tail _ (.tail _ (.tail _ (.tail _ (.head _))))))
      have htk := hi'.take i
      have hlt : (ws'.take i).length ≤ 100 := by rw [List.length_take]; lia
      refine unhold ⟨D3, _, rfl, .inl ⟨_, (N9 _ (.head _)).1, rfl, _, rfl⟩, by rw [sizeLine_eq]; simp; lia, compTests_nil, ?_, ?_⟩
      · intro C v s₃ m₃ E' hv _ F3 hm
        obtain ⟨a, j, rfl, hja, hoj, hF⟩ : ∃ a j, v = .ref a ∧ InsAt h10 a j ∧ OkArg j ∧ ∀ r, OptV (constF j) r → NearF s.heap (.ref a) r := by
          have zz : ∀ z t, h10.get? z = some (tupOf [.int 0 t]) → s.heap.get? z = none → ∃ a j, Value.ref z = .ref a ∧ InsAt h10 a j ∧ OkArg j ∧ ∀ r, OptV (constF j) r → NearF s.heap (.ref a) r := fun z t h1 h2 =>
            ⟨z, ⟨0, none⟩, rfl, ⟨t, [], h1, rfl⟩, fun q => by dsimp only at q; lia, fun r hr a' e => by cases e; exact ⟨fun j' ⟨_, _, q, _⟩ => (by rw [h2] at q; cases q), fun _ => hr⟩⟩
          rcases List.mem_cons.mp hv with rfl | hv
          · exact zz _ _ Z1.1 Z1.2.2
          · rcases List.mem_cons.mp hv with rfl | hv
            · exact zz _ _ Z2.1 Z2.2.2
            · obtain ⟨a, j, e, hm, hj⟩ := insMem htk hv
              exact ⟨a, j, e, hj.ext F9.keep, chkL_arg hchk j (List.mem_of_mem_take hm), fun r hr a' e' => by cases e'; exact ⟨fun j' hj' => by rw [hj'.det hj]; exact hr, fun q => by obtain ⟨_, _, q2, _⟩ := hj; rw [q] at q2; cases q2⟩⟩
        obtain ⟨t0, rest, hja, hjr⟩ := hja
        have KX3 := KX.keeps F9.keep
        have T3 := T.keeps F9.keep
        have N3 := newsNil F3
        have hK : Hold (0 < 2) := Nat.zero_lt_two
        clear N9 F9 F8 N8 KX T Z1 Z2 Nd
        obtain ⟨cj, _ | nj⟩ := j
        · obtain rfl : rest = [] := hjr
          change h10.get? a = some (tupOf [.int cj t0]) at hja
          have hn : ¬ (([65, 66].any fun x => x == cj) = true) := fun q => hoj (any56 q) rfl
          k_steps
          refine unhold ?_
          refine newTup_c F3 N3 (fun F4 N4 => ?_)
          clear N3 F3 hK
          k_steps
          refine unhold ?_
          exact ⟨hF _ (by rw [constF, if_neg (fun q => hn (any56r q))]; rfl), _, _, rfl, fun b o e => Heap.get?_push_of_some _ e⟩
        · obtain ⟨uj, rfl⟩ := hjr
          change h10.get? a = some (tupOf [.int cj t0, .int nj uj]) at hja
          k_steps
          refine unhold ?_
          refine newTup_c F3 N3 (fun F4 N4 => ?_)
          clear N3 F3 hK
          k_steps
          · refine unhold ?_
            exact ⟨hF _ (by rw [constF, if_pos (any56 (by assumption))]; exact ⟨_, rfl⟩), _, _, rfl, fun b o e => Heap.get?_push_of_some _ e⟩
          · refine unhold ?_
            exact ⟨hF _ (by rw [constF, if_neg (any56n (by assumption))]; rfl), _, _, rfl, fun b o e => Heap.get?_push_of_some _ e⟩
      · intro D h'' tk'' ys n9 hx hD hd hp
        dsimp only at hx hD
        rw [List.filter_eq_self.mpr (fun _ _ => rfl)] at hp
        have hopt := near_all Z1.2.2 Z2.2.2 htk hp
        obtain ⟨p, r0, r1, rfl, o0, o1⟩ := last_opts hopt
        have hyl : (p ++ [r0, r1]).length ≤ 100 := by
          have := paired_len hp
          simp at this ⊢
          lia
        have F10 := frExt F9 hx
        have N10 := news_cons hd (new_ne F9 hD) (fresh_back F9.keep hD) (newsExt (newsTail (newsTail (newsTail (newsTail (newsTail N9))))) hx)
        clear F9 N9 F8 N8 Z1 Z2 Nd l9 hx hD hd hp hopt
        have hS : Hold (0 < 3) := Nat.zero_lt_succ 2
        (try dsimp only)
        k_steps
        refine unhold ?_
        with_reducible rename News _ _ _ _ => N11
        with_reducible rename Fr _ _ _ _ => F11
        rw [pickLast2] at N11
        clear hS
        rcases hop with ⟨hu, h1⟩ | ⟨hb, h1⟩
        · rw [h1] at o1
          obtain rfl : r1 = .none := o1
          k_steps
          with_reducible rename News _ _ _ _ => N9
          with_reducible rename Fr _ _ _ _ => F9
          exact turn3 F9 (newsEnd N9 (by intro q hq; first | exact hq | (refine .tail _ ?_; first | exact hq | (refine .tail _ ?_; first | exact hq | (refine .tail _ ?_; first | exact hq | (refine .tail _ ?_; first | exact hq | exact .tail _ hq)))))) ⟨rfl, rfl, rfl⟩
        · have hone : ¬ isOneF c = true := by rw [bi_one hb]; decide
          have hone2 : isOneF c = false := bi_one hb
          have tb := takes_b c
          have tb0 : 0 < takesF c := by lia
          have tb1 : takesF c ≤ 64 := by lia
          cases ey : (stA (none, none) (List.take i is)).2 with
          | none =>
            rw [ey] at o1
            obtain rfl : r1 = .none := o1
            k_steps
            with_reducible rename News _ _ _ _ => N9
            with_reducible rename Fr _ _ _ _ => F9
            exact turn3 F9 (newsEnd N9 (by intro q hq; first | exact hq | (refine .tail _ ?_; first | exact hq | (refine .tail _ ?_; first | exact hq | (refine .tail _ ?_; first | exact hq | (refine .tail _ ?_; first | exact hq | exact .tail _ hq)))))) ⟨rfl, rfl, rfl⟩
          | some y =>
            rw [ey] at o1
            obtain ⟨ty, rfl⟩ : ∃ ty, r1 = .int y ty := o1
            obtain ⟨hneu, hxs⟩ := h1 y ey
            have hr0 : r0 = .none ∨ ∃ x tx, r0 = .int x tx ∧ r2F c (x % 2 ^ (takesF c).toNat) (y % 2 ^ (takesF c).toNat) = none := by
              cases ex : (stA (none, none) (List.take i is)).1 with
              | none => rw [ex] at o0; exact .inl o0
              | some x => rw [ex] at o0; obtain ⟨tx, e⟩ := o0; exact .inr ⟨x, tx, e, hxs x ex⟩
            clear h1 hxs o0
            have hI : Hold (0 < 1) := Nat.zero_lt_one
            have hK4 : Hold (0 < 5) := Nat.zero_lt_succ 4
            k_steps
            refine unhold ?_
            refine mono_F (F := opA (takesF c)) ?_ ?_
            · clear hI
              k_steps
              · exact unhold ⟨_, _, by rw [opA, if_pos (by assumption)], rfl⟩
              · exact unhold ⟨_, _, by rw [opA, if_neg (by assumption)], rfl⟩
            intro t8 tk8
            clear hI
            k_steps
            refine unhold ?_
            obtain ⟨kvs, hdk, hvk⟩ := hD
            with_reducible rename News _ _ _ _ => N12
            refine in_lit N12 (by k_mem) lo hdk ?_
            clear hK4
            have hnf : ∀ x, 90 < c → neuP (c - opA (takesF c)) = some x → neutralF c = some x := fun x h9 h => neu_of hb h9 rfl h
            cases en : neuP (c - opA (takesF c)) with
            | none =>
              rw [show (valueAt kvs (c - opA (takesF c))).isSome = false by rw [(hvk (c - opA (takesF c))).1 en]; rfl]
              rcases hr0 with rfl | ⟨x, tx, rfl, hx0⟩
              · k_steps
                with_reducible rename News _ _ _ _ => N9
                with_reducible rename Fr _ _ _ _ => F9
                exact turn3 F9 (newsEnd N9 (by intro q hq; first | exact hq | (refine .tail _ ?_; first | exact hq | (refine .tail _ ?_; first | exact hq | (refine .tail _ ?_; first | exact hq | (refine .tail _ ?_; first | exact hq | exact .tail _ hq)))))) ⟨rfl, rfl, rfl⟩
              · k_steps
                refine unhold ?_
                with_reducible rename News _ _ _ _ => N13
                with_reducible rename Fr _ _ _ _ => F13
                refine use (two_c w c _ _ _ _ _ hb (modr x).1 (modr x).2 (modr y).1 (modr y).2) F13 N13 KX T (Room.down hR (by decide) rfl rfl) ?_
                intro v7 h7 tk7 F14 N14 _ r7
                rw [hx0] at r7
                obtain rfl : v7 = .none := r7
                clear F13 N13
                (try dsimp only)
                k_steps
                with_reducible rename News _ _ _ _ => N9
                with_reducible rename Fr _ _ _ _ => F9
                exact turn3 F9 (newsEnd N9 (by intro q hq; first | exact hq | (refine .tail _ ?_; first | exact hq | (refine .tail _ ?_; first | exact hq | (refine .tail _ ?_; first | exact hq | (refine .tail _ ?_; first | exact hq | exact .tail _ hq)))))) ⟨rfl, rfl, rfl⟩
            | some xn =>
              obtain ⟨tn, hvn⟩ := (hvk (c - opA (takesF c))).2 xn en
              rw [show (valueAt kvs (c - opA (takesF c))).isSome = true by rw [hvn]; rfl]
              by_cases h90 : 90 < c
              · have hxy : ¬ xn = y := fun q => hneu (by rw [← q]; exact hnf _ h90 en)
                k_steps
                refine unhold ?_
                with_reducible rename News _ _ _ _ => N15
                refine item_lit2 N15 (by k_mem) hdk hvn ?_
                rcases hr0 with rfl | ⟨x, tx, rfl, hx0⟩
                · k_steps
                  with_reducible rename News _ _ _ _ => N9
                  with_reducible rename Fr _ _ _ _ => F9
                  exact turn3 F9 (newsEnd N9 (by intro q hq; first | exact hq | (refine .tail _ ?_; first | exact hq | (refine .tail _ ?_; first | exact hq | (refine .tail _ ?_; first | exact hq | (refine .tail _ ?_; first | exact hq | exact .tail _ hq)))))) ⟨rfl, rfl, rfl⟩
                · k_steps
                  refine unhold ?_
                  with_reducible rename News _ _ _ _ => N13
                  with_reducible rename Fr _ _ _ _ => F13
                  refine use (two_c w c _ _ _ _ _ hb (modr x).1 (modr x).2 (modr y).1 (modr y).2) F13 N13 KX T (Room.down hR (by decide) rfl rfl) ?_
                  intro v7 h7 tk7 F14 N14 _ r7
                  rw [hx0] at r7
                  obtain rfl : v7 = .none := r7
                  clear F13 N13
                  (try dsimp only)
                  k_steps
                  with_reducible rename News _ _ _ _ => N9
                  with_reducible rename Fr _ _ _ _ => F9
                  exact turn3 F9 (newsEnd N9 (by intro q hq; first | exact hq | (refine .tail _ ?_; first | exact hq | (refine .tail _ ?_; first | exact hq | (refine .tail _ ?_; first | exact hq | (refine .tail _ ?_; first | exact hq | exact .tail _ hq)))))) ⟨rfl, rfl, rfl⟩
              · have h90b : ¬ c > 90 := h90
                rcases hr0 with rfl | ⟨x, tx, rfl, hx0⟩
                · k_steps
                  with_reducible rename News _ _ _ _ => N9
                  with_reducible rename Fr _ _ _ _ => F9
                  exact turn3 F9 (newsEnd N9 (by intro q hq; first | exact hq | (refine .tail _ ?_; first | exact hq | (refine .tail _ ?_; first | exact hq | (refine .tail _ ?_; first | exact hq | (refine .tail _ ?_; first | exact hq | exact .tail _ hq)))))) ⟨rfl, rfl, rfl⟩
                · k_steps
                  refine unhold ?_
                  with_reducible rename News _ _ _ _ => N13
                  with_reducible rename Fr _ _ _ _ => F13
                  refine use (two_c w c _ _ _ _ _ hb (modr x).1 (modr x).2 (modr y).1 (modr y).2) F13 N13 KX T (Room.down hR (by decide) rfl rfl) ?_
                  intro v7 h7 tk7 F14 N14 _ r7
                  rw [hx0] at r7
                  obtain rfl : v7 = .none := r7
                  clear F13 N13
                  (try dsimp only)
                  k_steps
                  with_reducible rename News _ _ _ _ => N9
                  with_reducible rename Fr _ _ _ _ => F9
                  exact turn3 F9 (newsEnd N9 (by intro q hq; first | exact hq | (refine .tail _ ?_; first | exact hq | (refine .tail _ ?_; first | exact hq | (refine .tail _ ?_; first | exact hq | (refine .tail _ ?_; first | exact hq | exact .tail _ hq)))))) ⟨rfl, rfl, rfl⟩
  · intro h5 tk5 m5 news5 F5 N5 _ _
    (try dsimp only)
    clear F3 N3 F2 N2 S
    k_steps
    k_steps
    exact leaveC_ret (hret _ _ _ (Fr.keep (by k_asm)) rfl)
end

section
open Kunsigned_c
open Ksigned_c
open Kleast_c
open Kwidened_c
open Keqz_c
open Kadd_c
open Ksub_c
open Kmul_c
open Ktn_c
open Kand_c
open Kor_c
open Kxor_c
open Kshl_c
open Kshrs_c
open Kshru_c
open Krotl_c
open Krotr_c
open Keq_c
open Kne_c
open Kltu_c
open Klts_c
open Kgts_c
open Kles_c
open Kges_c
open Kgtu_c
open Kleu_c
open Kgeu_c
open Kltakes_c
open Klisone_c
open Klsigned_c
open Klplain_c
open Kplace_c
open Knarrow_c
open Kisun_c
open Kisbi_c
open Kneutral_c
open Kwidths_c
open Kclz_c
open Kctz_c
open Kpop_c
open Kdivu_c
open Kremu_c
open Kdivs_c
open Krems_c
open Kreckon1_c
section
variable {w : World} {A : Around} {E : Value → Shared → Prop} {env : Env} {s : Shared} {Q : Flow → Shared → Prop}
structure RngSpec (prog : Program) (w : World) (A : Around) (E : Value → Shared → Prop) (env : Env) (x : Str) (body : List Stmt) (Q : Flow → Shared → Prop) (L : Addr) (n : Nat) (s : Shared) (J : LInv) : Prop where
  turn : ∀ i t I oI g m news h tk, i < n → J i g m news → Fr g L h (fun y => if y = x then some (.int (i : Int) t) else m y) → News g L h ((I, oI) :: news) → (∀ p ∈ news, p.1 ≠ I) →
    wpAny (model prog w) A (execs body env) (TurnOut s L J Q I oI (i + 1)) E { s with heap := h, toks := tk }
  done : ∀ g m news h tk, J n g m news → Fr g L h m → News g L h news → Q .next { s with heap := h, toks := tk }
inductive RngStart (prog : Program) (w : World) (A : Around) (E : Value → Shared → Prop) (env : Env) (x : Str) (body : List Stmt) (Q : Flow → Shared → Prop) (L : Addr) (n : Nat) (xv : Value) (s₁ : Shared) : Prop
  | mk : ∀ (ax : Addr) (t u v : Tok) (g : Heap) (m : Str → Option Value) (news : List (Addr × Obj)) (J : LInv), xv = .ref ax → IsRange s₁.heap ax 0 (n : Int) 1 t u v → Builtin.Range.small 0 (n : Int) 1 = true → Builtin.Range.rangeSize 0 (n : Int) 1 = (n : Int) → Fr g L s₁.heap m → News g L s₁.heap news → J 0 g m news → RngSpec prog w A E env x body Q L n s₁ J → RngStart prog w A E env x body Q L n xv s₁
inductive RngJ (s₁ : Shared) (I L : Addr) (J : LInv) (n k : Nat) (s' : Shared) : Prop
  | mk : ∀ (h' : Heap) (tk : Nat) (g : Heap) (m : Str → Option Value) (news : List (Addr × Obj)) (i : Nat), s' = { s₁ with heap := h', toks := tk } → IsRangeIter h' I (0 + (i : Nat) * 1) ((n : Int) - (i : Nat)) 1 → Fr g L h' m → News g L h' news → (∀ p ∈ news, p.1 ≠ I) → g.get? I = none → J i g m news → i ≤ n → k = n + 1 - i → RngJ s₁ I L J n k s'
theorem For_rng {prog : Program} {iter : Expr} {x : Str} {px pos : Pos} {body : List Stmt} {L : Addr} (n : Nat) (hh : A.handled = none) (hL : env.locals = L) (hx : env.kindOf x = some .local)
    (hp : (env.scope.kind == .class || (env.scope.kind == .module && env.locals != env.globals)) = false)
    (h : wpAny (model prog w) A (eval iter env) (fun xv s₁ => Hold (RngStart prog w A E env x body Q L n xv s₁)) E s)
    (hs : ∀ x, foldedSetIterable iter env x = pure x := by intro _; rfl) (hE : PassesOwn (model prog w) A env E := by passes_own) :
    wpAny (model prog w) A (exec (.For (.Name x px) iter body [] pos) env) Q E s := by
  subst hL
  refine wpAny_For (wpAny_mono h (fun xv s₁ h₁ => ?_) fun _ _ e => e) hs
  obtain ⟨ax, t, u, v, g, m, news, J, rfl, hr, hsm, hn, F, N, h0, S⟩ := h₁
  refine wpAny_pyIter_range hr hsm ?_
  have W := Walks.range (prog := prog) (w := w) hh s₁.heap.objs.size 0 1 n
  have hpush : (s₁.heap.push { cls := .type "range_iterator", data := .fields #[rawInt 0, rawInt (Builtin.Range.rangeSize 0 (n : Int) 1), rawInt 1] }).get? s₁.heap.objs.size = some { cls := .type "range_iterator", data := .fields #[rawInt 0, rawInt (Builtin.Range.rangeSize 0 (n : Int) 1), rawInt 1] } := Heap.get?_push_size _ rfl
  have lt : env.locals < s₁.heap.objs.size := F.ns.lt
  generalize hI : s₁.heap.objs.size = I at *
  have hLI : env.locals ≠ I := fun z => absurd lt (by rw [z]; exact Nat.lt_irrefl _)
  refine codeAny_forLoop
    (RngJ s₁ I env.locals J n) ?_ (n + 1)
    ⟨_, s₁.toks, g, m, news, 0, rfl, (by show IsRangeIter _ _ _ _ _; rw [hn] at hpush ⊢; simpa using hpush), F.push _, (fun p hp => ⟨Heap.get?_push_of_some _ (N p hp).1, (N p hp).2⟩), (fun p hp z => by have := Heap.lt_size (N p hp).1; rw [z, hI] at this; exact Nat.lt_irrefl _ this), (by
      cases e : g.get? I with
      | none => rfl
      | some o => have := Heap.lt_size (F.keep _ _ e); rw [hI] at this; exact absurd this (Nat.lt_irrefl _)), h0, Nat.zero_le _, rfl⟩
  rintro k s' ⟨h', tk, g', m', news', i, rfl, hit, F', N', ne', gI, hJ, hi, rfl⟩
  by_cases hlt : i < n
  · refine W.item i _ _ _ hlt hit fun v h₁ tk₁ hP hst₁ hk₁ => ?_
    obtain ⟨ti, rfl⟩ := hP
    have F₁ : Fr g' env.locals h₁ m' := ⟨F'.ns.at' fun o e => hk₁ _ o (by simpa using hLI) e, fun b o e => hk₁ b o (fun z => by rw [List.mem_singleton.mp z, gI] at e; cases e) (F'.keep b o e), F'.above⟩
    have N₁ : News g' env.locals h₁ news' := fun p hp => ⟨hk₁ _ _ (by simpa using ne' p hp) (N' p hp).1, (N' p hp).2⟩
    rw [show (0 : Int) + (i : Int) * 1 = (i : Int) by lia]
    obtain ⟨oI, eI⟩ : ∃ o : Obj, h₁.get? I = some o := ⟨_, hst₁⟩
    have eO := Option.some.inj (eI.symm.trans hst₁)
    refine wpAny_assign_Name (wpAny_storeName_local hx F₁.ns (fun h₂ hn₂ hs₂ => ?_) hp)
    have F₂ := F₁.set hn₂ hs₂
    have NI : News g' env.locals h₂ ((I, oI) :: news') := fun p hp => by
      rcases List.mem_cons.mp hp with rfl | hp
      · exact ⟨(hs₂.2 _ (Ne.symm hLI)).trans eI, Ne.symm hLI, gI⟩
      · exact N₁.set hs₂ p hp
    refine wpAny_mono (S.turn i ti I oI g' m' news' h₂ _ hlt hJ F₂ NI ne') (fun f s₃ h₃ => ?_) hE
    have fin : TurnNext s₁ env.locals J I oI (i + 1) s₃ → ∃ m_1, m_1 < n + 1 - i ∧ RngJ s₁ I env.locals J n m_1 s₃ := by
      rintro ⟨g3, m3, news3, h3, tk3, rfl, F3, N3, ne3, J3⟩
      have P3 := N3 _ (.head _)
      exact ⟨n + 1 - (i + 1), by lia, h3, tk3, g3, m3, news3, i + 1, rfl, P3.1.trans (congrArg some eO), F3, (fun p hp => N3 p (.tail _ hp)), ne3, P3.2.2, J3, hlt, rfl⟩
    cases f with
    | ret v => exact h₃
    | brk => exact h₃.elim
    | next => exact fin h₃
    | cont => exact fin h₃
  · have hin : i = n := by lia
    subst hin
    refine W.done _ _ _ hit fun h₁ tk₁ hk₁ => wpAny_execs_nil ?_
    have F₁ : Fr g' env.locals h₁ m' := ⟨F'.ns.at' fun o e => hk₁ _ o (by simpa using hLI) e, fun b o e => hk₁ b o (fun z => by rw [List.mem_singleton.mp z, gI] at e; cases e) (F'.keep b o e), F'.above⟩
    have N₁ : News g' env.locals h₁ news' := fun p hp => ⟨hk₁ _ _ (by simpa using ne' p hp) (N' p hp).1, (N' p hp).2⟩
    exact S.done g' m' news' h₁ _ hJ F₁ N₁
end
theorem Tr.flat_len : ∀ (T : Tr), T.flat.length + 1 ≤ 2 ^ (T.depth + 1)
  | .con _ _ => by show 1 + 1 ≤ 2 ^ (0 + 1); decide
  | .loc _ => by show 1 + 1 ≤ 2 ^ (0 + 1); decide
  | .un b c t => by
    have h := t.flat_len
    simp only [Tr.flat, Tr.depth, List.length_append, List.length_singleton]
    have h0 : 2 ^ (t.depth + 1 + 1) = 2 ^ (t.depth + 1) * 2 := Nat.pow_succ ..
    have h1 : 0 < 2 ^ (t.depth + 1) := Nat.pow_pos (by decide)
    have h2 : 0 < t.flat.length := List.length_pos_iff.mpr t.flat_ne
    lia
  | .bin b c t u => by
    have h := t.flat_len
    have h' := u.flat_len
    simp only [Tr.flat, Tr.depth, List.length_append, List.length_singleton]
    have m1 : 2 ^ (t.depth + 1) ≤ 2 ^ (max t.depth u.depth + 1) := Nat.pow_le_pow_right (by decide) (by lia)
    have m2 : 2 ^ (u.depth + 1) ≤ 2 ^ (max t.depth u.depth + 1) := Nat.pow_le_pow_right (by decide) (by lia)
    have h0 : 2 ^ (max t.depth u.depth + 1 + 1) = 2 ^ (max t.depth u.depth + 1) * 2 := Nat.pow_succ ..
    lia
theorem Tr.flat31 {T : Tr} (h : T.depth ≤ 4) : T.flat.length ≤ 31 := by
  have h1 := T.flat_len
  have h2 : 2 ^ (T.depth + 1) ≤ 2 ^ 5 := Nat.pow_le_pow_right (by decide) (by lia)
  lia
theorem Tr.flat_ok : ∀ {T : Tr}, T.wf → ∀ i ∈ T.flat, OkIns i
  | .con b n, h, i, hi => by
    rw [List.mem_singleton.mp hi]
    refine ⟨(fun _ q => nomatch q), ?_⟩
    rcases h.1 with rfl | rfl
    · exact .inr (.inr (.inl rfl))
    · exact .inr (.inr (.inr (.inl rfl)))
  | .loc b, h, i, hi => by
    rw [List.mem_singleton.mp hi]
    exact ⟨fun _ q => (nomatch q), .inr (.inr (.inr (.inr rfl)))⟩
  | .un b c t, h, i, hi => by
    rcases List.mem_append.mp hi with hi | hi
    · exact Tr.flat_ok h.2.2.2 i hi
    · rw [List.mem_singleton.mp hi]
      have := un_rng h.1
      exact ⟨fun q => by exfalso; dsimp only [opI] at q; lia, .inl h.1⟩
  | .bin b c t u, h, i, hi => by
    rcases List.mem_append.mp hi with hi | hi
    · rcases List.mem_append.mp hi with hi | hi
      · exact Tr.flat_ok h.2.2.2.2.1 i hi
      · exact Tr.flat_ok h.2.2.2.2.2 i hi
    · rw [List.mem_singleton.mp hi]
      have := bi_rng h.1
      exact ⟨fun q => by exfalso; dsimp only [opI] at q; lia, .inr (.inl h.1)⟩
theorem Tr.fold_sf {T : Tr} (h : T.wf) : foldN [] T.flat = T.sf := by
  have e := Tr.fold num h [] []
  rw [List.append_nil, List.nil_append] at e
  exact e.trans (by unfold foldN; rfl)
theorem Tr.run_sf {T : Tr} (h : T.wf) {p0 p1 : Int} (h0 : 0 ≤ p0 ∧ p0 < 2 ^ 32) (h1 : 0 ≤ p1 ∧ p1 < 2 ^ 64) : RunTo p0 p1 (T.sf ++ [⟨11, none⟩]) [] (T.worth p0 p1) :=
  Tr.run num h0 h1 h (fun e => e) (fun v e => by rw [e]; exact .fin .done)
theorem Tr.chk_sf {T : Tr} (h : T.wf) : chkL none none T.sf := (Tr.chk num h).1
theorem Tr.bare_sf {T : Tr} (h : T.wf) {p0 p1 v : Int} (hb : T.bare = true) (hv : T.worth p0 p1 = some v) : T.sf = [constI T.bits v] :=
  Tr.sf_cv h ((Tr.cv_bare (p0 := p0) (p1 := p1) hb).trans hv)
/-- the first tree of the law -/
abbrev T0 : Tr := .bin 32 110 (.con 32 (-1)) (.con 32 2)
theorem T0_ok : T0.wf ∧ T0.ok ∧ T0.depth ≤ 4 := by
  refine ⟨⟨by decide, by decide, rfl, rfl, ⟨.inl rfl, by decide, by decide⟩, ⟨.inl rfl, by decide, by decide⟩⟩, ⟨by decide, trivial, trivial⟩, by decide⟩
abbrev TrsBy (K : Addr → Obj → Prop) : List Value → List Tr → Prop := RL (TrBy K)
theorem TrsBy.mono {K K' : Addr → Obj → Prop} (e : ∀ a o, K a o → K' a o) {vs : List Value} {ts : List Tr} (h : TrsBy K vs ts) : TrsBy K' vs ts := RL.mono (fun _ _ p => p.mono e) h
theorem TrsBy.snoc {K : Addr → Obj → Prop} {a : Addr} {T : Tr} (p : TrBy K a T) {vs : List Value} {ts : List Tr} (h : TrsBy K vs ts) : TrsBy K (vs ++ [.ref a]) (ts ++ [T]) := RL.append h (.cons p .nil)
theorem TrsBy.get {K : Addr → Obj → Prop} {vs : List Value} {ts : List Tr} {i : Nat} {v : Value} (h : TrsBy K vs ts) (e : vs[i]? = some v) : ∃ a T, v = .ref a ∧ T ∈ ts ∧ TrBy K a T :=
  let ⟨a, T, e1, e2, p⟩ := RL.get h e; ⟨a, T, e1, List.mem_of_getElem? e2, p⟩
theorem TrBy.top {K : Addr → Obj → Prop} : ∀ {T : Tr} {a : Addr}, TrBy K a T → ∃ u v p, K a (tupOf [.int T.bits u, .int T.code v, .ref p])
  | .con _ _, _, ⟨u, v, p, u', k, h1, h2⟩ => ⟨u, v, p, h1⟩
  | .loc _, _, ⟨u, v, p, k, h1, h2⟩ => ⟨u, v, p, h1⟩
  | .un _ _ t, _, ⟨u, v, p, q, k, h1, h2, h3⟩ => ⟨u, v, p, h1⟩
  | .bin _ _ t t', _, ⟨u, v, p, q, q', k, h1, h2, h3, h4⟩ => ⟨u, v, p, h1⟩
theorem ne_told {w : World} {A : Around} {E : Value → Shared → Prop} {s : Shared} {a b d1 d2 e1 e2 : Addr} {n1 n2 : Nat} {c x : Int} {t1 t2 t3 u1 u2 u3 : Tok} {Q : Value → Shared → Prop}
    (h1 : s.heap.get? a = some (PySem.W.listOf [Value.ref d1, Value.ref d2].toArray n1)) (h2 : s.heap.get? d1 = some (tupOf [.int c t1, .int x t2])) (h3 : s.heap.get? d2 = some (tupOf [.int 11 t3]))
    (g1 : s.heap.get? b = some (PySem.W.listOf [Value.ref e1, Value.ref e2].toArray n2)) (g2 : s.heap.get? e1 = some (tupOf [.int c u1, .int x u2])) (g3 : s.heap.get? e2 = some (tupOf [.int 11 u3]))
    (hu : A.units + 64 < cLine) (h : Q (.bool false) s) : wpAny (model PR w) A (compareOp .NotEq (.ref a) (.ref b)) Q E s := by
  refine ne_dataH (da := .list [.tuple [.int c, .int x], .tuple [.int 11]]) (db := .list [.tuple [.int c, .int x], .tuple [.int 11]])
    (reads_list_at h1 rfl rfl (.cons (reads_tuple_at h2 rfl rfl (.cons (.int _ _) (.cons (.int _ _) .nil))) (.cons (reads_tuple_at h3 rfl rfl (.cons (.int _ _) .nil)) .nil)))
    (reads_list_at g1 rfl rfl (.cons (reads_tuple_at g2 rfl rfl (.cons (.int _ _) (.cons (.int _ _) .nil))) (.cons (reads_tuple_at g3 rfl rfl (.cons (.int _ _) .nil)) .nil))) rfl rfl hu ?_
  have e : PyData.eqv (.list [.tuple [.int c, .int x], .tuple [.int 11]]) (.list [.tuple [.int c, .int x], .tuple [.int 11]]) = true := by
    simp [PyData.eqv, PyData.eqvAll]
  rw [e]
  exact h
theorem units64 {dp un n : Nat} {fr : Option (List Env)} {gd : Option (List Code)} {env : Env} (hR : Room dp un n) (hn : 9 < n) : ((AR dp un fr gd).deeper env).units + 64 < cLine := by
  have := hR.u
  show un + 3 + 64 < 9900
  lia
end

section
open Kunsigned_c
open Ksigned_c
open Kleast_c
open Kwidened_c
open Keqz_c
open Kadd_c
open Ksub_c
open Kmul_c
open Ktn_c
open Kand_c
open Kor_c
open Kxor_c
open Kshl_c
open Kshrs_c
open Kshru_c
open Krotl_c
open Krotr_c
open Keq_c
open Kne_c
open Kltu_c
open Klts_c
open Kgts_c
open Kles_c
open Kges_c
open Kgtu_c
open Kleu_c
open Kgeu_c
open Kltakes_c
open Klisone_c
open Klsigned_c
open Klplain_c
open Kplace_c
open Knarrow_c
open Kisun_c
open Kisbi_c
open Kneutral_c
open Kwidths_c
open Kclz_c
open Kctz_c
open Kpop_c
open Kdivu_c
open Kremu_c
open Kdivs_c
open Krems_c
open Kreckon1_c
open S1
open S3
open S4
open S5
open S6
open S7
open S8
open H379
open S9
open S0
open S11
open S17
open H485
open H532
open H539
open H390
open H478
open H404
open H544
open H556
open H568
open H549
open S18
open G5
theorem intVs_of : ∀ {vs : List Value} {ns : List Int}, IntsAre vs ns → IntVs vs
  | _, _, .nil => fun _ h => nomatch h
  | _, _, .cons x u r => fun v h => by
    rcases List.mem_cons.mp h with rfl | h
    · exact ⟨x, u, rfl⟩
    · exact intVs_of r v h
theorem news_rot3 {g h : Heap} {L : Addr} {a b c d : Addr × Obj} {l : List (Addr × Obj)} (N : News g L h (a :: b :: c :: d :: l)) : News g L h (d :: a :: b :: c :: l) := fun p hp => by
  rcases List.mem_cons.mp hp with rfl | hp
  · exact N _ (.tail _ (.tail _ (.tail _ (.head _))))
  · rcases List.mem_cons.mp hp with rfl | hp
    · exact N _ (.head _)
    · rcases List.mem_cons.mp hp with rfl | hp
      · exact N _ (.tail _ (.head _))
      · rcases List.mem_cons.mp hp with rfl | hp
        · exact N _ (.tail _ (.tail _ (.head _)))
        · exact N _ (.tail _ (.tail _ (.tail _ (.tail _ hp))))
theorem item_pick {w : World} {A : Around} {E : Value → Shared → Prop} {s : Shared} {h₀ : Heap} {L a : Addr} {news : List (Addr × Obj)} {value slice : Expr} {n : Nat} {k : Int} {u t0 t1 : Tok} {Q : Value → Shared → Prop} (N : News h₀ L s.heap news) (ht : (a, PySem.W.listOf [Value.int 32 t0, Value.int 64 t1].toArray n) ∈ news)
    (hk : k = 0 ∨ k = 1) (h : ∀ b v, (b = 32 ∨ b = 64) → Q (.int b v) s)
    (hs : ∀ k u, subscripted slice false (.ref a) (.int k u) = operate [.ref a, .int k u] (getItem (.ref a) (.int k u)) := by intro _ _; with_unfolding_all rfl) :
    wpAny (model PR w) A (subscriptTail value slice (.ref a) (.int k u)) Q E s := by
  rcases hk with rfl | rfl
  · exact item_at N ht (by decide) (by decide) rfl (h 32 t0 (.inl rfl)) (hs _ _)
  · exact item_at N ht (by decide) (by decide) rfl (h 64 t1 (.inr rfl)) (hs _ _)
theorem hideAll_nil' {h : Heap} : hideAll h [] = h := rfl
theorem stk_nil {h : Heap} : Stk h [] [] := ⟨(fun _ q => nomatch q), rfl, (fun _ q => nomatch q)⟩
def RngP (p0 p1 : Int) : Prop := (0 ≤ p0 ∧ p0 < 2 ^ 32) ∧ (0 ≤ p1 ∧ p1 < 2 ^ 64)
theorem kh_one {g h : Heap} {L : Addr} {m : Str → Option Value} {tl : List (Addr × Obj)} (F : Fr g L h m) {b : Addr} {o : Obj} (k : KH h tl b o) : ∃ tt, (∀ p ∈ tt, h.get? p.1 = some p.2 ∧ @Ne Nat p.1 L ∧ g.get? p.1 = none) ∧ KG g [] (tl ++ tt) b o := by
  rcases k with ⟨k, l, rfl⟩ | k
  · cases e : g.get? b with
    | some o' =>
      have e' := F.keep b o' e
      rw [k] at e'
      cases e'
      exact ⟨[], (fun _ q => nomatch q), .inl e⟩
    | none =>
      have nb : @Ne Nat b L := fun z => by
        obtain ⟨oL, es, ep, hL, hLd, _⟩ := F.ns
        rw [show b = L from z, hL] at k
        have e2 := congrArg Obj.data (Option.some.inj k)
        rw [hLd] at e2
        cases e2
      exact ⟨[(b, tupOf l)], (fun p hp => by rw [List.mem_singleton.mp hp]; exact ⟨k, nb, e⟩), .inr (List.mem_append_right _ (.head _))⟩
  · exact ⟨[], (fun _ q => nomatch q), .inr (List.mem_append_left _ k)⟩
theorem KG.mem {g : Heap} {l l' : List (Addr × Obj)} (s : ∀ p ∈ l, p ∈ l') : ∀ a o, KG g [] l a o → KG g [] l' a o := fun a o q => q.elim .inl fun q => .inr (s _ q)
theorem pieces_keep {g h : Heap} {L : Addr} {m : Str → Option Value} {tl : List (Addr × Obj)} (F : Fr g L h m) : ∀ {vs : List Value} {is : List Ins}, PiecesBy (KH h tl) vs is → ∃ tt, (∀ p ∈ tt, h.get? p.1 = some p.2 ∧ @Ne Nat p.1 L ∧ g.get? p.1 = none) ∧ PiecesBy (KG g [] (tl ++ tt)) vs is
  | _, _, .nil => ⟨[], (fun _ q => nomatch q), .nil⟩
  | _, _, .cons p r => by
    obtain ⟨tt, h1, h2⟩ := pieces_keep F r
    obtain ⟨dx, c1, c2, c3, t1, t2, t3, a, n, t, rest, p1, p2, p3, p4⟩ := p
    obtain ⟨s1, k1, q1⟩ := kh_one F p1
    obtain ⟨s2, k2, q2⟩ := kh_one F p2
    obtain ⟨s3, k3, q3⟩ := kh_one F p3
    have mem : ∀ s : List (Addr × Obj), (∀ p ∈ s, p ∈ s1 ++ (s2 ++ (s3 ++ tt))) → ∀ p ∈ tl ++ s, p ∈ tl ++ (s1 ++ (s2 ++ (s3 ++ tt))) := fun s hs p hp => (List.mem_append.mp hp).elim (fun q => List.mem_append_left _ q) (fun q => List.mem_append_right _ (hs p q))
    refine ⟨s1 ++ (s2 ++ (s3 ++ tt)), fun p hp => ?_, .cons ⟨dx, c1, c2, c3, t1, t2, t3, a, n, t, rest, KG.mem (mem s1 fun p q => List.mem_append_left _ q) _ _ q1, KG.mem (mem s2 fun p q => List.mem_append_right _ (List.mem_append_left _ q)) _ _ q2, KG.mem (mem s3 fun p q => List.mem_append_right _ (List.mem_append_right _ (List.mem_append_left _ q))) _ _ q3, p4⟩ (h2.mono (KG.mem (mem tt fun p q => List.mem_append_right _ (List.mem_append_right _ (List.mem_append_right _ q)))))⟩
    rcases List.mem_append.mp hp with hp | hp
    · exact k1 p hp
    · rcases List.mem_append.mp hp with hp | hp
      · exact k2 p hp
      · rcases List.mem_append.mp hp with hp | hp
        · exact k3 p hp
        · exact h1 p hp
theorem ins_keep {g h : Heap} {L : Addr} {m : Str → Option Value} (F : Fr g L h m) : ∀ {vs : List Value} {is : List Ins}, InsList h vs is → ∃ tt, (∀ p ∈ tt, h.get? p.1 = some p.2 ∧ @Ne Nat p.1 L ∧ g.get? p.1 = none) ∧ InsBy (KG g [] tt) vs is
  | _, _, .nil => ⟨[], (fun _ q => nomatch q), .nil⟩
  | _, _, .cons p r => by
    obtain ⟨tt, h1, h2⟩ := ins_keep F r
    obtain ⟨t, rest, p1, p2⟩ := p
    obtain ⟨s1, k1, q1⟩ := kh_one (tl := []) F (.inl ⟨p1, _, rfl⟩)
    refine ⟨s1 ++ tt, fun p hp => (List.mem_append.mp hp).elim (k1 p) (h1 p), .cons ⟨_, _, KG.mem (fun p q => List.mem_append_left _ q) _ _ q1, p2⟩ (h2.mono (KG.mem fun p q => List.mem_append_right _ q))⟩
theorem ins_back {g h : Heap} {L : Addr} {m : Str → Option Value} {tt news : List (Addr × Obj)} {vs : List Value} {is : List Ins} (F : Fr g L h m) (N : News g L h news) (s : ∀ p ∈ tt, p ∈ news) (p : InsBy (KG g [] tt) vs is) : InsList h vs is :=
  (p.mono (K' := fun b o => h.get? b = some o) fun b o q => q.elim (F.keep b o) fun q => (N _ (s _ q)).1).at
theorem sub_in {p : Addr × Obj} {l l' : List (Addr × Obj)} (h : p ∈ l) (s : ∀ p ∈ l, p ∈ l') : p ∈ l' := s p h
theorem ne_int_same {w : World} {A : Around} {E : Value → Shared → Prop} {s : Shared} {a : Int} {t u : Tok} {Q : Value → Shared → Prop} (h : Q (.bool false) s) : wpAny (model PR w) A (compareOp .NotEq (.int a t) (.int a u)) Q E s :=
  ne_int (by rw [bne_self_eq_false]; exact h)
theorem news_cons2 {g h : Heap} {L : Addr} {q : Addr × Obj} {l : List (Addr × Obj)} (N : News g L h l) (hq : q ∈ l) : News g L h (q :: l) := fun p hp => by
  rcases List.mem_cons.mp hp with rfl | hp
  · exact N _ hq
  · exact N _ hp
theorem told_ws {K : Addr → Obj → Prop} {ws : List Value} {b z c : Int} (hc : (if b = 32 then 65 else 66) = c) (h : InsBy K ws ([constI b z] ++ [⟨11, none⟩])) : ∃ d1 d2 t1 t2 t3, ws = [.ref d1, .ref d2] ∧ K d1 (tupOf [.int c t1, .int (sg b z) t2]) ∧ K d2 (tupOf [.int 11 t3]) := by
  cases h with
  | cons p1 r => cases r with
    | cons p2 r => cases r with
      | nil =>
        obtain ⟨_, _, p1, q1⟩ := p1
        obtain ⟨_, _, p2, q2⟩ := p2
        obtain ⟨u, rfl⟩ := q1
        obtain rfl := (show _ = [] from q2)
        subst hc
        exact ⟨_, _, _, _, _, rfl, p1, p2⟩
theorem kg_at {g h : Heap} {L : Addr} {m : Str → Option Value} {tt news : List (Addr × Obj)} {b : Addr} {o : Obj} (F : Fr g L h m) (N : News g L h news) (s : ∀ p ∈ tt, p ∈ news) (k : KG g [] tt b o) : h.get? b = some o :=
  k.elim (F.keep b o) fun q => (N _ (s _ q)).1
open S19
theorem item_tupN {w : World} {A : Around} {E : Value → Shared → Prop} {s : Shared} {h₀ : Heap} {L a : Addr} {news : List (Addr × Obj)} {value slice : Expr} {l : List Value} {k : Int} {u : Tok} {v : Value} {Q : Value → Shared → Prop} (N : News h₀ L s.heap news) (ht : (a, tupOf l) ∈ news)
    (h0 : 0 ≤ k) (hk : k < 2 ^ 63) (hx : l[k.toNat]? = some v) (h : Q v s)
    (hs : subscripted slice false (.ref a) (.int k u) = operate [.ref a, .int k u] (getItem (.ref a) (.int k u)) := by with_unfolding_all rfl) :
    wpAny (model PR w) A (subscriptTail value slice (.ref a) (.int k u)) Q E s := by
  have hlt : k < l.length := by have := (List.getElem?_eq_some_iff.mp hx).1; lia
  exact item_tupleT (l := l) ⟨_, (N _ ht).1, rfl, _, rfl⟩ (by lia) hk (seqIdx h0 hlt) hx h hs
theorem post_true (args : List WData) : PySem.Challenge.rw_nm0145_01.row.claim.post args (.bool true) args = true := by
  refine postW_of (X := true) rfl ?_ rfl
  simp only [OpenLaw.row, WTm.value]
  first | rfl | (simp; done) | (simp [same]; done)
theorem room_top : ∃ dp un gd, callerA = AR dp un (some []) gd ∧ Room dp un 60 := ⟨_, _, _, rfl, ⟨by decide, by decide⟩⟩
inductive RgJ (g₀ : Heap) (tp TR P : Addr) (oP : Obj) (i : Nat) (g : Heap) (m : Str → Option Value) (news : List (Addr × Obj)) : Prop
  | mk : (g = g₀) → ∀ vs n avs k ts tz, (news = (TR, PySem.W.listOf avs.toArray k) :: (tp, PySem.W.listOf vs.toArray n) :: tz) → ((P, oP) ∈ tz) → (m (Str.ofString "tape") = some (.ref tp)) → (m (Str.ofString "trees") = some (.ref TR)) → (m (Str.ofString "places") = some (.ref P)) → (TR ≠ tp) → ((∀ p ∈ tz, p.1 ≠ TR)) → ((∀ p ∈ tz, p.1 ≠ tp)) → (IntVs vs) → (vs.length ≤ 100) → (TrsBy (InTl tz) avs ts) → ((∀ T ∈ ts, T.wf ∧ T.ok ∧ T.depth ≤ 4)) → (avs.length = i + 1) → RgJ g₀ tp TR P oP i g m news
inductive LwJ (w : World) (h₀ : Heap) (P : Addr) (nz : List (Addr × Obj)) (i : Nat) (g : Heap) (m : Str → Option Value) (news : List (Addr × Obj)) : Prop
  | mk : (Ext h₀ g) → (news = nz) → (m (Str.ofString "places") = some (.ref P)) → ((∃ mean mg mb, Gd w mean mg mb g)) → (Stk g [] []) → LwJ w h₀ P nz i g m news
theorem turnEnd {s : Shared} {w : World} {h₀ : Heap} {L P I : Addr} {oI : Obj} {nz tt : List (Addr × Obj)} {Q : Flow → Shared → Prop} {i : Nat} {g h : Heap} {m : Str → Option Value} {mean : ExcName → Option Value} {mg mb : Str → Option Value} {tk : Nat} (hE : Ext h₀ g) (F : Fr g L h m) (N : News g L h ((I, oI) :: (nz ++ tt))) (ne : ∀ p ∈ nz, p.1 ≠ I) (e : m (Str.ofString "places") = some (.ref P)) (G : Gd w mean mg mb g) (SK : Stk g [] []) :
    TurnOut s L (LwJ w h₀ P nz) Q I oI i .next { s with heap := h, toks := tk } :=
  TurnOut.next F (fun p hp => (List.mem_cons.mp hp).elim (fun q => by rw [q]; exact N _ (.head _)) (fun q => N _ (.tail _ (List.mem_append_left _ q)))) ne ⟨hE, rfl, e, ⟨_, _, _, G⟩, SK⟩
inductive LawStart (g : Heap) (L : Addr) (h : Heap) (vs2 : List Value) (n2 : Nat) : Prop
  | mk : ∀ (TR d3 l3 d2 l2 d1 l1 P tp : Addr) (a1 a2 a3 a4 a5 a6 a7 a8 u0 v0 : Tok) (p0 p1 : Int) (m5 : Str → Option Value), Fr g L h m5 → News g L h [(TR, PySem.W.listOf #[Value.ref d3] 0), (d3, tupOf [.int 32 a1, .int 110 a2, .ref l3]), (l3, PySem.W.listOf #[Value.ref d1, Value.ref d2] 0), (d2, tupOf [.int 32 a3, .int 0 a4, .ref l2]), (l2, PySem.W.listOf #[Value.int 2 a5] 0), (d1, tupOf [.int 32 a6, .int 0 a7, .ref l1]), (l1, PySem.W.listOf #[Value.int (-1) a8] 0), (P, PySem.W.listOf #[Value.int p0 u0, Value.int p1 v0] 0), (tp, PySem.W.listOf vs2.toArray n2)] → m5 (Str.ofString "tape") = some (.ref tp) → m5 (Str.ofString "trees") = some (.ref TR) → m5 (Str.ofString "places") = some (.ref P) → RngP p0 p1 → @Ne Nat TR tp → @Ne Nat d3 TR → @Ne Nat l3 TR → @Ne Nat d2 TR → @Ne Nat l2 TR → @Ne Nat d1 TR → @Ne Nat l1 TR → @Ne Nat P TR → @Ne Nat d3 tp → @Ne Nat l3 tp → @Ne Nat d2 tp → @Ne Nat l2 tp → @Ne Nat d1 tp → @Ne Nat l1 tp → @Ne Nat P tp → LawStart g L h vs2 n2
theorem nameAE {M : Model} {α : Type} {A : Around} {e : Sem α} {Q : α → Shared → Prop} {E : Value → Shared → Prop} {s : Shared} (h : let A' := A; let E' := E; wpAny M A' e Q E' s) : wpAny M A e Q E s := h
set_option maxHeartbeats 8000000 in
theorem law_holds : PySem.Challenge.rw_nm0145_01.Holds := by
  refine hda._proof_1_711 (fun said => hda._proof_1_710 said ?_)
  clear said
  k_fill
  intro w s₀ s₁ mg mb G0 Y fa o pm cd doc dV kV ho hd hcd hD hmg hg args vals as hpre hlay hrd hwl hlo
  have KX := kIn_of Y
  have X := (Ground.X G0).1
  have V := (Ground.X G0).2
  refine Ground.open G0 ?_
  intro T B D TE TW
  obtain ⟨_, _, M⟩ := bmod_of_top T
  have TA := at_of_top T
  try (obtain ⟨_, _, he, B0⟩ := based_of_top T rfl hmg ho hd; have he' : cd = _ := he; subst he'; clear he)
  clear hmg
  wrow_args hpre hlay hrd hwl hlo
  all_goals (
    first | refine callC_kw (enter_call ?_) | refine enter_call ?_ | refine callC_kw (enter_callW ?_) | refine enter_callW ?_ | w_how
    w_top on
    try refine codeAny_mono ?_ (fun _ _ g => GoodW.toG g)
    have K0 := below_caller (Top.heap T)
    w_call any ho hd hcd hD T F
    clear hd TA
    k_drop
    skip)
  all_goals (try k_fold)
  (with_reducible rename Heap.CodeRec _ _ _ => z); clear z
  (with_reducible rename Dflts _ _ _ _ _ _ => z); clear z
  (with_reducible rename Tables _ _ _ _ => z); clear z
  (with_reducible rename Shared => s1)
  (with_reducible rename World => w)
  (with_reducible rename ((hda.heap_1_39 _).In _) => KX)
  (with_reducible rename Below _ _ _ _ => z); clear z
  (with_reducible rename Top _ _ _ _ _ _ => T)
  (with_reducible rename Fr _ _ _ _ => F1)
  (with_reducible rename News _ _ _ _ => N1)
  (with_reducible rename IntsAre _ _ => hI)
  (with_reducible rename Heap.IsList _ _ _ => hL)
  (with_reducible rename (¬ _) => hlen)
  have G : Gd _ _ _ _ _ := ⟨KX, T⟩
  obtain ⟨dp, un, gd, eA, hR⟩ := room_top
  rw [eA]
  clear eA
  (try dsimp only)
  refine nameAE ?_
  intro A9 E9
  k_steps
  refine unhold ?_
  with_reducible rename News _ _ _ _ => N2
  with_reducible rename Fr _ _ _ _ => F2
  with_reducible rename IntsAre _ (List.reverse _) => hI2
  have hll := hI2.length
  rw [List.length_reverse] at hll
  refine useNext F2 N2 (fun _ q => nomatch q) G (Room.down hR (by decide) rfl rfl) (intVs_of hI2) (by lia) (fun h3 tk3 x1 u1 vs1 n1 F3 N3 hv1 hl1 => ?_)
  clear F2 N2 hI2
  (try dsimp only)
  k_steps
  refine unhold ?_
  with_reducible rename News _ _ _ _ => N2
  with_reducible rename Fr _ _ _ _ => F2
  refine useNext F2 N2 (fun _ q => nomatch q) G (Room.down hR (by decide) rfl rfl) hv1 hl1 (fun h4 tk4 x2 u2 vs2 n2 F4 N4 hv2 hl2 => ?_)
  clear F2 N2
  (try dsimp only)
  k_steps
  refine unhold ?_
  refine For_rng (L := s1.heap.objs.size) 3 rfl rfl rfl rfl ?_
  k_steps
  with_reducible rename News _ _ _ _ => N5
  with_reducible rename Fr _ _ _ _ => F5
  obtain ⟨TR, d3, l3, d2, l2, d1, l1, P, tp, a1, a2, a3, a4, a5, a6, a7, a8, u0, v0, p0, p1, m5, F6, N6, e1, e2, e3, h01, nTt, q1, q2, q3, q4, q5, q6, q7, r1, r2, r3, r4, r5, r6, r7⟩ : LawStart _ _ _ vs2 n2 :=
    ⟨_, _, _, _, _, _, _, _, _, _, _, _, _, _, _, _, _, _, _, _, _, _, F5, N5, rfl, rfl, rfl, ⟨⟨Int.emod_nonneg _ (by decide), Int.emod_lt_of_pos _ (by decide)⟩, ⟨Int.emod_nonneg _ (by decide), Int.emod_lt_of_pos _ (by decide)⟩⟩,
      by k_ne, by k_ne, by k_ne, by k_ne, by k_ne, by k_ne, by k_ne, by k_ne, by k_ne, by k_ne, by k_ne, by k_ne, by k_ne, by k_ne, by k_ne⟩
  have N7 : News _ _ _ ((TR, PySem.W.listOf [Value.ref d3].toArray 0) :: (tp, PySem.W.listOf vs2.toArray n2) :: [(d3, tupOf [.int 32 a1, .int 110 a2, .ref l3]), (l3, PySem.W.listOf #[Value.ref d1, Value.ref d2] 0), (d2, tupOf [.int 32 a3, .int 0 a4, .ref l2]), (l2, PySem.W.listOf #[Value.int 2 a5] 0), (d1, tupOf [.int 32 a6, .int 0 a7, .ref l1]), (l1, PySem.W.listOf #[Value.int (-1) a8] 0),
        (P, PySem.W.listOf #[Value.int p0 u0, Value.int p1 v0] 0)]) := fun p hp => N6 p (by
    rcases List.mem_cons.mp hp with h | hp
    · rw [h]; exact .head _
    · rcases List.mem_cons.mp hp with h | hp
      · rw [h]; exact .tail _ (.tail _ (.tail _ (.tail _ (.tail _ (.tail _ (.tail _ (.tail _ (.head _))))))))
      · exact .tail _ (List.mem_append_left [_] hp))
  clear F5 N5 N6
  refine unhold ⟨_, _, _, _, _, m5, _, RgJ s1.heap tp TR P (PySem.W.listOf #[Value.int p0 u0, Value.int p1 v0] 0), rfl, by assumption, by decide, by decide, F6, N7, ?_, ?_⟩
  · refine ⟨rfl, vs2, n2, [.ref d3], 0, [T0], _, rfl, .tail _ (.tail _ (.tail _ (.tail _ (.tail _ (.tail _ (.head _)))))), e1, e2, e3, nTt, ?_, ?_, hv2, hl2, .cons ⟨_, _, l3, d1, d2, 0, .head _, .tail _ (.head _), ⟨_, _, l1, _, 0, .tail _ (.tail _ (.tail _ (.tail _ (.head _)))), .tail _ (.tail _ (.tail _ (.tail _ (.tail _ (.head _)))))⟩, ⟨_, _, l2, _, 0, .tail _ (.tail _ (.head _)), .tail _ (.tail _ (.tail _ (.head _)))⟩⟩ .nil, fun T hT => by rw [List.mem_singleton.mp hT]; exact T0_ok, rfl⟩
    · simp only [List.forall_mem_cons, List.not_mem_nil, false_implies, implies_true, and_true]
      exact ⟨q1, q2, q3, q4, q5, q6, q7⟩
    · simp only [List.forall_mem_cons, List.not_mem_nil, false_implies, implies_true, and_true]
      exact ⟨r1, r2, r3, r4, r5, r6, r7⟩
  (repeat ((with_reducible rename (_ < _ ∧ _) => z); clear z))
  clear F6 N7 q1 q2 q3 q4 q5 q6 q7 r1 r2 r3 r4 r5 r6 r7 e1 e2 e3 nTt hv2 hl2 a1 a2 a3 a4 a5 a6 a7 a8
  refine ⟨?_, ?_⟩
  · rintro i t I oI g1 m1 news1 h6 tk6 hi ⟨rfl, vs, n, avs, k, ts, tz, rfl, hPm, hm1, hm2, hm3, nTt, htz1, htz2, hv, hlv, hT, hTs, hla⟩ F3 N3 neI
    have nIT : @Ne Nat I TR := fun z => neI _ (.head _) z.symm
    have nIt : @Ne Nat I tp := fun z => neI _ (.tail _ (.head _)) z.symm
    refine frN (l := [(Str.ofString "k", .int (i : Int) t), (Str.ofString "tape", .ref tp), (Str.ofString "trees", .ref TR), (Str.ofString "places", .ref P)]) F3 ⟨rfl, hm1, hm2, hm3, ⟨⟩⟩ ?_
    intro m0 m2 F4
    clear F3
    k_steps
    refine unhold ?_
    with_reducible rename News _ _ _ _ => N5
    with_reducible rename Fr _ _ _ _ => F5
    with_reducible rename (_ < _ ∧ _) => l5
    have N6 := news_rot3 N5
    refine useNext F5 N6 (List.forall_mem_cons.mpr ⟨Nat.ne_of_gt l5.2.2.1, List.forall_mem_cons.mpr ⟨nIt, List.forall_mem_cons.mpr ⟨nTt, htz2⟩⟩⟩) G (Room.down hR (by decide) rfl rfl) hv hlv (fun h7 tk7 x u vs' n' F7 N7 hv' hl' => ?_)
    clear F5 N5 N6 l5
    (try dsimp only)
    have hM : Hold (0 < 1) := Nat.zero_lt_one
    k_steps
    refine unhold ?_
    clear hM
    refine md_c (by decide) ?_
    with_reducible rename News _ _ _ _ => N8
    refine item_pick N8 (by k_mem) (by lia) ?_
    intro b ub hb
    (try dsimp only)
    k_steps
    refine unhold ?_
    with_reducible rename News _ _ _ _ => N9
    with_reducible rename Fr _ _ _ _ => F9
    have P9 := N9 _ (.head _)
    have PI := N9 _ (.tail _ (.tail _ (.head _)))
    have PT := N9 _ (.tail _ (.tail _ (.tail _ (.head _))))
    refine tree_c w (4 - i) G F9.keep P9.1 P9.2.2 hv' hb (by lia) (Room.down hR (by lia) rfl rfl) hl' (fun h10 tk10 a T vs3 n3 tl hbt ht3 hv3 hl3 hnt hne hT1 w1 w2 w3 w4 => ?_)
    have F10 := butFr F9 hbt P9.2.2 P9.2.1
    have N10 : News _ _ h10 ((TR, PySem.W.listOf avs.toArray k) :: (tp, PySem.W.listOf vs3.toArray n3) :: (I, oI) :: (tl ++ tz)) := fun p hp => by
      rcases List.mem_cons.mp hp with rfl | hp
      · exact ⟨hbt _ _ nTt PT.1, PT.2⟩
      · rcases List.mem_cons.mp hp with rfl | hp
        · exact ⟨ht3, P9.2⟩
        · rcases List.mem_cons.mp hp with rfl | hp
          · exact ⟨hbt _ _ nIt PI.1, PI.2⟩
          · rcases List.mem_append.mp hp with hp | hp
            · exact ⟨(hnt p hp).1, new_ne F9 (hnt p hp).2, fresh_back F9.keep (hnt p hp).2⟩
            · exact ⟨hbt _ _ (htz2 p hp) (N9 p (.tail _ (.tail _ (.tail _ (.tail _ hp))))).1, (N9 p (.tail _ (.tail _ (.tail _ (.tail _ hp))))).2⟩
    have aT : ∀ p ∈ tl ++ tz, p.1 ≠ TR := fun p hp => (List.mem_append.mp hp).elim (fun q z => by have := (hnt p q).2; rw [z, PT.1] at this; cases this) (htz1 p)
    have aI : ∀ p ∈ tl ++ tz, p.1 ≠ I := fun p hp => (List.mem_append.mp hp).elim (fun q z => by have := (hnt p q).2; rw [z, PI.1] at this; cases this) (fun q => neI p (.tail _ (.tail _ q)))
    have at' : ∀ p ∈ tl ++ tz, p.1 ≠ tp := fun p hp => (List.mem_append.mp hp).elim (hne p) (htz2 p)
    clear F9 N9 P9 PI PT hbt ht3 hnt
    (try dsimp only)
    k_steps
    refine unhold ?_
    with_reducible rename News _ _ _ _ => N11
    with_reducible rename Fr _ _ _ _ => F11
    refine append_K F11 N11 (.head (fun p hp => ?_)) ?_ (by rw [sizeLine_eq, List.size_toArray]; lia)
    · rcases List.mem_cons.mp hp with rfl | hp
      · exact nTt.symm
      · rcases List.mem_cons.mp hp with rfl | hp
        · exact nIT
        · exact aT p hp
    intro h12 F12 N12
    have e9 : avs.toArray.push (Value.ref a) = (avs ++ [Value.ref a]).toArray := by simp
    rw [e9] at N12
    clear F11 N11
    k_steps
    with_reducible rename News _ _ _ _ => N13
    with_reducible rename Fr _ _ _ _ => F13
    refine TurnOut.next (news := (TR, PySem.W.listOf (avs ++ [Value.ref a]).toArray (k + 1)) :: (tp, PySem.W.listOf vs3.toArray n3) :: (tl ++ tz)) F13 (fun p hp => N13 p ?_) ?_ ⟨rfl, vs3, n3, avs ++ [.ref a], k + 1, ts ++ [T], tl ++ tz, rfl, List.mem_append_right _ hPm, rfl, rfl, rfl, nTt, aT, at', hv3, hl3, TrsBy.snoc (K := InTl (tl ++ tz)) (a := a) (hT1.mono fun a o q => List.mem_append_left _ q) (hT.mono fun a o q => List.mem_append_right _ q), ?_, by simp [hla]⟩
    · rcases List.mem_cons.mp hp with rfl | hp
      · exact .tail _ (.tail _ (.head _))
      · rcases List.mem_cons.mp hp with rfl | hp
        · exact .head _
        · rcases List.mem_cons.mp hp with rfl | hp
          · exact .tail _ (.head _)
          · exact .tail _ (.tail _ (.tail _ hp))
    · exact List.forall_mem_cons.mpr ⟨nIT.symm, List.forall_mem_cons.mpr ⟨nIt.symm, aI⟩⟩
    · intro T' hT'
      rcases List.mem_append.mp hT' with hT' | hT'
      · exact hTs T' hT'
      · rw [List.mem_singleton.mp hT']
        exact ⟨w1, w2, by lia⟩
  · rintro g1 m1 news1 h6 tk6 ⟨rfl, vs, n, avs, k, ts, tz, rfl, hPm, hm1, hm2, hm3, nTt, htz1, htz2, hv, hlv, hT, hTs, hla⟩ F3 N3
    k_steps
    refine unhold ?_
    refine For_any (L := s1.heap.objs.size) rfl rfl rfl rfl ?_
    k_steps
    with_reducible rename News _ _ _ _ => N5
    with_reducible rename Fr _ _ _ _ => F5
    have hTm : (TR, PySem.W.listOf avs.toArray k) ∈ (TR, PySem.W.listOf avs.toArray k) :: (tp, PySem.W.listOf vs.toArray n) :: tz := .head _
    replace hPm : (P, PySem.W.listOf #[Value.int p0 u0, Value.int p1 v0] 0) ∈ (TR, PySem.W.listOf avs.toArray k) :: (tp, PySem.W.listOf vs.toArray n) :: tz := .tail _ (.tail _ hPm)
    replace hT : TrsBy (InTl ((TR, PySem.W.listOf avs.toArray k) :: (tp, PySem.W.listOf vs.toArray n) :: tz)) avs ts := hT.mono fun _ _ q => .tail _ (.tail _ q)
    clear htz1 htz2 hv hlv nTt hm1
    generalize (TR, PySem.W.listOf avs.toArray k) :: (tp, PySem.W.listOf vs.toArray n) :: tz = nz at *
    refine unhold ⟨TR, avs, s1.heap, _, nz, LwJ w s1.heap P nz, rfl, ⟨_, (N5 _ hTm).1, rfl, _, rfl⟩, F5, N5, ⟨Ext.rfl', rfl, hm3, ⟨_, _, _, G⟩, stk_nil⟩, ?_, ?_, ?_⟩
    · rintro i g1 m1 news1 h1' ⟨_, rfl, _⟩ F6 N6
      exact ⟨_, (N6 _ hTm).1, rfl, _, rfl⟩
    · rintro i v I oI g1 m1 nz h7 tk7 hv ⟨hE, rfl, hm, ⟨mean, mg, mb, G1⟩, SK⟩ F6 N6 neI aI
      obtain ⟨a, Tt, rfl, hTs', hTa⟩ := hT.get hv
      obtain ⟨hw, hok, hd⟩ := hTs Tt hTs'
      have hfl := Tr.flat31 hd
      have hTh : TrAt h7 a Tt := hTa.mono fun b o q => (N6 _ (.tail _ q)).1
      refine frN (l := [(Str.ofString "tree", .ref a), (Str.ofString "places", .ref P)]) F6 ⟨rfl, hm, ⟨⟩⟩ ?_
      intro m0 m2 F7
      clear F5 N5 F6 KX T G
      have KX := G1.k
      have T := G1.t
      k_steps
      refine unhold ?_
      with_reducible rename News _ _ _ _ => N8
      with_reducible rename Fr _ _ _ _ => F8
      refine flat_c w Tt a hok (by lia) _ _ _ _ _ _ _ _ _ _ (G1.ext F8.keep) (Room.down hR (by lia) rfl rfl) (hTa.mono fun b o q => (N8 _ (.tail _ q)).1) (fun v9 h9 tk9 x9 r9 => ?_)
      obtain ⟨l9, ws, k9, tl9, rfl, hl9, hl9', ht9, hn9, hi9⟩ := r9
      have F9 := frExt F8 x9
      have N9 : News _ _ h9 ((l9, PySem.W.listOf ws.toArray k9) :: (tl9 ++ (I, oI) :: nz)) := fun p hp => by
        rcases List.mem_cons.mp hp with rfl | hp
        · exact ⟨hl9', new_ne F8 hl9, fresh_back F8.keep hl9⟩
        · rcases List.mem_append.mp hp with hp | hp
          · exact ⟨(ht9 p hp).1, new_ne F8 (ht9 p hp).2, fresh_back F8.keep (ht9 p hp).2⟩
          · exact newsExt N8 x9 p hp
      have hwl := hi9.length
      clear hTh F8 N8 x9 hl9 hl9' ht9 hn9
      (try dsimp only)
      k_steps
      refine unhold ?_
      with_reducible rename News _ _ _ _ => N8
      with_reducible rename Fr _ _ _ _ => F8
      refine kmk_add_lit F8 N8 (zs := ws ++ [.ref _]) ⟨_, (N8 _ (.tail _ (.tail _ (.head _)))).1, rfl, _, rfl⟩ ⟨_, (N8 _ (.head _)).1, rfl, _, rfl⟩ (by exact rfl) ?_ (by rw [sizeLine_eq]; simp; lia)
      intro D3 h10 F10 N10 l10
      clear F8 N8
      have PD3 := N10 _ (.head _)
      have PI := N10 (I, oI) (.tail _ (.tail _ (.tail _ (.tail _ (List.mem_append_right _ (.head _))))))
      have hz : InsList h10 (ws ++ [Value.ref _]) (Tt.flat ++ [⟨11, none⟩]) := (hi9.mono (K' := fun b o => h10.get? b = some o) (fun b o q => (N10 (b, o) (.tail _ (.tail _ (.tail _ (.tail _ (List.mem_append_left _ q)))))).1)).at.append (.cons ⟨_, [], (N10 _ (.tail _ (.tail _ (.head _)))).1, rfl⟩ .nil)
      have N11 : News _ _ h10 ((I, oI) :: nz) := fun p hp => N10 p (.tail _ (.tail _ (.tail _ (.tail _ (List.mem_append_right _ hp)))))
      clear N10 l10 hi9
      dsimp only at PD3
      k_steps
      refine unhold ?_
      with_reducible rename Fr _ _ _ _ => F12
      refine pieces_c w D3 (ws ++ [Value.ref _]) Tt.flat 0 (Tr.flat_ok hw) (by simp; lia) _ _ _ _ _ _ _ _ _ _ (G1.ext F12.keep) (Room.down hR (by decide) rfl rfl) ⟨PD3.1, hz⟩ (fun v11 h11 tk11 x11 r11 => ?_)
      obtain ⟨pl, vs, kp, tl, rfl, hpl, hpl', htl, hnp, hpb⟩ := r11
      have F13 := frExt F12 x11
      have plL := new_ne F12 hpl
      have plI : @Ne Nat pl I := fun z => by rw [z, PI.1] at hpl; cases hpl
      obtain ⟨tt, htt, hpk⟩ := pieces_keep F12 hpb
      have aP : ∀ p ∈ tl ++ tt, p.1 ≠ pl := fun p hp => (List.mem_append.mp hp).elim (hnp p) (fun q z => by have := (htt p q).1; rw [z, hpl] at this; cases this)
      have hpz : ∀ p ∈ nz, p.1 ≠ pl := fun p hp z => by have := (N11 p (.tail _ hp)).1; rw [z, hpl] at this; cases this
      have N13 : News _ _ h11 ((pl, PySem.W.listOf vs.toArray kp) :: (I, oI) :: (nz ++ (tl ++ tt))) := fun p hp => by
        rcases List.mem_cons.mp hp with rfl | hp
        · exact ⟨hpl', plL, fresh_back F12.keep hpl⟩
        · rcases List.mem_cons.mp hp with rfl | hp
          · exact newsExt N11 x11 _ (.head _)
          · rcases List.mem_append.mp hp with hp | hp
            · exact newsExt N11 x11 p (.tail _ hp)
            · rcases List.mem_append.mp hp with hp | hp
              · exact ⟨(htl p hp).1, new_ne F12 (htl p hp).2, fresh_back F12.keep (htl p hp).2⟩
              · exact ⟨x11 _ _ (htt p hp).1, (htt p hp).2⟩
      have hvl := hpk.length
      clear F12 N11 x11 hpl hpl' htl hnp hpb htt hz PD3 PI
      (try dsimp only)
      k_steps
      refine unhold ?_
      with_reducible rename News _ _ _ _ => N14
      with_reducible rename Fr _ _ _ _ => F14
      have P14 := N14 _ (.head _)
      refine useK (foldPieces_c w lowR pl vs Tt.flat kp (Tr.flat_ok hw) (by lia)) F14 N14 G1 SK (fun q hq => by rw [List.mem_singleton.mp hq]; exact ⟨_, .head _⟩) rfl rfl (Room.down hR (by decide) rfl rfl) ⟨P14.1, (hpk.mono (kgHid (pre := (pl, _) :: (I, oI) :: nz) F14 N14 SK P14.2.2 aP)).at⟩ ?_
      intro g5 v5 h5 tk5 F5 hkeep hnone K5 G5 SK5 _ r5
      obtain ⟨rfl, vs5, n5, hpl5, hle5, hpa5⟩ := r5
      rw [Tr.fold_sf hw] at hpa5
      have N5 : News _ _ h5 ((pl, PySem.W.listOf vs5.toArray n5) :: (I, oI) :: nz) := fun p hp => by
        rcases List.mem_cons.mp hp with rfl | hp
        · exact ⟨hpl5, P14.2.1, hnone _ P14.2.2⟩
        · rcases List.mem_cons.mp hp with rfl | hp
          · have := N14 (I, oI) (.tail _ (.head _))
            exact ⟨hkeep (I, oI) (.tail _ (.head _)) (fun q => plI (List.mem_singleton.mp q).symm), this.2.1, hnone _ this.2.2⟩
          · have hm : p ∈ (pl, PySem.W.listOf vs.toArray kp) :: (I, oI) :: (nz ++ (tl ++ tt)) := .tail _ (.tail _ (List.mem_append_left _ hp))
            exact ⟨hkeep p hm (fun q => hpz p hp (List.mem_singleton.mp q)), (N14 p hm).2.1, hnone _ (N14 p hm).2.2⟩
      have hpl6 := hpa5.length
      have hE5 : Ext s1.heap g5 := hE.trans K5.keep
      clear hE
      clear N14 F14 P14 hkeep hnone K5 hpk aP hpl5 plL SK KX T
      have KX := G5.k
      have T := G5.t
      (try dsimp only)
      k_steps
      refine unhold ?_
      with_reducible rename News _ _ _ _ => N8
      with_reducible rename Fr _ _ _ _ => F8
      refine body_c w pl vs5 Tt.sf n5 (by lia) _ _ _ _ _ _ _ _ _ _ (G5.ext F8.keep) (Room.down hR (by decide) rfl rfl) ⟨(N8 _ (.head _)).1, hpa5⟩ (fun v16 h16 tk16 x16 r16 => ?_)
      obtain ⟨bl, ws2, k2, rfl, hbl, hbl', hins⟩ := r16
      have F16 := frExt F8 x16
      obtain ⟨tt2, htt2, hib⟩ := ins_keep F16 hins
      have N16 : News _ _ h16 ((bl, PySem.W.listOf ws2.toArray k2) :: (I, oI) :: (nz ++ tt2)) := fun p hp => by
        rcases List.mem_cons.mp hp with rfl | hp
        · exact ⟨hbl', new_ne F8 hbl, fresh_back F8.keep hbl⟩
        · rcases List.mem_cons.mp hp with rfl | hp
          · exact newsExt N8 x16 _ (.tail _ (.head _))
          · rcases List.mem_append.mp hp with hp | hp
            · exact newsExt N8 x16 p (.tail _ (.tail _ hp))
            · exact htt2 p hp
      have hw2 := hib.length
      rw [List.length_append, List.length_singleton] at hw2
      clear F8 N8 x16 hbl hbl' hins htt2 hpa5
      (try dsimp only)
      k_steps
      refine unhold ?_
      with_reducible rename News _ _ _ _ => N8
      with_reducible rename Fr _ _ _ _ => F8
      refine worth_c w h01.1 h01.2 P Tt a hw hok _ _ _ _ _ _ _ _ _ _ (G5.ext F8.keep) (Room.down hR (by lia) rfl rfl) ⟨hTa.mono fun b o q => (N8 _ (.tail _ (.tail _ (List.mem_append_left _ q)))).1, u0, v0, 0, (N8 _ (.tail _ (.tail _ (List.mem_append_left _ hPm)))).1⟩ (fun v17 h17 tk17 x17 r17 => ?_)
      have F17 := frExt F8 x17
      have N17 := newsExt N8 x17
      clear F8 N8 x17
      (try dsimp only)
      have hrun := Tr.run_sf hw h01.1 h01.2
      have hchk := Tr.chk_sf hw
      cases ew : Tt.worth p0 p1 with
      | none =>
        rw [ew] at r17 hrun
        obtain rfl : v17 = .none := r17
        k_steps
        refine unhold ?_
        with_reducible rename News _ _ _ _ => N8
        with_reducible rename Fr _ _ _ _ => F8
        refine run_c w P bl ws2 (Tt.sf ++ [⟨11, none⟩]) k2 none (by lia) hrun _ _ _ _ _ _ _ _ _ _ (G5.ext F8.keep) (Room.down hR (by decide) rfl rfl) ⟨(N8 (bl, _) (by k_mem)).1, ins_back F8 N8 (fun p hp => by first | exact .tail _ (.tail _ (List.mem_append_right _ hp)) | exact .tail _ (.tail _ (.tail _ (List.mem_append_right _ hp)))) hib, u0, v0, 0, (N8 _ (by first | exact .tail _ (.tail _ (List.mem_append_left _ hPm)) | exact .tail _ (.tail _ (.tail _ (List.mem_append_left _ hPm))))).1⟩ (fun v18 h18 tk18 x18 r18 => ?_)
        obtain rfl : v18 = .none := r18
        have F18 := frExt F8 x18
        have N18 := newsExt N8 x18
        clear F8 N8 x18
        (try dsimp only)
        k_steps
        refine unhold ?_
        with_reducible rename News _ _ _ _ => N8
        with_reducible rename Fr _ _ _ _ => F8
        refine folded_c w bl ws2 Tt.sf k2 (by lia) hchk _ _ _ _ _ _ _ _ _ _ (G5.ext F8.keep) (Room.down hR (by decide) rfl rfl) ⟨(N8 (bl, _) (by k_mem)).1, ins_back F8 N8 (fun p hp => by first | exact .tail _ (.tail _ (List.mem_append_right _ hp)) | exact .tail _ (.tail _ (.tail _ (List.mem_append_right _ hp)))) hib⟩ (fun v19 h19 tk19 x19 r19 => ?_)
        obtain rfl : v19 = .bool true := r19
        have F19 := frExt F8 x19
        have N19 := newsExt N8 x19
        clear F8 N8 x19
        (try dsimp only)
        k_steps
        refine unhold ?_
        with_reducible rename News _ _ _ _ => N8
        with_reducible rename Fr _ _ _ _ => F8
        refine bare_c w Tt a hok _ _ _ _ _ _ _ _ _ _ (G5.ext F8.keep) (Room.down hR (by lia) rfl rfl) (hTa.mono fun b o q => (N8 _ (by first | exact .tail _ (.tail _ (List.mem_append_left _ q)) | exact .tail _ (.tail _ (.tail _ (List.mem_append_left _ q))))).1) (fun v20 h20 tk20 x20 r20 => ?_)
        obtain rfl : v20 = .bool Tt.bare := r20
        have F20 := frExt F8 x20
        have N20 := newsExt N8 x20
        clear F8 N8 x20
        (try dsimp only)
        cases eb : Tt.bare with
        | false =>
          k_steps
          with_reducible rename News _ _ _ _ => N9
          with_reducible rename Fr _ _ _ _ => F9
          exact turnEnd hE5 F9 (newsEnd N9 (fun p hp => by first | exact .tail _ hp | exact .tail _ (.tail _ hp) | exact .tail _ (.tail _ (.tail _ hp)) | exact .tail _ (.tail _ (.tail _ (.tail _ hp))) | exact .tail _ (.tail _ (.tail _ (.tail _ (.tail _ hp)))) | exact .tail _ (.tail _ (.tail _ (.tail _ (.tail _ (.tail _ hp))))) | exact .tail _ (.tail _ (.tail _ (.tail _ (.tail _ (.tail _ (.tail _ hp)))))))) neI rfl G5 SK5
        | true =>
          k_steps
          with_reducible rename News _ _ _ _ => N9
          with_reducible rename Fr _ _ _ _ => F9
          exact turnEnd hE5 F9 (newsEnd N9 (fun p hp => by first | exact .tail _ hp | exact .tail _ (.tail _ hp) | exact .tail _ (.tail _ (.tail _ hp)) | exact .tail _ (.tail _ (.tail _ (.tail _ hp))) | exact .tail _ (.tail _ (.tail _ (.tail _ (.tail _ hp)))) | exact .tail _ (.tail _ (.tail _ (.tail _ (.tail _ (.tail _ hp))))) | exact .tail _ (.tail _ (.tail _ (.tail _ (.tail _ (.tail _ (.tail _ hp)))))))) neI rfl G5 SK5
      | some z =>
        rw [ew] at r17 hrun
        obtain ⟨tz, rfl⟩ : ∃ tz, v17 = .int z tz := r17
        k_steps
        refine unhold ?_
        with_reducible rename News _ _ _ _ => N8
        with_reducible rename Fr _ _ _ _ => F8
        refine run_c w P bl ws2 (Tt.sf ++ [⟨11, none⟩]) k2 (some z) (by lia) hrun _ _ _ _ _ _ _ _ _ _ (G5.ext F8.keep) (Room.down hR (by decide) rfl rfl) ⟨(N8 (bl, _) (by k_mem)).1, ins_back F8 N8 (fun p hp => by first | exact .tail _ (.tail _ (List.mem_append_right _ hp)) | exact .tail _ (.tail _ (.tail _ (List.mem_append_right _ hp)))) hib, u0, v0, 0, (N8 _ (by first | exact .tail _ (.tail _ (List.mem_append_left _ hPm)) | exact .tail _ (.tail _ (.tail _ (List.mem_append_left _ hPm))))).1⟩ (fun v18 h18 tk18 x18 r18 => ?_)
        obtain ⟨tz2, rfl⟩ : ∃ tz2, v18 = .int z tz2 := r18
        have F18 := frExt F8 x18
        have N18 := newsExt N8 x18
        clear F8 N8 x18
        (try dsimp only)
        k_steps
        refine unhold ?_
        refine ne_int_same ?_
        k_steps
        refine unhold ?_
        with_reducible rename News _ _ _ _ => N8
        with_reducible rename Fr _ _ _ _ => F8
        refine folded_c w bl ws2 Tt.sf k2 (by lia) hchk _ _ _ _ _ _ _ _ _ _ (G5.ext F8.keep) (Room.down hR (by decide) rfl rfl) ⟨(N8 (bl, _) (by k_mem)).1, ins_back F8 N8 (fun p hp => by first | exact .tail _ (.tail _ (List.mem_append_right _ hp)) | exact .tail _ (.tail _ (.tail _ (List.mem_append_right _ hp)))) hib⟩ (fun v19 h19 tk19 x19 r19 => ?_)
        obtain rfl : v19 = .bool true := r19
        have F19 := frExt F8 x19
        have N19 := newsExt N8 x19
        clear F8 N8 x19
        (try dsimp only)
        k_steps
        refine unhold ?_
        with_reducible rename News _ _ _ _ => N8
        with_reducible rename Fr _ _ _ _ => F8
        refine bare_c w Tt a hok _ _ _ _ _ _ _ _ _ _ (G5.ext F8.keep) (Room.down hR (by lia) rfl rfl) (hTa.mono fun b o q => (N8 _ (by first | exact .tail _ (.tail _ (List.mem_append_left _ q)) | exact .tail _ (.tail _ (.tail _ (List.mem_append_left _ q))))).1) (fun v20 h20 tk20 x20 r20 => ?_)
        obtain rfl : v20 = .bool Tt.bare := r20
        have F20 := frExt F8 x20
        have N20 := newsExt N8 x20
        clear F8 N8 x20
        (try dsimp only)
        cases eb : Tt.bare with
        | false =>
          k_steps
          with_reducible rename News _ _ _ _ => N9
          with_reducible rename Fr _ _ _ _ => F9
          exact turnEnd hE5 F9 (newsEnd N9 (fun p hp => by first | exact .tail _ hp | exact .tail _ (.tail _ hp) | exact .tail _ (.tail _ (.tail _ hp)) | exact .tail _ (.tail _ (.tail _ (.tail _ hp))) | exact .tail _ (.tail _ (.tail _ (.tail _ (.tail _ hp)))) | exact .tail _ (.tail _ (.tail _ (.tail _ (.tail _ (.tail _ hp))))) | exact .tail _ (.tail _ (.tail _ (.tail _ (.tail _ (.tail _ (.tail _ hp)))))))) neI rfl G5 SK5
        | true =>
          obtain ⟨ub, uc, up, htop⟩ := hTa.top
          have N21 := news_cons2 N20 (by first | exact .tail _ (.tail _ (List.mem_append_left _ htop)) | exact .tail _ (.tail _ (.tail _ (List.mem_append_left _ htop))))
          clear N20 htop
          have hbs : Hold (Tt.sf = [constI Tt.bits z]) := Tr.bare_sf hw eb ew
          have hwb : Hold (Tt.bits = 32 ∨ Tt.bits = 64) := hw.b
          clear hrun hchk
          generalize Tt.bits = bits at *
          generalize Tt.code = code at *
          have hS : Hold (0 < 12) := Nat.zero_lt_succ 11
          k_steps
          refine unhold ?_
          with_reducible rename News _ _ _ _ => N8
          refine item_tupN N8 (.head _) (by decide) (by decide) rfl ?_
          clear hS
          rcases hwb with rfl | rfl
          · k_steps
            refine unhold ?_
            with_reducible rename News _ _ _ _ => N8
            with_reducible rename Fr _ _ _ _ => F8
            rw [show Tt.sf = _ from hbs] at hib
            obtain ⟨d1, d2, t1, t2, t3, rfl, y1, y2⟩ := told_ws (c := 65) (by decide) hib
            have Y1 := kg_at F8 N8 (fun p hp => .tail _ (.tail _ (.tail _ (.tail _ (.tail _ (.tail _ (.tail _ (List.mem_append_right nz hp)))))))) y1
            have Y2 := kg_at F8 N8 (fun p hp => .tail _ (.tail _ (.tail _ (.tail _ (.tail _ (.tail _ (.tail _ (List.mem_append_right nz hp)))))))) y2
            have Pb := (N8 _ (.tail _ (.tail _ (.tail _ (.tail _ (.tail _ (.head _))))))).1
            have Pl := (N8 _ (.head _)).1
            have P2 := (N8 _ (.tail _ (.head _))).1
            have P1 := (N8 _ (.tail _ (.tail _ (.head _)))).1
            dsimp only at Pb Pl P2 P1
            refine ne_told Pb Y1 Y2 Pl P1 P2 ?hu ?_
            case hu => exact units64 hR (by decide)
            k_steps
            with_reducible rename News _ _ _ _ => N9
            with_reducible rename Fr _ _ _ _ => F9
            exact turnEnd hE5 F9 (newsEnd N9 (fun p hp => .tail _ (.tail _ (.tail _ (.tail _ (.tail _ (.tail _ hp))))))) neI rfl G5 SK5
          · k_steps
            refine unhold ?_
            with_reducible rename News _ _ _ _ => N8
            with_reducible rename Fr _ _ _ _ => F8
            rw [show Tt.sf = _ from hbs] at hib
            obtain ⟨d1, d2, t1, t2, t3, rfl, y1, y2⟩ := told_ws (c := 66) (by decide) hib
            have Y1 := kg_at F8 N8 (fun p hp => .tail _ (.tail _ (.tail _ (.tail _ (.tail _ (.tail _ (.tail _ (List.mem_append_right nz hp)))))))) y1
            have Y2 := kg_at F8 N8 (fun p hp => .tail _ (.tail _ (.tail _ (.tail _ (.tail _ (.tail _ (.tail _ (List.mem_append_right nz hp)))))))) y2
            have Pb := (N8 _ (.tail _ (.tail _ (.tail _ (.tail _ (.tail _ (.head _))))))).1
            have Pl := (N8 _ (.head _)).1
            have P2 := (N8 _ (.tail _ (.head _))).1
            have P1 := (N8 _ (.tail _ (.tail _ (.head _)))).1
            dsimp only at Pb Pl P2 P1
            refine ne_told Pb Y1 Y2 Pl P1 P2 ?hu ?_
            case hu => exact units64 hR (by decide)
            k_steps
            with_reducible rename News _ _ _ _ => N9
            with_reducible rename Fr _ _ _ _ => F9
            exact turnEnd hE5 F9 (newsEnd N9 (fun p hp => .tail _ (.tail _ (.tail _ (.tail _ (.tail _ (.tail _ hp))))))) neI rfl G5 SK5
    · rintro g1 m1 news1 h7 tk7 ⟨hE, rfl, hm, ⟨mean, mg, mb, G1⟩, SK⟩ F6 N6
      clear F5 N5 KX T G
      have KX := G1.k
      have T := G1.t
      have hk : ∀ b o, s1.heap.get? b = some o → h7.get? b = some o := fun b o e => F6.keep b o (hE b o e)
      (with_reducible rename (_ = #[]) => hgs)
      k_steps
      (try dsimp only)
      refine ⟨.inl ⟨_, _, _, rfl, fun _ => ?zr, .bool true, ?zp, fun _ => ⟨List.nodup_nil, fun _ h => nomatch h⟩⟩, hk, rfl, hgs⟩
      case zr => rfl
      case zp => exact post_true _
end

end Mine

theorem PySem.Challenge.cw_nm0145_01_holds : PySem.Challenge.rw_nm0145_01.Holds :=
  Mine.law_holds
