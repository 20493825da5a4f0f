import PyProof.Rows.All
import Wide.All
import OpenK.AllK
import Wide.FinOn
import PySem.Challenge.RW_nz0199_01
open PySem PySem.W PyProof.Rows PySem.Calls
set_option Elab.async false
set_option maxRecDepth 100000
set_option maxHeartbeats 4000000
set_option linter.unusedVariables false
set_option linter.unusedSimpArgs false
set_option genSizeOf false
set_option genInjectivity false
namespace Mine.all
noncomputable def tw636524550079685631 : Unit := ()
noncomputable def tw10081088541268293599 : Unit := ()
noncomputable def tw2366535826993118143 : Unit := ()
noncomputable def tw13370487131934946175 : Unit := ()
noncomputable def tw5004987881651496831 : Unit := ()
noncomputable def tw6975943936712958815 : Unit := ()
noncomputable def tw15081044799308232511 : Unit := ()
noncomputable def tw16785538882571980543 : Unit := ()
noncomputable def tw3165661143165402847 : Unit := ()
noncomputable def tw12267322187703008927 : Unit := ()
noncomputable def tw2479237469882504799 : Unit := ()
noncomputable def tw9543871751676338751 : Unit := ()
noncomputable def tw16838893715234930207 : Unit := ()
noncomputable def tw13320810954380615167 : Unit := ()
noncomputable def tw9600454056292803967 : Unit := ()
noncomputable def tw12563031120210811263 : Unit := ()
noncomputable def tw13282074430368766303 : Unit := ()
noncomputable def tw1639981616727947583 : Unit := ()
noncomputable def tw4350801690150286559 : Unit := ()
noncomputable def tw15830996010280166623 : Unit := ()
noncomputable def tw7779866328928976063 : Unit := ()
noncomputable def tw17112464921883037887 : Unit := ()
noncomputable def tw10407399669362838719 : Unit := ()
noncomputable def tw201708328148552895 : Unit := ()
noncomputable def tw4198835854440487071 : Unit := ()
noncomputable def tw13215351417096909983 : Unit := ()
noncomputable def tw8616835277999145119 : Unit := ()
noncomputable def tw15526263569004567679 : Unit := ()
noncomputable def tw7385006340035058783 : Unit := ()
noncomputable def tw2995925781233325151 : Unit := ()
noncomputable def tw11298796024306172991 : Unit := ()
noncomputable def tw3204017013573700639 : Unit := ()
noncomputable def tw13098716769926991806 : Unit := ()
noncomputable def tw12381699962588209086 : Unit := ()
noncomputable def tw6393532188824929214 : Unit := ()
noncomputable def tw803461357374685022 : Unit := ()
noncomputable def tw16949009020806574942 : Unit := ()
noncomputable def tw282994513109133150 : Unit := ()
noncomputable def tw17408048037380319038 : Unit := ()
noncomputable def tw9386671084012761886 : Unit := ()
noncomputable def tw1172340538976468734 : Unit := ()
noncomputable def tw15354443143932468990 : Unit := ()
noncomputable def tw3780143478300131934 : Unit := ()
noncomputable def tw4831860214510110302 : Unit := ()
noncomputable def tw13887551421349579326 : Unit := ()
noncomputable def tw5439016543574858206 : Unit := ()
noncomputable def tw8865166961438382494 : Unit := ()
noncomputable def tw14444207656584330654 : Unit := ()
noncomputable def tw15612066896164977022 : Unit := ()
noncomputable def tw8108845850537571710 : Unit := ()
noncomputable def tw11738243901336025406 : Unit := ()
noncomputable def tw11904431243951574334 : Unit := ()
noncomputable def tw10681620039792923934 : Unit := ()
noncomputable def tw6900727353157573822 : Unit := ()
noncomputable def tw10316705163991428254 : Unit := ()
noncomputable def tw3298683737301795645 : Unit := ()
noncomputable def tw10127320685908719325 : Unit := ()
noncomputable def tw13283931332471535325 : Unit := ()
noncomputable def tw888978351763286717 : Unit := ()
noncomputable def tw2000609977361463965 : Unit := ()
noncomputable def tw7855422573467142813 : Unit := ()
noncomputable def tw10658958392246782621 : Unit := ()
noncomputable def tw15391004526167926365 : Unit := ()
noncomputable def tw10131221437080536637 : Unit := ()
noncomputable def tw5002070824922625533 : Unit := ()
noncomputable def tw8219367837509555709 : Unit := ()
noncomputable def tw1088589479996732829 : Unit := ()
noncomputable def tw2442836877315861853 : Unit := ()
noncomputable def tw5387236496596682077 : Unit := ()
noncomputable def tw11483514542923596125 : Unit := ()
noncomputable def tw13358604424828501309 : Unit := ()
noncomputable def tw8183209053709734173 : Unit := ()
noncomputable def tw11658462952560688381 : Unit := ()
noncomputable def tw17368901067910498557 : Unit := ()
noncomputable def tw4613487602407358717 : Unit := ()
noncomputable def tw2640984773516398845 : Unit := ()
noncomputable def tw6279384641404196061 : Unit := ()
noncomputable def tw18111398738982083773 : Unit := ()
noncomputable def tw13556967374752276637 : Unit := ()
noncomputable def tw6656463916972431421 : Unit := ()
noncomputable def tw3898467250045930460 : Unit := ()
noncomputable def tw13752750167953387420 : Unit := ()
noncomputable def tw6849123771955923804 : Unit := ()
noncomputable def tw6189357195160471388 : Unit := ()
noncomputable def tw17064833945692052252 : Unit := ()
noncomputable def tw3390864358609898268 : Unit := ()
noncomputable def tw16636436465759865564 : Unit := ()
noncomputable def tw3006146034401029692 : Unit := ()
noncomputable def tw16149317719023688252 : Unit := ()
noncomputable def tw17740187900682377756 : Unit := ()
noncomputable def tw17772726858579744284 : Unit := ()
noncomputable def tw13900070722340429276 : Unit := ()
noncomputable def tw10289937546816008636 : Unit := ()
noncomputable def tw9960083256741680508 : Unit := ()
noncomputable def tw4240545211757986076 : Unit := ()
noncomputable def tw6888782338466086140 : Unit := ()
noncomputable def tw12847938454781286588 : Unit := ()
noncomputable def tw9090173269774583996 : Unit := ()
noncomputable def tw8845110488550816924 : Unit := ()
noncomputable def tw14929683446248860828 : Unit := ()
noncomputable def tw17271892845280886908 : Unit := ()
noncomputable def tw13717024376598296668 : Unit := ()
noncomputable def tw8749193726656077916 : Unit := ()
noncomputable def tw4942582282674782268 : Unit := ()
noncomputable def tw3783704252341326843 : Unit := ()
noncomputable def tw1985402699469526011 : Unit := ()
noncomputable def tw4049413732980777947 : Unit := ()
noncomputable def tw16288533217561068507 : Unit := ()
noncomputable def tw549974085012918235 : Unit := ()
noncomputable def tw8857914048673524507 : Unit := ()
noncomputable def tw11573567738276184859 : Unit := ()
noncomputable def tw14200518018382609147 : Unit := ()
noncomputable def tw4786962568827011835 : Unit := ()
noncomputable def tw4382491568596388571 : Unit := ()
noncomputable def tw4874642235004048027 : Unit := ()
noncomputable def tw8486076525276431931 : Unit := ()
noncomputable def tw11433317345382964763 : Unit := ()
noncomputable def tw7317653850160689691 : Unit := ()
noncomputable def tw9305783451064888827 : Unit := ()
noncomputable def tw2412950195513398651 : Unit := ()
noncomputable def tw10649901628825759099 : Unit := ()
noncomputable def tw1904651353081489755 : Unit := ()
noncomputable def tw12267468486907949403 : Unit := ()
noncomputable def tw16339503202031470875 : Unit := ()
noncomputable def tw5221675337516389627 : Unit := ()
noncomputable def tw9448091282758670523 : Unit := ()
noncomputable def tw16526751206710464603 : Unit := ()
noncomputable def tw11931136993785318394 : Unit := ()
noncomputable def tw9952970006915852218 : Unit := ()
noncomputable def tw4950485280699123642 : Unit := ()
noncomputable def tw4726450323565452186 : Unit := ()
noncomputable def tw17933553581876595578 : Unit := ()
noncomputable def tw10017678596475843418 : Unit := ()
noncomputable def tw13233751423148406618 : Unit := ()
noncomputable def tw8820459466428253018 : Unit := ()
noncomputable def tw12512054102949984058 : Unit := ()
noncomputable def tw1717485560449817402 : Unit := ()
noncomputable def tw16576222957257545530 : Unit := ()
noncomputable def tw1734884918528286522 : Unit := ()
noncomputable def tw12926644002878227130 : Unit := ()
noncomputable def tw13960862262899742394 : Unit := ()
noncomputable def tw9131408386013701786 : Unit := ()
noncomputable def tw5103548895888603802 : Unit := ()
noncomputable def tw17711910997332876922 : Unit := ()
noncomputable def tw497388943360791162 : Unit := ()
noncomputable def tw3586251380002802234 : Unit := ()
noncomputable def tw15429038253546691098 : Unit := ()
noncomputable def tw4338314545742005754 : Unit := ()
noncomputable def tw1982302099225326074 : Unit := ()
noncomputable def tw9385597778382524922 : Unit := ()
noncomputable def tw8689057759390064058 : Unit := ()
noncomputable def tw17447734377096445370 : Unit := ()
noncomputable def tw11488495728068971930 : Unit := ()
noncomputable def tw9570754706468278650 : Unit := ()
noncomputable def tw10915074446201010522 : Unit := ()
noncomputable def tw14721843458392949018 : Unit := ()
noncomputable def tw9843424985483213050 : Unit := ()
noncomputable def tw7347299435816893626 : Unit := ()
noncomputable def tw13304921780102922394 : Unit := ()
noncomputable def tw8728704332973717658 : Unit := ()
noncomputable def tw8026366407565007962 : Unit := ()
noncomputable def tw15176617289070330970 : Unit := ()
noncomputable def tw12221947951091446842 : Unit := ()
noncomputable def tw225468126006155290 : Unit := ()
noncomputable def tw15926794790568321017 : Unit := ()
noncomputable def tw17136824421941296089 : Unit := ()
noncomputable def tw13434531468450553753 : Unit := ()
noncomputable def tw5718967094426423161 : Unit := ()
noncomputable def tw14701963045326077753 : Unit := ()
noncomputable def tw3440317332850252569 : Unit := ()
noncomputable def tw5646740079091317433 : Unit := ()
noncomputable def tw17244472993801099961 : Unit := ()
noncomputable def tw6169999212503205497 : Unit := ()
noncomputable def tw2557191316624668217 : Unit := ()
noncomputable def tw13874455239767017017 : Unit := ()
noncomputable def tw4515135292898193881 : Unit := ()
noncomputable def tw1604050991321148793 : Unit := ()
noncomputable def tw10034031380863371641 : Unit := ()
noncomputable def tw14057782590025463129 : Unit := ()
noncomputable def tw12028550053918628185 : Unit := ()
noncomputable def tw476020514792540505 : Unit := ()
noncomputable def tw6898685031443817785 : Unit := ()
noncomputable def tw4631590275013254457 : Unit := ()
noncomputable def tw8474492796817999161 : Unit := ()
noncomputable def tw12994552909553032409 : Unit := ()
noncomputable def tw3443626597506986169 : Unit := ()
noncomputable def tw17818293817903590521 : Unit := ()
noncomputable def tw3630066180865283129 : Unit := ()
noncomputable def tw5553432485147669529 : Unit := ()
noncomputable def tw15331906349341453337 : Unit := ()
noncomputable def tw8203446524507428889 : Unit := ()
noncomputable def tw2286941943676669977 : Unit := ()
noncomputable def tw1758426702102747128 : Unit := ()
noncomputable def tw2972125363121769464 : Unit := ()
noncomputable def tw2406872565856053176 : Unit := ()
noncomputable def tw13185015893256467352 : Unit := ()
noncomputable def tw7205895575636617080 : Unit := ()
noncomputable def tw11158953913317867288 : Unit := ()
noncomputable def tw10835444871452781336 : Unit := ()
noncomputable def tw5657931515703916248 : Unit := ()
noncomputable def tw16444899576201249432 : Unit := ()
noncomputable def tw7400686549319467544 : Unit := ()
noncomputable def tw3426563556032164376 : Unit := ()
noncomputable def tw13492395982464255480 : Unit := ()
noncomputable def tw2054712967208431000 : Unit := ()
noncomputable def tw13423135486485445016 : Unit := ()
noncomputable def tw9379264858417805688 : Unit := ()
noncomputable def tw10175558820241607032 : Unit := ()
noncomputable def tw3737605839529819480 : Unit := ()
noncomputable def tw16739083755425606968 : Unit := ()
noncomputable def tw16740921855470316824 : Unit := ()
noncomputable def tw14106571916235994328 : Unit := ()
noncomputable def tw5601264028959731896 : Unit := ()
noncomputable def tw16876236935048986776 : Unit := ()
noncomputable def tw4188425034280262744 : Unit := ()
noncomputable def tw14066901625076523032 : Unit := ()
noncomputable def tw16447172759540358135 : Unit := ()
noncomputable def tw17292822351017121783 : Unit := ()
noncomputable def tw5260555542633645047 : Unit := ()
noncomputable def tw3601427614577313751 : Unit := ()
noncomputable def tw15145278206449419223 : Unit := ()
noncomputable def tw9496632788025766839 : Unit := ()
noncomputable def tw17371863055441782679 : Unit := ()
noncomputable def tw755134328155928439 : Unit := ()
noncomputable def tw14420213329864412023 : Unit := ()
noncomputable def tw5036882428077977431 : Unit := ()
noncomputable def tw5761313309558253367 : Unit := ()
noncomputable def tw6223034424235540279 : Unit := ()
noncomputable def tw13509908655624090359 : Unit := ()
noncomputable def tw14953325984322379511 : Unit := ()
noncomputable def tw15284455985751111415 : Unit := ()
noncomputable def tw270595956821020375 : Unit := ()
noncomputable def tw9351078540693612215 : Unit := ()
noncomputable def tw3282140407130366615 : Unit := ()
noncomputable def tw17800948086707717751 : Unit := ()
noncomputable def tw407466490171300439 : Unit := ()
noncomputable def tw13508003155388970551 : Unit := ()
noncomputable def tw16694476904998839863 : Unit := ()
noncomputable def tw18422150028754028023 : Unit := ()
noncomputable def tw7193976414177721783 : Unit := ()
noncomputable def tw9099960808112739735 : Unit := ()
noncomputable def tw7442053078452299063 : Unit := ()
noncomputable def tw9111709882147129655 : Unit := ()
noncomputable def tw4154878040674242839 : Unit := ()
noncomputable def tw3140866203998610647 : Unit := ()
noncomputable def tw1963270939698246839 : Unit := ()
noncomputable def tw10215604902903598199 : Unit := ()
noncomputable def tw18058516629519361111 : Unit := ()
noncomputable def tw5555718599999811639 : Unit := ()
noncomputable def tw13376464931078446103 : Unit := ()
noncomputable def tw7255959162708018199 : Unit := ()
noncomputable def tw1446525512094189494 : Unit := ()
noncomputable def tw8734355875116408662 : Unit := ()
noncomputable def tw10576110018494610262 : Unit := ()
noncomputable def tw12180536567876656950 : Unit := ()
noncomputable def tw15888951733556516598 : Unit := ()
noncomputable def tw18052197330547352278 : Unit := ()
noncomputable def tw15014361466247048854 : Unit := ()
noncomputable def tw8486705261324164726 : Unit := ()
noncomputable def tw1768962640154500726 : Unit := ()
noncomputable def tw11777086365064915542 : Unit := ()
noncomputable def tw17846619120630023766 : Unit := ()
noncomputable def tw7755422918602135030 : Unit := ()
noncomputable def tw17259241986408110582 : Unit := ()
noncomputable def tw7619113539625694710 : Unit := ()
noncomputable def tw11639333894188339638 : Unit := ()
noncomputable def tw2114198189418970486 : Unit := ()
noncomputable def tw16747629065405408630 : Unit := ()
noncomputable def tw17558465517493045558 : Unit := ()
noncomputable def tw11223482586740685078 : Unit := ()
noncomputable def tw16400751074865733910 : Unit := ()
noncomputable def tw14848961488311411958 : Unit := ()
noncomputable def tw12540455083557110006 : Unit := ()
noncomputable def tw9609096358927944886 : Unit := ()
noncomputable def tw17103938086974590038 : Unit := ()
noncomputable def tw18429704661519256598 : Unit := ()
noncomputable def tw4087990644281799702 : Unit := ()
noncomputable def tw10227051316576381974 : Unit := ()
noncomputable def tw9133701021851612117 : Unit := ()
noncomputable def tw5148049120761530293 : Unit := ()
noncomputable def tw11928815663860865973 : Unit := ()
noncomputable def tw14242173848286271349 : Unit := ()
noncomputable def tw6516363680345034613 : Unit := ()
noncomputable def tw15105651507014581045 : Unit := ()
noncomputable def tw9807931448117422837 : Unit := ()
noncomputable def tw5646013916729498261 : Unit := ()
noncomputable def tw9397017562490477109 : Unit := ()
noncomputable def tw1216898108829112853 : Unit := ()
noncomputable def tw16644902639655322133 : Unit := ()
noncomputable def tw2613816272192447989 : Unit := ()
noncomputable def tw14274756557212989909 : Unit := ()
noncomputable def tw15414233836422861205 : Unit := ()
noncomputable def tw281770217567036725 : Unit := ()
noncomputable def tw1885294564261713141 : Unit := ()
noncomputable def tw18441473437031201941 : Unit := ()
noncomputable def tw785864177541677141 : Unit := ()
noncomputable def tw11784725038316003381 : Unit := ()
noncomputable def tw15471726915170369524 : Unit := ()
noncomputable def tw10156424416328317940 : Unit := ()
noncomputable def tw11093295523969242068 : Unit := ()
noncomputable def tw100579137028481972 : Unit := ()
noncomputable def tw200202858802481044 : Unit := ()
noncomputable def tw5689438673786977140 : Unit := ()
noncomputable def tw13476624294007221044 : Unit := ()
noncomputable def tw18008776046948156212 : Unit := ()
noncomputable def tw10448147714900662036 : Unit := ()
noncomputable def tw3804168243799541492 : Unit := ()
noncomputable def tw8848042172178993908 : Unit := ()
noncomputable def tw561872325786274548 : Unit := ()
noncomputable def tw16457593375850944212 : Unit := ()
noncomputable def tw8013882960148741844 : Unit := ()
noncomputable def tw15076152544538823220 : Unit := ()
noncomputable def tw8096221689764760052 : Unit := ()
noncomputable def tw16592893570014863828 : Unit := ()
noncomputable def tw16223638597430114740 : Unit := ()
noncomputable def tw4258606087713283508 : Unit := ()
noncomputable def tw11468490517966777652 : Unit := ()
noncomputable def tw5463181917568680212 : Unit := ()
noncomputable def tw14539000326390715668 : Unit := ()
noncomputable def tw8223707996358447380 : Unit := ()
noncomputable def tw409914518651768084 : Unit := ()
noncomputable def tw12139988101201813748 : Unit := ()
noncomputable def tw7852760074147458260 : Unit := ()
noncomputable def tw10268101183197098196 : Unit := ()
noncomputable def tw16877496141331604692 : Unit := ()
noncomputable def tw11686026206685797588 : Unit := ()
noncomputable def tw8543756510809834644 : Unit := ()
noncomputable def tw8909644736058714228 : Unit := ()
noncomputable def tw13608339801890971764 : Unit := ()
noncomputable def tw2543849888741498996 : Unit := ()
noncomputable def tw4716985721665009587 : Unit := ()
noncomputable def tw10634939071730365363 : Unit := ()
noncomputable def tw17468886310826310451 : Unit := ()
noncomputable def tw9900696922168193843 : Unit := ()
noncomputable def tw12254430714555821875 : Unit := ()
noncomputable def tw5615151462926910227 : Unit := ()
noncomputable def tw6280451789465376435 : Unit := ()
noncomputable def tw2798396993581604531 : Unit := ()
noncomputable def tw15389465554420088467 : Unit := ()
noncomputable def tw16739844878667351699 : Unit := ()
noncomputable def tw4232916895473627763 : Unit := ()
noncomputable def tw5440085390276978291 : Unit := ()
noncomputable def tw16188822405700688499 : Unit := ()
noncomputable def tw11378520881680533043 : Unit := ()
noncomputable def tw7867681300357518899 : Unit := ()
noncomputable def tw14365998534574843411 : Unit := ()
noncomputable def tw17983917188297756147 : Unit := ()
noncomputable def tw14068239771850734003 : Unit := ()
noncomputable def tw7824222052329908659 : Unit := ()
noncomputable def tw2842816785644039571 : Unit := ()
noncomputable def tw11242623580682996947 : Unit := ()
noncomputable def tw884644925536651315 : Unit := ()
noncomputable def tw13027540482245733427 : Unit := ()
noncomputable def tw13928513891281363954 : Unit := ()
noncomputable def tw11612715853725182930 : Unit := ()
noncomputable def tw1079708855280229330 : Unit := ()
noncomputable def tw4430775014708722610 : Unit := ()
noncomputable def tw11736780227944870738 : Unit := ()
noncomputable def tw7525655301032184626 : Unit := ()
noncomputable def tw14771985120617686802 : Unit := ()
noncomputable def tw16985871876413990642 : Unit := ()
noncomputable def tw9186790425516483314 : Unit := ()
noncomputable def tw15519761934197397234 : Unit := ()
noncomputable def tw8166991320080258738 : Unit := ()
noncomputable def tw17485024515217194642 : Unit := ()
noncomputable def tw10697019674602590866 : Unit := ()
noncomputable def tw17591669423913269842 : Unit := ()
noncomputable def tw12985212532813657682 : Unit := ()
noncomputable def tw18419851948703540754 : Unit := ()
noncomputable def tw4014216774688872946 : Unit := ()
noncomputable def tw6717767316833874322 : Unit := ()
noncomputable def tw16720883766928916882 : Unit := ()
noncomputable def tw14044709251442629906 : Unit := ()
noncomputable def tw68815829978753266 : Unit := ()
noncomputable def tw200952908838891698 : Unit := ()
noncomputable def tw11084693905056812178 : Unit := ()
noncomputable def tw13220695134330190930 : Unit := ()
noncomputable def tw3138800457800853586 : Unit := ()
noncomputable def tw4128963183011607505 : Unit := ()
noncomputable def tw18216745520431054769 : Unit := ()
noncomputable def tw9984997112416240561 : Unit := ()
noncomputable def tw5884965284304258897 : Unit := ()
noncomputable def tw3700716474693379825 : Unit := ()
noncomputable def tw1327343985113690801 : Unit := ()
noncomputable def tw15242674970999812785 : Unit := ()
noncomputable def tw2316775634158704177 : Unit := ()
noncomputable def tw9796634230379533873 : Unit := ()
noncomputable def tw4822506900650540561 : Unit := ()
noncomputable def tw125183967897747985 : Unit := ()
noncomputable def tw13607757164722159089 : Unit := ()
noncomputable def tw11102767992079720913 : Unit := ()
noncomputable def tw8076105961534405009 : Unit := ()
noncomputable def tw6860577389561355601 : Unit := ()
noncomputable def tw13505173894226300209 : Unit := ()
noncomputable def tw5675193095830314289 : Unit := ()
noncomputable def tw5750698986362780913 : Unit := ()
noncomputable def tw11330118131623060689 : Unit := ()
noncomputable def tw7238125184777875665 : Unit := ()
noncomputable def tw4927947371108770993 : Unit := ()
noncomputable def tw583233376362171505 : Unit := ()
noncomputable def tw2690882624139800689 : Unit := ()
noncomputable def tw18168848097628341329 : Unit := ()
noncomputable def tw4907521953547317329 : Unit := ()
noncomputable def tw7916663265354606609 : Unit := ()
noncomputable def tw927500100414286832 : Unit := ()
noncomputable def tw9163178095015654352 : Unit := ()
noncomputable def tw7715112194839844752 : Unit := ()
noncomputable def tw15248031165874397040 : Unit := ()
noncomputable def tw766856551031688912 : Unit := ()
noncomputable def tw17523770736405063376 : Unit := ()
noncomputable def tw7785168158365692624 : Unit := ()
noncomputable def tw4438364104728389296 : Unit := ()
noncomputable def tw13492775673106092688 : Unit := ()
noncomputable def tw13912068318134460016 : Unit := ()
noncomputable def tw10912467617979834864 : Unit := ()
noncomputable def tw13172091369480311280 : Unit := ()
noncomputable def tw18074533905802821072 : Unit := ()
noncomputable def tw2792250951161479536 : Unit := ()
noncomputable def tw11757652711159077200 : Unit := ()
noncomputable def tw306535358961565008 : Unit := ()
noncomputable def tw3905375630023619888 : Unit := ()
noncomputable def tw10636018739910865072 : Unit := ()
noncomputable def tw9837934778547622032 : Unit := ()
noncomputable def tw15144194532227929168 : Unit := ()
noncomputable def tw13057232943065969744 : Unit := ()
noncomputable def tw17673552818380985392 : Unit := ()
noncomputable def tw4068328023764021264 : Unit := ()
noncomputable def tw17840812128005083152 : Unit := ()
noncomputable def tw3835962111665225711 : Unit := ()
noncomputable def tw12580110897883145167 : Unit := ()
noncomputable def tw8397605616207071183 : Unit := ()
noncomputable def tw6176105912117767087 : Unit := ()
noncomputable def tw8670540905479144303 : Unit := ()
noncomputable def tw10393596885623623503 : Unit := ()
noncomputable def tw14288127532215574351 : Unit := ()
noncomputable def tw11888049472147760879 : Unit := ()
noncomputable def tw7723783022558009007 : Unit := ()
noncomputable def tw1694654335647164047 : Unit := ()
noncomputable def tw945595864737313391 : Unit := ()
noncomputable def tw1298631472846954095 : Unit := ()
noncomputable def tw7778630667622746703 : Unit := ()
noncomputable def tw8661065196793792047 : Unit := ()
noncomputable def tw7660858615051961871 : Unit := ()
noncomputable def tw9796569379432623599 : Unit := ()
noncomputable def tw6950096446663180783 : Unit := ()
noncomputable def tw3516009707026607567 : Unit := ()
noncomputable def tw1848905817553068399 : Unit := ()
noncomputable def tw15670805634923389295 : Unit := ()
noncomputable def tw7234240908195146063 : Unit := ()
noncomputable def tw17899929404969355535 : Unit := ()
noncomputable def tw12784588452913835247 : Unit := ()
noncomputable def tw14970210157437980911 : Unit := ()
noncomputable def tw11051373392699811023 : Unit := ()
noncomputable def tw16171933092410999983 : Unit := ()
noncomputable def tw11441816438227186863 : Unit := ()
noncomputable def tw11051709101105081487 : Unit := ()
noncomputable def tw16727532447511142511 : Unit := ()
noncomputable def tw16215753837559589999 : Unit := ()
noncomputable def tw6055196601331254383 : Unit := ()
noncomputable def tw6836359950869179439 : Unit := ()
noncomputable def tw5715779271170130959 : Unit := ()
noncomputable def tw15198316981687975854 : Unit := ()
noncomputable def tw5217560924200664910 : Unit := ()
noncomputable def tw13467292715098799918 : Unit := ()
noncomputable def tw16788233547135642414 : Unit := ()
noncomputable def tw5641124861440336686 : Unit := ()
noncomputable def tw4498182102138418894 : Unit := ()
noncomputable def tw14832659646925512398 : Unit := ()
noncomputable def tw5044639097624668846 : Unit := ()
noncomputable def tw15451204947285891726 : Unit := ()
noncomputable def tw3318330705443729038 : Unit := ()
noncomputable def tw4561188658046838414 : Unit := ()
noncomputable def tw10677670038743541358 : Unit := ()
noncomputable def tw5103420120806187630 : Unit := ()
noncomputable def tw15305453227285626446 : Unit := ()
noncomputable def tw16779862611959906862 : Unit := ()
noncomputable def tw5103381174273319438 : Unit := ()
noncomputable def tw10787622589932112302 : Unit := ()
noncomputable def tw16232008947845578158 : Unit := ()
noncomputable def tw14276984569858977166 : Unit := ()
noncomputable def tw2496985677507960046 : Unit := ()
noncomputable def tw10793401674749092046 : Unit := ()
noncomputable def tw12320724196928087214 : Unit := ()
noncomputable def tw5377772837010204750 : Unit := ()
noncomputable def tw9405301459192476718 : Unit := ()
noncomputable def tw8146785798897364014 : Unit := ()
noncomputable def tw17106608494224303150 : Unit := ()
noncomputable def tw1957997846565066766 : Unit := ()
noncomputable def tw11790413056962406381 : Unit := ()
noncomputable def tw2020152571437148077 : Unit := ()
noncomputable def tw11557621650720384941 : Unit := ()
noncomputable def tw12405882331826627501 : Unit := ()
noncomputable def tw18107075240765231021 : Unit := ()
noncomputable def tw16987476370533704557 : Unit := ()
noncomputable def tw335442867052375821 : Unit := ()
noncomputable def tw15618092478124507917 : Unit := ()
noncomputable def tw7347661181068853997 : Unit := ()
noncomputable def tw8315046463243809389 : Unit := ()
noncomputable def tw16705860606270256717 : Unit := ()
noncomputable def tw9824210758632946157 : Unit := ()
noncomputable def tw4818641064637329869 : Unit := ()
noncomputable def tw1832691508475867565 : Unit := ()
noncomputable def tw18343157571677020557 : Unit := ()
noncomputable def tw760045182452098349 : Unit := ()
noncomputable def tw9514876090768664877 : Unit := ()
noncomputable def tw4613981591765525805 : Unit := ()
noncomputable def tw10400367350220817645 : Unit := ()
noncomputable def tw9455471141526271117 : Unit := ()
noncomputable def tw15651733941924773997 : Unit := ()
noncomputable def tw4244794441018138637 : Unit := ()
noncomputable def tw7957553974722075628 : Unit := ()
noncomputable def tw8007103614756019116 : Unit := ()
noncomputable def tw13280447903547772812 : Unit := ()
noncomputable def tw15575253945988166476 : Unit := ()
noncomputable def tw2891402810631288588 : Unit := ()
noncomputable def tw17314943208353570444 : Unit := ()
noncomputable def tw8312510263607220780 : Unit := ()
noncomputable def tw5854907428364158380 : Unit := ()
noncomputable def tw14310873030558110092 : Unit := ()
noncomputable def tw1356099576862622092 : Unit := ()
noncomputable def tw18120535436291149196 : Unit := ()
noncomputable def tw14211586455995466092 : Unit := ()
noncomputable def tw5649657749835318636 : Unit := ()
noncomputable def tw4463848349969469772 : Unit := ()
noncomputable def tw4214497047443048748 : Unit := ()
noncomputable def tw10130366669087276332 : Unit := ()
noncomputable def tw6635522753158126860 : Unit := ()
noncomputable def tw15968848678202421516 : Unit := ()
noncomputable def tw9022205114861038860 : Unit := ()
noncomputable def tw11112267310362752236 : Unit := ()
noncomputable def tw11230645906715702508 : Unit := ()
noncomputable def tw4835796080096327916 : Unit := ()
noncomputable def tw13042374122123996364 : Unit := ()
noncomputable def tw7514489123796633772 : Unit := ()
noncomputable def tw9592678889267232940 : Unit := ()
noncomputable def tw15671812041987572844 : Unit := ()
noncomputable def tw8908958038130373740 : Unit := ()
noncomputable def tw3185962312253278316 : Unit := ()
noncomputable def tw8045866029985295436 : Unit := ()
noncomputable def tw10109858038793035691 : Unit := ()
noncomputable def tw6742200501135914891 : Unit := ()
noncomputable def tw16567661231398824811 : Unit := ()
noncomputable def tw5888963250497168203 : Unit := ()
noncomputable def tw17848959056065924907 : Unit := ()
noncomputable def tw2333626107976518443 : Unit := ()
noncomputable def tw890751993682150155 : Unit := ()
noncomputable def tw8121427672614705931 : Unit := ()
noncomputable def tw1550712947053634219 : Unit := ()
noncomputable def tw11483986225225671339 : Unit := ()
noncomputable def tw3140247085548477035 : Unit := ()
noncomputable def tw16016398639907115627 : Unit := ()
noncomputable def tw6323490242551619147 : Unit := ()
noncomputable def tw8621771247159374411 : Unit := ()
noncomputable def tw80721349811472939 : Unit := ()
noncomputable def tw4976203025697557035 : Unit := ()
noncomputable def tw6721464258858852875 : Unit := ()
noncomputable def tw14849280956162755979 : Unit := ()
noncomputable def tw10312239555926195531 : Unit := ()
noncomputable def tw3468823194966119755 : Unit := ()
noncomputable def tw18094267598192979275 : Unit := ()
noncomputable def tw12724949091593755947 : Unit := ()
noncomputable def tw15158558636265767147 : Unit := ()
noncomputable def tw2013830700403712203 : Unit := ()
noncomputable def tw17408919567675379883 : Unit := ()
noncomputable def tw7477525919779312811 : Unit := ()
noncomputable def tw5362506446432344171 : Unit := ()
noncomputable def tw2635291827760884747 : Unit := ()
noncomputable def tw17869465992159879179 : Unit := ()
noncomputable def tw15775133740396041162 : Unit := ()
noncomputable def tw11706699075341729706 : Unit := ()
noncomputable def tw5727973534668710794 : Unit := ()
noncomputable def tw10921597071642053482 : Unit := ()
noncomputable def tw11120492362615346026 : Unit := ()
noncomputable def tw2299508167122706282 : Unit := ()
noncomputable def tw4983024317834737482 : Unit := ()
noncomputable def tw12885334096101347146 : Unit := ()
noncomputable def tw17606682298306965290 : Unit := ()
noncomputable def tw2627396739876165418 : Unit := ()
noncomputable def tw13663018214320142090 : Unit := ()
noncomputable def tw14853665493834295914 : Unit := ()
noncomputable def tw10705108097460422218 : Unit := ()
noncomputable def tw9301309066579124778 : Unit := ()
noncomputable def tw18433669859833586122 : Unit := ()
noncomputable def tw2816474811461910954 : Unit := ()
noncomputable def tw16176830815697697194 : Unit := ()
noncomputable def tw11045270430615452010 : Unit := ()
noncomputable def tw4241227540667249002 : Unit := ()
noncomputable def tw4452577129215390026 : Unit := ()
noncomputable def tw11990357761064164650 : Unit := ()
noncomputable def tw11961059351148515626 : Unit := ()
noncomputable def tw17657238230949819594 : Unit := ()
noncomputable def tw14124840197023413450 : Unit := ()
noncomputable def tw5313006154424263818 : Unit := ()
noncomputable def tw18068929663759586442 : Unit := ()
noncomputable def tw15437854835666668586 : Unit := ()
noncomputable def tw16857469709051444266 : Unit := ()
noncomputable def tw5061037604254504937 : Unit := ()
noncomputable def tw14204109254541194217 : Unit := ()
noncomputable def tw14648097213134440425 : Unit := ()
noncomputable def tw11448872678469705673 : Unit := ()
noncomputable def tw10331167273965929257 : Unit := ()
noncomputable def tw4937054150386731785 : Unit := ()
noncomputable def tw12670715608682713705 : Unit := ()
noncomputable def tw17084071853196174921 : Unit := ()
noncomputable def tw10073190252686323273 : Unit := ()
noncomputable def tw14822214895437561417 : Unit := ()
noncomputable def tw6873541528101158377 : Unit := ()
noncomputable def tw5558808128744370633 : Unit := ()
noncomputable def tw6147308635103535561 : Unit := ()
noncomputable def tw7492772011675989385 : Unit := ()
noncomputable def tw2531900633515307401 : Unit := ()
noncomputable def tw3855190133869164905 : Unit := ()
noncomputable def tw11951307492845570281 : Unit := ()
noncomputable def tw7272270352196073673 : Unit := ()
noncomputable def tw14883968960377749705 : Unit := ()
noncomputable def tw17711473739705145481 : Unit := ()
noncomputable def tw2494268533263957097 : Unit := ()
noncomputable def tw9069304868558884969 : Unit := ()
noncomputable def tw8373720323635723369 : Unit := ()
noncomputable def tw12926333453430215753 : Unit := ()
noncomputable def tw14151137839513740329 : Unit := ()
noncomputable def tw13455461431897201640 : Unit := ()
noncomputable def tw5476340991381562312 : Unit := ()
noncomputable def tw8901488873923373992 : Unit := ()
noncomputable def tw14940032972901115816 : Unit := ()
noncomputable def tw4814944892674192296 : Unit := ()
noncomputable def tw12394350090093965224 : Unit := ()
noncomputable def tw12819504698909858696 : Unit := ()
noncomputable def tw5870148494974776200 : Unit := ()
noncomputable def tw15778654729900951400 : Unit := ()
noncomputable def tw9327985806830046984 : Unit := ()
noncomputable def tw29985565223642888 : Unit := ()
noncomputable def tw1352723322627576488 : Unit := ()
noncomputable def tw3788544764152331944 : Unit := ()
noncomputable def tw14504465163362997928 : Unit := ()
noncomputable def tw1750280776747563624 : Unit := ()
noncomputable def tw14832718209330476552 : Unit := ()
noncomputable def tw14421808642430287336 : Unit := ()
noncomputable def tw9486138936568494536 : Unit := ()
noncomputable def tw4005113011885737416 : Unit := ()
noncomputable def tw9142619525353888168 : Unit := ()
noncomputable def tw11925040711228000680 : Unit := ()
noncomputable def tw5543487718492105064 : Unit := ()
noncomputable def tw2638793534194840904 : Unit := ()
noncomputable def tw5657447785659697480 : Unit := ()
noncomputable def tw433751870149770472 : Unit := ()
noncomputable def tw5113878289174177000 : Unit := ()
noncomputable def tw17260577670642009320 : Unit := ()
noncomputable def tw885046472334632136 : Unit := ()
noncomputable def tw8968355716326206664 : Unit := ()
noncomputable def tw10971250334911043752 : Unit := ()
noncomputable def tw14331890051309236264 : Unit := ()
noncomputable def tw9700507354520375304 : Unit := ()
noncomputable def tw14523845485542788104 : Unit := ()
noncomputable def tw12484062437737579528 : Unit := ()
noncomputable def tw15151187641303801864 : Unit := ()
noncomputable def tw2282503699175663591 : Unit := ()
noncomputable def tw18433079168191953831 : Unit := ()
noncomputable def tw3832104259330054055 : Unit := ()
noncomputable def tw2362829445674453831 : Unit := ()
noncomputable def tw10389294372677164839 : Unit := ()
noncomputable def tw5615934883764171431 : Unit := ()
noncomputable def tw14099800850047386279 : Unit := ()
noncomputable def tw9273556802335580839 : Unit := ()
noncomputable def tw9196661522157602471 : Unit := ()
noncomputable def tw14081932915414352519 : Unit := ()
noncomputable def tw4634341240264483431 : Unit := ()
noncomputable def tw8838840417862019655 : Unit := ()
noncomputable def tw17360653242477243975 : Unit := ()
noncomputable def tw14074921412963316263 : Unit := ()
noncomputable def tw6896591704953265671 : Unit := ()
noncomputable def tw11473507486328240615 : Unit := ()
noncomputable def tw10640348836240559591 : Unit := ()
noncomputable def tw17393663094203119047 : Unit := ()
noncomputable def tw2750322548573693319 : Unit := ()
noncomputable def tw8706731066875689191 : Unit := ()
noncomputable def tw16084742875079473383 : Unit := ()
noncomputable def tw14971269681375995079 : Unit := ()
noncomputable def tw7779009951696393383 : Unit := ()
noncomputable def tw7657994479303150727 : Unit := ()
noncomputable def tw1095929389519559783 : Unit := ()
noncomputable def tw13270532327374429287 : Unit := ()
noncomputable def tw6178583632892115015 : Unit := ()
noncomputable def tw17053130121481772103 : Unit := ()
noncomputable def tw6937712530238838726 : Unit := ()
noncomputable def tw1326175403826912198 : Unit := ()
noncomputable def tw14661163797125724070 : Unit := ()
noncomputable def tw11273133048781285286 : Unit := ()
noncomputable def tw1215526528800860966 : Unit := ()
noncomputable def tw7473514446972121862 : Unit := ()
noncomputable def tw17717444079117462278 : Unit := ()
noncomputable def tw13596499734656872166 : Unit := ()
noncomputable def tw10942295900298899174 : Unit := ()
noncomputable def tw13657395267715391174 : Unit := ()
noncomputable def tw596421839371371174 : Unit := ()
noncomputable def tw12428716410969305734 : Unit := ()
noncomputable def tw11877403491279123046 : Unit := ()
noncomputable def tw12304872625307995750 : Unit := ()
noncomputable def tw11563076530477234726 : Unit := ()
noncomputable def tw9107108562952019494 : Unit := ()
noncomputable def tw16700318575013349798 : Unit := ()
noncomputable def tw18124843273605240230 : Unit := ()
noncomputable def tw10600613889749566790 : Unit := ()
noncomputable def tw10640303290150162726 : Unit := ()
noncomputable def tw11931918283646908614 : Unit := ()
noncomputable def tw4801688742562958406 : Unit := ()
noncomputable def tw4965207536615798822 : Unit := ()
noncomputable def tw6946980451890315270 : Unit := ()
noncomputable def tw16136937179128050694 : Unit := ()
noncomputable def tw7458478332549306277 : Unit := ()
noncomputable def tw282076826160197541 : Unit := ()
noncomputable def tw10856765595117590405 : Unit := ()
noncomputable def tw6846761488900895589 : Unit := ()
noncomputable def tw4765306392115962693 : Unit := ()
noncomputable def tw16433278489552267077 : Unit := ()
noncomputable def tw11116879363250112325 : Unit := ()
noncomputable def tw17469454598705902373 : Unit := ()
noncomputable def tw12899656968702213925 : Unit := ()
noncomputable def tw6686757251022233349 : Unit := ()
noncomputable def tw525001674005675781 : Unit := ()
noncomputable def tw7263415099574290149 : Unit := ()
noncomputable def tw6651456455751515877 : Unit := ()
noncomputable def tw2235618017368140517 : Unit := ()
noncomputable def tw4722931859811370693 : Unit := ()
noncomputable def tw12071712058454129317 : Unit := ()
noncomputable def tw17411639873488161413 : Unit := ()
noncomputable def tw3108443244893856389 : Unit := ()
noncomputable def tw1585303152785439333 : Unit := ()
noncomputable def tw4645612490112672357 : Unit := ()
noncomputable def tw5747321363474778693 : Unit := ()
noncomputable def tw1586037315452845605 : Unit := ()
noncomputable def tw12248520049373816357 : Unit := ()
noncomputable def tw4156143147478942181 : Unit := ()
noncomputable def tw18118164260907729349 : Unit := ()
noncomputable def tw6271033356711949733 : Unit := ()
noncomputable def tw13930999109560414629 : Unit := ()
noncomputable def tw3239841934065285509 : Unit := ()
noncomputable def tw1834627630568429925 : Unit := ()
noncomputable def tw14478419276589960357 : Unit := ()
noncomputable def tw11113120797386210373 : Unit := ()
noncomputable def tw2305613221535706149 : Unit := ()
noncomputable def tw8608077670442852389 : Unit := ()
noncomputable def tw18291108133853008933 : Unit := ()
noncomputable def tw3082626142003458053 : Unit := ()
noncomputable def tw741329169588805604 : Unit := ()
noncomputable def tw15359849362664289188 : Unit := ()
noncomputable def tw13113687655016186724 : Unit := ()
noncomputable def tw12317132656592258788 : Unit := ()
noncomputable def tw6648324312943424196 : Unit := ()
noncomputable def tw3448833343719912132 : Unit := ()
noncomputable def tw4215066571649420964 : Unit := ()
noncomputable def tw10011055193491271300 : Unit := ()
noncomputable def tw11776277695535270532 : Unit := ()
noncomputable def tw8111057081096800836 : Unit := ()
noncomputable def tw4847766330237268548 : Unit := ()
noncomputable def tw15054863418237798948 : Unit := ()
noncomputable def tw1291087626157917732 : Unit := ()
noncomputable def tw8398887430952950212 : Unit := ()
noncomputable def tw10696458614491829572 : Unit := ()
noncomputable def tw1142058581544160548 : Unit := ()
noncomputable def tw16296590348105434372 : Unit := ()
noncomputable def tw4544264296663088324 : Unit := ()
noncomputable def tw4547723090059260100 : Unit := ()
noncomputable def tw5936211784296988740 : Unit := ()
noncomputable def tw9976896545867408452 : Unit := ()
noncomputable def tw13830746773910301732 : Unit := ()
noncomputable def tw5927061715728957476 : Unit := ()
noncomputable def tw76700771618905059 : Unit := ()
noncomputable def tw5187159431361770467 : Unit := ()
noncomputable def tw11375281295658956675 : Unit := ()
noncomputable def tw6575127235232548739 : Unit := ()
noncomputable def tw17172520439673271139 : Unit := ()
noncomputable def tw2144533961223786307 : Unit := ()
noncomputable def tw12345319411167063811 : Unit := ()
noncomputable def tw8401958774316805891 : Unit := ()
noncomputable def tw8711421783369662179 : Unit := ()
noncomputable def tw9285670843845949155 : Unit := ()
noncomputable def tw14201790961670687459 : Unit := ()
noncomputable def tw13135058765949404771 : Unit := ()
noncomputable def tw2997595627926355555 : Unit := ()
noncomputable def tw7848317997028865603 : Unit := ()
noncomputable def tw5951016989528529443 : Unit := ()
noncomputable def tw1973140245219671491 : Unit := ()
noncomputable def tw898707613593260451 : Unit := ()
noncomputable def tw14984247238865676675 : Unit := ()
noncomputable def tw18440353960458814819 : Unit := ()
noncomputable def tw3616883902118795587 : Unit := ()
noncomputable def tw8631769301878362403 : Unit := ()
noncomputable def tw1923041757053545603 : Unit := ()
noncomputable def tw5007245332940595331 : Unit := ()
noncomputable def tw17394647144938102915 : Unit := ()
noncomputable def tw8593244855664925795 : Unit := ()
noncomputable def tw10045075416114340931 : Unit := ()
noncomputable def tw3849640880644552707 : Unit := ()
noncomputable def tw7686242042924871683 : Unit := ()
noncomputable def tw10042690540180379618 : Unit := ()
noncomputable def tw11038128598146805730 : Unit := ()
noncomputable def tw7159026401054745538 : Unit := ()
noncomputable def tw247909236438806434 : Unit := ()
noncomputable def tw7654578318931278690 : Unit := ()
noncomputable def tw12447178028490564450 : Unit := ()
noncomputable def tw16183010546200382306 : Unit := ()
noncomputable def tw10168888151487559394 : Unit := ()
noncomputable def tw14549113301119539810 : Unit := ()
noncomputable def tw8678582069086723682 : Unit := ()
noncomputable def tw6495733333828780514 : Unit := ()
noncomputable def tw13100642850353945058 : Unit := ()
noncomputable def tw9179554920180893090 : Unit := ()
noncomputable def tw5248012151768918434 : Unit := ()
noncomputable def tw14899674885815798178 : Unit := ()
noncomputable def tw9833964599435250050 : Unit := ()
noncomputable def tw11798761498685784450 : Unit := ()
noncomputable def tw15766547542915688834 : Unit := ()
noncomputable def tw1752733083305661762 : Unit := ()
noncomputable def tw18003279642469066050 : Unit := ()
noncomputable def tw6794366774042380578 : Unit := ()
noncomputable def tw15849158762323818722 : Unit := ()
noncomputable def tw9537782516805191874 : Unit := ()
noncomputable def tw11536899603342547138 : Unit := ()
noncomputable def tw13897503799994109090 : Unit := ()
noncomputable def tw15902913901339227234 : Unit := ()
noncomputable def tw5931688323066260514 : Unit := ()
noncomputable def tw11533779600810293282 : Unit := ()
noncomputable def tw10252965763247687682 : Unit := ()
noncomputable def tw3153289441736887298 : Unit := ()
noncomputable def tw4195489330254351329 : Unit := ()
noncomputable def tw13338274903956020161 : Unit := ()
noncomputable def tw3702781205502781313 : Unit := ()
noncomputable def tw15888595825805129569 : Unit := ()
noncomputable def tw5213130599944360801 : Unit := ()
noncomputable def tw16665526110328478529 : Unit := ()
noncomputable def tw16926426053830025025 : Unit := ()
noncomputable def tw9241353231930656577 : Unit := ()
noncomputable def tw17424916104665291489 : Unit := ()
noncomputable def tw5191467471856622273 : Unit := ()
noncomputable def tw5162543521180666497 : Unit := ()
noncomputable def tw10188801085194608257 : Unit := ()
noncomputable def tw7062720368445256129 : Unit := ()
noncomputable def tw7130465076275759521 : Unit := ()
noncomputable def tw16573077582942348641 : Unit := ()
noncomputable def tw15541118713287057729 : Unit := ()
noncomputable def tw5919330448614353153 : Unit := ()
noncomputable def tw397829171339713761 : Unit := ()
noncomputable def tw11489409643829403841 : Unit := ()
noncomputable def tw17914837950057056417 : Unit := ()
noncomputable def tw1859658367360657537 : Unit := ()
noncomputable def tw8948736912299370593 : Unit := ()
noncomputable def tw11139934685464864865 : Unit := ()
noncomputable def tw3347175955162335329 : Unit := ()
noncomputable def tw1238725946784135233 : Unit := ()
noncomputable def tw8247663516303736865 : Unit := ()
noncomputable def tw11446199593928302625 : Unit := ()
noncomputable def tw17740860788197283744 : Unit := ()
noncomputable def tw17843529362963011488 : Unit := ()
noncomputable def tw7916160540357663616 : Unit := ()
noncomputable def tw15460995928004159328 : Unit := ()
noncomputable def tw16773635481313006432 : Unit := ()
noncomputable def tw6853843781069519680 : Unit := ()
noncomputable def tw14647661154017913664 : Unit := ()
noncomputable def tw3105161912409373472 : Unit := ()
noncomputable def tw7946034326556018432 : Unit := ()
noncomputable def tw18369841484834026144 : Unit := ()
noncomputable def tw1081408078033650336 : Unit := ()
noncomputable def tw5781126440621211168 : Unit := ()
noncomputable def tw15393178847056368160 : Unit := ()
noncomputable def tw8630030210275731936 : Unit := ()
noncomputable def tw17026743227940831712 : Unit := ()
noncomputable def tw328508388705569248 : Unit := ()
noncomputable def tw3578222212851893600 : Unit := ()
noncomputable def tw11091474679367250208 : Unit := ()
noncomputable def tw14003663102062188800 : Unit := ()
noncomputable def tw9743695723290020096 : Unit := ()
noncomputable def tw7918374967389245632 : Unit := ()
noncomputable def tw6674347012523051200 : Unit := ()
noncomputable def tw12803817524326497440 : Unit := ()
noncomputable def tw3527972740633252992 : Unit := ()
noncomputable def tw6635096433462372448 : Unit := ()
noncomputable def tw13760266836079841376 : Unit := ()
noncomputable def tw14511287757244466272 : Unit := ()
noncomputable def tw649721667195061312 : Unit := ()
noncomputable def tw11785345923209364544 : Unit := ()
noncomputable def tw16942522186650535968 : Unit := ()
noncomputable def tw3447812341617619282 : Unit := ()
end Mine.all
namespace Mine
theorem elA {G : Prop} {P0 : Prop} {P1 : Prop} (h : (P0 ∧ P1)) (k : P0 → P1 → G) : G := by obtain ⟨y0, y1⟩ := h; exact k y0 y1
theorem elAA {G : Prop} {P0 : Prop} {P1 : Prop} {P2 : Prop} (h : (P0 ∧ (P1 ∧ P2))) (k : P0 → P1 → P2 → G) : G := by obtain ⟨y0, y1, y2⟩ := h; exact k y0 y1 y2
theorem elAAA {G : Prop} {P0 : Prop} {P1 : Prop} {P2 : Prop} {P3 : Prop} (h : (P0 ∧ (P1 ∧ (P2 ∧ P3)))) (k : P0 → P1 → P2 → P3 → G) : G := by obtain ⟨y0, y1, y2, y3⟩ := h; exact k y0 y1 y2 y3
theorem elAAAA {G : Prop} {P0 : Prop} {P1 : Prop} {P2 : Prop} {P3 : Prop} {P4 : Prop} (h : (P0 ∧ (P1 ∧ (P2 ∧ (P3 ∧ P4))))) (k : P0 → P1 → P2 → P3 → P4 → G) : G := by obtain ⟨y0, y1, y2, y3, y4⟩ := h; exact k y0 y1 y2 y3 y4
theorem elAAAAA {G : Prop} {P0 : Prop} {P1 : Prop} {P2 : Prop} {P3 : Prop} {P4 : Prop} {P5 : Prop} (h : (P0 ∧ (P1 ∧ (P2 ∧ (P3 ∧ (P4 ∧ P5)))))) (k : P0 → P1 → P2 → P3 → P4 → P5 → G) : G := by obtain ⟨y0, y1, y2, y3, y4, y5⟩ := h; exact k y0 y1 y2 y3 y4 y5
theorem elAAEEEA {G : Prop} {α2 : Sort _} {α3 : Sort _} {α4 : Sort _} {P0 : Prop} {P1 : Prop} {P5 : α2 → α3 → α4 → Prop} {P6 : α2 → α3 → α4 → Prop} (h : (P0 ∧ (P1 ∧ ∃ x2, ∃ x3, ∃ x4, (P5 x2 x3 x4 ∧ P6 x2 x3 x4)))) (k : P0 → P1 → ∀ x2, ∀ x3, ∀ x4, P5 x2 x3 x4 → P6 x2 x3 x4 → G) : G := by obtain ⟨y0, y1, y2, y3, y4, y5, y6⟩ := h; exact k y0 y1 y2 y3 y4 y5 y6
theorem elAAEEEEEEEAAAAAAA {G : Prop} {α2 : Sort _} {α3 : Sort _} {α4 : Sort _} {α5 : Sort _} {α6 : Sort _} {α7 : Sort _} {α8 : Sort _} {P0 : Prop} {P1 : Prop} {P9 : α2 → α3 → α4 → α5 → α6 → α7 → α8 → Prop} {P10 : α2 → α3 → α4 → α5 → α6 → α7 → α8 → Prop} {P11 : α2 → α3 → α4 → α5 → α6 → α7 → α8 → Prop} {P12 : α2 → α3 → α4 → α5 → α6 → α7 → α8 → Prop} {P13 : α2 → α3 → α4 → α5 → α6 → α7 → α8 → Prop} {P14 : α2 → α3 → α4 → α5 → α6 → α7 → α8 → Prop} {P15 : α2 → α3 → α4 → α5 → α6 → α7 → α8 → Prop} {P16 : α2 → α3 → α4 → α5 → α6 → α7 → α8 → Prop} (h : (P0 ∧ (P1 ∧ ∃ x2, ∃ x3, ∃ x4, ∃ x5, ∃ x6, ∃ x7, ∃ x8, (P9 x2 x3 x4 x5 x6 x7 x8 ∧ (P10 x2 x3 x4 x5 x6 x7 x8 ∧ (P11 x2 x3 x4 x5 x6 x7 x8 ∧ (P12 x2 x3 x4 x5 x6 x7 x8 ∧ (P13 x2 x3 x4 x5 x6 x7 x8 ∧ (P14 x2 x3 x4 x5 x6 x7 x8 ∧ (P15 x2 x3 x4 x5 x6 x7 x8 ∧ P16 x2 x3 x4 x5 x6 x7 x8)))))))))) (k : P0 → P1 → ∀ x2, ∀ x3, ∀ x4, ∀ x5, ∀ x6, ∀ x7, ∀ x8, P9 x2 x3 x4 x5 x6 x7 x8 → P10 x2 x3 x4 x5 x6 x7 x8 → P11 x2 x3 x4 x5 x6 x7 x8 → P12 x2 x3 x4 x5 x6 x7 x8 → P13 x2 x3 x4 x5 x6 x7 x8 → P14 x2 x3 x4 x5 x6 x7 x8 → P15 x2 x3 x4 x5 x6 x7 x8 → P16 x2 x3 x4 x5 x6 x7 x8 → G) : G := by obtain ⟨y0, y1, y2, y3, y4, y5, y6, y7, y8, y9, y10, y11, y12, y13, y14, y15, y16⟩ := h; exact k y0 y1 y2 y3 y4 y5 y6 y7 y8 y9 y10 y11 y12 y13 y14 y15 y16
theorem elAAEEEEEEEAAAAAAAA {G : Prop} {α2 : Sort _} {α3 : Sort _} {α4 : Sort _} {α5 : Sort _} {α6 : Sort _} {α7 : Sort _} {α8 : Sort _} {P0 : Prop} {P1 : Prop} {P9 : α2 → α3 → α4 → α5 → α6 → α7 → α8 → Prop} {P10 : α2 → α3 → α4 → α5 → α6 → α7 → α8 → Prop} {P11 : α2 → α3 → α4 → α5 → α6 → α7 → α8 → Prop} {P12 : α2 → α3 → α4 → α5 → α6 → α7 → α8 → Prop} {P13 : α2 → α3 → α4 → α5 → α6 → α7 → α8 → Prop} {P14 : α2 → α3 → α4 → α5 → α6 → α7 → α8 → Prop} {P15 : α2 → α3 → α4 → α5 → α6 → α7 → α8 → Prop} {P16 : α2 → α3 → α4 → α5 → α6 → α7 → α8 → Prop} {P17 : α2 → α3 → α4 → α5 → α6 → α7 → α8 → Prop} (h : (P0 ∧ (P1 ∧ ∃ x2, ∃ x3, ∃ x4, ∃ x5, ∃ x6, ∃ x7, ∃ x8, (P9 x2 x3 x4 x5 x6 x7 x8 ∧ (P10 x2 x3 x4 x5 x6 x7 x8 ∧ (P11 x2 x3 x4 x5 x6 x7 x8 ∧ (P12 x2 x3 x4 x5 x6 x7 x8 ∧ (P13 x2 x3 x4 x5 x6 x7 x8 ∧ (P14 x2 x3 x4 x5 x6 x7 x8 ∧ (P15 x2 x3 x4 x5 x6 x7 x8 ∧ (P16 x2 x3 x4 x5 x6 x7 x8 ∧ P17 x2 x3 x4 x5 x6 x7 x8))))))))))) (k : P0 → P1 → ∀ x2, ∀ x3, ∀ x4, ∀ x5, ∀ x6, ∀ x7, ∀ x8, P9 x2 x3 x4 x5 x6 x7 x8 → P10 x2 x3 x4 x5 x6 x7 x8 → P11 x2 x3 x4 x5 x6 x7 x8 → P12 x2 x3 x4 x5 x6 x7 x8 → P13 x2 x3 x4 x5 x6 x7 x8 → P14 x2 x3 x4 x5 x6 x7 x8 → P15 x2 x3 x4 x5 x6 x7 x8 → P16 x2 x3 x4 x5 x6 x7 x8 → P17 x2 x3 x4 x5 x6 x7 x8 → G) : G := by obtain ⟨y0, y1, y2, y3, y4, y5, y6, y7, y8, y9, y10, y11, y12, y13, y14, y15, y16, y17⟩ := h; exact k y0 y1 y2 y3 y4 y5 y6 y7 y8 y9 y10 y11 y12 y13 y14 y15 y16 y17
theorem elAAEEEEEEEEAAAAAAAAA {G : Prop} {α2 : Sort _} {α3 : Sort _} {α4 : Sort _} {α5 : Sort _} {α6 : Sort _} {α7 : Sort _} {α8 : Sort _} {α9 : Sort _} {P0 : Prop} {P1 : Prop} {P10 : α2 → α3 → α4 → α5 → α6 → α7 → α8 → α9 → Prop} {P11 : α2 → α3 → α4 → α5 → α6 → α7 → α8 → α9 → Prop} {P12 : α2 → α3 → α4 → α5 → α6 → α7 → α8 → α9 → Prop} {P13 : α2 → α3 → α4 → α5 → α6 → α7 → α8 → α9 → Prop} {P14 : α2 → α3 → α4 → α5 → α6 → α7 → α8 → α9 → Prop} {P15 : α2 → α3 → α4 → α5 → α6 → α7 → α8 → α9 → Prop} {P16 : α2 → α3 → α4 → α5 → α6 → α7 → α8 → α9 → Prop} {P17 : α2 → α3 → α4 → α5 → α6 → α7 → α8 → α9 → Prop} {P18 : α2 → α3 → α4 → α5 → α6 → α7 → α8 → α9 → Prop} {P19 : α2 → α3 → α4 → α5 → α6 → α7 → α8 → α9 → Prop} (h : (P0 ∧ (P1 ∧ ∃ x2, ∃ x3, ∃ x4, ∃ x5, ∃ x6, ∃ x7, ∃ x8, ∃ x9, (P10 x2 x3 x4 x5 x6 x7 x8 x9 ∧ (P11 x2 x3 x4 x5 x6 x7 x8 x9 ∧ (P12 x2 x3 x4 x5 x6 x7 x8 x9 ∧ (P13 x2 x3 x4 x5 x6 x7 x8 x9 ∧ (P14 x2 x3 x4 x5 x6 x7 x8 x9 ∧ (P15 x2 x3 x4 x5 x6 x7 x8 x9 ∧ (P16 x2 x3 x4 x5 x6 x7 x8 x9 ∧ (P17 x2 x3 x4 x5 x6 x7 x8 x9 ∧ (P18 x2 x3 x4 x5 x6 x7 x8 x9 ∧ P19 x2 x3 x4 x5 x6 x7 x8 x9)))))))))))) (k : P0 → P1 → ∀ x2, ∀ x3, ∀ x4, ∀ x5, ∀ x6, ∀ x7, ∀ x8, ∀ x9, P10 x2 x3 x4 x5 x6 x7 x8 x9 → P11 x2 x3 x4 x5 x6 x7 x8 x9 → P12 x2 x3 x4 x5 x6 x7 x8 x9 → P13 x2 x3 x4 x5 x6 x7 x8 x9 → P14 x2 x3 x4 x5 x6 x7 x8 x9 → P15 x2 x3 x4 x5 x6 x7 x8 x9 → P16 x2 x3 x4 x5 x6 x7 x8 x9 → P17 x2 x3 x4 x5 x6 x7 x8 x9 → P18 x2 x3 x4 x5 x6 x7 x8 x9 → P19 x2 x3 x4 x5 x6 x7 x8 x9 → G) : G := by obtain ⟨y0, y1, y2, y3, y4, y5, y6, y7, y8, y9, y10, y11, y12, y13, y14, y15, y16, y17, y18, y19⟩ := h; exact k y0 y1 y2 y3 y4 y5 y6 y7 y8 y9 y10 y11 y12 y13 y14 y15 y16 y17 y18 y19
theorem elAEA {G : Prop} {α1 : Sort _} {P0 : Prop} {P2 : α1 → Prop} {P3 : α1 → Prop} (h : (P0 ∧ ∃ x1, (P2 x1 ∧ P3 x1))) (k : P0 → ∀ x1, P2 x1 → P3 x1 → G) : G := by obtain ⟨y0, y1, y2, y3⟩ := h; exact k y0 y1 y2 y3
theorem elAEAA {G : Prop} {α1 : Sort _} {P0 : Prop} {P2 : α1 → Prop} {P3 : α1 → Prop} {P4 : α1 → Prop} (h : (P0 ∧ ∃ x1, (P2 x1 ∧ (P3 x1 ∧ P4 x1)))) (k : P0 → ∀ x1, P2 x1 → P3 x1 → P4 x1 → G) : G := by obtain ⟨y0, y1, y2, y3, y4⟩ := h; exact k y0 y1 y2 y3 y4
theorem elE {G : Prop} {α0 : Sort _} {P1 : α0 → Prop} (h : ∃ x0, P1 x0) (k : ∀ x0, P1 x0 → G) : G := by obtain ⟨y0, y1⟩ := h; exact k y0 y1
theorem elEA {G : Prop} {α0 : Sort _} {P1 : α0 → Prop} {P2 : α0 → Prop} (h : ∃ x0, (P1 x0 ∧ P2 x0)) (k : ∀ x0, P1 x0 → P2 x0 → G) : G := by obtain ⟨y0, y1, y2⟩ := h; exact k y0 y1 y2
theorem elEAA {G : Prop} {α0 : Sort _} {P1 : α0 → Prop} {P2 : α0 → Prop} {P3 : α0 → Prop} (h : ∃ x0, (P1 x0 ∧ (P2 x0 ∧ P3 x0))) (k : ∀ x0, P1 x0 → P2 x0 → P3 x0 → G) : G := by obtain ⟨y0, y1, y2, y3⟩ := h; exact k y0 y1 y2 y3
theorem elEAAAA {G : Prop} {α0 : Sort _} {P1 : α0 → Prop} {P2 : α0 → Prop} {P3 : α0 → Prop} {P4 : α0 → Prop} {P5 : α0 → Prop} (h : ∃ x0, (P1 x0 ∧ (P2 x0 ∧ (P3 x0 ∧ (P4 x0 ∧ P5 x0))))) (k : ∀ x0, P1 x0 → P2 x0 → P3 x0 → P4 x0 → P5 x0 → G) : G := by obtain ⟨y0, y1, y2, y3, y4, y5⟩ := h; exact k y0 y1 y2 y3 y4 y5
theorem elEE {G : Prop} {α0 : Sort _} {α1 : Sort _} {P2 : α0 → α1 → Prop} (h : ∃ x0, ∃ x1, P2 x0 x1) (k : ∀ x0, ∀ x1, P2 x0 x1 → G) : G := by obtain ⟨y0, y1, y2⟩ := h; exact k y0 y1 y2
theorem elEEA {G : Prop} {α0 : Sort _} {α1 : Sort _} {P2 : α0 → α1 → Prop} {P3 : α0 → α1 → Prop} (h : ∃ x0, ∃ x1, (P2 x0 x1 ∧ P3 x0 x1)) (k : ∀ x0, ∀ x1, P2 x0 x1 → P3 x0 x1 → G) : G := by obtain ⟨y0, y1, y2, y3⟩ := h; exact k y0 y1 y2 y3
theorem elEEAA {G : Prop} {α0 : Sort _} {α1 : Sort _} {P2 : α0 → α1 → Prop} {P3 : α0 → α1 → Prop} {P4 : α0 → α1 → Prop} (h : ∃ x0, ∃ x1, (P2 x0 x1 ∧ (P3 x0 x1 ∧ P4 x0 x1))) (k : ∀ x0, ∀ x1, P2 x0 x1 → P3 x0 x1 → P4 x0 x1 → G) : G := by obtain ⟨y0, y1, y2, y3, y4⟩ := h; exact k y0 y1 y2 y3 y4
theorem elEEAAA {G : Prop} {α0 : Sort _} {α1 : Sort _} {P2 : α0 → α1 → Prop} {P3 : α0 → α1 → Prop} {P4 : α0 → α1 → Prop} {P5 : α0 → α1 → Prop} (h : ∃ x0, ∃ x1, (P2 x0 x1 ∧ (P3 x0 x1 ∧ (P4 x0 x1 ∧ P5 x0 x1)))) (k : ∀ x0, ∀ x1, P2 x0 x1 → P3 x0 x1 → P4 x0 x1 → P5 x0 x1 → G) : G := by obtain ⟨y0, y1, y2, y3, y4, y5⟩ := h; exact k y0 y1 y2 y3 y4 y5
theorem elEEAAAA {G : Prop} {α0 : Sort _} {α1 : Sort _} {P2 : α0 → α1 → Prop} {P3 : α0 → α1 → Prop} {P4 : α0 → α1 → Prop} {P5 : α0 → α1 → Prop} {P6 : α0 → α1 → Prop} (h : ∃ x0, ∃ x1, (P2 x0 x1 ∧ (P3 x0 x1 ∧ (P4 x0 x1 ∧ (P5 x0 x1 ∧ P6 x0 x1))))) (k : ∀ x0, ∀ x1, P2 x0 x1 → P3 x0 x1 → P4 x0 x1 → P5 x0 x1 → P6 x0 x1 → G) : G := by obtain ⟨y0, y1, y2, y3, y4, y5, y6⟩ := h; exact k y0 y1 y2 y3 y4 y5 y6
theorem elEEAAAAAA {G : Prop} {α0 : Sort _} {α1 : Sort _} {P2 : α0 → α1 → Prop} {P3 : α0 → α1 → Prop} {P4 : α0 → α1 → Prop} {P5 : α0 → α1 → Prop} {P6 : α0 → α1 → Prop} {P7 : α0 → α1 → Prop} {P8 : α0 → α1 → Prop} (h : ∃ x0, ∃ x1, (P2 x0 x1 ∧ (P3 x0 x1 ∧ (P4 x0 x1 ∧ (P5 x0 x1 ∧ (P6 x0 x1 ∧ (P7 x0 x1 ∧ P8 x0 x1))))))) (k : ∀ x0, ∀ x1, P2 x0 x1 → P3 x0 x1 → P4 x0 x1 → P5 x0 x1 → P6 x0 x1 → P7 x0 x1 → P8 x0 x1 → G) : G := by obtain ⟨y0, y1, y2, y3, y4, y5, y6, y7, y8⟩ := h; exact k y0 y1 y2 y3 y4 y5 y6 y7 y8
theorem elEEEA {G : Prop} {α0 : Sort _} {α1 : Sort _} {α2 : Sort _} {P3 : α0 → α1 → α2 → Prop} {P4 : α0 → α1 → α2 → Prop} (h : ∃ x0, ∃ x1, ∃ x2, (P3 x0 x1 x2 ∧ P4 x0 x1 x2)) (k : ∀ x0, ∀ x1, ∀ x2, P3 x0 x1 x2 → P4 x0 x1 x2 → G) : G := by obtain ⟨y0, y1, y2, y3, y4⟩ := h; exact k y0 y1 y2 y3 y4
theorem elEEEAA {G : Prop} {α0 : Sort _} {α1 : Sort _} {α2 : Sort _} {P3 : α0 → α1 → α2 → Prop} {P4 : α0 → α1 → α2 → Prop} {P5 : α0 → α1 → α2 → Prop} (h : ∃ x0, ∃ x1, ∃ x2, (P3 x0 x1 x2 ∧ (P4 x0 x1 x2 ∧ P5 x0 x1 x2))) (k : ∀ x0, ∀ x1, ∀ x2, P3 x0 x1 x2 → P4 x0 x1 x2 → P5 x0 x1 x2 → G) : G := by obtain ⟨y0, y1, y2, y3, y4, y5⟩ := h; exact k y0 y1 y2 y3 y4 y5
theorem elEEEAAA {G : Prop} {α0 : Sort _} {α1 : Sort _} {α2 : Sort _} {P3 : α0 → α1 → α2 → Prop} {P4 : α0 → α1 → α2 → Prop} {P5 : α0 → α1 → α2 → Prop} {P6 : α0 → α1 → α2 → Prop} (h : ∃ x0, ∃ x1, ∃ x2, (P3 x0 x1 x2 ∧ (P4 x0 x1 x2 ∧ (P5 x0 x1 x2 ∧ P6 x0 x1 x2)))) (k : ∀ x0, ∀ x1, ∀ x2, P3 x0 x1 x2 → P4 x0 x1 x2 → P5 x0 x1 x2 → P6 x0 x1 x2 → G) : G := by obtain ⟨y0, y1, y2, y3, y4, y5, y6⟩ := h; exact k y0 y1 y2 y3 y4 y5 y6
theorem elEEEAAAAA {G : Prop} {α0 : Sort _} {α1 : Sort _} {α2 : Sort _} {P3 : α0 → α1 → α2 → Prop} {P4 : α0 → α1 → α2 → Prop} {P5 : α0 → α1 → α2 → Prop} {P6 : α0 → α1 → α2 → Prop} {P7 : α0 → α1 → α2 → Prop} {P8 : α0 → α1 → α2 → Prop} (h : ∃ x0, ∃ x1, ∃ x2, (P3 x0 x1 x2 ∧ (P4 x0 x1 x2 ∧ (P5 x0 x1 x2 ∧ (P6 x0 x1 x2 ∧ (P7 x0 x1 x2 ∧ P8 x0 x1 x2)))))) (k : ∀ x0, ∀ x1, ∀ x2, P3 x0 x1 x2 → P4 x0 x1 x2 → P5 x0 x1 x2 → P6 x0 x1 x2 → P7 x0 x1 x2 → P8 x0 x1 x2 → G) : G := by obtain ⟨y0, y1, y2, y3, y4, y5, y6, y7, y8⟩ := h; exact k y0 y1 y2 y3 y4 y5 y6 y7 y8
theorem elEEEAAAAAA {G : Prop} {α0 : Sort _} {α1 : Sort _} {α2 : Sort _} {P3 : α0 → α1 → α2 → Prop} {P4 : α0 → α1 → α2 → Prop} {P5 : α0 → α1 → α2 → Prop} {P6 : α0 → α1 → α2 → Prop} {P7 : α0 → α1 → α2 → Prop} {P8 : α0 → α1 → α2 → Prop} {P9 : α0 → α1 → α2 → Prop} (h : ∃ x0, ∃ x1, ∃ x2, (P3 x0 x1 x2 ∧ (P4 x0 x1 x2 ∧ (P5 x0 x1 x2 ∧ (P6 x0 x1 x2 ∧ (P7 x0 x1 x2 ∧ (P8 x0 x1 x2 ∧ P9 x0 x1 x2))))))) (k : ∀ x0, ∀ x1, ∀ x2, P3 x0 x1 x2 → P4 x0 x1 x2 → P5 x0 x1 x2 → P6 x0 x1 x2 → P7 x0 x1 x2 → P8 x0 x1 x2 → P9 x0 x1 x2 → G) : G := by obtain ⟨y0, y1, y2, y3, y4, y5, y6, y7, y8, y9⟩ := h; exact k y0 y1 y2 y3 y4 y5 y6 y7 y8 y9
theorem elEEEAAAAAAAAA {G : Prop} {α0 : Sort _} {α1 : Sort _} {α2 : Sort _} {P3 : α0 → α1 → α2 → Prop} {P4 : α0 → α1 → α2 → Prop} {P5 : α0 → α1 → α2 → Prop} {P6 : α0 → α1 → α2 → Prop} {P7 : α0 → α1 → α2 → Prop} {P8 : α0 → α1 → α2 → Prop} {P9 : α0 → α1 → α2 → Prop} {P10 : α0 → α1 → α2 → Prop} {P11 : α0 → α1 → α2 → Prop} {P12 : α0 → α1 → α2 → Prop} (h : ∃ x0, ∃ x1, ∃ x2, (P3 x0 x1 x2 ∧ (P4 x0 x1 x2 ∧ (P5 x0 x1 x2 ∧ (P6 x0 x1 x2 ∧ (P7 x0 x1 x2 ∧ (P8 x0 x1 x2 ∧ (P9 x0 x1 x2 ∧ (P10 x0 x1 x2 ∧ (P11 x0 x1 x2 ∧ P12 x0 x1 x2)))))))))) (k : ∀ x0, ∀ x1, ∀ x2, P3 x0 x1 x2 → P4 x0 x1 x2 → P5 x0 x1 x2 → P6 x0 x1 x2 → P7 x0 x1 x2 → P8 x0 x1 x2 → P9 x0 x1 x2 → P10 x0 x1 x2 → P11 x0 x1 x2 → P12 x0 x1 x2 → G) : G := by obtain ⟨y0, y1, y2, y3, y4, y5, y6, y7, y8, y9, y10, y11, y12⟩ := h; exact k y0 y1 y2 y3 y4 y5 y6 y7 y8 y9 y10 y11 y12
theorem elEEEEAAA {G : Prop} {α0 : Sort _} {α1 : Sort _} {α2 : Sort _} {α3 : Sort _} {P4 : α0 → α1 → α2 → α3 → Prop} {P5 : α0 → α1 → α2 → α3 → Prop} {P6 : α0 → α1 → α2 → α3 → Prop} {P7 : α0 → α1 → α2 → α3 → Prop} (h : ∃ x0, ∃ x1, ∃ x2, ∃ x3, (P4 x0 x1 x2 x3 ∧ (P5 x0 x1 x2 x3 ∧ (P6 x0 x1 x2 x3 ∧ P7 x0 x1 x2 x3)))) (k : ∀ x0, ∀ x1, ∀ x2, ∀ x3, P4 x0 x1 x2 x3 → P5 x0 x1 x2 x3 → P6 x0 x1 x2 x3 → P7 x0 x1 x2 x3 → G) : G := by obtain ⟨y0, y1, y2, y3, y4, y5, y6, y7⟩ := h; exact k y0 y1 y2 y3 y4 y5 y6 y7
theorem elEEEEAAAA {G : Prop} {α0 : Sort _} {α1 : Sort _} {α2 : Sort _} {α3 : Sort _} {P4 : α0 → α1 → α2 → α3 → Prop} {P5 : α0 → α1 → α2 → α3 → Prop} {P6 : α0 → α1 → α2 → α3 → Prop} {P7 : α0 → α1 → α2 → α3 → Prop} {P8 : α0 → α1 → α2 → α3 → Prop} (h : ∃ x0, ∃ x1, ∃ x2, ∃ x3, (P4 x0 x1 x2 x3 ∧ (P5 x0 x1 x2 x3 ∧ (P6 x0 x1 x2 x3 ∧ (P7 x0 x1 x2 x3 ∧ P8 x0 x1 x2 x3))))) (k : ∀ x0, ∀ x1, ∀ x2, ∀ x3, P4 x0 x1 x2 x3 → P5 x0 x1 x2 x3 → P6 x0 x1 x2 x3 → P7 x0 x1 x2 x3 → P8 x0 x1 x2 x3 → G) : G := by obtain ⟨y0, y1, y2, y3, y4, y5, y6, y7, y8⟩ := h; exact k y0 y1 y2 y3 y4 y5 y6 y7 y8
theorem elEEEEAAAAA {G : Prop} {α0 : Sort _} {α1 : Sort _} {α2 : Sort _} {α3 : Sort _} {P4 : α0 → α1 → α2 → α3 → Prop} {P5 : α0 → α1 → α2 → α3 → Prop} {P6 : α0 → α1 → α2 → α3 → Prop} {P7 : α0 → α1 → α2 → α3 → Prop} {P8 : α0 → α1 → α2 → α3 → Prop} {P9 : α0 → α1 → α2 → α3 → Prop} (h : ∃ x0, ∃ x1, ∃ x2, ∃ x3, (P4 x0 x1 x2 x3 ∧ (P5 x0 x1 x2 x3 ∧ (P6 x0 x1 x2 x3 ∧ (P7 x0 x1 x2 x3 ∧ (P8 x0 x1 x2 x3 ∧ P9 x0 x1 x2 x3)))))) (k : ∀ x0, ∀ x1, ∀ x2, ∀ x3, P4 x0 x1 x2 x3 → P5 x0 x1 x2 x3 → P6 x0 x1 x2 x3 → P7 x0 x1 x2 x3 → P8 x0 x1 x2 x3 → P9 x0 x1 x2 x3 → G) : G := by obtain ⟨y0, y1, y2, y3, y4, y5, y6, y7, y8, y9⟩ := h; exact k y0 y1 y2 y3 y4 y5 y6 y7 y8 y9
theorem elEEEEAAAEEEA {G : Prop} {α0 : Sort _} {α1 : Sort _} {α2 : Sort _} {α3 : Sort _} {α7 : Sort _} {α8 : Sort _} {α9 : Sort _} {P4 : α0 → α1 → α2 → α3 → Prop} {P5 : α0 → α1 → α2 → α3 → Prop} {P6 : α0 → α1 → α2 → α3 → Prop} {P10 : α0 → α1 → α2 → α3 → α7 → α8 → α9 → Prop} {P11 : α0 → α1 → α2 → α3 → α7 → α8 → α9 → Prop} (h : ∃ x0, ∃ x1, ∃ x2, ∃ x3, (P4 x0 x1 x2 x3 ∧ (P5 x0 x1 x2 x3 ∧ (P6 x0 x1 x2 x3 ∧ ∃ x7, ∃ x8, ∃ x9, (P10 x0 x1 x2 x3 x7 x8 x9 ∧ P11 x0 x1 x2 x3 x7 x8 x9))))) (k : ∀ x0, ∀ x1, ∀ x2, ∀ x3, P4 x0 x1 x2 x3 → P5 x0 x1 x2 x3 → P6 x0 x1 x2 x3 → ∀ x7, ∀ x8, ∀ x9, P10 x0 x1 x2 x3 x7 x8 x9 → P11 x0 x1 x2 x3 x7 x8 x9 → G) : G := by obtain ⟨y0, y1, y2, y3, y4, y5, y6, y7, y8, y9, y10, y11⟩ := h; exact k y0 y1 y2 y3 y4 y5 y6 y7 y8 y9 y10 y11
theorem elEEEEEAA {G : Prop} {α0 : Sort _} {α1 : Sort _} {α2 : Sort _} {α3 : Sort _} {α4 : Sort _} {P5 : α0 → α1 → α2 → α3 → α4 → Prop} {P6 : α0 → α1 → α2 → α3 → α4 → Prop} {P7 : α0 → α1 → α2 → α3 → α4 → Prop} (h : ∃ x0, ∃ x1, ∃ x2, ∃ x3, ∃ x4, (P5 x0 x1 x2 x3 x4 ∧ (P6 x0 x1 x2 x3 x4 ∧ P7 x0 x1 x2 x3 x4))) (k : ∀ x0, ∀ x1, ∀ x2, ∀ x3, ∀ x4, P5 x0 x1 x2 x3 x4 → P6 x0 x1 x2 x3 x4 → P7 x0 x1 x2 x3 x4 → G) : G := by obtain ⟨y0, y1, y2, y3, y4, y5, y6, y7⟩ := h; exact k y0 y1 y2 y3 y4 y5 y6 y7
theorem elEEEEEAAAA {G : Prop} {α0 : Sort _} {α1 : Sort _} {α2 : Sort _} {α3 : Sort _} {α4 : Sort _} {P5 : α0 → α1 → α2 → α3 → α4 → Prop} {P6 : α0 → α1 → α2 → α3 → α4 → Prop} {P7 : α0 → α1 → α2 → α3 → α4 → Prop} {P8 : α0 → α1 → α2 → α3 → α4 → Prop} {P9 : α0 → α1 → α2 → α3 → α4 → Prop} (h : ∃ x0, ∃ x1, ∃ x2, ∃ x3, ∃ x4, (P5 x0 x1 x2 x3 x4 ∧ (P6 x0 x1 x2 x3 x4 ∧ (P7 x0 x1 x2 x3 x4 ∧ (P8 x0 x1 x2 x3 x4 ∧ P9 x0 x1 x2 x3 x4))))) (k : ∀ x0, ∀ x1, ∀ x2, ∀ x3, ∀ x4, P5 x0 x1 x2 x3 x4 → P6 x0 x1 x2 x3 x4 → P7 x0 x1 x2 x3 x4 → P8 x0 x1 x2 x3 x4 → P9 x0 x1 x2 x3 x4 → G) : G := by obtain ⟨y0, y1, y2, y3, y4, y5, y6, y7, y8, y9⟩ := h; exact k y0 y1 y2 y3 y4 y5 y6 y7 y8 y9
theorem elEEEEEEAAAA {G : Prop} {α0 : Sort _} {α1 : Sort _} {α2 : Sort _} {α3 : Sort _} {α4 : Sort _} {α5 : Sort _} {P6 : α0 → α1 → α2 → α3 → α4 → α5 → Prop} {P7 : α0 → α1 → α2 → α3 → α4 → α5 → Prop} {P8 : α0 → α1 → α2 → α3 → α4 → α5 → Prop} {P9 : α0 → α1 → α2 → α3 → α4 → α5 → Prop} {P10 : α0 → α1 → α2 → α3 → α4 → α5 → Prop} (h : ∃ x0, ∃ x1, ∃ x2, ∃ x3, ∃ x4, ∃ x5, (P6 x0 x1 x2 x3 x4 x5 ∧ (P7 x0 x1 x2 x3 x4 x5 ∧ (P8 x0 x1 x2 x3 x4 x5 ∧ (P9 x0 x1 x2 x3 x4 x5 ∧ P10 x0 x1 x2 x3 x4 x5))))) (k : ∀ x0, ∀ x1, ∀ x2, ∀ x3, ∀ x4, ∀ x5, P6 x0 x1 x2 x3 x4 x5 → P7 x0 x1 x2 x3 x4 x5 → P8 x0 x1 x2 x3 x4 x5 → P9 x0 x1 x2 x3 x4 x5 → P10 x0 x1 x2 x3 x4 x5 → G) : G := by obtain ⟨y0, y1, y2, y3, y4, y5, y6, y7, y8, y9, y10⟩ := h; exact k y0 y1 y2 y3 y4 y5 y6 y7 y8 y9 y10
theorem elEEEEEEAAAAAAA {G : Prop} {α0 : Sort _} {α1 : Sort _} {α2 : Sort _} {α3 : Sort _} {α4 : Sort _} {α5 : Sort _} {P6 : α0 → α1 → α2 → α3 → α4 → α5 → Prop} {P7 : α0 → α1 → α2 → α3 → α4 → α5 → Prop} {P8 : α0 → α1 → α2 → α3 → α4 → α5 → Prop} {P9 : α0 → α1 → α2 → α3 → α4 → α5 → Prop} {P10 : α0 → α1 → α2 → α3 → α4 → α5 → Prop} {P11 : α0 → α1 → α2 → α3 → α4 → α5 → Prop} {P12 : α0 → α1 → α2 → α3 → α4 → α5 → Prop} {P13 : α0 → α1 → α2 → α3 → α4 → α5 → Prop} (h : ∃ x0, ∃ x1, ∃ x2, ∃ x3, ∃ x4, ∃ x5, (P6 x0 x1 x2 x3 x4 x5 ∧ (P7 x0 x1 x2 x3 x4 x5 ∧ (P8 x0 x1 x2 x3 x4 x5 ∧ (P9 x0 x1 x2 x3 x4 x5 ∧ (P10 x0 x1 x2 x3 x4 x5 ∧ (P11 x0 x1 x2 x3 x4 x5 ∧ (P12 x0 x1 x2 x3 x4 x5 ∧ P13 x0 x1 x2 x3 x4 x5)))))))) (k : ∀ x0, ∀ x1, ∀ x2, ∀ x3, ∀ x4, ∀ x5, P6 x0 x1 x2 x3 x4 x5 → P7 x0 x1 x2 x3 x4 x5 → P8 x0 x1 x2 x3 x4 x5 → P9 x0 x1 x2 x3 x4 x5 → P10 x0 x1 x2 x3 x4 x5 → P11 x0 x1 x2 x3 x4 x5 → P12 x0 x1 x2 x3 x4 x5 → P13 x0 x1 x2 x3 x4 x5 → G) : G := by obtain ⟨y0, y1, y2, y3, y4, y5, y6, y7, y8, y9, y10, y11, y12, y13⟩ := h; exact k y0 y1 y2 y3 y4 y5 y6 y7 y8 y9 y10 y11 y12 y13
theorem elEEEEEEEAAA {G : Prop} {α0 : Sort _} {α1 : Sort _} {α2 : Sort _} {α3 : Sort _} {α4 : Sort _} {α5 : Sort _} {α6 : Sort _} {P7 : α0 → α1 → α2 → α3 → α4 → α5 → α6 → Prop} {P8 : α0 → α1 → α2 → α3 → α4 → α5 → α6 → Prop} {P9 : α0 → α1 → α2 → α3 → α4 → α5 → α6 → Prop} {P10 : α0 → α1 → α2 → α3 → α4 → α5 → α6 → Prop} (h : ∃ x0, ∃ x1, ∃ x2, ∃ x3, ∃ x4, ∃ x5, ∃ x6, (P7 x0 x1 x2 x3 x4 x5 x6 ∧ (P8 x0 x1 x2 x3 x4 x5 x6 ∧ (P9 x0 x1 x2 x3 x4 x5 x6 ∧ P10 x0 x1 x2 x3 x4 x5 x6)))) (k : ∀ x0, ∀ x1, ∀ x2, ∀ x3, ∀ x4, ∀ x5, ∀ x6, P7 x0 x1 x2 x3 x4 x5 x6 → P8 x0 x1 x2 x3 x4 x5 x6 → P9 x0 x1 x2 x3 x4 x5 x6 → P10 x0 x1 x2 x3 x4 x5 x6 → G) : G := by obtain ⟨y0, y1, y2, y3, y4, y5, y6, y7, y8, y9, y10⟩ := h; exact k y0 y1 y2 y3 y4 y5 y6 y7 y8 y9 y10
theorem elEEEEEEEAAAAAA {G : Prop} {α0 : Sort _} {α1 : Sort _} {α2 : Sort _} {α3 : Sort _} {α4 : Sort _} {α5 : Sort _} {α6 : Sort _} {P7 : α0 → α1 → α2 → α3 → α4 → α5 → α6 → Prop} {P8 : α0 → α1 → α2 → α3 → α4 → α5 → α6 → Prop} {P9 : α0 → α1 → α2 → α3 → α4 → α5 → α6 → Prop} {P10 : α0 → α1 → α2 → α3 → α4 → α5 → α6 → Prop} {P11 : α0 → α1 → α2 → α3 → α4 → α5 → α6 → Prop} {P12 : α0 → α1 → α2 → α3 → α4 → α5 → α6 → Prop} {P13 : α0 → α1 → α2 → α3 → α4 → α5 → α6 → Prop} (h : ∃ x0, ∃ x1, ∃ x2, ∃ x3, ∃ x4, ∃ x5, ∃ x6, (P7 x0 x1 x2 x3 x4 x5 x6 ∧ (P8 x0 x1 x2 x3 x4 x5 x6 ∧ (P9 x0 x1 x2 x3 x4 x5 x6 ∧ (P10 x0 x1 x2 x3 x4 x5 x6 ∧ (P11 x0 x1 x2 x3 x4 x5 x6 ∧ (P12 x0 x1 x2 x3 x4 x5 x6 ∧ P13 x0 x1 x2 x3 x4 x5 x6))))))) (k : ∀ x0, ∀ x1, ∀ x2, ∀ x3, ∀ x4, ∀ x5, ∀ x6, P7 x0 x1 x2 x3 x4 x5 x6 → P8 x0 x1 x2 x3 x4 x5 x6 → P9 x0 x1 x2 x3 x4 x5 x6 → P10 x0 x1 x2 x3 x4 x5 x6 → P11 x0 x1 x2 x3 x4 x5 x6 → P12 x0 x1 x2 x3 x4 x5 x6 → P13 x0 x1 x2 x3 x4 x5 x6 → G) : G := by obtain ⟨y0, y1, y2, y3, y4, y5, y6, y7, y8, y9, y10, y11, y12, y13⟩ := h; exact k y0 y1 y2 y3 y4 y5 y6 y7 y8 y9 y10 y11 y12 y13
theorem elEEEEEEEEEAA {G : Prop} {α0 : Sort _} {α1 : Sort _} {α2 : Sort _} {α3 : Sort _} {α4 : Sort _} {α5 : Sort _} {α6 : Sort _} {α7 : Sort _} {α8 : Sort _} {P9 : α0 → α1 → α2 → α3 → α4 → α5 → α6 → α7 → α8 → Prop} {P10 : α0 → α1 → α2 → α3 → α4 → α5 → α6 → α7 → α8 → Prop} {P11 : α0 → α1 → α2 → α3 → α4 → α5 → α6 → α7 → α8 → Prop} (h : ∃ x0, ∃ x1, ∃ x2, ∃ x3, ∃ x4, ∃ x5, ∃ x6, ∃ x7, ∃ x8, (P9 x0 x1 x2 x3 x4 x5 x6 x7 x8 ∧ (P10 x0 x1 x2 x3 x4 x5 x6 x7 x8 ∧ P11 x0 x1 x2 x3 x4 x5 x6 x7 x8))) (k : ∀ x0, ∀ x1, ∀ x2, ∀ x3, ∀ x4, ∀ x5, ∀ x6, ∀ x7, ∀ x8, P9 x0 x1 x2 x3 x4 x5 x6 x7 x8 → P10 x0 x1 x2 x3 x4 x5 x6 x7 x8 → P11 x0 x1 x2 x3 x4 x5 x6 x7 x8 → G) : G := by obtain ⟨y0, y1, y2, y3, y4, y5, y6, y7, y8, y9, y10, y11⟩ := h; exact k y0 y1 y2 y3 y4 y5 y6 y7 y8 y9 y10 y11
noncomputable abbrev PG : Program := PySem.Challenge.pw_nz0199_01
noncomputable abbrev LS : List Str := [Str.ofString "Limits", Str.ofString "_law_packages", Str.ofString "Ref"]
noncomputable def Keep (h h' : Heap) : Prop := ∀ b o, h.get? b = some o → h'.get? b = some o
theorem Keep.refl (h : Heap) : Keep h h := fun _ _ e => e
theorem Keep.trans {a b c : Heap} (x : Keep a b) (y : Keep b c) : Keep a c := fun _ _ e => y _ _ (x _ _ e)
theorem fresh_of {g h : Heap} {a : Addr} (k : Keep g h) (e : h.get? a = none) : g.get? a = none := by
  cases q : g.get? a with
  | none => rfl
  | some o => rw [k _ _ q] at e; cases e
structure EsOf (P : Params) (f : Str → Option Value) (es : List DictEntry) : Prop where
  get : ∀ name, getL name es = some (f name)
  keys : KeysLit P es
  len : es.length ≤ 100
theorem getL_lit {P : Params} {y : Str} : ∀ {es : List DictEntry}, KeysLit P es → getL y es = some ((es.find? (·.key.isStr y)).map (·.val)) := by
  intro es K
  have hr : es.any (·.refKey) = false := by
    rw [List.any_eq_false]
    intro e he
    refine elEEA (K.all e he) ?_; rintro x t hk _
    unfold DictEntry.refKey
    rw [hk]; simp
  unfold getL
  cases es.find? (·.key.isStr y) with
  | some e => rfl
  | none => simp [hr]
theorem isStr_self (x : Str) (u : Tok) : (Value.str x u).isStr x = true := by simp [Value.isStr]
theorem isStr_ne {x y : Str} {u : Tok} (h : x ≠ y) : (Value.str x u).isStr y = false := by simpa [Value.isStr] using h
theorem putL_find? {P : Params} {x y : Str} {v : Value} {hsh : Int} {t : Tok} : ∀ {es : List DictEntry}, KeysLit P es → ((putL x hsh (.str x t) v es).find? (·.key.isStr y)).map (·.val) = if y = x then some v else (es.find? (·.key.isStr y)).map (·.val)
  | [], _ => by
    by_cases h : y = x
    · subst h; simp [putL, Value.isStr]
    · have : (Value.str x t).isStr y = false := isStr_ne fun e => h e.symm
      simp [putL, this, h]
  | e :: r, ⟨⟨z, u, hk, _⟩, K⟩ => by
    have ih := putL_find? (x := x) (y := y) (v := v) (hsh := hsh) (t := t) K
    unfold putL
    by_cases hz : z = x
    · subst hz
      have e1 : e.key.isStr z = true := by rw [hk]; exact isStr_self _ _
      rw [if_pos e1]
      by_cases h : y = z
      · subst h; simp [e1]
      · have e2 : e.key.isStr y = false := by rw [hk]; exact isStr_ne fun q => h q.symm
        simp [List.find?_cons, e2, h]
    · have e1 : e.key.isStr x = false := by rw [hk]; exact isStr_ne hz
      rw [if_neg (by rw [e1]; exact Bool.false_ne_true)]
      by_cases h : y = z
      · subst h
        have e2 : e.key.isStr y = true := by rw [hk]; exact isStr_self _ _
        simp [List.find?_cons, e2, hz]
      · have e2 : e.key.isStr y = false := by rw [hk]; exact isStr_ne fun q => h q.symm
        simp only [List.find?_cons, e2]
        exact ih
theorem putL_keys {P : Params} {x : Str} {v : Value} {t : Tok} : ∀ {es : List DictEntry}, KeysLit P es → KeysLit P (putL x (PyData.keyHash P x) (.str x t) v es)
  | [], _ => ⟨⟨x, t, rfl, rfl⟩, trivial⟩
  | e :: r, ⟨h, K⟩ => by
    unfold putL
    split
    · exact ⟨h, K⟩
    · exact ⟨h, putL_keys K⟩
theorem putL_len {x : Str} {v k : Value} {hsh : Int} : ∀ {es : List DictEntry}, (putL x hsh k v es).length ≤ es.length + 1
  | [] => Nat.le_refl _
  | e :: r => by
    unfold putL
    split
    · exact Nat.le_succ _
    · exact Nat.succ_le_succ putL_len
noncomputable def lk : List (Str × Value) → Str → Option Value
  | [], _ => none
  | (x, v) :: l, y => cond (y == x) (some v) (lk l y)
noncomputable def upd (x : Str) (v : Value) (f : Str → Option Value) : Str → Option Value := fun y => cond (y == x) (some v) (f y)
theorem upd_is {x : Str} {v : Value} {f : Str → Option Value} (y : Str) : upd x v f y = if y = x then some v else f y := by
  unfold upd
  by_cases h : y = x
  · rw [if_pos h, beq_iff_eq.mpr h]; rfl
  · rw [if_neg h, beq_eq_false_iff_ne.mpr h]; rfl
noncomputable def no0 : Str → Option Value := fun _ => none
theorem EsOf.nil {P : Params} : EsOf P no0 [] := ⟨fun _ => rfl, trivial, Nat.zero_le _⟩
theorem EsOf.put {P : Params} {f : Str → Option Value} {es : List DictEntry} (E : EsOf P f es) {x : Str} {v : Value} {t : Tok} (hz : es.length ≤ 99) : EsOf P (upd x v f) (putL x (PyData.keyHash P x) (.str x t) v es) := by
  refine ⟨fun y => ?_, putL_keys E.keys, Nat.le_trans putL_len (Nat.succ_le_succ hz)⟩
  rw [getL_lit (putL_keys E.keys), putL_find? E.keys, upd_is]
  congr 1
  by_cases hy : y = x
  · rw [if_pos hy, if_pos hy]
  · rw [if_neg hy, if_neg hy]
    have := E.get y
    rw [getL_lit E.keys] at this
    exact Option.some.inj this
theorem EsOf.some_ {P : Params} {f : Str → Option Value} {es : List DictEntry} (E : EsOf P f es) {name : Str} {v : Option Value} (h : f name = v) : getL name es = some v := (E.get name).trans (congrArg some h)
structure Cx (K : Frag) (V : Program) (mean : ExcName → Option Value) (mg mb : Str → Option Value) (A : Around) (h : Heap) : Prop where
  below : ∃ base outer, Below A base outer h
  kin : K.In h
  top : Top V LS mean mg mb h
  quiet : A.handled = none
theorem enterG {w : World} {A : Around} {s : Shared} {g : Heap} {K : Frag} {V : Program} {mean : ExcName → Option Value} {mg mb : Str → Option Value}
    {R : Result → Shared → Prop} {name qual : Str} {params : Arguments} {body : List Stmt} {scope : Scope} {dV kV doc pm cdv ct oc : Value} {an od : Option Addr} {osl : Array (Option Value)} {f : Addr} {args : Args} {binds : List (Str × Value)}
    (hg : Keep g s.heap) (hz : g.objs.size ≤ s.heap.objs.size) (X : K.In g) (T : Top V LS mean mg mb g) (hroom : A.depth < recursionLimit)
    (ho : K.lookup f = some ⟨oc, od, .func (fnOf name qual params body scope dV kV doc pm an cdv ct), osl⟩) (hcd : codeIn K cdv qual = true)
    (hbind : BindsTo s (fnOf name qual params body scope dV kV doc pm an cdv ct) args binds) (hloc : ∀ y ∈ binds, scope.names.lookup y.1 = some .local)
    (h : ∀ L' h₁, Fr g L' h₁ (fun y => binds.reverse.lookup y) → Keep s.heap h₁ → s.heap.get? L' = none →
      wpAny (model PG w) (A.deeper (envOf qual scope L' f cdv)) (execs body (envOf qual scope L' f cdv))
        (fun fl s' => R (.ok (.ret (match fl with | .ret v => v | _ => .none))) s')
        (fun e s' => wpAny (model PG w) (A.deeper (envOf qual scope L' f cdv)) (leaving (envOf qual scope L' f cdv) e) (fun _ s'' => R (.error e) s'') (fun e' s'' => R (.error e') s'') s')
        { s with heap := h₁, toks := s.toks + binds.length })
    (hco : scope.isCoroutine = false) (hgen : scope.isGenerator = false) (hk : scope.kind = .function)
    (hcell : ∀ x ∈ scope.names, x.2 ≠ .cell) : codeAny (model PG w) A (.call (.ref f) args) R s := by
  refine codeAny_call_def (fd := fnOf name qual params body scope dV kV doc pm an cdv ct) (body := body) (binds := binds) hroom (X.keeps hg _ _ ho) rfl (T.nolimit.keeps hg) (codeRec_of (X.keeps hg) hcd) rfl hbind hcell hloc
    (fun h₁ hns hk₁ => h _ h₁ ⟨hns, fun b o e => hk₁ b o (hg b o e), hz⟩ hk₁ ?_) hco hgen hk
  cases q : s.heap.get? s.heap.objs.size with
  | none => rfl
  | some o => exact absurd (Heap.lt_size q) (Nat.lt_irrefl _)
theorem fr_ext {g h h' : Heap} {L : Addr} {m : Str → Option Value} (F : Fr g L h m) (k : Keep h h') : Fr g L h' m := by
  obtain ⟨⟨oL, a1, a2, hL, a3⟩, b, c⟩ := F
  exact ⟨⟨oL, a1, a2, k _ _ hL, a3⟩, fun x o e => k _ _ (b x o e), c⟩
theorem cx_of {K : Frag} {V : Program} {mean : ExcName → Option Value} {mg mb : Str → Option Value} {A : Around} {base g h : Heap} {outer : List Env} {L : Addr} {m : Str → Option Value} {env : Env}
    (B : Below A base outer g) (X : K.In g) (T : Top V LS mean mg mb g) (F : Fr g L h m) (hf : env.frame = some L) (hk : env.scope.kind = .function) (hq : A.handled = none) : Cx K V mean mg mb (A.deeper env) h :=
  ⟨⟨base, env :: outer, pushX B F hf hk⟩, X.keeps F.keep, T.keeps F.keep, hq⟩
theorem cx_hide {K : Frag} {V : Program} {mean : ExcName → Option Value} {mg mb : Str → Option Value} {A : Around} {base g h : Heap} {outer : List Env} {L : Addr} {m : Str → Option Value} {env : Env} {as : List Addr}
    (B : Below A base outer g) (X : K.In g) (T : Top V LS mean mg mb g) (F : Fr g L h m) (hf : env.frame = some L) (hk : env.scope.kind = .function) (hq : A.handled = none) (ha : ∀ a ∈ as, g.get? a = none ∧ a ≠ L) :
    Cx K V mean mg mb (A.deeper env) (hideAll h as) ∧ Fr g L (hideAll h as) m := by
  have kg : Keep g (hideAll h as) := fun b o e => hideAll_get _ (F.keep b o e) (fun q => by rw [(ha b q).1] at e; cases e)
  have B₁ := pushX B F hf hk
  refine elEEEAAA F.ns ?_; rintro oL es ep hL hLd hLk hLf
  refine ⟨⟨⟨base, env :: outer, B₁.stack, fun b o e => kg b o (B.stays b o e), funFrames_hideAll B₁.frames fun env' he b hb hf' => ?_⟩, X.keeps kg, T.keeps kg, hq⟩, ⟨⟨oL, es, ep, hideAll_get _ hL fun q => (ha L q).2 rfl, hLd, hLk, hLf⟩, kg, F.above⟩⟩
  cases he with
  | head => rw [hf] at hf'; exact (ha b hb).2 (Option.some.inj hf').symm
  | tail _ he =>
    refine elEEA (funFrames_in B.frames env' he) ?_; rintro L₁ o₁ hf₁ ho₁
    rw [hf₁] at hf'
    have : L₁ = b := Option.some.inj hf'
    subst this
    rw [(ha L₁ hb).1] at ho₁; cases ho₁
theorem bag_of {g h : Heap} {L : Addr} (as : List Addr) (k : Keep g h) : ∃ R : List (Addr × Obj), News g L h R ∧ (∀ p ∈ R, p.1 ∉ as) ∧ ∀ a o, h.get? a = some o → a ∉ as → a ≠ L → g.get? a = some o ∨ (a, o) ∈ R := by
  refine ⟨(List.range h.objs.size).filterMap fun a => match (hideAll h (L :: as)).get? a with | some o => (match g.get? a with | none => some (a, o) | some _ => none) | none => none, ?_, ?_, ?_⟩
  · intro p hp
    refine elEA (List.mem_filterMap.mp hp) ?_; rintro a _ e
    split at e
    · rename_i o ho
      split at e
      · rename_i hg
        cases e
        refine ⟨of_hideAll _ ho, ?_, hg⟩
        rintro rfl
        rw [hideAll_none _ (.head _)] at ho; cases ho
      · cases e
    · cases e
  · intro p hp
    refine elEA (List.mem_filterMap.mp hp) ?_; rintro a _ e
    split at e
    · rename_i o ho
      split at e
      · cases e
        intro hm
        rw [hideAll_none _ (.tail _ hm)] at ho; cases ho
      · cases e
    · cases e
  · intro a o ho ha hL
    have ho2 : (hideAll h (L :: as)).get? a = some o := hideAll_get _ ho fun q => (List.mem_cons.mp q).elim hL ha
    cases hg : g.get? a with
    | some o' =>
      left
      have := k _ _ hg
      rw [ho] at this
      exact this.symm
    | none =>
      right
      refine List.mem_filterMap.mpr ⟨a, List.mem_range.mpr (Heap.lt_size ho), ?_⟩
      rw [ho2, hg]
section
variable {prog : Program} {w : World}
noncomputable abbrev SK (prog : Program) (w : World) := PySem.strKind prog w
noncomputable def IsPair (h : Heap) (k : Str × List Str) (a : Addr) : Prop := ∃ o n u b, h.get? a = some o ∧ o.cls = .type "tuple" ∧ o.data = .seq #[.str k.1 u, .ref b] n ∧ IsTupleKey (SK prog w) h k.2 b
theorem IsPair.typeIs {s : Shared} {k : Str × List Str} {a : Addr} (x : IsPair (prog := prog) (w := w) s.heap k a) : s.TypeIs (.ref a) "tuple" := let ⟨o, _, _, _, ho, hc, _⟩ := x; ⟨o, ho, hc⟩
theorem IsPair.inj {h : Heap} {a : Addr} {x y : Str × List Str} (hx : IsPair (prog := prog) (w := w) h x a) (hy : IsPair (prog := prog) (w := w) h y a) : x = y := by
  refine elEEEEAAA hx ?_; (try clear hx); rintro o n u b ho _ hd hi
  refine elEEEEAAA hy ?_; (try clear hy); rintro o' n' u' b' ho' _ hd' hi'
  obtain rfl : o = o' := Option.some.inj (ho.symm.trans ho')
  rw [hd] at hd'
  injection hd' with h1 _
  have h2 := congrArg Array.toList h1
  simp only [List.cons.injEq, Value.str.injEq, Value.ref.injEq] at h2
  refine elAA h2 ?_; (try clear h2); rintro ⟨e1, _⟩ e2 _
  subst e2
  exact Prod.ext e1 (hi.inj hi')
theorem IsPair.keeps {h h' : Heap} {k : Str × List Str} {a d : Addr} {o : Obj} {es ep} (x : IsPair (prog := prog) (w := w) h k a) (ho : h.get? d = some o) (hd : o.data = .dict es ep) (hs : Heap.SameBut d h h') : IsPair (prog := prog) (w := w) h' k a := by
  refine elEEEEAAA x ?_; (try clear x); rintro o' n u b ho' hc hd' hi
  have hne : a ≠ d := by
    rintro rfl
    obtain rfl : o' = o := Option.some.inj (ho'.symm.trans ho)
    rw [hd] at hd'; exact nomatch hd'
  exact ⟨o', n, u, b, (hs.2 a hne).trans ho', hc, hd', hi.keeps ho hd hs⟩
theorem IsPair.ext {h h' : Heap} {k : Str × List Str} {a : Addr} (x : IsPair (prog := prog) (w := w) h k a) (kp : Keep h h') : IsPair (prog := prog) (w := w) h' k a := by
  refine elEEEEAAAEEEA x ?_; (try clear x); rintro o' n u b ho' hc hd' o2 i2 n2 h2 hi
  exact ⟨o', n, u, b, kp _ _ ho', hc, hd', o2, i2, n2, kp _ _ h2, hi⟩
noncomputable def pairHash (prog : Program) (w : World) (k : Str × List Str) : Int := reduceHash (Builtin.Tuple.tupleHashOf [(SK prog w).hash k.1, tupleKeyHash (SK prog w) k.2])
variable {A : Around} {E : Value → Shared → Prop} {s : Shared}
theorem pair_hash {k : Str × List Str} {a : Addr} {Q : Int → Shared → Prop} (hu : A.units + 5 < cLine) (hk : IsPair (prog := prog) (w := w) s.heap k a) (h : Q (pairHash prog w k) { s with toks := s.toks + (k.2.length + 3) }) :
    wpAny (model prog w) A (pyHash (.ref a)) Q E s := by
  have hT := hk.typeIs
  refine elEEEEAAA hk ?_; (try clear hk); rintro o n u b ho _ hd hi
  unfold pyHash
  first | unfold pyHashByItsType | skip
  first | refine wpAny_bind (wpAny_cRoomFor_or (.inr (by omega)) ?_) | skip
  refine wpAny_bind (wpAny_specialOf hT F.slot_tuple_hash.lookup ?_)
  show wpAny _ _ (if (some (Value.builtin "tuple.__hash__") == some Value.none) = true then _ else _) Q E s
  rw [if_neg (by rw [beq_builtin_none]; exact Bool.false_ne_true)]
  refine wpAny_bind (wpAny_specialOf hT F.slot_tuple_hash.lookup ?_)
  show wpAny _ _ (callSpecialIfBoundUnlessNone? (.ref a) "__hash__" _ >>= _) Q E s
  refine wpAny_bind (wpAny_callSpecialIfBoundUnlessNone?_slot hT F.slot_tuple_hash (wpAny_call_entry F.slot_tuple_hash hT F.entry_tuple_hash ?_ (F.args_tuple_hash_1 _)))
  show wpAny _ _ (Builtin.Tuple.tupleItemsOf (.ref a) >>= _) _ _ s
  refine wpAny_bind (wpAny_tupleItemsOf ho hd ?_)
  refine wpAny_bind ?_
  rw [← Array.forIn_toList]
  refine wpAny_forIn_list _
    (fun rest (c : Array Int) s' => (rest = [.str k.1 u, .ref b] ∧ c = #[] ∧ s' = s) ∨ (rest = [.ref b] ∧ c = #[(SK prog w).hash k.1] ∧ s' = { s with toks := s.toks + 1 }) ∨ (rest = [] ∧ c = #[(SK prog w).hash k.1, tupleKeyHash (SK prog w) k.2] ∧ s' = { s with toks := s.toks + 1 + (k.2.length + 1) }))
    _ ?_ ?_ _ _ (.inl ⟨rfl, rfl, rfl⟩)
  · rintro x rest c s' (⟨h1, rfl, rfl⟩ | ⟨h1, rfl, rfl⟩ | ⟨h1, rfl, rfl⟩)
    · cases h1
      refine wpAny_bind ((SK prog w).pyHash (k := k.1) (by exact strKind_is _ _ _ _) ?_)
      first
        | exact wpAny_pure (.inr (.inl ⟨rfl, rfl, rfl⟩))
        | exact wpAny_bind (wpAny_pure (wpAny_pure (.inr (.inl ⟨rfl, rfl, rfl⟩))))
    · cases h1
      refine wpAny_bind (wpAny_pyHash_tuple (by simp only [units_in1]; omega) hi ?_)
      first
        | exact wpAny_pure (.inr (.inr ⟨rfl, rfl, rfl⟩))
        | exact wpAny_bind (wpAny_pure (wpAny_pure (.inr (.inr ⟨rfl, rfl, rfl⟩))))
    · cases h1
  · rintro c s' (⟨h1, rfl, rfl⟩ | ⟨h1, rfl, rfl⟩ | ⟨h1, rfl, rfl⟩)
    · cases h1
    · cases h1
    show wpAny _ _ (retInt (Builtin.Tuple.tupleHashOf [(SK prog w).hash k.1, tupleKeyHash (SK prog w) k.2])) _ _ _
    refine wpAny_ret_mkInt ?_
    show wpAny _ _ (if (decide (-(2 : Int) ^ 63 ≤ Builtin.Tuple.tupleHashOf [(SK prog w).hash k.1, tupleKeyHash (SK prog w) k.2]) && decide (Builtin.Tuple.tupleHashOf [(SK prog w).hash k.1, tupleKeyHash (SK prog w) k.2] < 2 ^ 63)) = true then _ else _) Q E _
    unfold pairHash reduceHash at h
    have et : s.toks + 1 + (k.2.length + 1) + 1 = s.toks + (k.2.length + 3) := by omega
    by_cases hr : (decide (-(2 : Int) ^ 63 ≤ Builtin.Tuple.tupleHashOf [(SK prog w).hash k.1, tupleKeyHash (SK prog w) k.2]) && decide (Builtin.Tuple.tupleHashOf [(SK prog w).hash k.1, tupleKeyHash (SK prog w) k.2] < 2 ^ 63)) = true
    · rw [if_pos hr]
      rw [if_pos hr] at h
      exact wpAny_pure (by simpa [et] using h)
    · rw [if_neg hr]
      rw [if_neg hr] at h
      exact wpAny_bind (wpAny_rule (wpAny_pure (by simpa [et] using h)))
theorem pair_eq_tree {x y : Str × List Str} {a b : Addr} {P : Fin → Shared → Prop} (hu : A.units + 3 < cLine) (hx : IsPair (prog := prog) (w := w) s.heap x a) (hy : IsPair (prog := prog) (w := w) s.heap y b) (h : P (.done (.ret (.bool (decide (x = y))))) s) :
    wpAny (model prog w) A (Builtin.«tuple.__eq__» ⟨[.ref a, .ref b], []⟩) P E s := by
  have hTb := hy.typeIs
  refine elEEEEAAA hx ?_; (try clear hx); rintro oa na ua a2 hoa _ hda hia
  refine elEEEEAAA hy ?_; (try clear hy); rintro ob nb ub b2 hob _ hdb hib
  show wpAny _ _ (isInstance (.ref b) (.type "tuple") >>= _) _ _ s
  refine wpAny_bind (wpAny_isInstance hTb isSubtype_tuple_tuple ?_)
  simp only [Bool.not_true, Bool.false_eq_true, if_false]
  refine wpAny_bind (wpAny_tupleItemsOf hoa hda ?_)
  refine wpAny_bind (wpAny_tupleItemsOf hob hdb ?_)
  refine wpAny_bind ?_
  refine wpAny_forIn_list _
    (fun rest r s' => r.1 = none ∧ s' = s ∧ ((rest = [(.str x.1 ua, .str y.1 ub), (.ref a2, .ref b2)]) ∨ (rest = [(.ref a2, .ref b2)] ∧ x.1 = y.1) ∨ (rest = [] ∧ x.1 = y.1 ∧ x.2 = y.2)))
    _ ?_ ?_ _ _ ⟨rfl, rfl, .inl rfl⟩
  · intro zI1 rest r s' zI2; obtain ⟨u, v⟩ := zI1; refine elAA zI2 ?_; (try clear zI2); rintro hr rfl h1
    rcases h1 with h1 | ⟨h1, he⟩ | ⟨h1, _⟩
    · cases h1
      refine wpAny_bind ((SK prog w).eqBool (a := x.1) (b := y.1) (by exact strKind_is _ _ _ _) (by exact strKind_is _ _ _ _) ?_)
      by_cases hk : x.1 = y.1
      · rw [decide_eq_true hk]
        simp only [Bool.not_true, Bool.false_eq_true, if_false]
        exact wpAny_pure ⟨rfl, rfl, .inr (.inl ⟨by first | trivial | rfl, hk⟩)⟩
      · rw [decide_eq_false hk]
        simp only [Bool.not_false, if_true]
        have hf : decide (x = y) = false := decide_eq_false fun e => hk (congrArg Prod.fst e)
        rw [hf] at h
        exact wpAny_bind (wpAny_pure (wpAny_pure (wpAny_pure h)))
    · cases h1
      refine wpAny_bind (wpAny_eqBool_tuple (by omega) hia hib ?_)
      by_cases hk : x.2 = y.2
      · rw [decide_eq_true hk]
        simp only [Bool.not_true, Bool.false_eq_true, if_false]
        exact wpAny_pure ⟨rfl, rfl, .inr (.inr ⟨by first | trivial | rfl, he, hk⟩)⟩
      · rw [decide_eq_false hk]
        simp only [Bool.not_false, if_true]
        have hf : decide (x = y) = false := decide_eq_false fun e => hk (congrArg Prod.snd e)
        rw [hf] at h
        exact wpAny_bind (wpAny_pure (wpAny_pure (wpAny_pure h)))
    · cases h1
  · intro zI1 s' zI2; obtain ⟨r1, r2⟩ := zI1; refine elAA zI2 ?_; (try clear zI2); rintro hr rfl h1
    simp only at hr
    subst hr
    rcases h1 with h1 | ⟨h1, he⟩ | ⟨h1, h2, h3⟩
    · cases h1
    · cases h1
    refine wpAny_pure ?_
    have hf : decide (x = y) = true := decide_eq_true (Prod.ext h2 h3)
    rw [hf] at h
    exact h
theorem pair_eqBool {x y : Str × List Str} {a b : Addr} {Q : Bool → Shared → Prop} (hu : A.units + 5 < cLine) (hx : IsPair (prog := prog) (w := w) s.heap x a) (hy : IsPair (prog := prog) (w := w) s.heap y b) (h : Q (decide (x = y)) s) :
    wpAny (model prog w) A (eqBool (.ref a) (.ref b)) Q E s := by
  unfold eqBool
  try with_reducible refine wpAny_holding ?_
  show wpAny _ _ (if (Value.ref a == Value.ref b) = true then _ else _) Q E s
  by_cases hab : (Value.ref a == Value.ref b) = true
  · rw [if_pos hab]
    have e : a = b := by have := eq_of_beq hab; injection this
    subst e
    obtain rfl := hx.inj hy
    exact wpAny_bind (wpAny_rule (wpAny_pure (by simpa using h)))
  · rw [if_neg hab]
    exact wpAny_bind (wpAny_richCompare_same_room (op := .Eq) hx.typeIs hy.typeIs F.slot_tuple_eq
      (wpAny_call_entry F.slot_tuple_eq hx.typeIs F.entry_tuple_eq (pair_eq_tree (by simp only [units_in1]; omega) hx hy ⟨_, rfl, (fun e => nomatch e), wpAny_truthy_bool h⟩) (F.args_tuple_eq_2 _ _)) (by omega))
theorem pair_quiet {k : Str × List Str} {a : Addr} {Q : Bool → Shared → Prop} (hk : IsPair (prog := prog) (w := w) s.heap k a) (h : Q true s) : wpAny (model prog w) A (eqIsQuiet 8 (.ref a)) Q E s := by
  have hT := hk.typeIs
  refine elEEEEAAA hk ?_; (try clear hk); rintro o n u b ho _ hd hi
  have hT2 := hi.typeIs
  refine elEEEAAA hi ?_; (try clear hi); rintro o2 items2 n2 ho2 _ hd2 hi2
  unfold eqIsQuiet
  refine wpAny_bind (wpAny_specialOf hT F.slot_tuple_eq.lookup ?_)
  show wpAny _ _ (isInstance (.ref a) (.type "tuple") >>= _) _ _ s
  refine wpAny_bind (wpAny_isInstance hT isSubtype_tuple_tuple ?_)
  simp only [Bool.not_true, Bool.false_eq_true, if_false]
  refine wpAny_bind (wpAny_seqItems ho hd ?_)
  refine wpAny_bind ?_
  show wpAny _ _ (forIn (#[.str k.1 u, .ref b] : Array Value) _ _) _ _ s
  rw [← Array.forIn_toList]
  refine wpAny_forIn_list _ (fun rest r s' => r.1 = none ∧ s' = s ∧ ∀ v ∈ rest, v = .str k.1 u ∨ v = .ref b) _ ?_ ?_ _ _ ⟨rfl, rfl, by simp⟩
  · intro v rest r s' zI1; refine elAA zI1 ?_; (try clear zI1); rintro hr rfl hall
    have key : wpAny (model prog w) A (eqIsQuiet 7 v) (fun c s₂ => c = true ∧ s₂ = s') E s' := by
      rcases hall v List.mem_cons_self with rfl | rfl
      · rw [eqIsQuiet_byValue _ rfl]; exact wpAny_pure ⟨rfl, rfl⟩
      · unfold eqIsQuiet
        refine wpAny_bind (wpAny_specialOf hT2 F.slot_tuple_eq.lookup ?_)
        show wpAny _ _ (isInstance (.ref b) (.type "tuple") >>= _) _ _ s'
        refine wpAny_bind (wpAny_isInstance hT2 isSubtype_tuple_tuple ?_)
        simp only [Bool.not_true, Bool.false_eq_true, if_false]
        refine wpAny_bind (wpAny_seqItems ho2 hd2 ?_)
        refine wpAny_bind ?_
        show wpAny _ _ (forIn items2 _ _) _ _ s'
        rw [← Array.forIn_toList]
        refine wpAny_forIn_list _ (fun rest r s'' => r.1 = none ∧ s'' = s' ∧ ∀ v ∈ rest, carriedByValue v = true) _ ?_ ?_ _ _ ⟨rfl, rfl, hi2.byValue⟩
        · intro v rest r s'' zI1; refine elAA zI1 ?_; (try clear zI1); rintro hr rfl hall
          rw [eqIsQuiet_byValue _ (hall v List.mem_cons_self)]
          refine wpAny_bind (wpAny_pure ?_)
          simp only [Bool.not_true, Bool.false_eq_true, if_false]
          exact wpAny_pure ⟨rfl, rfl, fun u hu' => hall u (List.mem_cons_of_mem _ hu')⟩
        · intro zI1 s'' zI2; obtain ⟨r1, r2⟩ := zI1; refine elAA zI2 ?_; (try clear zI2); rintro hr rfl _
          simp only at hr
          subst hr
          exact wpAny_pure ⟨rfl, rfl⟩
    refine wpAny_bind (wpAny_mono key (fun c s₂ hc => ?_) fun _ _ e => e)
    refine elA hc ?_; (try clear hc); rintro rfl rfl
    simp only [Bool.not_true, Bool.false_eq_true, if_false]
    exact wpAny_pure ⟨rfl, rfl, fun u hu' => hall u (List.mem_cons_of_mem _ hu')⟩
  · intro zI1 s' zI2; obtain ⟨r1, r2⟩ := zI1; refine elAA zI2 ?_; (try clear zI2); rintro hr rfl _
    simp only at hr
    subst hr
    exact wpAny_pure h
end
noncomputable def pairKind {prog : Program} {w : World} : HeapKind prog w (Str × List Str) where
  is := IsPair (prog := prog) (w := w)
  hash := pairHash prog w
  draws := fun k => k.2.length + 3
  room := fun A => A.units + 5 < cLine
  inj := fun hx hy => hx.inj hy
  keeps := fun x ho hd hs => x.keeps ho hd hs
  pyHash := fun hu hk h => pair_hash hu hk h
  eqBool := fun hu hx hy h => pair_eqBool hu hx hy h
  quiet := fun hk h => pair_quiet hk h
noncomputable abbrev KD (w : World) : HeapKind PG w (Str × List Str) := pairKind
noncomputable abbrev CX : Type := List ((Str × List Str) × Addr × Value)
noncomputable def TabO (w : World) (o : Obj) (xs : CX) : Prop := ∃ es ep, o.ExactDict ∧ o.data = .dict es ep ∧ es.toList = xs.map (entryOfKey (KD w)) ∧ (xs.map (·.1)).Nodup
noncomputable def DicO {w : World} {K : Type} [DecidableEq K] (knd : KeyKind PG w K) (o : Obj) (kvs : List (K × Value)) : Prop := ∃ es ep, o.ExactDict ∧ o.data = .dict es ep ∧ KeysOf knd es ∧ Pairs knd es.toList kvs ∧ (kvs.map (·.1)).Nodup
noncomputable def ListObj (o : Obj) (vs : List Value) : Prop := o.cls = .type "list" ∧ ∃ n, o.data = .seq vs.toArray n
noncomputable def tupOf (vs : List Value) : Obj := { cls := .type "tuple", data := .seq vs.toArray }
inductive Ds
  | ob (o : Obj)
  | di (f : Str → Option Value)
  | dk (n : Nat) (f : Str → Option Value)
  | li (vs : List Value)
  | lo (vs : List Value)
  | sd (kvs : List (Str × Value))
  | nd (kvs : List (Int × Value))
  | tb (xs : CX)
  | ce (v : Option Value)
  | an
noncomputable abbrev LD := List (Addr × Ds)
noncomputable def Sat (w : World) (d : Ds) (o : Obj) : Prop := match d with
  | .ob o' => o = o'
  | .di f => ∃ es n, o = dictOf es n ∧ EsOf w.params f es
  | .dk k f => ∃ es n, o = dictOf es n ∧ EsOf w.params f es ∧ es.length ≤ k
  | .li vs => ∃ n, o = listOf vs.toArray n
  | .lo vs => ListObj o vs
  | .sd kvs => DicO (PySem.strKind PG w) o kvs
  | .nd kvs => DicO (PySem.intKind PG w) o kvs
  | .tb xs => TabO w o xs
  | .ce v => o.data = .cell v
  | .an => True
noncomputable def isD : Ds → Bool
  | .sd _ => true
  | .nd _ => true
  | .tb _ => true
  | _ => false
structure OAt (w : World) (h : Heap) (a : Addr) (d : Ds) : Prop where
  nm : isD d = true → (a == sysModules) = false
  ex : ∃ o, h.get? a = some o ∧ Sat w d o
theorem OAt.keeps {w : World} {h h' : Heap} {a : Addr} {d : Ds} (x : OAt w h a d) (k : Keep h h') : OAt w h' a d := ⟨x.nm, let ⟨o, e, s⟩ := x.ex; ⟨o, k _ _ e, s⟩⟩
noncomputable abbrev Has (w : World) (h : Heap) (l : LD) : Prop := ∀ p ∈ l, OAt w h p.1 p.2
structure Lg (w : World) (g h : Heap) (ld : LD) : Prop where
  keep : Keep g h
  off : ∀ p ∈ ld, g.get? p.1 = none
  has : Has w h ld
  ne : ld.Pairwise fun p q => p.1 ≠ q.1
inductive Up (a : Addr) (d d' : Ds) : LD → LD → Prop
  | head {r : LD} : Up a d d' ((a, d) :: r) ((a, d') :: r)
  | tail {p : Addr × Ds} {r r' : LD} : Up a d d' r r' → Up a d d' (p :: r) (p :: r')
inductive Pk (p : Addr × Ds) : LD → LD → Prop
  | head {r : LD} : Pk p (p :: r) r
  | tail {q : Addr × Ds} {r r' : LD} : Pk p r r' → Pk p (q :: r) (q :: r')
inductive Cut : LD → LD → LD → Prop
  | nil {r : LD} : Cut r [] r
  | cons {p : Addr × Ds} {r r' A R : LD} : Pk p r r' → Cut r' A R → Cut r (p :: A) R
noncomputable abbrev Apt (l : LD) : Prop := l.Pairwise fun p q => p.1 ≠ q.1
theorem Pk.mem {p : Addr × Ds} {r r' : LD} (x : Pk p r r') : p ∈ r := by
  induction x with
  | head => exact .head _
  | tail _ ih => exact .tail _ ih
theorem Pk.sub {p : Addr × Ds} {r r' : LD} (x : Pk p r r') : ∀ q ∈ r', q ∈ r := by
  induction x with
  | head => exact fun q h => .tail _ h
  | tail _ ih => exact fun q h => by cases h with | head => exact .head _ | tail _ h => exact .tail _ (ih q h)
theorem Pk.apt {p : Addr × Ds} {r r' : LD} (x : Pk p r r') (h : Apt r) : (∀ q ∈ r', p.1 ≠ q.1) ∧ Apt r' := by
  induction x with
  | head => exact List.pairwise_cons.mp h
  | tail y ih =>
    refine elA (List.pairwise_cons.mp h) ?_; rintro h1 h2
    refine elA (ih h2) ?_; rintro h3 h4
    exact ⟨fun z hz => by cases hz with | head => exact (h1 _ y.mem).symm | tail _ hz => exact h3 _ hz, List.pairwise_cons.mpr ⟨fun z hz => h1 z (y.sub z hz), h4⟩⟩
theorem Cut.all : ∀ {r : LD}, Cut r r []
  | [] => .nil
  | _ :: _ => .cons .head Cut.all
theorem Cut.all9 {r : LD} : Cut r r [] := .all
structure CutOk (r A R : LD) : Prop where
  a : ∀ p ∈ A, p ∈ r
  r : ∀ p ∈ R, p ∈ r
  aa : Apt A
  rr : Apt R
  ar : ∀ p ∈ A, ∀ q ∈ R, p.1 ≠ q.1
theorem Cut.ok {r A R : LD} (x : Cut r A R) : Apt r → CutOk r A R := by
  induction x with
  | nil => exact fun h => ⟨fun _ h => (nomatch h), fun _ h => h, .nil, h, fun _ h => (nomatch h)⟩
  | cons y z ih =>
    intro h
    refine elA (y.apt h) ?_; rintro h1 h2
    have q := ih h2
    refine ⟨fun p hp => ?_, fun p hp => y.sub _ (q.r p hp), List.pairwise_cons.mpr ⟨fun p hp => h1 p (q.a p hp), q.aa⟩, q.rr, fun p hp s hs => ?_⟩
    · cases hp with
      | head => exact y.mem
      | tail _ hp => exact y.sub _ (q.a p hp)
    · cases hp with
      | head => exact h1 s (q.r s hs)
      | tail _ hp => exact q.ar p hp s hs
theorem Up.spl {a : Addr} {d d' : Ds} {l l' : LD} (x : Up a d d' l l') : ∃ pre post, l = pre ++ (a, d) :: post ∧ l' = pre ++ (a, d') :: post := by
  induction x with
  | head => exact ⟨[], _, rfl, rfl⟩
  | tail y ih =>
    refine elEEA ih ?_; (try clear ih); rintro pre post e1 e2
    exact ⟨_ :: pre, post, by rw [e1]; rfl, by rw [e2]; rfl⟩
theorem Up.mem {a : Addr} {d d' : Ds} {l l' : LD} (x : Up a d d' l l') : (a, d) ∈ l := by
  induction x with
  | head => exact .head _
  | tail _ ih => exact .tail _ ih
theorem Up.apt {a : Addr} {d d' : Ds} {l l' : LD} (x : Up a d d' l l') (h : Apt l) : Apt l' ∧ ∀ p ∈ l', p = (a, d') ∨ p ∈ l ∧ p.1 ≠ a := by
  induction x with
  | head =>
    refine elA (List.pairwise_cons.mp h) ?_; rintro h1 h2
    exact ⟨List.pairwise_cons.mpr ⟨h1, h2⟩, fun p hp => by cases hp with | head => exact .inl rfl | tail _ hp => exact .inr ⟨.tail _ hp, (h1 p hp).symm⟩⟩
  | tail y ih =>
    refine elA (List.pairwise_cons.mp h) ?_; rintro h1 h2
    refine elA (ih h2) ?_; rintro h3 h4
    have h5 := h1 _ y.mem
    refine ⟨List.pairwise_cons.mpr ⟨fun p hp => (h4 p hp).elim (fun e => e ▸ h5) fun e => h1 p e.1, h3⟩, fun p hp => ?_⟩
    cases hp with
    | head => exact .inr ⟨.head _, h5⟩
    | tail _ hp => exact (h4 p hp).imp id fun e => ⟨.tail _ e.1, e.2⟩
structure Cf where
  w : World
  mean : ExcName → Option Value
  mg : Str → Option Value
  mb : Str → Option Value
  A : Around
  E : Value → Shared → Prop
  G : Array GenState
  D : PySem.Drawn
  O : OsState
  g : Heap
  L : Addr
  cl : List (Str × Addr)
theorem lk_cons (x : Str) (v : Value) (l : List (Str × Value)) : lk ((x, v) :: l) = fun y => if y = x then some v else lk l y := by
  funext y
  show cond (y == x) (some v) (lk l y) = _
  by_cases h : y = x
  · rw [if_pos h, beq_iff_eq.mpr h]; rfl
  · rw [if_neg h, beq_eq_false_iff_ne.mpr h]; rfl
theorem lk_lookup (l : List (Str × Value)) : (fun y => l.lookup y) = lk l := by
  funext y
  induction l with
  | nil => rfl
  | cons p l ih =>
    obtain ⟨x, v⟩ := p
    show (match y == x with | true => some v | false => l.lookup y) = cond (y == x) (some v) (lk l y)
    rw [ih]
    cases y == x <;> rfl
noncomputable def Sub (l : List (Str × Value)) (m : Str → Option Value) : Prop := ∀ y v, lk l y = some v → m y = some v
theorem Sub.store {l : List (Str × Value)} {m : Str → Option Value} (S : Sub l m) (x : Str) (v : Value) : Sub ((x, v) :: l) (fun y => if y = x then some v else m y) := by
  intro y u h
  rw [lk_cons] at h
  dsimp only at h ⊢
  by_cases e : y = x
  · rw [if_pos e] at h ⊢; exact h
  · rw [if_neg e] at h ⊢; exact S y u h
structure At (c : Cf) (l : List (Str × Value)) (H : Heap) (ld : LD) (h : Heap) : Prop where
  ex : ∃ m, Sub l m ∧ Fr c.g c.L h m
  gH : Keep c.g H
  low : sysModules < c.g.objs.size
  lg : Lg c.w H h ((c.L, .an) :: ld)
theorem nmod {a : Addr} (h : a ≠ sysModules) : (a == sysModules) = false := beq_eq_false_iff_ne.mpr h
section
variable {c : Cf} {l l' : List (Str × Value)} {ld ld' : LD} {H h h' : Heap} {m m' : Str → Option Value} {a : Addr} {d d' : Ds} {o : Obj}
theorem At.oat (A : At c l H ld h) (x : (a, d) ∈ ld) : OAt c.w h a d := A.lg.has _ (.tail _ x)
theorem At.fkeep (A : At c l H ld h) : Keep c.g h := A.gH.trans A.lg.keep
theorem At.offL (A : At c l H ld h) {p : Addr × Ds} (x : p ∈ ld) : p.1 ≠ c.L := ((List.pairwise_cons.mp A.lg.ne).1 p x).symm
theorem At.offg (A : At c l H ld h) {p : Addr × Ds} (x : p ∈ (c.L, Ds.an) :: ld) : c.g.get? p.1 = none := fresh_of A.gH (A.lg.off p x)
theorem At.size (A : At c l H ld h) : sysModules < h.objs.size := by
  refine elEA A.ex ?_; rintro m _ F
  refine elEEEA F.ns ?_; rintro oL _ _ hL _
  exact Nat.lt_of_lt_of_le A.low (Nat.le_of_lt (Nat.lt_of_le_of_lt F.above (Heap.lt_size hL)))
theorem At.step {as : List Addr} {B R : LD} (A : At c l H ld h) (S : Sub l' m') (F : Fr c.g c.L h' m') (kb : ∀ b o, h.get? b = some o → b ∉ as → b ≠ c.L → h'.get? b = some o)
    (ha : ∀ x ∈ as, H.get? x = none) (hR : ∀ p ∈ R, p ∈ ld ∧ p.1 ∉ as) (rr : Apt R) (hB : ∀ p ∈ B, OAt c.w h' p.1 p.2 ∧ (h.get? p.1 = none ∨ p.1 ∈ as ∧ p.1 ≠ c.L)) (bb : Apt B) : At c l' H (B ++ R) h' := by
  obtain ⟨kp, off, has, ne⟩ := A.lg
  have hL := off _ (.head _)
  have kH : Keep H h' := fun b o e => kb b o (kp b o e) (fun q => by rw [ha b q] at e; cases e) (fun q => by rw [q, hL] at e; cases e)
  refine elA (List.pairwise_cons.mp ne) ?_; rintro ne1 ne2
  refine elEEEA F.ns ?_; rintro oL _ _ hL' _
  refine elEA A.ex ?_; rintro m0 _ F0
  refine elEEEA F0.ns ?_; rintro oL0 _ _ hL0 _
  have hBL : ∀ p ∈ B, c.L ≠ p.1 := fun p hp e => (hB p hp).2.elim (fun q => by rw [← e, hL0] at q; cases q) fun q => q.2 e.symm
  have hBH : ∀ p ∈ B, H.get? p.1 = none := fun p hp => (hB p hp).2.elim (fun q => fresh_of kp q) fun q => ha _ q.1
  have hBR : ∀ p ∈ B, ∀ q ∈ R, p.1 ≠ q.1 := fun p hp q hq e => (hB p hp).2.elim (fun z => by
    obtain ⟨_, o, y, _⟩ := has q (.tail _ (hR q hq).1)
    rw [← e, z] at y; cases y) fun z => (hR q hq).2 (e ▸ z.1)
  refine ⟨⟨m', S, F⟩, A.gH, A.low, kH, fun p hp => ?_, fun p hp => ?_, List.pairwise_cons.mpr ⟨fun p hp => ?_, List.pairwise_append.mpr ⟨bb, rr, hBR⟩⟩⟩
  · cases hp with
    | head => exact hL
    | tail _ hp => exact (List.mem_append.mp hp).elim (hBH p) fun q => off p (.tail _ (hR p q).1)
  · cases hp with
    | head => exact ⟨(has _ (.head _)).nm, oL, hL', trivial⟩
    | tail _ hp =>
      refine (List.mem_append.mp hp).elim (fun q => (hB p q).1) fun q => ?_
      obtain ⟨nm, o, y, z⟩ := has p (.tail _ (hR p q).1)
      exact ⟨nm, o, kb _ _ y (hR p q).2 (ne1 p (hR p q).1).symm, z⟩
  · exact (List.mem_append.mp hp).elim (hBL p) fun q => ne1 p (hR p q).1
theorem At.cut {Ad R : LD} (A : At c l H ld h) (x : Cut ld Ad R) : CutOk ld Ad R := x.ok (List.pairwise_cons.mp A.lg.ne).2
theorem At.chg (A : At c l H ld h) (U : Up a d d' ld ld') (hi : isD d' = true → isD d = true) (S : Sub l' m') (F : Fr c.g c.L h' m') (kb : ∀ b o, h.get? b = some o → b ≠ a → b ≠ c.L → h'.get? b = some o) (hs : ∃ o, h'.get? a = some o ∧ Sat c.w d' o) : At c l' H ld' h' := by
  obtain ⟨kp, off, has, ne⟩ := A.lg
  refine elA (List.pairwise_cons.mp ne) ?_; rintro ne1 ne2
  refine elA (U.apt ne2) ?_; rintro u1 u2
  have ha := off _ (.tail _ U.mem)
  have hL := off _ (.head _)
  refine elEEEA F.ns ?_; rintro oL _ _ hL' _
  refine ⟨⟨m', S, F⟩, A.gH, A.low, fun b o e => kb b o (kp b o e) (fun q => by rw [q, ha] at e; cases e) (fun q => by rw [q, hL] at e; cases e), fun p hp => ?_, fun p hp => ?_, List.pairwise_cons.mpr ⟨fun p hp => (u2 p hp).elim (fun e => by rw [e]; exact ne1 (a, d) U.mem) fun e => ne1 p e.1, u1⟩⟩
  · cases hp with
    | head => exact hL
    | tail _ hp => exact (u2 p hp).elim (fun e => by rw [e]; exact ha) fun e => off p (.tail _ e.1)
  · cases hp with
    | head => exact ⟨(has _ (.head _)).nm, oL, hL', trivial⟩
    | tail _ hp =>
      refine (u2 p hp).elim (fun e => by rw [e]; exact ⟨fun q => (has _ (.tail _ U.mem)).nm (hi q), hs⟩) fun e => ?_
      obtain ⟨nm, o, y, z⟩ := has p (.tail _ e.1)
      exact ⟨nm, o, kb _ _ y e.2 (ne1 p e.1).symm, z⟩
theorem At.loc (A : At c l H ld h) (S : Sub l' m') (F : Fr c.g c.L h' m') (kb : ∀ b o, h.get? b = some o → b ≠ c.L → h'.get? b = some o) : At c l' H ld h' :=
  At.step (as := []) (B := []) A S F (fun b o e _ n => kb b o e n) (fun _ h => nomatch h) (fun p hp => ⟨hp, fun h => nomatch h⟩) (List.pairwise_cons.mp A.lg.ne).2 (fun _ h => nomatch h) .nil
theorem At.ext (A : At c l H ld h) (k : Keep h h') : At c l H ld h' := by
  refine elEA A.ex ?_; rintro m S F
  exact A.loc S (fr_ext F k) fun b o e _ => k b o e
theorem At.push (A : At c l H ld h) (o : Obj) (hs : Sat c.w d o) (hf : o.isFreed = false := by rfl) : At c l H ((h.objs.size, d) :: ld) (h.push o) := by
  refine elEA A.ex ?_; rintro m S F
  refine At.step (as := []) (B := [(h.objs.size, d)]) A S (F.push o) (fun b o e _ n => Heap.get?_push_of_some _ e) (fun _ h => nomatch h) (fun p hp => ⟨hp, fun h => nomatch h⟩) (List.pairwise_cons.mp A.lg.ne).2 (fun p hp => ?_) (List.pairwise_singleton _ _)
  cases List.mem_singleton.mp hp
  refine ⟨⟨fun _ => nmod (Nat.ne_of_gt A.size), o, Heap.get?_push_size _ hf, hs⟩, .inl ?_⟩
  cases q : h.get? h.objs.size with
  | none => rfl
  | some o => exact absurd (Heap.lt_size q) (Nat.lt_irrefl _)
theorem At.upd1 (A : At c l H ld h) (U : Up a d d' ld ld') (hi : isD d' = true → isD d = true) : ∃ m R o, Sub l m ∧ Fr c.g c.L h m ∧ h.get? a = some o ∧ Sat c.w d o ∧ News c.g c.L h ((a, o) :: R) ∧ (∀ p ∈ R, p.1 ≠ a) ∧
    ∀ h' o', Fr c.g c.L h' m → News c.g c.L h' ((a, o') :: R) → Sat c.w d' o' → At c l H ld' h' := by
  refine elEA A.ex ?_; rintro m S F
  refine elEAA (bag_of (L := c.L) [a] F.keep) ?_; rintro R N r1 r2
  obtain ⟨_, o, e, s⟩ := A.lg.has _ (.tail _ U.mem)
  have n : ∀ {h : Heap} {o : Obj}, h.get? a = some o → News c.g c.L h R → News c.g c.L h ((a, o) :: R) := fun e N p hp => by
    cases hp with
    | head => exact ⟨e, A.offL U.mem, A.offg (.tail _ U.mem)⟩
    | tail _ hp => exact N p hp
  refine ⟨m, R, o, S, F, e, s, n e N, fun p hp q => r1 p hp (List.mem_singleton.mpr q), fun h' o' F' N' s' => A.chg U hi S F' (fun b o e n1 n2 => (r2 b o e (fun q => n1 (List.mem_singleton.mp q)) n2).elim (F'.keep b o) fun q => (N' _ (.tail _ q)).1) ⟨o', (N' _ (.head _)).1, s'⟩⟩
theorem At.whole (A : At c l H ld h) (as : List Addr) : ∃ m R, Sub l m ∧ Fr c.g c.L h m ∧ News c.g c.L h R ∧ (∀ p ∈ R, p.1 ∉ as) ∧ ∀ h' m', Fr c.g c.L h' m' → News c.g c.L h' R → ∀ b o, h.get? b = some o → b ∉ as → b ≠ c.L → h'.get? b = some o := by
  refine elEA A.ex ?_; rintro m S F
  refine elEAA (bag_of (L := c.L) as F.keep) ?_; rintro R N r1 r2
  exact ⟨m, R, S, F, N, r1, fun h' m' F' N' b o e n1 n2 => (r2 b o e n1 n2).elim (F'.keep b o) fun q => (N' _ q).1⟩
theorem At.freeze {Ad R : LD} (A : At c l H ld h) (x : Cut ld Ad R) : ∃ G, Keep H G ∧ Has c.w G R ∧ At c l G Ad h := by
  obtain ⟨kp, off, has, ne⟩ := A.lg
  refine elA (List.pairwise_cons.mp ne) ?_; rintro ne1 ne2
  have k := x.ok ne2
  have sub : ∀ q ∈ c.L :: Ad.map (·.1), H.get? q = none := fun q hq => by
    cases hq with
    | head => exact off _ (.head _)
    | tail _ hq => obtain ⟨p, hp, rfl⟩ := List.mem_map.mp hq; exact off p (.tail _ (k.a p hp))
  have kg : Keep H (hideAll h (c.L :: Ad.map (·.1))) := fun b o e => hideAll_get _ (kp b o e) fun q => by rw [sub b q] at e; cases e
  refine ⟨hideAll h (c.L :: Ad.map (·.1)), kg, fun p hp => ?_, A.ex, A.gH.trans kg, A.low, fun b o e => of_hideAll _ e, fun p hp => ?_, fun p hp => ?_, List.pairwise_cons.mpr ⟨fun p hp => ne1 p (k.a p hp), k.aa⟩⟩
  · obtain ⟨nm, o, e, s⟩ := has p (.tail _ (k.r p hp))
    refine ⟨nm, o, hideAll_get _ e fun q => ?_, s⟩
    rcases List.mem_cons.mp q with q | q
    · exact ne1 p (k.r p hp) q.symm
    · refine elEA (List.mem_map.mp q) ?_; rintro z hz e; exact k.ar z hz p hp e
  · refine hideAll_none _ ?_
    cases hp with
    | head => exact .head _
    | tail _ hp => exact .tail _ (List.mem_map.mpr ⟨p, hp, rfl⟩)
  · cases hp with
    | head => exact has _ (.head _)
    | tail _ hp => exact has p (.tail _ (k.a p hp))
end
structure CC where
  qual : Str
  scope : Scope
  fa : Addr
  cdv : Value
  loc : List Str
  gl : List (Str × Value)
  kp : List Addr
  bl : List Str
  gs : List (Str × Str)
  ce : List Str
noncomputable abbrev envE (cc : CC) (c : Cf) : Env := envX cc.qual cc.scope c.L cc.fa cc.cdv c.cl
noncomputable def hasA (l : List Addr) (a : Addr) : Bool := match l with
  | [] => false
  | b :: l => cond (Nat.beq b a) true (hasA l a)
theorem condP {b : Bool} {X Y : Prop} (h : cond b X Y) : (b = true ∧ X) ∨ (b = false ∧ Y) := by
  cases b with
  | true => exact .inl ⟨rfl, h⟩
  | false => exact .inr ⟨rfl, h⟩
theorem condT {b x : Bool} (h : cond b true x = true) : b = true ∨ x = true := by
  cases b with
  | true => exact .inl rfl
  | false => exact .inr h
theorem hasA_mem {a : Addr} : ∀ {l : List Addr}, hasA l a = true → a ∈ l
  | b :: l, h => by
    rcases condT h with e | e
    · rw [Nat.eq_of_beq_eq_true e]; exact .head _
    · exact .tail _ (hasA_mem e)
noncomputable def hasS (l : List Str) (x : Str) : Bool := match l with
  | [] => false
  | b :: l => cond (b == x) true (hasS l x)
theorem hasS_mem {x : Str} : ∀ {l : List Str}, hasS l x = true → x ∈ l
  | b :: l, h => by
    rcases condT h with e | e
    · rw [← beq_iff_eq.mp e]; exact .head _
    · exact .tail _ (hasS_mem e)
theorem lk_mem {x : Str} {v : Value} : ∀ {l : List (Str × Value)}, lk l x = some v → (x, v) ∈ l
  | (y, u) :: l, h => by
    have h : cond (x == y) (some u) (lk l x) = some v := h
    cases e : x == y with
    | true => rw [e] at h; cases h; rw [beq_iff_eq.mp e]; exact .head _
    | false => rw [e] at h; exact .tail _ (lk_mem h)
noncomputable def BL : List (Str × Value) := [(Str.ofString "isinstance", .builtin "isinstance"), (Str.ofString "len", .builtin "len"), (Str.ofString "int", .type "int"), (Str.ofString "str", .type "str"), (Str.ofString "tuple", .type "tuple"), (Str.ofString "range", .type "range"), (Str.ofString "Exception", .type "Exception")]
theorem bl_boot {x : Str} {v : Value} (h : lk BL x = some v) : bootBuiltins x = some v ∧ x ≠ "__name__" := by
  have h := lk_mem h
  simp only [BL, List.mem_cons, List.not_mem_nil, or_false, Prod.mk.injEq] at h
  rcases h with ⟨rfl, rfl⟩ | ⟨rfl, rfl⟩ | ⟨rfl, rfl⟩ | ⟨rfl, rfl⟩ | ⟨rfl, rfl⟩ | ⟨rfl, rfl⟩ | ⟨rfl, rfl⟩ <;> exact ⟨by boot_by_name, by decide⟩
noncomputable def isStrV (v : Option (Option Value)) (s : Str) : Bool := match v with
  | some (some (.str x _)) => x == s
  | _ => false
theorem isStrV_is {v : Option (Option Value)} {s : Str} (h : isStrV v s = true) : ∃ u, v = some (some (.str s u)) := by
  unfold isStrV at h
  split at h
  · exact ⟨_, by rw [beq_iff_eq.mp h]⟩
  · cases h
noncomputable def nmOk (cc : CC) (k : NameKind) (x : Str) : Bool := cc.scope.names.lookup x == some k && !(x == ("__debug__" : Str))
noncomputable def ccOk (K : Frag) (cc : CC) : Bool :=
  (cc.scope.kind == .function) && ((cc.loc.all (nmOk cc .local)) && ((cc.gl.all fun p => nmOk cc .globalImplicit p.1 && nsIn K mainGlobals p.1 == some (some p.2)) && ((cc.kp.all fun a => keepIn K (.ref a)) &&
    ((cc.bl.all fun x => nmOk cc .globalImplicit x && nsIn K mainGlobals x == some none) && ((cc.gs.all fun p => nmOk cc .globalImplicit p.1 && isStrV (nsIn K mainGlobals p.1) p.2) && (cc.ce.all (nmOk cc .cell)))))))
noncomputable def valOf (fl : Flow) : Value := match fl with
  | .ret v => v
  | _ => .none
inductive Stp (k : Nat) (P : Prop) : Prop
  | mk (h : P) : Stp k P
theorem Stp.get {k : Nat} {P : Prop} (h : Stp k P) : P := by cases h; assumption
inductive Br (b : Bool) (X Y : Prop) : Prop
  | mk (h1 : b = true → X) (h2 : b = false → Y) : Br b X Y
theorem Br.t {X Y : Prop} (h : X) : Br true X Y := .mk (fun _ => h) (fun e => nomatch e)
theorem Br.f {X Y : Prop} (h : Y) : Br false X Y := .mk (fun e => nomatch e) (fun _ => h)
theorem Br.tt {b : Bool} {X Y : Prop} (e : b = true) (h : X) : Br b X Y := .mk (fun _ => h) (fun k => by rw [e] at k; cases k)
theorem Br.ff {b : Bool} {X Y : Prop} (e : b = false) (h : Y) : Br b X Y := .mk (fun k => by rw [e] at k; cases k) (fun _ => h)
noncomputable abbrev Kt (α : Type) := α → List (Str × Value) → Heap → LD → Prop
inductive Bk {α : Type} (c : Cf) (K : Kt α) (v : α) : Shared → Prop
  | mk (l : List (Str × Value)) (H : Heap) (ld : LD) (h : Heap) (t : Nat) (A : At c l H ld h) (x : K v l H ld) : Bk c K v ⟨h, c.G, c.D, t, c.O⟩
noncomputable def Sp {α : Type} (c : Cf) (l : List (Str × Value)) (H : Heap) (ld : LD) (tr : Sem α) (K : Kt α) : Prop := ∀ h t, At c l H ld h → wpAny (model PG c.w) c.A tr (Bk c K) c.E ⟨h, c.G, c.D, t, c.O⟩
noncomputable def Fo (cc : CC) (c : Cf) (l : List (Str × Value)) (H : Heap) (ld : LD) (tgt : PySem.Expr) (body : List Stmt) (v : Value) (K : Kt Flow) : Prop := ∀ h t, At c l H ld h → ∀ Q : Flow → Shared → Prop, (∀ f s, Bk c K f s → Q f s) →
  wpAny (model PG c.w) c.A (pyIter v) (fun it s₂ => codeAny (model PG c.w) c.A (.forLoop tgt it body [] (envE cc c)) (fun r s' => match r with | .ok f => Q f s' | .error e => cameBackBy (model PG c.w) c.A (envE cc c) c.E e s') s₂) c.E ⟨h, c.G, c.D, t, c.O⟩
noncomputable def isComp : PySem.Expr → Bool
  | .ListComp .. => true
  | .SetComp .. => true
  | .DictComp .. => true
  | _ => false
noncomputable def isSup : PySem.Expr → Bool
  | .Call (.Name _ _) [] [] _ => true
  | _ => false
noncomputable def isStar : PySem.Expr → Bool
  | .Starred .. => true
  | _ => false
noncomputable def noStar : List PySem.Expr → Bool
  | [] => true
  | e :: r => cond (isStar e) false (noStar r)
noncomputable def plainTest : PySem.Expr → Bool
  | .Name .. => true
  | .Constant .. => true
  | .Call .. => true
  | .Attribute .. => true
  | .Subscript .. => true
  | .BinOp .. => true
  | .List .. => true
  | _ => false
noncomputable def opt {α : Type} (o : Option α) (B : Prop) (A : α → Prop) : Prop := match o with
  | none => B
  | some v => A v
noncomputable def plainIdx : PySem.Expr → Bool
  | .Constant .. => true
  | .Name .. => true
  | .UnaryOp .. => true
  | _ => false
noncomputable def okTgt (cc : CC) : PySem.Expr → Bool
  | .Name x _ => hasS cc.loc x || hasS cc.ce x
  | .Attribute .. => true
  | .Subscript .. => true
  | _ => false
inductive Kn
  | seq (r : List Stmt)
  | ret
  | expr
  | iff (a b : List Stmt)
  | asg (tgt : PySem.Expr)
  | setA (a : Str) (v : Value)
  | setI (i : PySem.Expr) (v : Value)
  | setJ (ov v : Value)
  | augA (a : Str) (op : Operator) (value : PySem.Expr)
  | augB (ov : Value) (a : Str) (op : Operator) (value : PySem.Expr)
  | augC (ov : Value) (a : Str) (op : Operator) (old : Value)
  | augD (ov : Value) (a : Str)
  | augN (x : Str) (p : Pos) (op : Operator) (value : PySem.Expr)
  | augO (x : Str) (p : Pos) (op : Operator) (old : Value)
  | augS (i : PySem.Expr) (op : Operator) (value : PySem.Expr)
  | augT (ov : Value) (op : Operator) (value : PySem.Expr)
  | augU (ov iv : Value) (op : Operator) (value : PySem.Expr)
  | augV (ov iv : Value) (op : Operator) (old : Value)
  | augW (ov iv : Value)
  | cmp (op : CmpOp) (b : PySem.Expr)
  | cmq (op : CmpOp) (x : Value)
  | tru
  | not
  | and (r : List PySem.Expr) (p : Pos)
  | or (r : List PySem.Expr) (p : Pos)
  | anv (r : List PySem.Expr) (p : Pos)
  | orv (r : List PySem.Expr) (p : Pos)
  | ifx (a b : PySem.Expr)
  | bin (op : Operator) (b : PySem.Expr)
  | bip (op : Operator) (x : Value)
  | una (op : UnaryOp)
  | att (a : Str)
  | met (o : PySem.Expr) (m : Str) (pos : Pos) (args : List PySem.Expr)
  | cal (pos : Pos) (args : List PySem.Expr)
  | arg (r : List PySem.Expr)
  | sub (a i : PySem.Expr)
  | sup (a i : PySem.Expr) (x : Value)
  | forI (tgt : PySem.Expr) (body : List Stmt)
  | whl (body : List Stmt)
  | cons (v : Value)
  | lst
  | tup
  | call (f : Value)
  | calM (f x : Value)
noncomputable def lkS : List (Str × Str) → Str → Option Str
  | [], _ => none
  | (x, v) :: l, y => cond (y == x) (some v) (lkS l y)
theorem lkS_mem {x : Str} {v : Str} : ∀ {l : List (Str × Str)}, lkS l x = some v → (x, v) ∈ l
  | (y, u) :: l, h => by
    have h : cond (x == y) (some u) (lkS l x) = some v := h
    cases e : x == y with
    | true => rw [e] at h; cases h; rw [beq_iff_eq.mp e]; exact .head _
    | false => rw [e] at h; exact .tail _ (lkS_mem h)
inductive Ctl
  | ev (e : PySem.Expr)
  | te (e : PySem.Expr)
  | ar (es : List PySem.Expr)
  | ap (pos : Pos) (args : List PySem.Expr) (f : Value) (first : List Value)
  | ss (b : List Stmt)
  | st (s : Stmt)
  | va (v : Value)
  | vs (l : List Value)
  | fl (f : Flow)
noncomputable abbrev RunT := Ctl → List Kn → List (Str × Value) → Heap → LD → Prop
noncomputable def kv (ih : RunT) (st : List Kn) : Kt Value := fun v l H ld => ih (.va v) st l H ld
noncomputable def kb (ih : RunT) (st : List Kn) : Kt Bool := fun b l H ld => ih (.va (.bool b)) st l H ld
noncomputable def ku (ih : RunT) (st : List Kn) : Kt Unit := fun _ l H ld => ih (.fl .next) st l H ld
noncomputable def kf (ih : RunT) (st : List Kn) : Kt Flow := fun f l H ld => ih (.fl f) st l H ld
noncomputable def kx (ih : RunT) (pos : Pos) (args : List PySem.Expr) (st : List Kn) : Kt (Value × List Value) := fun fx l H ld => ih (.ap pos args fx.1 fx.2) st l H ld
section
variable (cc : CC) (c : Cf) (ih : RunT) (st : List Kn) (l : List (Str × Value)) (H : Heap) (ld : LD)
noncomputable abbrev stE (e : PySem.Expr) : Prop := Stp 1 (Sp c l H ld (eval e (envE cc c)) (kv ih st))
noncomputable abbrev stT (e : PySem.Expr) : Prop := Stp 1 (Sp c l H ld (isTrue e (envE cc c) (eval e (envE cc c))) (kb ih st))
noncomputable abbrev stS (s : Stmt) : Prop := Stp 15 (Sp c l H ld (exec s (envE cc c)) (kf ih st))
noncomputable abbrev stC (pos : Pos) (args : List PySem.Expr) (f : Value) (first : List Value) : Prop := Stp 5 (Sp c l H ld (callWith pos f first (backTo pos (starEach args (envE cc c))) []) (kv ih st))
noncomputable def nameF (x : Str) (p : Pos) : Prop :=
  opt (lk l x) (opt (lk cc.gl x) (cond (hasS cc.bl x) (opt (lk BL x) (stE cc c ih st l H ld (.Name x p)) fun v => ih (.va v) st l H ld)
    (cond (hasS cc.ce x) (Stp 24 (Sp c l H ld (loadName (envE cc c) x) (kv ih st))) (opt (lkS cc.gs x) (stE cc c ih st l H ld (.Name x p)) fun s => Stp 20 (∀ u, ih (.va (.str s u)) st l H ld)))) fun v => ih (.va v) st l H ld)
    fun v => cond (hasS cc.loc x) (ih (.va v) st l H ld) (stE cc c ih st l H ld (.Name x p))
noncomputable def constF (k : Const) (a : Nat) (b : Pos) : Prop := match k with
  | .none => ih (.va .none) st l H ld
  | .bool b => ih (.va (.bool b)) st l H ld
  | .int i => Stp 20 (∀ u, ih (.va (.int i u)) st l H ld)
  | .str x => Stp 20 (∀ u, ih (.va (.str x u)) st l H ld)
  | k => stE cc c ih st l H ld (.Constant k a b)
noncomputable def callF (f : PySem.Expr) (args : List PySem.Expr) (kw : List Keyword) (p : Pos) : Prop := match f with
  | .Attribute o mn ap => cond (kw.isEmpty && !(isSup o || !(Nat.beq ap.endLine p.line) || !(noStar args && Nat.ble args.length 29))) (ih (.ev o) (.met o mn p args :: st) l H ld) (stE cc c ih st l H ld (.Call (.Attribute o mn ap) args kw p))
  | .Name x px => cond kw.isEmpty (ih (.ev (.Name x px)) (.cal p args :: st) l H ld) (stE cc c ih st l H ld (.Call (.Name x px) args kw p))
  | f => stE cc c ih st l H ld (.Call f args kw p)
noncomputable def cmpF (a : PySem.Expr) (ops : List CmpOp) (bs : List PySem.Expr) (stop : Prop) : Prop := match ops with
  | [] => stop
  | op :: r => match bs with
    | [] => stop
    | b :: r2 => cond (r.isEmpty && r2.isEmpty && !(behindInMarks op b)) (ih (.ev a) (.cmp op b :: st) l H ld) stop
noncomputable def boolF (op : BoolOp) (es : List PySem.Expr) (p : Pos) : Prop := match es with
  | [] => stE cc c ih st l H ld (.BoolOp op [] p)
  | x :: r => cond r.isEmpty (ih (.ev x) st l H ld) (match op with
    | .And => ih (.ev x) (.anv r p :: st) l H ld
    | .Or => ih (.ev x) (.orv r p :: st) l H ld)
noncomputable def evF (e : PySem.Expr) : Prop := match e with
  | .Name x p => nameF cc c ih st l H ld x p
  | .Constant k a b => constF cc c ih st l H ld k a b
  | .List es p => cond (noStar es) (ih (.ar es) (.lst :: st) l H ld) (stE cc c ih st l H ld (.List es p))
  | .Tuple es k p => cond (noStar es) (ih (.ar es) (.tup :: st) l H ld) (stE cc c ih st l H ld (.Tuple es k p))
  | .Attribute e a p => cond (isSup e) (stE cc c ih st l H ld (.Attribute e a p)) (ih (.ev e) (.att a :: st) l H ld)
  | .Call f args kw p => callF cc c ih st l H ld f args kw p
  | .BinOp a op b _ => ih (.ev a) (.bin op b :: st) l H ld
  | .Compare a ops bs p => cmpF ih st l H ld a ops bs (stE cc c ih st l H ld (.Compare a ops bs p))
  | .Subscript a i _ => ih (.ev a) (.sub a i :: st) l H ld
  | .IfExp q a b _ => ih (.te q) (.ifx a b :: st) l H ld
  | .UnaryOp op a _ => ih (.ev a) (.una op :: st) l H ld
  | .BoolOp op es p => boolF cc c ih st l H ld op es p
  | e => stE cc c ih st l H ld e
noncomputable def teF (e : PySem.Expr) : Prop := match e with
  | .UnaryOp op x p => match op with
    | .Not => ih (.te x) (.not :: st) l H ld
    | op => stT cc c ih st l H ld (.UnaryOp op x p)
  | .BoolOp op es p => match es with
    | [] => stT cc c ih st l H ld (.BoolOp op [] p)
    | x :: r => match op with
      | .And => ih (.te x) (.and r p :: st) l H ld
      | .Or => ih (.te x) (.or r p :: st) l H ld
  | .Compare a ops bs p => cmpF ih (.tru :: st) l H ld a ops bs (stT cc c ih st l H ld (.Compare a ops bs p))
  | e => cond (plainTest e) (ih (.ev e) (.tru :: st) l H ld) (stT cc c ih st l H ld e)
noncomputable def twoF (v : Value) (X Y : Prop) : Prop := match v with
  | .bool k => Stp 10 (Br k X Y)
  | _ => False
noncomputable def vaF (k : Kn) (v : Value) : Prop := match k with
  | .ret => ih (.fl (.ret v)) st l H ld
  | .expr => ih (.fl .next) st l H ld
  | .iff a b => twoF v (ih (.ss a) st l H ld) (ih (.ss b) st l H ld)
  | .asg tgt => match tgt with
    | .Name x _ => cond (hasS cc.loc x) (ih (.fl .next) st ((x, v) :: l) H ld) (Stp 23 (Sp c l H ld (storeName (envE cc c) x v) (ku ih st)))
    | .Attribute o a _ => ih (.ev o) (.setA a v :: st) l H ld
    | .Subscript o i _ => ih (.ev o) (.setI i v :: st) l H ld
    | _ => False
  | .setA a x => Stp 13 (Sp c l H ld (setAttr v a x) (ku ih st))
  | .setI i x => ih (.ev i) (.setJ v x :: st) l H ld
  | .setJ ov x => Stp 14 (Sp c l H ld (setItem ov v x) (ku ih st))
  | .augA a op value => Stp 3 (Sp c l H ld (getAttr v a true) (kv ih (.augB v a op value :: st)))
  | .augB ov a op value => ih (.ev value) (.augC ov a op v :: st) l H ld
  | .augC ov a op old => Stp 8 (Sp c l H ld (inplaceOp op old v) (kv ih (.augD ov a :: st)))
  | .augD ov a => Stp 13 (Sp c l H ld (setAttr ov a v) (ku ih st))
  | .augN x p op value => ih (.ev value) (.augO x p op v :: st) l H ld
  | .augO x p op old => Stp 8 (Sp c l H ld (inplaceOp op old v) (kv ih (.asg (.Name x p) :: st)))
  | .augS i op value => ih (.ev i) (.augT v op value :: st) l H ld
  | .augT ov op value => Stp 12 (Sp c l H ld (getItem ov v) (kv ih (.augU ov v op value :: st)))
  | .augU ov iv op value => ih (.ev value) (.augV ov iv op v :: st) l H ld
  | .augV ov iv op old => Stp 8 (Sp c l H ld (inplaceOp op old v) (kv ih (.augW ov iv :: st)))
  | .augW ov iv => Stp 14 (Sp c l H ld (setItem ov iv v) (ku ih st))
  | .cmp op b => ih (.ev b) (.cmq op v :: st) l H ld
  | .cmq op x => Stp 7 (Sp c l H ld (compareOp op x v) (kv ih st))
  | .tru => match v with
    | .bool b => ih (.va (.bool b)) st l H ld
    | .none => ih (.va (.bool false)) st l H ld
    | v => Stp 9 (Sp c l H ld (truthy v) (kb ih st))
  | .not => match v with
    | .bool b => ih (.va (.bool (!b))) st l H ld
    | _ => False
  | .and r p => twoF v (ih (.te (.BoolOp .And r p)) st l H ld) (ih (.va (.bool false)) st l H ld)
  | .or r p => twoF v (ih (.va (.bool true)) st l H ld) (ih (.te (.BoolOp .Or r p)) st l H ld)
  | .anv r p => twoF v (ih (.ev (.BoolOp .And r p)) st l H ld) (ih (.va v) st l H ld)
  | .orv r p => twoF v (ih (.va v) st l H ld) (ih (.ev (.BoolOp .Or r p)) st l H ld)
  | .ifx a b => twoF v (ih (.ev a) st l H ld) (ih (.ev b) st l H ld)
  | .bin op b => ih (.ev b) (.bip op v :: st) l H ld
  | .bip op x => Stp 8 (Sp c l H ld (binaryOp op x v) (kv ih st))
  | .una op => Stp 8 (Sp c l H ld (unaryOp op v) (kv ih st))
  | .att a => Stp 3 (Sp c l H ld (getAttr v a true) (kv ih st))
  | .met o m pos args => Stp 6 (Sp c l H ld (getMethod v m (do return (← importBound o (envE cc c)).getD true)) (kx ih pos args st))
  | .cal pos args => ih (.ap pos args v []) st l H ld
  | .arg r => ih (.ar r) (.cons v :: st) l H ld
  | .sub a i => ih (.ev i) (.sup a i v :: st) l H ld
  | .sup a i x => Stp 11 (Sp c l H ld (subscriptTail a i x v) (kv ih st))
  | .whl body => twoF v (ih (.ss body) st l H ld) (ih (.fl .brk) st l H ld)
  | .forI tgt body => Stp 16 (Fo cc c l H ld tgt body v (kf ih st))
  | _ => False
noncomputable def vsF (k : Kn) (vs : List Value) : Prop := match k with
  | .cons v => ih (.vs (v :: vs)) st l H ld
  | .lst => cond (Nat.ble vs.length 100) (Stp 22 (∀ a : Addr, ih (.va (.ref a)) st l H ((a, .li vs) :: ld))) False
  | .tup => cond (Nat.ble vs.length 100) (Stp 22 (∀ a : Addr, ih (.va (.ref a)) st l H ((a, .ob (tupOf vs)) :: ld))) False
  | .call f => Stp 4 (Sp c l H ld (call f vs) (kv ih st))
  | .calM f x => Stp 4 (Sp c l H ld (call f (x :: vs)) (kv ih st))
  | _ => False
noncomputable def apR (pos : Pos) (args : List PySem.Expr) (f : Value) (first : List Value) : Prop := match first with
  | [] => ih (.ar args) (.call f :: st) l H ld
  | x :: r => cond r.isEmpty (ih (.ar args) (.calM f x :: st) l H ld) (stC cc c ih st l H ld pos args f (x :: r))
noncomputable def apF (pos : Pos) (args : List PySem.Expr) (f : Value) (first : List Value) : Prop := match f with
  | .ref a => cond (hasA cc.kp a && noStar args) (apR cc c ih st l H ld pos args (.ref a) first) (stC cc c ih st l H ld pos args (.ref a) first)
  | .builtin id => cond (noStar args) (apR cc c ih st l H ld pos args (.builtin id) first) (stC cc c ih st l H ld pos args (.builtin id) first)
  | .type T => match first with
    | [] => cond (noStar args) (ih (.ar args) (.call (.type T) :: st) l H ld) (stC cc c ih st l H ld pos args (.type T) [])
    | x :: r => stC cc c ih st l H ld pos args (.type T) (x :: r)
  | f => stC cc c ih st l H ld pos args f first
noncomputable def asgF (tgts : List PySem.Expr) (value : PySem.Expr) (p : Pos) : Prop := match tgts with
  | [] => stS cc c ih st l H ld (.Assign [] value p)
  | tgt :: r => cond (r.isEmpty && !(isComp value || !(okTgt cc tgt))) (ih (.ev value) (.asg tgt :: st) l H ld) (stS cc c ih st l H ld (.Assign (tgt :: r) value p))
noncomputable def retF (o : Option PySem.Expr) : Prop := match o with
  | none => ih (.fl (.ret .none)) st l H ld
  | some e => ih (.ev e) (.ret :: st) l H ld
noncomputable def forF (tgt iter : PySem.Expr) (body els : List Stmt) (p : Pos) : Prop := match tgt with
  | .Name x px => cond (plainTest iter && els.isEmpty) (ih (.ev iter) (.forI (.Name x px) body :: st) l H ld) (stS cc c ih st l H ld (.For (.Name x px) iter body els p))
  | tgt => stS cc c ih st l H ld (.For tgt iter body els p)
noncomputable def augF (tgt : PySem.Expr) (op : Operator) (value : PySem.Expr) (p : Pos) : Prop := match tgt with
  | .Attribute o a _ => ih (.ev o) (.augA a op value :: st) l H ld
  | .Name x px => cond (hasS cc.loc x) (opt (lk l x) (stS cc c ih st l H ld (.AugAssign (.Name x px) op value p)) fun v => ih (.ev value) (.augO x px op v :: st) l H ld) (cond (hasS cc.ce x) (Stp 24 (Sp c l H ld (loadName (envE cc c) x) (kv ih (.augN x px op value :: st)))) (stS cc c ih st l H ld (.AugAssign (.Name x px) op value p)))
  | .Subscript o i pa => cond (plainIdx i) (ih (.ev o) (.augS i op value :: st) l H ld) (stS cc c ih st l H ld (.AugAssign (.Subscript o i pa) op value p))
  | tgt => stS cc c ih st l H ld (.AugAssign tgt op value p)
noncomputable def stF (s : Stmt) : Prop := match s with
  | .Assign tgts value p => asgF cc c ih st l H ld tgts value p
  | .Return o _ => retF ih st l H ld o
  | .Expr e p => cond (isComp e) (stS cc c ih st l H ld (.Expr e p)) (ih (.ev e) (.expr :: st) l H ld)
  | .If q a b _ => ih (.te q) (.iff a b :: st) l H ld
  | .Pass _ => ih (.fl .next) st l H ld
  | .For tgt iter body els p => forF cc c ih st l H ld tgt iter body els p
  | .Continue _ => ih (.fl .cont) st l H ld
  | .Break _ => ih (.fl .brk) st l H ld
  | .AugAssign tgt op value p => augF cc c ih st l H ld tgt op value p
  | s => stS cc c ih st l H ld s
noncomputable def seqF (r : List Stmt) (f : Flow) : Prop := match f with
  | .next => ih (.ss r) st l H ld
  | f => ih (.fl f) st l H ld
noncomputable def flF (fin : Kt Flow) (f : Flow) : Prop := match st with
  | [] => fin f l H ld
  | k :: st => match k with
    | .seq r => seqF ih st l H ld r f
    | _ => False
noncomputable def step (fin : Kt Flow) (x : Ctl) : Prop := match x with
  | .ev e => evF cc c ih st l H ld e
  | .te e => teF cc c ih st l H ld e
  | .ar es => match es with
    | [] => ih (.vs []) st l H ld
    | e :: r => ih (.ev e) (.arg r :: st) l H ld
  | .ap pos args f first => apF cc c ih st l H ld pos args f first
  | .ss b => match b with
    | [] => ih (.fl .next) st l H ld
    | s :: r => cond r.isEmpty (ih (.st s) st l H ld) (ih (.st s) (.seq r :: st) l H ld)
  | .st s => stF cc c ih st l H ld s
  | .va v => match st with
    | [] => False
    | k :: st => vaF cc c ih st l H ld k v
  | .vs vs => match st with
    | [] => False
    | k :: st => vsF c ih st l H ld k vs
  | .fl f => flF ih st l H ld fin f
end
noncomputable def run (cc : CC) (c : Cf) (fin : Kt Flow) : Nat → RunT
  | 0 => fun _ _ _ _ _ => False
  | n + 1 => fun x st l H ld => step cc c (run cc c fin n) st l H ld fin x
theorem attrBase_plain {o : PySem.Expr} {a : Str} {env : Env} {w : Sem Value} (h : isSup o = false) : attributeBase o a env w = w := by
  unfold attributeBase
  split
  · cases h
  · rfl
theorem attr_eq {value : PySem.Expr} {attr : Str} {pos : Pos} {env : Env} (h : isSup value = false) : eval (.Attribute value attr pos) env = (do
      let o ← eval value env
      standAt pos.atName
      let r ← holding [o] (getAttr o attr true)
      letTemporaryGo value o r
      pure r) := by
  show (do let o ← attributeBase value attr env (eval value env); _) = _
  rw [attrBase_plain h]
theorem notT {b : Bool} (h : (!b) = true) : b = false := by cases b <;> first | rfl | cases h
theorem orFF {a b : Bool} (h : (a || b) = false) : a = false ∧ b = false := by cases a <;> cases b <;> first | exact ⟨rfl, rfl⟩ | cases h
theorem andTT {a b : Bool} (h : (a && b) = true) : a = true ∧ b = true := by cases a <;> cases b <;> first | exact ⟨rfl, rfl⟩ | cases h
theorem asg_ok {cc : CC} {tgt value : PySem.Expr} (q : (!(isComp value || !(okTgt cc tgt))) = true) : isComp value = false ∧ okTgt cc tgt = true := by
  refine elA (orFF (notT q)) ?_; rintro a b
  exact ⟨a, by cases k : okTgt cc tgt with | true => rfl | false => rw [k] at b; cases b⟩
theorem starEach_cons {e : PySem.Expr} {r : List PySem.Expr} {env : Env} (h : isStar e = false) : starEach (e :: r) env = (false, eval e env) :: starEach r env := by
  cases e <;> first | rfl | cases h
theorem noStar_cons {e : PySem.Expr} {r : List PySem.Expr} (h : noStar (e :: r) = true) : isStar e = false ∧ noStar r = true := by
  have h : cond (isStar e) false (noStar r) = true := h
  cases q : isStar e with
  | true => rw [q] at h; cases h
  | false => rw [q] at h; exact ⟨rfl, h⟩
theorem noStar_any {pos : Pos} {env : Env} : ∀ {r : List PySem.Expr}, noStar r = true → (backTo pos (starEach r env)).any (·.1) = false
  | [], _ => rfl
  | e :: r, h => by
    obtain ⟨h1, h2⟩ := noStar_cons h
    rw [starEach_cons h1]
    exact noStar_any (r := r) h2
theorem noStar_all {pos : Pos} {env : Env} : ∀ {r : List PySem.Expr}, noStar r = true → (backTo pos (starEach r env)).all (!·.1) = true
  | [], _ => rfl
  | e :: r, h => by
    obtain ⟨h1, h2⟩ := noStar_cons h
    rw [starEach_cons h1]
    exact noStar_all (r := r) h2
theorem swaps_plain {value : PySem.Expr} {tg : Option PySem.Expr} {n : Nat} {env : Env} (h : isComp value = false) : swapsWith value tg n env = pure false := by
  cases value <;> first | rfl | cases h
theorem plainTest_is {e : PySem.Expr} {env : Env} {whole : Sem Value} (h : plainTest e = true) : isTrue e env whole = (do let v ← whole; standAt e.pos; holding [v] (truthy v)) := by
  cases e <;> first | rfl | cases h
theorem meth_eq {o : PySem.Expr} {m : Str} {ap p : Pos} {args : List PySem.Expr} {env : Env} (h : (isSup o || !(Nat.beq ap.endLine p.line) || !(noStar args && Nat.ble args.length 29)) = false) :
    eval (.Call (.Attribute o m ap) args [] p) env = (do
      let ov ← eval o env
      standAt ap.atName
      let (f, first) ← holding [ov] (getMethod ov m (do return (← importBound o env).getD true))
      callWith p f first (backTo p (starEach args env)) []) := by
  have h1 : isSup o = false := by cases q : isSup o with | false => rfl | true => rw [q] at h; exact nomatch h
  rw [h1] at h
  have h2 : Nat.beq ap.endLine p.line = true := by cases q : Nat.beq ap.endLine p.line with | true => rfl | false => rw [q] at h; exact nomatch h
  rw [h2] at h
  have h3 : noStar args = true := by cases q : noStar args with | true => rfl | false => rw [q] at h; exact nomatch h
  rw [h3] at h
  have h4 : Nat.ble args.length 29 = true := by cases q : Nat.ble args.length 29 with | true => rfl | false => rw [q] at h; exact nomatch h
  have hl : args.length < 30 := Nat.lt_succ_of_le (Nat.le_of_ble_eq_true h4)
  have e1 : (methodCallForm (args.length + 0) (backTo p (starEach args env)) []) = true := by
    unfold methodCallForm
    rw [noStar_all h3]
    simp [hl]
  have e2 : eval (.Call (.Attribute o m ap) args [] p) env = (do
      let ov ← attributeBase o m env (eval o env)
      standAt ap.atName
      methodCall o m ap p env ov (args.length + 0) (backTo p (starEach args env)) []) := by rfl
  rw [e2, attrBase_plain h1]
  unfold methodCall
  rw [e1]
  have e3 : methodCallPos true o env ap p = pure p := by
    unfold methodCallPos
    rw [show ((!true || ap.endLine == p.line) = true) from by simp [Nat.eq_of_beq_eq_true h2]]
    rfl
  rw [e3]
  rfl
section
variable {K0 : Params → Frag} {V : Program} {cc : CC} {c : Cf}
theorem fold_plain {e : PySem.Expr} {env : Env} (h : plainTest e = true) : ∀ x, foldedSetIterable e env x = pure x := by
  intro x
  cases e <;> first | rfl | cases h
structure EOk (K0 : Params → Frag) (V : Program) (cc : CC) (c : Cf) : Prop where
  pe : PassesOwn (model PG c.w) c.A (envE cc c) c.E
  X : (K0 c.w.params).In c.g
  T : Top V LS c.mean c.mg c.mb c.g
  ok : ccOk (K0 c.w.params) cc = true
theorem nmOk_is {k : NameKind} {x : Str} (h : nmOk cc k x = true) : (envE cc c).kindOf x = some k ∧ (x == ("__debug__" : Str)) = false := by
  refine elA (andTT h) ?_; rintro a b
  exact ⟨beq_iff_eq.mp a, notT b⟩
theorem EOk.fn (o : EOk K0 V cc c) : cc.scope.kind = .function := beq_iff_eq.mp (andTT o.ok).1
theorem EOk.loc (o : EOk K0 V cc c) {x : Str} (h : hasS cc.loc x = true) : (envE cc c).kindOf x = some .local ∧ (x == ("__debug__" : Str)) = false :=
  nmOk_is (List.all_eq_true.mp (andTT (andTT o.ok).2).1 x (hasS_mem h))
theorem EOk.gl (o : EOk K0 V cc c) {x : Str} {v : Value} (h : lk cc.gl x = some v) : ((envE cc c).kindOf x = some .globalImplicit ∧ (x == ("__debug__" : Str)) = false) ∧ nsIn (K0 c.w.params) mainGlobals x = some (some v) := by
  have q := andTT (List.all_eq_true.mp (andTT (andTT (andTT o.ok).2).2).1 (x, v) (lk_mem h))
  exact ⟨nmOk_is q.1, beq_iff_eq.mp q.2⟩
theorem EOk.kp (o : EOk K0 V cc c) {a : Addr} (h : hasA cc.kp a = true) : keepIn (K0 c.w.params) (.ref a) = true :=
  List.all_eq_true.mp (andTT (andTT (andTT (andTT o.ok).2).2).2).1 a (hasA_mem h)
theorem EOk.bl (o : EOk K0 V cc c) {x : Str} (h : hasS cc.bl x = true) : ((envE cc c).kindOf x = some .globalImplicit ∧ (x == ("__debug__" : Str)) = false) ∧ nsIn (K0 c.w.params) mainGlobals x = some none := by
  have q := andTT (List.all_eq_true.mp (andTT (andTT (andTT (andTT (andTT o.ok).2).2).2).2).1 x (hasS_mem h))
  exact ⟨nmOk_is q.1, beq_iff_eq.mp q.2⟩
theorem EOk.gs (o : EOk K0 V cc c) {x v : Str} (h : lkS cc.gs x = some v) : ((envE cc c).kindOf x = some .globalImplicit ∧ (x == ("__debug__" : Str)) = false) ∧ ∃ u, nsIn (K0 c.w.params) mainGlobals x = some (some (.str v u)) := by
  have q := andTT (List.all_eq_true.mp (andTT (andTT (andTT (andTT (andTT (andTT o.ok).2).2).2).2).2).1 (x, v) (lkS_mem h))
  exact ⟨nmOk_is q.1, isStrV_is q.2⟩
theorem EOk.ce (o : EOk K0 V cc c) {x : Str} (h : hasS cc.ce x = true) : (envE cc c).kindOf x = some .cell ∧ (x == ("__debug__" : Str)) = false :=
  nmOk_is (List.all_eq_true.mp (andTT (andTT (andTT (andTT (andTT (andTT o.ok).2).2).2).2).2).2 x (hasS_mem h))
theorem optP {α : Type} {o : Option α} {B : Prop} {A : α → Prop} (h : opt o B A) : (o = none ∧ B) ∨ ∃ v, o = some v ∧ A v := by
  cases o with
  | none => exact .inl ⟨rfl, h⟩
  | some v => exact .inr ⟨v, rfl, h⟩
end
noncomputable abbrev W {α : Type} (c : Cf) (tr : Sem α) (Q : α → Shared → Prop) (s : Shared) : Prop := wpAny (model PG c.w) c.A tr Q c.E s
section
variable (cc : CC) (c : Cf) (P : Ctl → Shared → Prop)
noncomputable def two (v : Value) (X Y : Prop) : Prop := match v with
  | .bool k => cond k X Y
  | _ => False
noncomputable def dE (es : List PySem.Expr) (Q : List Value → Shared → Prop) (s : Shared) : Prop := match es with
  | [] => Q [] s
  | e :: r => noStar (e :: r) = true → ∀ pos, W c (spliced (backTo pos (starEach (e :: r) (envE cc c)))) Q s
noncomputable def dA (tgt : PySem.Expr) (v : Value) (s : Shared) : Prop := match tgt with
  | .Name x _ => W c (storeName (envE cc c) x v) (fun _ => P (.fl .next)) s
  | .Attribute o a _ => W c (eval o (envE cc c)) (fun ov => W c (setAttr ov a v) fun _ => P (.fl .next)) s
  | .Subscript o i _ => W c (eval o (envE cc c)) (fun ov => W c (eval i (envE cc c)) fun iv => W c (setItem ov iv v) fun _ => P (.fl .next)) s
  | _ => False
noncomputable def dV (k : Kn) (v : Value) (s : Shared) : Prop := match k with
  | .ret => P (.fl (.ret v)) s
  | .expr => P (.fl .next) s
  | .iff a b => two v (W c (execs a (envE cc c)) (fun f => P (.fl f)) s) (W c (execs b (envE cc c)) (fun f => P (.fl f)) s)
  | .asg tgt => dA cc c P tgt v s
  | .setA a x => W c (setAttr v a x) (fun _ => P (.fl .next)) s
  | .setI i x => W c (eval i (envE cc c)) (fun iv => W c (setItem v iv x) fun _ => P (.fl .next)) s
  | .setJ ov x => W c (setItem ov v x) (fun _ => P (.fl .next)) s
  | .augA a op value => W c (getAttr v a true) (fun old => W c (eval value (envE cc c)) fun y => W c (inplaceOp op old y) fun new => W c (setAttr v a new) fun _ => P (.fl .next)) s
  | .augB ov a op value => W c (eval value (envE cc c)) (fun y => W c (inplaceOp op v y) fun new => W c (setAttr ov a new) fun _ => P (.fl .next)) s
  | .augC ov a op old => W c (inplaceOp op old v) (fun new => W c (setAttr ov a new) fun _ => P (.fl .next)) s
  | .augD ov a => W c (setAttr ov a v) (fun _ => P (.fl .next)) s
  | .augN x _ op value => W c (eval value (envE cc c)) (fun y => W c (inplaceOp op v y) fun new => W c (storeName (envE cc c) x new) fun _ => P (.fl .next)) s
  | .augO x _ op old => W c (inplaceOp op old v) (fun new => W c (storeName (envE cc c) x new) fun _ => P (.fl .next)) s
  | .augS i op value => W c (eval i (envE cc c)) (fun iv => W c (getItem v iv) fun old => W c (eval value (envE cc c)) fun y => W c (inplaceOp op old y) fun new => W c (setItem v iv new) fun _ => P (.fl .next)) s
  | .augT ov op value => W c (getItem ov v) (fun old => W c (eval value (envE cc c)) fun y => W c (inplaceOp op old y) fun new => W c (setItem ov v new) fun _ => P (.fl .next)) s
  | .augU ov iv op value => W c (eval value (envE cc c)) (fun y => W c (inplaceOp op v y) fun new => W c (setItem ov iv new) fun _ => P (.fl .next)) s
  | .augV ov iv op old => W c (inplaceOp op old v) (fun new => W c (setItem ov iv new) fun _ => P (.fl .next)) s
  | .augW ov iv => W c (setItem ov iv v) (fun _ => P (.fl .next)) s
  | .cmp op b => W c (eval b (envE cc c)) (fun y => W c (compareOp op v y) fun r => P (.va r)) s
  | .cmq op x => W c (compareOp op x v) (fun r => P (.va r)) s
  | .tru => W c (truthy v) (fun b => P (.va (.bool b))) s
  | .not => two v (P (.va (.bool false)) s) (P (.va (.bool true)) s)
  | .and r p => two v (W c (isTrue (.BoolOp .And r p) (envE cc c) (eval (.BoolOp .And r p) (envE cc c))) (fun b => P (.va (.bool b))) s) (P (.va (.bool false)) s)
  | .or r p => two v (P (.va (.bool true)) s) (W c (isTrue (.BoolOp .Or r p) (envE cc c) (eval (.BoolOp .Or r p) (envE cc c))) (fun b => P (.va (.bool b))) s)
  | .anv r p => two v (W c (eval (.BoolOp .And r p) (envE cc c)) (fun r => P (.va r)) s) (P (.va v) s)
  | .orv r p => two v (P (.va v) s) (W c (eval (.BoolOp .Or r p) (envE cc c)) (fun r => P (.va r)) s)
  | .ifx a b => two v (W c (eval a (envE cc c)) (fun r => P (.va r)) s) (W c (eval b (envE cc c)) (fun r => P (.va r)) s)
  | .bin op b => W c (eval b (envE cc c)) (fun y => W c (binaryOp op v y) fun r => P (.va r)) s
  | .bip op x => W c (binaryOp op x v) (fun r => P (.va r)) s
  | .una op => W c (unaryOp op v) (fun r => P (.va r)) s
  | .att a => W c (getAttr v a true) (fun r => P (.va r)) s
  | .met o m pos args => W c (getMethod v m (do return (← importBound o (envE cc c)).getD true)) (fun fx => W c (callWith pos fx.1 fx.2 (backTo pos (starEach args (envE cc c))) []) fun r => P (.va r)) s
  | .cal pos args => W c (callWith pos v [] (backTo pos (starEach args (envE cc c))) []) (fun r => P (.va r)) s
  | .arg r => dE cc c r (fun vs => P (.vs (v :: vs))) s
  | .sub a i => W c (eval i (envE cc c)) (fun y => W c (subscriptTail a i v y) fun r => P (.va r)) s
  | .sup a i x => W c (subscriptTail a i x v) (fun r => P (.va r)) s
  | .whl body => two v (W c (execs body (envE cc c)) (fun f => P (.fl f)) s) (P (.fl .brk) s)
  | .forI tgt body => W c (pyIter v) (fun it s₂ => codeAny (model PG c.w) c.A (.forLoop tgt it body [] (envE cc c)) (fun r s' => match r with | .ok f => P (.fl f) s' | .error e => cameBackBy (model PG c.w) c.A (envE cc c) c.E e s') s₂) s
  | _ => False
noncomputable def dL (k : Kn) (vs : List Value) (s : Shared) : Prop := match k with
  | .cons v => P (.vs (v :: vs)) s
  | .lst => W c (newList vs) (fun r => P (.va r)) s
  | .tup => W c (newTuple vs) (fun r => P (.va r)) s
  | .call f => W c (call f vs) (fun r => P (.va r)) s
  | .calM f x => W c (call f (x :: vs)) (fun r => P (.va r)) s
  | _ => False
noncomputable def dS (r : List Stmt) (f : Flow) (s : Shared) : Prop := match f with
  | .next => W c (execs r (envE cc c)) (fun f => P (.fl f)) s
  | f => P (.fl f) s
noncomputable def dF (k : Kn) (f : Flow) (s : Shared) : Prop := match k with
  | .seq r => dS cc c P r f s
  | _ => False
noncomputable def dR (X : Heap → Prop) (k : Kn) (r : Ctl) (s : Shared) : Prop := match r with
  | .va v => dV cc c P k v s
  | .vs vs => X s.heap ∧ dL c P k vs s
  | .fl f => dF cc c P k f s
  | _ => False
noncomputable def dC (x : Ctl) (s : Shared) : Prop := match x with
  | .ev e => W c (eval e (envE cc c)) (fun v => P (.va v)) s
  | .te e => W c (isTrue e (envE cc c) (eval e (envE cc c))) (fun b => P (.va (.bool b))) s
  | .ar es => dE cc c es (fun vs => P (.vs vs)) s
  | .ap pos args f first => W c (callWith pos f first (backTo pos (starEach args (envE cc c))) []) (fun v => P (.va v)) s
  | .ss b => W c (execs b (envE cc c)) (fun f => P (.fl f)) s
  | .st x => W c (exec x (envE cc c)) (fun f => P (.fl f)) s
  | r => P r s
end
noncomputable def d0 (c : Cf) (fin : Kt Flow) (r : Ctl) (s : Shared) : Prop := match r with
  | .fl f => Bk c fin f s
  | _ => False
noncomputable def dT (cc : CC) (c : Cf) (fin : Kt Flow) (X : Heap → Prop) : List Kn → Ctl → Shared → Prop
  | [] => d0 c fin
  | k :: st => dR cc c (dT cc c fin X st) X k
noncomputable abbrev SndR (cc : CC) (c : Cf) (fin : Kt Flow) (X : Heap → Prop) (ih : RunT) : Prop := ∀ x st l Hz ld, ih x st l Hz ld → ∀ h t, At c l Hz ld h → dC cc c (dT cc c fin X st) x ⟨h, c.G, c.D, t, c.O⟩
section
variable {K0 : Params → Frag} {V : Program} {cc : CC} {c : Cf} {fin : Kt Flow} {ih : RunT} {X : Heap → Prop} {st : List Kn} {k : Nat} {l : List (Str × Value)} {Hz : Heap} {ld : LD} {h : Heap} {t : Nat}
theorem dE_all {es : List PySem.Expr} {Q : List Value → Shared → Prop} {s : Shared} (H : dE cc c es Q s) (q : noStar es = true) (pos : Pos) : W c (spliced (backTo pos (starEach es (envE cc c)))) Q s := by
  cases es with
  | nil => exact args_nil H
  | cons e r => exact H q pos
theorem dE_mono {es : List PySem.Expr} {Q Q' : List Value → Shared → Prop} {s : Shared} (y : ∀ vs s, Q vs s → Q' vs s) (H : dE cc c es Q s) : dE cc c es Q' s := by
  cases es with
  | nil => exact y _ _ H
  | cons e r => exact fun q p => wpAny_mono (H q p) y fun _ _ e => e
theorem sp_v {tr : Sem Value} (I : SndR cc c fin X ih) (H : Stp k (Sp c l Hz ld tr (kv ih st))) (A : At c l Hz ld h) : W c tr (fun v => dT cc c fin X st (.va v)) ⟨h, c.G, c.D, t, c.O⟩ :=
  wpAny_mono (Stp.get H h t A) (fun v s b => by cases b with | mk l Hz ld h t A x => exact I (.va v) st l Hz ld x h t A) fun _ _ e => e
theorem sp_b {tr : Sem Bool} (I : SndR cc c fin X ih) (H : Stp k (Sp c l Hz ld tr (kb ih st))) (A : At c l Hz ld h) : W c tr (fun b => dT cc c fin X st (.va (.bool b))) ⟨h, c.G, c.D, t, c.O⟩ :=
  wpAny_mono (Stp.get H h t A) (fun v s b => by cases b with | mk l Hz ld h t A x => exact I (.va (.bool v)) st l Hz ld x h t A) fun _ _ e => e
theorem sp_u {tr : Sem Unit} (I : SndR cc c fin X ih) (H : Stp k (Sp c l Hz ld tr (ku ih st))) (A : At c l Hz ld h) : W c tr (fun _ => dT cc c fin X st (.fl .next)) ⟨h, c.G, c.D, t, c.O⟩ :=
  wpAny_mono (Stp.get H h t A) (fun v s b => by cases b with | mk l Hz ld h t A x => exact I (.fl .next) st l Hz ld x h t A) fun _ _ e => e
theorem sp_f {tr : Sem Flow} (I : SndR cc c fin X ih) (H : Stp k (Sp c l Hz ld tr (kf ih st))) (A : At c l Hz ld h) : W c tr (fun f => dT cc c fin X st (.fl f)) ⟨h, c.G, c.D, t, c.O⟩ :=
  wpAny_mono (Stp.get H h t A) (fun v s b => by cases b with | mk l Hz ld h t A x => exact I (.fl v) st l Hz ld x h t A) fun _ _ e => e
theorem sp_x {tr : Sem (Value × List Value)} {pos : Pos} {args : List PySem.Expr} (I : SndR cc c fin X ih) (H : Stp k (Sp c l Hz ld tr (kx ih pos args st))) (A : At c l Hz ld h) : W c tr (fun fx => dC cc c (dT cc c fin X st) (.ap pos args fx.1 fx.2)) ⟨h, c.G, c.D, t, c.O⟩ :=
  wpAny_mono (Stp.get H h t A) (fun v s b => by cases b with | mk l Hz ld h t A x => exact I (.ap pos args v.1 v.2) st l Hz ld x h t A) fun _ _ e => e
theorem name_snd (O : EOk K0 V cc c) (I : SndR cc c fin X ih) {x : Str} {p : Pos} (H : nameF cc c ih st l Hz ld x p) (A : At c l Hz ld h) : W c (eval (.Name x p) (envE cc c)) (fun v => dT cc c fin X st (.va v)) ⟨h, c.G, c.D, t, c.O⟩ := by
  refine elEA A.ex ?_; rintro m S F
  rcases optP H with ⟨_, H⟩ | ⟨v, hv, H⟩
  · rcases optP H with ⟨_, H⟩ | ⟨v, hv, H⟩
    · rcases condP H with ⟨hb, H⟩ | ⟨_, H⟩
      · rcases optP H with ⟨_, H⟩ | ⟨v, hv, H⟩
        · exact sp_v I H A
        · exact nameX_B F O.X (topRead_of O.T) (O.bl hb).2 (bl_boot hv).1 (bl_boot hv).2 (I _ _ _ _ _ H h t A) O.fn (O.bl hb).1.1 (O.bl hb).1.2
      · rcases condP H with ⟨hb, H⟩ | ⟨_, H⟩
        · exact wpAny_Name (sp_v I H A) (O.ce hb).2
        · rcases optP H with ⟨_, H⟩ | ⟨v, hv, H⟩
          · exact sp_v I H A
          · refine elE ((O.gs hv).2) ?_; rintro u hu
            exact nameX_K F O.X (topRead_of O.T) hu (I _ _ _ _ _ (Stp.get H u) h t A) O.fn (O.gs hv).1.1 (O.gs hv).1.2
    · exact nameX_K F O.X (topRead_of O.T) (O.gl hv).2 (I _ _ _ _ _ H h t A) O.fn (O.gl hv).1.1 (O.gl hv).1.2
  · rcases condP H with ⟨hl, H⟩ | ⟨_, H⟩
    · exact nameX_L F (S _ _ hv) (I _ _ _ _ _ H h t A) O.fn (O.loc hl).1 (O.loc hl).2
    · exact sp_v I H A
theorem const_snd (I : SndR cc c fin X ih) {k : Const} {a : Nat} {b : Pos} (H : constF cc c ih st l Hz ld k a b) (A : At c l Hz ld h) : W c (eval (.Constant k a b) (envE cc c)) (fun v => dT cc c fin X st (.va v)) ⟨h, c.G, c.D, t, c.O⟩ := by
  cases k with
  | none => exact wpAny_Constant_none (I _ _ _ _ _ H h t A)
  | bool b => exact wpAny_Constant_bool (I _ _ _ _ _ H h t A)
  | int i => exact wpAny_Constant_int (I _ _ _ _ _ (Stp.get H t) h (t + 1) A)
  | str x => exact wpAny_Constant_str (I _ _ _ _ _ (Stp.get H t) h (t + 1) A)
  | _ => exact sp_v I H A
theorem call_snd (I : SndR cc c fin X ih) {f : PySem.Expr} {args : List PySem.Expr} {kw : List Keyword} {p : Pos} (H : callF cc c ih st l Hz ld f args kw p) (A : At c l Hz ld h) : W c (eval (.Call f args kw p) (envE cc c)) (fun v => dT cc c fin X st (.va v)) ⟨h, c.G, c.D, t, c.O⟩ := by
  cases f with
  | Attribute o mn ap =>
    rcases condP H with ⟨q, H2⟩ | ⟨_, H2⟩ <;> clear H
    · refine elA (andTT q) ?_; rintro q1 q2
      cases kw with
      | cons _ _ => cases q1
      | nil => exact MethodCall_ (pl := (do return (← importBound _ (envE cc c)).getD true)) (I _ _ _ _ _ H2 h t A) (meth_eq (notT q2))
    · exact sp_v I H2 A
  | Name x px =>
    rcases condP H with ⟨q, H2⟩ | ⟨_, H2⟩ <;> clear H
    · cases kw with
      | cons _ _ => cases q
      | nil => exact Call_ (I _ _ _ _ _ H2 h t A)
    · exact sp_v I H2 A
  | _ => exact sp_v I H A
theorem cmp_snd (I : SndR cc c fin X ih) {a : PySem.Expr} {ops : List CmpOp} {bs : List PySem.Expr} {stop : Prop} (H : cmpF ih st l Hz ld a ops bs stop) (A : At c l Hz ld h) :
    stop ∨ ∃ op b, ops = [op] ∧ bs = [b] ∧ behindInMarks op b = false ∧ W c (eval a (envE cc c)) (fun x => W c (eval b (envE cc c)) fun y => W c (compareOp op x y) fun v => dT cc c fin X st (.va v)) ⟨h, c.G, c.D, t, c.O⟩ := by
  cases ops with
  | nil => exact .inl H
  | cons op r =>
    cases bs with
    | nil => exact .inl H
    | cons b r2 =>
      rcases condP H with ⟨q, H2⟩ | ⟨_, H2⟩ <;> clear H
      · refine elA (andTT q) ?_; rintro q1 q2
        refine elA (andTT q1) ?_; rintro q3 q4
        cases r with
        | cons _ _ => cases q3
        | nil =>
          cases r2 with
          | cons _ _ => cases q4
          | nil => exact .inr ⟨op, b, rfl, rfl, notT q2, I _ _ _ _ _ H2 h t A⟩
      · exact .inl H2
theorem bool_snd (I : SndR cc c fin X ih) {op : BoolOp} {es : List PySem.Expr} {p : Pos} (H : boolF cc c ih st l Hz ld op es p) (A : At c l Hz ld h) : W c (eval (.BoolOp op es p) (envE cc c)) (fun v => dT cc c fin X st (.va v)) ⟨h, c.G, c.D, t, c.O⟩ := by
  cases es with
  | nil => exact sp_v I H A
  | cons x r =>
    cases r with
    | nil => exact BoolOp_one (I _ _ _ _ _ H h t A)
    | cons y r =>
      cases op with
      | And =>
        refine BoolOp_and (wpAny_mono (I _ _ _ _ _ H h t A) (fun v s x => ?_) fun _ _ e => e)
        cases v with
        | bool b => refine wpAny_truthy_bool ?_; cases b <;> exact x
        | _ => cases (show False from x)
      | Or =>
        refine BoolOp_or (wpAny_mono (I _ _ _ _ _ H h t A) (fun v s x => ?_) fun _ _ e => e)
        cases v with
        | bool b => refine wpAny_truthy_bool ?_; cases b <;> exact x
        | _ => cases (show False from x)
theorem ev_snd (O : EOk K0 V cc c) (I : SndR cc c fin X ih) {e : PySem.Expr} (H : evF cc c ih st l Hz ld e) (A : At c l Hz ld h) : W c (eval e (envE cc c)) (fun v => dT cc c fin X st (.va v)) ⟨h, c.G, c.D, t, c.O⟩ := by
  cases e with
  | Name x p => exact name_snd O I H A
  | Constant k a b => exact const_snd I H A
  | List es p =>
    rcases condP H with ⟨hs, H⟩ | ⟨_, H⟩
    · exact List_ (wpAny_mono (dE_all (cc := cc) (Q := fun vs => dT cc c fin X (.lst :: st) (.vs vs)) (I _ _ _ _ _ H h t A) hs p) (fun vs s x => x.2) fun _ _ e => e)
    · exact sp_v I H A
  | Tuple es k p =>
    rcases condP H with ⟨hs, H⟩ | ⟨_, H⟩
    · exact Tuple_ (wpAny_mono (dE_all (cc := cc) (Q := fun vs => dT cc c fin X (.tup :: st) (.vs vs)) (I _ _ _ _ _ H h t A) hs p) (fun vs s x => x.2) fun _ _ e => e)
    · exact sp_v I H A
  | Attribute e a p =>
    rcases condP H with ⟨_, H⟩ | ⟨hs, H⟩
    · exact sp_v I H A
    · exact Attribute_any_ (I _ _ _ _ _ H h t A) (attr_eq hs)
  | Call f args kw p => exact call_snd I H A
  | BinOp a op b p => exact wpAny_BinOp (I _ _ _ _ _ H h t A)
  | Compare a ops bs p =>
    rcases cmp_snd I H A with H | ⟨op, b, rfl, rfl, hm, H⟩
    · exact sp_v I H A
    · exact wpAny_Compare1 H hm
  | Subscript a i p => exact Subscript_ (I _ _ _ _ _ H h t A)
  | IfExp q a b p =>
    refine wpAny_IfExp (wpAny_mono (I _ _ _ _ _ H h t A) (fun b s x => ?_) fun _ _ e => e)
    cases b <;> exact x
  | UnaryOp op a p => exact wpAny_UnaryOp (I _ _ _ _ _ H h t A)
  | BoolOp op es p => exact bool_snd I H A
  | _ => exact sp_v I H A
theorem te_snd (I : SndR cc c fin X ih) {e : PySem.Expr} (H : teF cc c ih st l Hz ld e) (A : At c l Hz ld h) : W c (isTrue e (envE cc c) (eval e (envE cc c))) (fun b => dT cc c fin X st (.va (.bool b))) ⟨h, c.G, c.D, t, c.O⟩ := by
  have pl : ∀ {e : PySem.Expr}, cond (plainTest e) (ih (.ev e) (.tru :: st) l Hz ld) (stT cc c ih st l Hz ld e) → W c (isTrue e (envE cc c) (eval e (envE cc c))) (fun b => dT cc c fin X st (.va (.bool b))) ⟨h, c.G, c.D, t, c.O⟩ := by
    intro e H
    rcases condP H with ⟨hp, H⟩ | ⟨_, H⟩
    · exact isTrue_plain (I _ _ _ _ _ H h t A) (plainTest_is hp)
    · exact sp_b I H A
  cases e with
  | UnaryOp op x p =>
    cases op with
    | Not =>
      refine isTrue_not (wpAny_mono (I _ _ _ _ _ H h t A) (fun b s x => ?_) fun _ _ e => e)
      cases b <;> exact x
    | _ => exact sp_b I H A
  | BoolOp op es p =>
    cases es with
    | nil => exact sp_b I H A
    | cons x r =>
      cases op with
      | And =>
        refine isTrue_and (wpAny_mono (I _ _ _ _ _ H h t A) (fun b s x => ?_) fun _ _ e => e)
        cases b <;> exact x
      | Or =>
        refine isTrue_or (wpAny_mono (I _ _ _ _ _ H h t A) (fun b s x => ?_) fun _ _ e => e)
        cases b <;> exact x
  | Compare a ops bs p =>
    rcases cmp_snd I H A with H | ⟨op, b, rfl, rfl, hm, H⟩
    · exact sp_b I H A
    · exact wpAny_isTrue_Compare1 H hm
  | _ => exact pl H
end
section
variable {K0 : Params → Frag} {V : Program} {cc : CC} {c : Cf} {fin : Kt Flow} {ih : RunT} {X : Heap → Prop} {st : List Kn} {l : List (Str × Value)} {Hz : Heap} {ld : LD} {h : Heap} {t : Nat}
theorem two_of {v : Value} {A B A' B' : Prop} (H : twoF v A B) (a : A → A') (b : B → B') : two v A' B' := by
  cases v with
  | bool k =>
    obtain ⟨x, y⟩ := Stp.get H
    cases k with
    | true => exact a (x rfl)
    | false => exact b (y rfl)
  | _ => cases H
theorem va_snd (I : SndR cc c fin X ih) {k : Kn} {v : Value} (H : vaF cc c ih st l Hz ld k v) (A : At c l Hz ld h) (O : EOk K0 V cc c) : dV cc c (dT cc c fin X st) k v ⟨h, c.G, c.D, t, c.O⟩ := by
  cases k with
  | ret => exact I _ _ _ _ _ H h t A
  | expr => exact I _ _ _ _ _ H h t A
  | iff a b => exact two_of H (fun H => I _ _ _ _ _ H h t A) fun H => I _ _ _ _ _ H h t A
  | asg tgt =>
    cases tgt with
    | Name x p =>
      rcases condP H with ⟨ht, H⟩ | ⟨_, H⟩
      · refine elEEAAAA (A.whole []) ?_; rintro m R S F N _ k
        exact storeX_L F N (fun h' F' N' => I _ _ _ _ _ H h' (t + 1) (A.loc (S.store x v) F' fun b o e n => k h' _ F' N' b o e (fun q => nomatch q) n)) O.fn (O.loc ht).1
      · exact sp_u I H A
    | Attribute o a p => exact I _ _ _ _ _ H h t A
    | Subscript o i p => exact I _ _ _ _ _ H h t A
    | _ => cases H
  | setA a x => exact sp_u I H A
  | setI i x => exact I _ _ _ _ _ H h t A
  | setJ ov x => exact sp_u I H A
  | augA a op value => exact sp_v I H A
  | augB ov a op value => exact I _ _ _ _ _ H h t A
  | augC ov a op old => exact sp_v I H A
  | augD ov a => exact sp_u I H A
  | augN x p op value => exact I _ _ _ _ _ H h t A
  | augO x p op old => exact sp_v I H A
  | augS i op value => exact I _ _ _ _ _ H h t A
  | augT ov op value => exact sp_v I H A
  | augU ov iv op value => exact I _ _ _ _ _ H h t A
  | augV ov iv op old => exact sp_v I H A
  | augW ov iv => exact sp_u I H A
  | cmp op b => exact I _ _ _ _ _ H h t A
  | cmq op x => exact sp_v I H A
  | tru =>
    cases v with
    | bool b => exact wpAny_truthy_bool (I _ _ _ _ _ H h t A)
    | none => exact truthy_none (I _ _ _ _ _ H h t A)
    | _ => exact sp_b I H A
  | not =>
    cases v with
    | bool b => cases b <;> exact I _ _ _ _ _ H h t A
    | _ => cases H
  | and r p => exact two_of H (fun H => I _ _ _ _ _ H h t A) fun H => I _ _ _ _ _ H h t A
  | or r p => exact two_of H (fun H => I _ _ _ _ _ H h t A) fun H => I _ _ _ _ _ H h t A
  | anv r p => exact two_of H (fun H => I _ _ _ _ _ H h t A) fun H => I _ _ _ _ _ H h t A
  | orv r p => exact two_of H (fun H => I _ _ _ _ _ H h t A) fun H => I _ _ _ _ _ H h t A
  | ifx a b => exact two_of H (fun H => I _ _ _ _ _ H h t A) fun H => I _ _ _ _ _ H h t A
  | bin op b => exact I _ _ _ _ _ H h t A
  | bip op x => exact sp_v I H A
  | una op => exact sp_v I H A
  | att a => exact sp_v I H A
  | met o m pos args => exact sp_x I H A
  | cal pos args => exact I _ _ _ _ _ H h t A
  | arg r => exact dE_mono (cc := cc) (Q := fun vs => dT cc c fin X (.cons v :: st) (.vs vs)) (fun vs s x => x.2) (I _ _ _ _ _ H h t A)
  | sub a i => exact I _ _ _ _ _ H h t A
  | sup a i x => exact sp_v I H A
  | whl body => exact two_of H (fun H => I _ _ _ _ _ H h t A) fun H => I _ _ _ _ _ H h t A
  | forI tgt body => exact Stp.get H h t A _ fun f s b => by cases b with | mk l Hz ld h t A x => exact I (.fl f) st l Hz ld x h t A
  | _ => cases H
theorem vs_snd (I : SndR cc c fin X ih) {k : Kn} {vs : List Value} (H : vsF c ih st l Hz ld k vs) (A : At c l Hz ld h) : dL c (dT cc c fin X st) k vs ⟨h, c.G, c.D, t, c.O⟩ := by
  cases k with
  | cons v => exact I _ _ _ _ _ H h t A
  | lst =>
    rcases condP H with ⟨hb, H⟩ | ⟨_, H⟩
    · exact wpAny_newObj_type (I _ _ _ _ _ (Stp.get H _) _ t (A.push _ ⟨0, rfl⟩)) (by show vs.toArray.size ≤ sizeLine; have := Nat.le_of_ble_eq_true hb; rw [List.size_toArray, sizeLine_eq]; omega)
    · cases H
  | tup =>
    rcases condP H with ⟨hb, H⟩ | ⟨_, H⟩
    · exact wpAny_newObj_type (I _ _ _ _ _ (Stp.get H _) _ t (A.push _ rfl)) (by show vs.toArray.size ≤ sizeLine; have := Nat.le_of_ble_eq_true hb; rw [List.size_toArray, sizeLine_eq]; omega)
    · cases H
  | call f => exact sp_v I H A
  | calM f x => exact sp_v I H A
  | _ => cases H
theorem apR_snd (I : SndR cc c fin X ih) {pos : Pos} {args : List PySem.Expr} {f : Value} {first : List Value}
    (hc : ∀ st2, (∀ h t, At c l Hz ld h → dC cc c (dT cc c fin X st2) (.ar args) ⟨h, c.G, c.D, t, c.O⟩) → (∀ vs s, dT cc c fin X st2 (.vs vs) s → X s.heap ∧ W c (call f (first ++ vs)) (fun v => dT cc c fin X st (.va v)) s) → W c (callWith pos f first (backTo pos (starEach args (envE cc c))) []) (fun v => dT cc c fin X st (.va v)) ⟨h, c.G, c.D, t, c.O⟩)
    (H : apR cc c ih st l Hz ld pos args f first) (A : At c l Hz ld h) : W c (callWith pos f first (backTo pos (starEach args (envE cc c))) []) (fun v => dT cc c fin X st (.va v)) ⟨h, c.G, c.D, t, c.O⟩ := by
  cases first with
  | nil => exact hc (.call f :: st) (I _ _ _ _ _ H) fun vs s x => x
  | cons x r =>
    rcases condP H with ⟨q, H2⟩ | ⟨_, H2⟩ <;> clear H
    · cases r with
      | nil => exact hc (.calM f x :: st) (I _ _ _ _ _ H2) fun vs s x => x
      | cons _ _ => cases q
    · exact sp_v I H2 A
theorem ap_snd (O : EOk K0 V cc c) (I : SndR cc c fin (K0 c.w.params).In ih) {pos : Pos} {args : List PySem.Expr} {f : Value} {first : List Value} (H : apF cc c ih st l Hz ld pos args f first) (A : At c l Hz ld h) :
    W c (callWith pos f first (backTo pos (starEach args (envE cc c))) []) (fun v => dT cc c fin (K0 c.w.params).In st (.va v)) ⟨h, c.G, c.D, t, c.O⟩ := by
  cases f with
  | ref a =>
    rcases condP H with ⟨q, H2⟩ | ⟨_, H2⟩ <;> clear H
    · refine elA (andTT q) ?_; rintro hk hs
      refine apR_snd I (fun st2 H y => ?_) H2 A
      have H := H h t A
      cases args with
      | nil => exact callWith_K0 (y _ _ H).1 (O.kp hk) (y _ _ H).2
      | cons e r =>
        refine elA (noStar_cons hs) ?_; rintro h1 h2
        exact callWith_K (h₀ := c.g) O.X (O.kp hk) (wpAny_mono (H hs pos) y fun _ _ e => e) (starEach_cons h1) (noStar_any h2)
    · exact sp_v I H2 A
  | builtin id =>
    rcases condP H with ⟨hs, H2⟩ | ⟨_, H2⟩ <;> clear H
    · refine apR_snd I (fun st2 H y => ?_) H2 A
      have H := H h t A
      cases args with
      | nil => exact callWith_method0 (List.append_nil first ▸ (y _ _ H).2)
      | cons e r =>
        refine elA (noStar_cons hs) ?_; rintro h1 h2
        exact callWith_method1 (wpAny_mono (H hs pos) (fun vs s x => (y vs s x).2) fun _ _ e => e) (starEach_cons h1) (noStar_any h2)
    · exact sp_v I H2 A
  | type T =>
    cases first with
    | nil =>
      rcases condP H with ⟨hs, H2⟩ | ⟨_, H2⟩ <;> clear H
      · have H := I _ (.call (.type T) :: st) _ _ _ H2 h t A
        cases args with
        | nil => exact PyProof.Rows.callWith_type0 (show _ ∧ _ from H).2
        | cons e r =>
          refine elA (noStar_cons hs) ?_; rintro h1 h2
          exact PyProof.Rows.callWith_type1 (wpAny_mono (H hs pos) (fun vs s x => (show _ ∧ _ from x).2) fun _ _ e => e) (starEach_cons h1) (noStar_any h2)
      · exact sp_v I H2 A
    | cons x r => exact sp_v I H A
  | _ => exact sp_v I H A
theorem asg_snd (I : SndR cc c fin X ih) {tgts : List PySem.Expr} {value : PySem.Expr} {p : Pos} (H : asgF cc c ih st l Hz ld tgts value p) (A : At c l Hz ld h) : W c (exec (.Assign tgts value p) (envE cc c)) (fun f => dT cc c fin X st (.fl f)) ⟨h, c.G, c.D, t, c.O⟩ := by
  cases tgts with
  | nil => exact sp_f I H A
  | cons tgt r =>
    rcases condP H with ⟨q, H2⟩ | ⟨_, H2⟩ <;> clear H
    · refine elA (andTT q) ?_; rintro q1 q2
      refine elA (asg_ok q2) ?_; rintro hc ht
      cases r with
      | cons _ _ => cases q1
      | nil =>
        have H := I _ _ _ _ _ H2 h t A
        cases tgt with
        | Name x px => exact wpAny_Assign_Name H (swaps_plain hc)
        | Attribute o a pa => exact plainObj_wpAny_Assign_Attribute H (swaps_plain hc)
        | Subscript o i pa => exact wpAny_Assign_Subscript H (swaps_plain hc)
        | _ => cases ht
    · exact sp_f I H2 A
theorem st_snd (O : EOk K0 V cc c) (I : SndR cc c fin X ih) {x : Stmt} (H : stF cc c ih st l Hz ld x) (A : At c l Hz ld h) : W c (exec x (envE cc c)) (fun f => dT cc c fin X st (.fl f)) ⟨h, c.G, c.D, t, c.O⟩ := by
  cases x with
  | Assign tgts value p => exact asg_snd I H A
  | Return o p =>
    cases o with
    | none => exact wpAny_Return_none (I _ _ _ _ _ H h t A)
    | some e => exact wpAny_Return_some (I _ _ _ _ _ H h t A)
  | Expr e p =>
    rcases condP H with ⟨_, H⟩ | ⟨hc, H⟩
    · exact sp_f I H A
    · exact wpAny_Expr_any (I _ _ _ _ _ H h t A) (by unfold interactive; rw [show (envE cc c).scope.kind = .function from O.fn]; rfl) (swaps_plain hc)
  | If q a b p =>
    refine wpAny_If (wpAny_mono (I _ _ _ _ _ H h t A) (fun b s x => ?_) fun _ _ e => e)
    cases b <;> exact x
  | Pass p => exact wpAny_Pass (I _ _ _ _ _ H h t A)
  | For tgt iter body els p =>
    cases tgt with
    | Name x px =>
      rcases condP H with ⟨q, H2⟩ | ⟨_, H2⟩ <;> clear H
      · refine elA (andTT q) ?_; rintro q1 q3
        cases els with
        | cons _ _ => cases q3
        | nil => exact wpAny_For (I _ _ _ _ _ H2 h t A) (fold_plain q1)
      · exact sp_f I H2 A
    | _ => exact sp_f I H A
  | Continue p => exact wpAny_Continue (I _ _ _ _ _ H h t A)
  | Break p => exact wpAny_Break (I _ _ _ _ _ H h t A)
  | AugAssign tgt op value p =>
    cases tgt with
    | Attribute o a pa => exact wpAny_AugAssign_AttributeAny (I _ _ _ _ _ H h t A)
    | Name x px =>
      refine elEA A.ex ?_; rintro m S F
      rcases condP H with ⟨hl, H⟩ | ⟨_, H⟩
      · rcases optP H with ⟨_, H⟩ | ⟨v, hv, H⟩
        · exact sp_f I H A
        · exact wpAny_AugAssign_Name (wpAny_loadName_local O.fn (O.loc hl).1 F.ns (S _ _ hv) (I _ _ _ _ _ H h t A))
      · rcases condP H with ⟨hl, H⟩ | ⟨_, H⟩
        · exact wpAny_AugAssign_Name (sp_v I H A)
        · exact sp_f I H A
    | Subscript o i pa =>
      rcases condP H with ⟨q, H2⟩ | ⟨_, H2⟩ <;> clear H
      · exact wpAny_AugAssign_SubscriptAny (I _ _ _ _ _ H2 h t A) (fun _ _ _ => by cases i <;> first | rfl | cases q)
      · exact sp_f I H2 A
    | _ => exact sp_f I H A
  | _ => exact sp_f I H A
theorem ss_snd (I : SndR cc c fin X ih) {b : List Stmt} (H : step cc c ih st l Hz ld fin (.ss b)) (A : At c l Hz ld h) : W c (execs b (envE cc c)) (fun f => dT cc c fin X st (.fl f)) ⟨h, c.G, c.D, t, c.O⟩ := by
  cases b with
  | nil => exact wpAny_execs_nil (I _ _ _ _ _ H h t A)
  | cons s r =>
    cases r with
    | nil =>
      refine wpAny_execs_cons (wpAny_mono (I _ _ _ _ _ H h t A) (fun f s x => ?_) fun _ _ e => e)
      cases f with
      | next => exact wpAny_execs_nil x
      | _ => exact x
    | cons s2 r =>
      refine wpAny_execs_cons (wpAny_mono (I _ _ _ _ _ H h t A) (fun f s x => ?_) fun _ _ e => e)
      cases f <;> exact x
theorem step_snd (O : EOk K0 V cc c) (I : SndR cc c fin (K0 c.w.params).In ih) : SndR cc c fin (K0 c.w.params).In fun x st l Hz ld => step cc c ih st l Hz ld fin x := by
  intro x st l Hz ld H h t A
  cases x with
  | ev e => exact ev_snd O I H A
  | te e => exact te_snd I H A
  | ar es =>
    cases es with
    | nil => exact I _ _ _ _ _ H h t A
    | cons e r =>
      intro q pos
      refine elA (noStar_cons q) ?_; rintro h1 h2
      exact args_cons (wpAny_mono (I _ _ _ _ _ H h t A) (fun v s x => dE_all (cc := cc) (Q := fun vs => dT cc c fin (K0 c.w.params).In st (.vs (v :: vs))) x h2 pos) fun _ _ e => e) (starEach_cons h1)
  | ap pos args f first => exact ap_snd O I H A
  | ss b => exact ss_snd I H A
  | st x => exact st_snd O I H A
  | va v =>
    cases st with
    | nil => cases H
    | cons k st => exact va_snd I H A O
  | vs vs =>
    cases st with
    | nil => cases H
    | cons k st => exact ⟨O.X.keeps A.fkeep, vs_snd I H A⟩
  | fl f =>
    cases st with
    | nil => exact .mk l Hz ld h t A H
    | cons k st =>
      cases k with
      | seq r =>
        cases f with
        | next => exact I _ _ _ _ _ H h t A
        | _ => exact I _ _ _ _ _ H h t A
      | _ => cases H
theorem run_snd (O : EOk K0 V cc c) : ∀ n, SndR cc c fin (K0 c.w.params).In (run cc c fin n)
  | 0 => fun _ _ _ _ _ H => nomatch H
  | n + 1 => step_snd O (run_snd O n)
end
structure ZOk (K0 : Params → Frag) (V : Program) (cc : CC) (c : Cf) (d : Nat) : Prop extends EOk K0 V cc c where
  cxh : ∀ {h m as}, Fr c.g c.L h m → (∀ a ∈ as, c.g.get? a = none ∧ a ≠ c.L) → Cx (K0 c.w.params) V c.mean c.mg c.mb c.A (hideAll h as) ∧ Fr c.g c.L (hideAll h as) m
  hd : c.A.depth + d ≤ 600
  hu : c.A.units + 40 * d ≤ 9000
  q : c.A.handled = none
noncomputable abbrev Tri (K : Params → Frag) (V : Program) (f : Addr) (d : Nat) (args : List Value) (Ad : LD) (P : World → Heap → Prop) (T : World → (Value → LD → Prop) → Prop) : Prop :=
  ∀ (w : World) (mean : ExcName → Option Value) (mg mb : Str → Option Value) (A : Around) (g : Heap) (s : Shared) (k : Value → LD → Prop) (R : Result → Shared → Prop),
    Cx (K w.params) V mean mg mb A g → g.objs.size ≤ s.heap.objs.size → A.depth + d ≤ 600 → A.units + 40 * d ≤ 9000 → Lg w g s.heap Ad → P w g → T w k →
    (∀ v h' tk' B, Lg w g h' B → k v B → R (.ok (.ret v)) { s with heap := h', toks := tk' }) → codeAny (model PG w) A (.call (.ref f) ⟨args, []⟩) R s
noncomputable def pre (B R : LD) (κ : LD → Prop) : Prop := match B with
  | [] => κ R
  | p :: B => pre B R fun r => κ (p :: r)
theorem pre_is {R : LD} {B : LD} : ∀ {κ : LD → Prop}, pre B R κ → κ (B ++ R) := by
  induction B with
  | nil => exact fun h => h
  | cons p B ih => exact fun {κ} h => ih (κ := fun r => κ (p :: r)) h
noncomputable def fnNm : Stmt → Str
  | .FunctionDef n .. => n
  | _ => Str.empty
noncomputable def fnPar : Stmt → Arguments
  | .FunctionDef _ a .. => a
  | _ => ⟨[], [], none, [], [], none, []⟩
noncomputable def fnBody : Stmt → List Stmt
  | .FunctionDef _ _ b .. => b
  | .ClassDef _ _ _ b .. => b
  | .For _ _ b _ _ => b
  | .If _ b _ _ => b
  | .While _ b _ _ => b
  | _ => []
noncomputable def fnElse : Stmt → List Stmt
  | .If _ _ o _ => o
  | _ => []
noncomputable def fnTest : Stmt → PySem.Expr
  | .If q _ _ _ => q
  | .While q _ _ _ => q
  | .For _ q _ _ _ => q
  | _ => .Constant .none 0 ⟨0, 0, 0, 0⟩
noncomputable def fnScope : Stmt → Scope
  | .FunctionDef _ _ _ _ _ _ s .. => s
  | _ => { kind := .module, names := [], isGenerator := false, isCoroutine := false, more := [] }
noncomputable def nth (b : List Stmt) (i : Nat) : Stmt := match b with
  | [] => .Pass ⟨0, 0, 0, 0⟩
  | s :: b => match i with
    | 0 => s
    | i + 1 => nth b i
structure CT where
  loc : List Str
  gl : List (Str × Value)
  kp : List Addr
  bl : List Str
  gs : List (Str × Str)
  ce : List Str
noncomputable def ccF (s : Stmt) (a : Addr) (t : CT) (qual : Str) (cdv : Value) : CC := ⟨qual, fnScope s, a, cdv, t.loc, t.gl, t.kp, t.bl, t.gs, t.ce⟩
structure FnOk (K : Params → Frag) (a : Addr) (s : Stmt) (t : CT) : Prop where
  ex : ∀ P, ∃ qual oc od osl doc pm an cdv ct, (K P).lookup a = some ⟨oc, od, .func (fnOf (fnNm s) qual (fnPar s) (fnBody s) (fnScope s) .none .none doc pm an cdv ct), osl⟩ ∧ codeIn (K P) cdv qual = true ∧ ccOk (K P) (ccF s a t qual cdv) = true
structure FnOkG (K : Params → Frag) (a : Addr) (s : Stmt) (t : CT) (Dk : Frag → Value → Prop) : Prop where
  ex : ∀ P, ∃ qual oc od osl dV doc pm an cdv ct, (K P).lookup a = some ⟨oc, od, .func (fnOf (fnNm s) qual (fnPar s) (fnBody s) (fnScope s) dV .none doc pm an cdv ct), osl⟩ ∧ Dk (K P) dV ∧ codeIn (K P) cdv qual = true ∧ ccOk (K P) (ccF s a t qual cdv) = true
theorem FnOk.g {K : Params → Frag} {a : Addr} {s : Stmt} {t : CT} (x : FnOk K a s t) : FnOkG K a s t fun _ v => v = .none := ⟨fun P => by
  obtain ⟨qual, oc, od, osl, doc, pm, an, cdv, ct, h1, h2⟩ := x.ex P
  exact ⟨qual, oc, od, osl, .none, doc, pm, an, cdv, ct, h1, rfl, h2⟩⟩
theorem FnOkG.map {K : Params → Frag} {a : Addr} {s : Stmt} {t : CT} {D D' : Frag → Value → Prop} (x : FnOkG K a s t D) (i : ∀ K v, D K v → D' K v) : FnOkG K a s t D' := ⟨fun P => by
  obtain ⟨qual, oc, od, osl, dV, doc, pm, an, cdv, ct, h1, h2, h3⟩ := x.ex P
  exact ⟨qual, oc, od, osl, dV, doc, pm, an, cdv, ct, h1, i _ _ h2, h3⟩⟩
noncomputable def DfI (q : Array Value → Prop) (K : Frag) (v : Value) : Prop := ∃ T o xs n, v = .ref T ∧ K.lookup T = some o ∧ o.data = .seq xs n ∧ q xs
inductive Wk : LD → LD → Prop
  | rfl {B : LD} : Wk B B
  | dk {a : Addr} {n : Nat} {f : Str → Option Value} {B B' : LD} : Nat.ble n 100 = true → Wk B B' → Wk ((a, .dk n f) :: B) ((a, .di f) :: B')
  | li {a : Addr} {vs : List Value} {B B' : LD} : Wk B B' → Wk ((a, .li vs) :: B) ((a, .lo vs) :: B')
  | tl {p : Addr × Ds} {B B' : LD} : Wk B B' → Wk (p :: B) (p :: B')
noncomputable def finT (k : Value → LD → Prop) : Kt Flow := fun fl _ _ ld => Stp 0 (∃ B B' R, Cut ld B' R ∧ Wk B' B ∧ k (valOf fl) B)
theorem Wk.has {w : World} {h : Heap} {B B' : LD} (x : Wk B' B) : (Has w h B' → Has w h B) ∧ B.map (·.1) = B'.map (·.1) := by
  induction x with
  | rfl => exact ⟨id, Eq.refl _⟩
  | dk _ _ ih =>
    refine ⟨fun H p hp => ?_, by rw [List.map_cons, ih.2]; exact Eq.refl _⟩
    cases hp with
    | head => obtain ⟨nm, o, e, es, n, e1, e2, _⟩ := H _ (.head _); exact ⟨(fun q => nomatch q), o, e, es, n, e1, e2⟩
    | tail _ hp => exact ih.1 (fun p hp => H p (.tail _ hp)) p hp
  | li _ ih =>
    refine ⟨fun H p hp => ?_, by rw [List.map_cons, ih.2]; exact Eq.refl _⟩
    cases hp with
    | head => obtain ⟨nm, o, e, n, e2⟩ := H _ (.head _); exact ⟨(fun q => nomatch q), o, e, by rw [e2], n, by rw [e2]⟩
    | tail _ hp => exact ih.1 (fun p hp => H p (.tail _ hp)) p hp
  | tl _ ih =>
    refine ⟨fun H p hp => ?_, by rw [List.map_cons, ih.2]; exact Eq.refl _⟩
    cases hp with
    | head => exact H _ (.head _)
    | tail _ hp => exact ih.1 (fun p hp => H p (.tail _ hp)) p hp
theorem Lg.wk {w : World} {g h : Heap} {B B' : LD} (x : Wk B' B) (y : Lg w g h B') : Lg w g h B := by
  refine elA (x.has (w := w) (h := h)) ?_; rintro x1 x2
  refine ⟨y.keep, fun p hp => ?_, x1 y.has, ?_⟩
  · have : p.1 ∈ B'.map (·.1) := x2 ▸ List.mem_map.mpr ⟨p, hp, rfl⟩
    refine elEA (List.mem_map.mp this) ?_; rintro q hq e
    rw [← e]; exact y.off q hq
  · have z : (B'.map (·.1)).Pairwise (· ≠ ·) := List.pairwise_map.mpr y.ne
    rw [← x2] at z
    exact List.pairwise_map.mp z
theorem ble_le {a b : Nat} (h : Nat.ble a b = true) : a ≤ b := Nat.le_of_ble_eq_true h
theorem fin_mk {k : Value → LD → Prop} {v : Value} {ld B R : LD} (h : k v B) (cu : Cut ld B R) : Stp 0 (∃ B B' R, Cut ld B' R ∧ Wk B' B ∧ k v B) := .mk ⟨B, B, R, cu, .rfl, h⟩
theorem fin_wk {k : Value → LD → Prop} {v : Value} {ld B B' R : LD} (h : k v B) (y : Wk B' B) (cu : Cut ld B' R) : Stp 0 (∃ B B' R, Cut ld B' R ∧ Wk B' B ∧ k v B) := .mk ⟨B, B', R, cu, y, h⟩
noncomputable def plainFn (s : Scope) : Bool := !s.isCoroutine && !s.isGenerator && s.kind == .function
noncomputable def noCell (s : Scope) : Bool := s.names.all fun x => x.2 != .cell
section
variable {K0 : Params → Frag} {V : Program} {a : Addr} {d : Nat} {args : List Value} {Ad : LD} {P : World → Heap → Prop} {T : World → (Value → LD → Prop) → Prop} {s : Stmt} {t : CT}
theorem sp_run {cc : CC} {c : Cf} {fin : Kt Flow} {l : List (Str × Value)} {H : Heap} {ld : LD} {b : List Stmt} (O : EOk K0 V cc c) (n : Nat) (h : run cc c fin n (.ss b) [] l H ld) : Sp c l H ld (execs b (envE cc c)) fin := fun h' t A => run_snd O n (.ss b) [] l H ld h h' t A
theorem tri_inGi {ι : Type} {Dk : ι → Frag → Value → Prop} (ok : FnOkG K0 a s t fun K v => ∃ i, Dk i K v) (ls : ι → List (Str × Value))
    (hb : ∀ i K dV s' nm qual doc pm an cdv ct, Dk i K dV → K.In s'.heap → BindsTo s' (fnOf nm qual (fnPar s) (fnBody s) (fnScope s) dV .none doc pm an cdv ct) ⟨args, []⟩ (ls i).reverse) (hl : ∀ i, ((ls i).all fun x => decide ((fnScope s).names.lookup x.1 = some .local)) = true)
    (hf : plainFn (fnScope s) = true) (hn : noCell (fnScope s) = true)
    (h : ∀ i qual cdv c k, ZOk K0 V (ccF s a t qual cdv) c d → P c.w c.g → T c.w k → Sp c (ls i) c.g Ad (execs (fnBody s) (envE (ccF s a t qual cdv) c)) (finT k)) : Tri K0 V a (d + 1) args Ad P T := by
  intro w mean mg mb A g s' k Rz hC hz hd hu LG hP hk hret
  obtain ⟨qual, oc, od, osl, dV, doc, pm, an, cdv, ct, ho, ⟨i, hDk⟩, hcd, hok⟩ := ok.ex w.params
  refine elA (andTT hf) ?_; rintro f12 f3
  refine elA (andTT f12) ?_; rintro f1 f2
  have f3 := beq_iff_eq.mp f3
  obtain ⟨⟨base, outer, B⟩, X, T', hq⟩ := hC
  refine (enterG (binds := (ls i).reverse) LG.keep hz X T' (by unfold recursionLimit; omega) ho hcd (hb i _ _ _ _ _ _ _ _ _ _ hDk (X.keeps LG.keep)) (fun x hx => locs (hl i) x (List.mem_reverse.mp hx)) ?_ (notT f1) (notT f2) f3 (fun x hx => bne_iff_ne.mp (List.all_eq_true.mp hn x hx)))
  intro L' h₁ F hk1 hL1
  suffices key : ∀ E', PassesOwn (model PG w) (A.deeper (envOf qual (fnScope s) L' a cdv)) (envOf qual (fnScope s) L' a cdv) E' → wpAny (model PG w) (A.deeper (envOf qual (fnScope s) L' a cdv)) (execs (fnBody s) (envOf qual (fnScope s) L' a cdv)) _ E' _ from key _ PassesOwn.leaving
  intro E' pE
  let c : Cf := ⟨w, mean, mg, mb, A.deeper (envOf qual (fnScope s) L' a cdv), E', s'.gens, s'.drawn, s'.os, g, L', []⟩
  have Z : ZOk K0 V (ccF s a t qual cdv) c d := ⟨⟨pE, X, T', hok⟩, fun F' ha => cx_hide B X T' F' rfl f3 hq ha, by show A.depth + 1 + d ≤ 600; omega, by show A.units + 3 + 40 * d ≤ 9000; omega, hq⟩
  have S' : Sub (ls i) (fun y => (ls i).reverse.reverse.lookup y) := by rw [List.reverse_reverse, lk_lookup]; exact fun _ _ e => e
  refine elEEEA F.ns ?_; rintro oL _ _ hL _
  have low := modules_low T'.nolimit
  have A0 : At c (ls i) g Ad h₁ := by
    refine ⟨⟨_, S', F⟩, Keep.refl _, low, F.keep, fun p hp => ?_, fun p hp => ?_, List.pairwise_cons.mpr ⟨fun p hp e => ?_, LG.ne⟩⟩
    · cases hp with
      | head => exact fresh_of LG.keep hL1
      | tail _ hp => exact LG.off p hp
    · cases hp with
      | head => exact ⟨fun _ => nmod (Nat.ne_of_gt (Nat.lt_of_lt_of_le low F.above)), oL, hL, trivial⟩
      | tail _ hp => exact (LG.has p hp).keeps hk1
    · obtain ⟨_, o, y, _⟩ := LG.has p hp
      rw [← e, hL1] at y; cases y
  have Hr := h i qual cdv c k Z hP hk h₁ (s'.toks + (ls i).reverse.length) A0
  refine wpAny_mono Hr (fun fl s b => ?_) fun _ _ e => e
  obtain ⟨l, H, ld, h', t', A2, p⟩ := (show Bk c (finT k) fl s from b)
  refine elEEEAA (Stp.get p) ?_; rintro B B' R cu wk kB
  have cok := A2.cut cu
  have lg : Lg w g h' B := Lg.wk wk ⟨A2.fkeep, fun p hp => A2.offg (.tail _ (cok.a p hp)), fun p hp => A2.lg.has p (.tail _ (cok.a p hp)), cok.aa⟩
  cases fl <;> exact hret _ h' t' B lg kB
theorem tri_inG {Dk : Frag → Value → Prop} (ok : FnOkG K0 a s t Dk) (ls : List (Str × Value)) (n : Nat)
    (hb : ∀ K dV s' nm qual doc pm an cdv ct, Dk K dV → K.In s'.heap → BindsTo s' (fnOf nm qual (fnPar s) (fnBody s) (fnScope s) dV .none doc pm an cdv ct) ⟨args, []⟩ ls.reverse) (hl : (ls.all fun x => decide ((fnScope s).names.lookup x.1 = some .local)) = true)
    (hf : plainFn (fnScope s) = true) (hn : noCell (fnScope s) = true)
    (h : ∀ qual cdv c k, ZOk K0 V (ccF s a t qual cdv) c d → P c.w c.g → T c.w k → run (ccF s a t qual cdv) c (finT k) n (.ss (fnBody s)) [] ls c.g Ad) : Tri K0 V a (d + 1) args Ad P T :=
  tri_inGi (ι := Unit) (Dk := fun _ => Dk) (ok.map fun _ _ h => ⟨(), h⟩) (fun _ => ls) (fun _ => hb) (fun _ => hl) hf hn fun _ qual cdv c k Z hP hk => sp_run Z.toEOk n (h qual cdv c k Z hP hk)
theorem tri_in (ok : FnOk K0 a s t) (ls : List (Str × Value)) (n : Nat)
    (hb : ∀ nm qual doc pm an cdv ct, bindArgs (fnOf nm qual (fnPar s) (fnBody s) (fnScope s) .none .none doc pm an cdv ct) ⟨args, []⟩ = pure ls.reverse) (hl : (ls.all fun x => decide ((fnScope s).names.lookup x.1 = some .local)) = true)
    (hf : plainFn (fnScope s) = true) (hn : noCell (fnScope s) = true)
    (h : ∀ qual cdv c k, ZOk K0 V (ccF s a t qual cdv) c d → P c.w c.g → T c.w k → run (ccF s a t qual cdv) c (finT k) n (.ss (fnBody s)) [] ls c.g Ad) : Tri K0 V a (d + 1) args Ad P T :=
  tri_inG ok.g ls n (fun _ _ _ _ _ _ _ _ _ _ e _ => by subst e; exact BindsTo.of_eq (hb ..)) hl hf hn h
theorem tri_inD {q : Array Value → Prop} (ok : FnOkG K0 a s t (DfI q)) (ls : List (Str × Value)) (n : Nat)
    (hb : ∀ xs, q xs → ∀ nm qual T doc pm an cdv ct, ∃ k, bindArgs (fnOf nm qual (fnPar s) (fnBody s) (fnScope s) (.ref T) .none doc pm an cdv ct) ⟨args, []⟩ = (seqItems? (.ref T) >>= k) ∧ k (some xs) = pure ls.reverse) (hl : (ls.all fun x => decide ((fnScope s).names.lookup x.1 = some .local)) = true)
    (hf : plainFn (fnScope s) = true) (hn : noCell (fnScope s) = true)
    (h : ∀ qual cdv c k, ZOk K0 V (ccF s a t qual cdv) c d → P c.w c.g → T c.w k → run (ccF s a t qual cdv) c (finT k) n (.ss (fnBody s)) [] ls c.g Ad) : Tri K0 V a (d + 1) args Ad P T :=
  tri_inG ok ls n (fun K dV s' nm qual doc pm an cdv ct e X => by
    obtain ⟨T, o, xs, m, rfl, e1, e2, e3⟩ := e
    obtain ⟨k, k1, k2⟩ := hb xs e3 nm qual T doc pm an cdv ct
    exact BindsTo.of_defaults (k := k) rfl (X _ _ e1) e2 k1 k2) hl hf hn h
theorem tri_inDx {q : Array Value → Prop} (ok : FnOkG K0 a s t (DfI q)) (ls : Array Value → List (Str × Value)) (n : Nat)
    (hb : ∀ xs, q xs → ∀ nm qual T doc pm an cdv ct, ∃ k, bindArgs (fnOf nm qual (fnPar s) (fnBody s) (fnScope s) (.ref T) .none doc pm an cdv ct) ⟨args, []⟩ = (seqItems? (.ref T) >>= k) ∧ k (some xs) = pure (ls xs).reverse) (hl : ∀ xs, ((ls xs).all fun x => decide ((fnScope s).names.lookup x.1 = some .local)) = true)
    (hf : plainFn (fnScope s) = true) (hn : noCell (fnScope s) = true)
    (h : ∀ xs qual cdv c k, ZOk K0 V (ccF s a t qual cdv) c d → P c.w c.g → T c.w k → run (ccF s a t qual cdv) c (finT k) n (.ss (fnBody s)) [] (ls xs) c.g Ad) : Tri K0 V a (d + 1) args Ad P T :=
  tri_inGi (ι := Array Value) (Dk := fun xs K v => ∃ T o n, v = .ref T ∧ K.lookup T = some o ∧ o.data = .seq xs n ∧ q xs) (ok.map fun _ _ h => let ⟨T, o, xs, n, h2⟩ := h; ⟨xs, T, o, n, h2⟩) ls (fun xs K dV s' nm qual doc pm an cdv ct e X => by
    obtain ⟨T, o, m, rfl, e1, e2, e3⟩ := e
    obtain ⟨k, k1, k2⟩ := hb xs e3 nm qual T doc pm an cdv ct
    exact BindsTo.of_defaults (k := k) rfl (X _ _ e1) e2 k1 k2) hl hf hn fun xs qual cdv c k Z hP hk => sp_run Z.toEOk n (h xs qual cdv c k Z hP hk)
theorem At.fr {c : Cf} {l : List (Str × Value)} {H : Heap} {ld : LD} {h : Heap} (A : At c l H ld h) : ∃ m, Sub l m ∧ Fr c.g c.L h m := A.ex
theorem zhd {cc : CC} {c : Cf} {dz d : Nat} (Z : ZOk K0 V cc c dz) (q : d ≤ dz) : c.A.depth + d ≤ 600 := Nat.le_trans (Nat.add_le_add_left q _) Z.hd
theorem zhu {cc : CC} {c : Cf} {dz d : Nat} (Z : ZOk K0 V cc c dz) (q : d ≤ dz) : c.A.units + 40 * d ≤ 9000 := Nat.le_trans (Nat.add_le_add_left (Nat.mul_le_mul_left 40 q) _) Z.hu
theorem tri_use {cc : CC} {c : Cf} {dz k : Nat} {l : List (Str × Value)} {H : Heap} {ld R : LD} {K : Kt Value} (cn : Tri K0 V a d args Ad P T) (Z : ZOk K0 V cc c dz) (hd : d ≤ dz) (cu : Cut ld Ad R)
    (pr : ∀ g, Keep H g → Has c.w g R → P c.w g) (post : T c.w fun v B => pre B R fun ld => K v l H ld) : Stp k (Sp c l H ld (call (.ref a) args) K) := by
  refine .mk fun h t A => ?_
  refine elEA A.ex ?_; rintro m S F
  have ck := A.cut cu
  have oA : ∀ p ∈ Ad, p ∈ (c.L, Ds.an) :: ld := fun p hp => .tail _ (ck.a p hp)
  have ha : ∀ x ∈ Ad.map (·.1), c.g.get? x = none ∧ x ≠ c.L := fun x hx => by
    refine elEA (List.mem_map.mp hx) ?_; rintro p hp rfl
    exact ⟨A.offg (oA p hp), A.offL (ck.a p hp)⟩
  refine elA (Z.cxh F ha) ?_; rintro cx FH
  have kH : Keep H (hideAll h (Ad.map (·.1))) := fun b o e => hideAll_get _ (A.lg.keep b o e) fun q => by
    refine elEA (List.mem_map.mp q) ?_; rintro p hp rfl
    rw [A.lg.off p (oA p hp)] at e; cases e
  have nR : ∀ p ∈ R, p.1 ∉ Ad.map (·.1) := fun p hp q => by
    refine elEA (List.mem_map.mp q) ?_; rintro z hz e
    exact ck.ar z hz p hp e
  have LA : Lg c.w (hideAll h (Ad.map (·.1))) h Ad := ⟨fun b o e => of_hideAll _ e, fun p hp => hideAll_none _ (List.mem_map.mpr ⟨p, hp, rfl⟩), fun p hp => A.lg.has p (oA p hp), ck.aa⟩
  refine wpAny_call <| cn c.w c.mean c.mg c.mb c.A _ _ _ _ cx (Nat.le_of_eq (hideAll_size _ _)) (zhd Z hd) (zhu Z hd) LA (pr _ kH fun p hp => ?_) post fun v h' tk' B LB kB => ?_
  · obtain ⟨nm, o, e, s⟩ := A.lg.has p (.tail _ (ck.r p hp))
    exact ⟨nm, o, hideAll_get _ e (nR p hp), s⟩
  · refine .mk l H _ h' tk' ?_ (pre_is kB)
    have kb : ∀ b o, h.get? b = some o → b ∉ Ad.map (·.1) → b ≠ c.L → h'.get? b = some o := fun b o e n _ => LB.keep b o (hideAll_get _ e n)
    refine A.step S (fr_ext FH LB.keep) kb (fun x hx => ?_) (fun p hp => ⟨ck.r p hp, nR p hp⟩) ck.rr (fun p hp => ⟨LB.has p hp, ?_⟩) LB.ne
    · refine elEA (List.mem_map.mp hx) ?_; rintro p hp rfl
      exact A.lg.off p (oA p hp)
    · by_cases q : p.1 ∈ Ad.map (·.1)
      · exact .inr ⟨q, (ha _ q).2⟩
      · left
        cases z : h.get? p.1 with
        | none => rfl
        | some o => have := hideAll_get (Ad.map (·.1)) z q; rw [LB.off p hp] at this; cases this
end
section
variable {α : Type} {c : Cf} {k : Nat} {l : List (Str × Value)} {H : Heap} {ld ld' : LD} {K : Kt α} {v : α}
theorem e_val {tr : Sem α} (r : ∀ (Q : α → Shared → Prop) (s : Shared), (∀ tk, Q v { s with toks := tk }) → wpAny (model PG c.w) c.A tr Q c.E s) (x : K v l H ld) : Stp k (Sp c l H ld tr K) :=
  .mk fun h _ A => r _ _ fun tk => .mk l H ld h tk A x
theorem e_tok {tr : Sem α} {v : Tok → α} (r : ∀ (Q : α → Shared → Prop) (s : Shared), (∀ u tk, Q (v u) { s with toks := tk }) → wpAny (model PG c.w) c.A tr Q c.E s) (x : ∀ u, K (v u) l H ld) : Stp k (Sp c l H ld tr K) :=
  .mk fun h _ A => r _ _ fun u tk => .mk l H ld h tk A (x u)
theorem e_int {K : Kt Value} {i : Int} {tr : Sem Value} (r : ∀ (Q : Value → Shared → Prop) (s : Shared), (∀ u tk, Q (.int i u) { s with toks := tk }) → wpAny (model PG c.w) c.A tr Q c.E s) (x : ∀ u, K (.int i u) l H ld) : Stp k (Sp c l H ld tr K) := e_tok r x
theorem e_str {K : Kt Value} {i : Str} {tr : Sem Value} (r : ∀ (Q : Value → Shared → Prop) (s : Shared), (∀ u tk, Q (.str i u) { s with toks := tk }) → wpAny (model PG c.w) c.A tr Q c.E s) (x : ∀ u, K (.str i u) l H ld) : Stp k (Sp c l H ld tr K) := e_tok r x
theorem br_t {X Y : Prop} (h : X) : Stp k (Br true X Y) := .mk (Br.t h)
theorem br_f {X Y : Prop} (h : Y) : Stp k (Br false X Y) := .mk (Br.f h)
theorem br_tt {b : Bool} {X Y : Prop} (e : b = true) (h : X) : Stp k (Br b X Y) := .mk (Br.tt e h)
theorem br_ff {b : Bool} {X Y : Prop} (e : b = false) (h : Y) : Stp k (Br b X Y) := .mk (Br.ff e h)
theorem br_mk {b : Bool} {X Y : Prop} (h1 : b = true → X) (h2 : b = false → Y) : Stp k (Br b X Y) := .mk (.mk h1 h2)
theorem sp_freeze {Ad R : LD} {tr : Sem α} (cu : Cut ld Ad R) (h : ∀ G, Keep H G → Has c.w G R → Sp c l G Ad tr K) : Stp k (Sp c l H ld tr K) := .mk fun _ t A => by
  obtain ⟨G, a, b, A'⟩ := A.freeze cu
  exact h G a b _ t A'
end
theorem cx_under {K : Frag} {V : Program} {mean : ExcName → Option Value} {mg mb : Str → Option Value} {A : Around} {h : Heap} (x : Cx K V mean mg mb A h) (id : String) (as : Args) : Cx K V mean mg mb (A.under (.builtin id as)) h :=
  ⟨let ⟨base, outer, B⟩ := x.below; ⟨base, outer, B.stack, B.stays, B.frames⟩, x.kin, x.top, x.quiet⟩
noncomputable def initK (x : Addr) (k : Value → LD → Prop) (v : Value) (B : LD) : Prop := match v with
  | .none => k (.ref x) B
  | _ => False
noncomputable def atOk (k : Frag) (C : Addr) (n : Str) : Bool := plainGet k C n && (hasDictIn k C && (findIn k (.ref C) n == some none))
noncomputable def meOk (k : Frag) (C : Addr) (n : Str) (f : Addr) : Bool := plainGet k C n && (findIn k (.ref C) n == some (some (.ref f)) && isFn k (.ref f))
noncomputable def stOk (k : Frag) (C : Addr) (n : Str) : Bool := (findIn k (.ref C) "__setattr__" == some (some (.builtin "object.__setattr__"))) && (plainOver k C && ((takerIn k C n == some none) && hasDictIn k C))
noncomputable def mkOk (k : Frag) (C f : Addr) : Bool := makesIn k C && (findIn k (.ref C) "__init__" == some (some (.ref f)) && isFn k (.ref f))
noncomputable def hasN (t : List (Addr × List Str)) (C : Addr) (n : Str) : Bool := match t with
  | [] => false
  | p :: t => cond (Nat.beq p.1 C) (hasS p.2 n) (hasN t C n)
theorem hasN_all {q : Addr → Str → Bool} {C : Addr} {n : Str} : ∀ {t : List (Addr × List Str)}, hasN t C n = true → (t.all fun p => p.2.all (q p.1)) = true → q C n = true
  | p :: t, h, a => by
    obtain ⟨a1, a2⟩ := andTT a
    have h : cond (Nat.beq p.1 C) (hasS p.2 n) (hasN t C n) = true := h
    cases e : Nat.beq p.1 C with
    | true => rw [e] at h; rw [← Nat.eq_of_beq_eq_true e]; exact List.all_eq_true.mp a1 n (hasS_mem h)
    | false => rw [e] at h; exact hasN_all h a2
noncomputable def lkM (t : List (Addr × Str × Addr)) (C : Addr) (n : Str) : Option Addr := match t with
  | [] => none
  | p :: t => cond (Nat.beq p.1 C && (p.2.1 == n)) (some p.2.2) (lkM t C n)
theorem lkM_all {q : Addr → Str → Addr → Bool} {C : Addr} {n : Str} {f : Addr} : ∀ {t : List (Addr × Str × Addr)}, lkM t C n = some f → (t.all fun p => q p.1 p.2.1 p.2.2) = true → q C n f = true
  | p :: t, h, a => by
    obtain ⟨a1, a2⟩ := andTT a
    have h : cond (Nat.beq p.1 C && (p.2.1 == n)) (some p.2.2) (lkM t C n) = some f := h
    cases e : (Nat.beq p.1 C && (p.2.1 == n)) with
    | true =>
      rw [e] at h; cases h
      obtain ⟨e1, e2⟩ := andTT e
      rw [← Nat.eq_of_beq_eq_true e1, ← beq_iff_eq.mp e2]; exact a1
    | false => rw [e] at h; exact lkM_all h a2
noncomputable def thN : List Str := [Str.ofString "number", Str.ofString "blessed", Str.ofString "count"]
noncomputable def ATS : List (Addr × List Str) := [(87, Str.ofString "value" :: Str.ofString "magic" :: thN), (106, Str.ofString "items" :: thN), (125, thN), (144, thN), (163, Str.ofString "array" :: Str.ofString "code" :: thN), (183, [Str.ofString "target", Str.ofString "is_weak"]), (246, [Str.ofString "last", Str.ofString "zero"]),
  (388, [Str.ofString "generation", Str.ofString "table"]), (596, [Str.ofString "heap", Str.ofString "places"]), (617, [Str.ofString "package"]), (638, [Str.ofString "heap", Str.ofString "counter", Str.ofString "stash", Str.ofString "limits", Str.ofString "frames", Str.ofString "methods"]), (723, [Str.ofString "heap", Str.ofString "globs", Str.ofString "generation"])]
noncomputable def MES : List (Addr × Str × Addr) := [(723, Str.ofString "find_array", 720), (723, Str.ofString "code_of", 713), (388, Str.ofString "find", 385), (246, Str.ofString "next_number", 208), (246, Str.ofString "new_scalar", 215), (246, Str.ofString "new_array", 222), (246, Str.ofString "new_hash", 229), (246, Str.ofString "new_code", 236), (246, Str.ofString "new_glob", 243),
  (596, Str.ofString "hold", 525), (596, Str.ofString "let_go", 532), (596, Str.ofString "take", 546), (596, Str.ofString "put_off", 551), (596, Str.ofString "store", 558), (596, Str.ofString "fresh", 565), (723, Str.ofString "glob_of", 685), (723, Str.ofString "array_of", 699)]
noncomputable def thS : List Str := [Str.ofString "number", Str.ofString "count", Str.ofString "blessed", Str.ofString "weak", Str.ofString "is_destroyed", Str.ofString "is_freed"]
noncomputable def STS : List (Addr × List Str) := [(87, Str.ofString "value" :: Str.ofString "magic" :: thS), (106, Str.ofString "items" :: Str.ofString "tied" :: thS), (125, Str.ofString "table" :: Str.ofString "at" :: Str.ofString "tied" :: thS), (144, Str.ofString "sub" :: Str.ofString "captures" :: Str.ofString "builtin" :: Str.ofString "package" :: thS), (163, Str.ofString "name" :: Str.ofString "scalar" :: Str.ofString "array" :: Str.ofString "hash" :: Str.ofString "code" :: thS),
  (183, [Str.ofString "target", Str.ofString "is_weak"]), (246, [Str.ofString "limits", Str.ofString "last", Str.ofString "zero"]), (388, [Str.ofString "generation", Str.ofString "table"]), (596, [Str.ofString "heap", Str.ofString "destroy", Str.ofString "places"]), (617, [Str.ofString "pad", Str.ofString "args", Str.ofString "want", Str.ofString "code", Str.ofString "package", Str.ofString "line"]),
  (638, [Str.ofString "heap", Str.ofString "counter", Str.ofString "stash", Str.ofString "limits", Str.ofString "nodes", Str.ofString "lvs", Str.ofString "statements", Str.ofString "funcs", Str.ofString "operators", Str.ofString "out", Str.ofString "err", Str.ofString "saves", Str.ofString "frames", Str.ofString "match", Str.ofString "patterns", Str.ofString "empties", Str.ofString "steps", Str.ofString "methods", Str.ofString "call_code", Str.ofString "compile_text"]),
  (660, [Str.ofString "width", Str.ofString "depth", Str.ofString "steps", Str.ofString "text", Str.ofString "items"]), (723, [Str.ofString "heap", Str.ofString "globs", Str.ofString "generation"])]
noncomputable def MKS : List (Addr × Addr) := [(87, 84), (106, 103), (125, 122), (144, 141), (163, 160), (183, 180), (246, 201), (388, 378), (596, 518), (617, 614), (638, 635), (660, 657), (723, 678)]
noncomputable def GVS : List (Str × Addr) := [(Str.ofString "to_text", 285), (Str.ofString "value_of", 278)]
noncomputable def hasP (t : List (Addr × Addr)) (C f : Addr) : Bool := match t with
  | [] => false
  | p :: t => cond (Nat.beq p.1 C && Nat.beq p.2 f) true (hasP t C f)
theorem hasP_all {q : Addr → Addr → Bool} {C f : Addr} : ∀ {t : List (Addr × Addr)}, hasP t C f = true → (t.all fun p => q p.1 p.2) = true → q C f = true
  | p :: t, h, a => by
    obtain ⟨a1, a2⟩ := andTT a
    rcases condT h with e | e
    · obtain ⟨e1, e2⟩ := andTT e
      rw [← Nat.eq_of_beq_eq_true e1, ← Nat.eq_of_beq_eq_true e2]; exact a1
    · exact hasP_all e a2
noncomputable def clsB : List Addr := [87, 106, 125, 144, 163, 183]
noncomputable def plainV : Value → Bool
  | .none => true
  | .int _ _ => true
  | .str _ _ => true
  | _ => false
noncomputable abbrev Plain (v : Value) : Prop := plainV v = true
theorem Plain.ways {v : Value} (h : Plain v) : v = .none ∨ (∃ i t, v = .int i t) ∨ ∃ x t, v = .str x t := by
  cases v with
  | none => exact .inl rfl
  | int i t => exact .inr (.inl ⟨i, t, rfl⟩)
  | str x t => exact .inr (.inr ⟨x, t, rfl⟩)
  | _ => cases h
theorem Plain.handed {v : Value} (h : Plain v) : handedIn v = true := by rcases h.ways with rfl | ⟨i, t, rfl⟩ | ⟨x, t, rfl⟩ <;> rfl
noncomputable def ISI (K : Params → Frag) : Prop := ∀ (w : World) (s : Shared) (x dx D C : Addr) (od : Obj) (A : Around) (Q E : Value → Shared → Prop), (K w.params).In s.heap → s.heap.get? x = some (instObj D dx) → s.heap.get? dx = some od → hasA clsB D = true → hasA clsB C = true →
  (∀ tk, Q (.bool (Nat.beq D C)) { s with toks := tk }) → wpAny (model PG w) A (call (.builtin "isinstance") [.ref x, .ref C]) Q E s
noncomputable def ISN (K : Params → Frag) : Prop := ∀ (w : World) (s : Shared) (x dx D : Addr) (od : Obj) (A : Around) (Q E : Value → Shared → Prop), (K w.params).In s.heap → s.heap.get? x = some (instObj D dx) → s.heap.get? dx = some od → hasA clsB D = true →
  (∀ tk, Q (.bool false) { s with toks := tk }) → wpAny (model PG w) A (call (.builtin "isinstance") [.ref x, .type "int"]) Q E s
noncomputable def ISP (K : Params → Frag) : Prop := ∀ (w : World) (s : Shared) (v : Value) (C : Addr) (A : Around) (Q E : Value → Shared → Prop), (K w.params).In s.heap → Plain v → hasA clsB C = true →
  (∀ tk, Q (.bool false) { s with toks := tk }) → wpAny (model PG w) A (call (.builtin "isinstance") [v, .ref C]) Q E s
structure KCl (K : Params → Frag) : Prop where
  att : ∀ P, (ATS.all fun p => p.2.all (atOk (K P) p.1)) = true
  met : ∀ P, (MES.all fun p => meOk (K P) p.1 p.2.1 p.2.2) = true
  sto : ∀ P, (STS.all fun p => p.2.all (stOk (K P) p.1)) = true
  mak : ∀ P, (MKS.all fun p => mkOk (K P) p.1 p.2) = true
  gvs : ∀ P, (GVS.all fun p => nsIn (K P) mainGlobals p.1 == some (some (.ref p.2)) && keepIn (K P) (.ref p.2)) = true
  isi : ISI K
  isn : ISN K
  isp : ISP K
inductive Hd (w : World) (H : Heap) (ld : LD) (a : Addr) (d : Ds) : Prop
  | h (x : OAt w H a d)
  | l (x : (a, d) ∈ ld)
section
variable {K0 : Params → Frag} {V : Program} {cc : CC} {c : Cf} {dz k : Nat} {l : List (Str × Value)} {H : Heap} {ld ld' : LD} {h : Heap} {a x dx C : Addr} {d : Ds} {f : Str → Option Value} {name : Str} {v : Value}
theorem Hd.at_ (y : Hd c.w H ld a d) (A : At c l H ld h) : OAt c.w h a d := by
  cases y with
  | h y => exact y.keeps A.lg.keep
  | l y => exact A.oat y
theorem inst_at (A : At c l H ld h) (hx : Hd c.w H ld x (.ob (instObj C dx))) (hd : Hd c.w H ld dx (.di f)) : ∃ es n, InstAt h x (instObj C dx) C (some (dictOf es n)) ∧ EsOf c.w.params f es := by
  obtain ⟨_, o, e, rfl⟩ := hx.at_ A
  obtain ⟨_, o, e2, es, n, rfl, Es⟩ := hd.at_ A
  exact ⟨es, n, ⟨e, rfl, rfl, e2⟩, Es⟩
theorem EOk.xin (O : EOk K0 V cc c) (A : At c l H ld h) : (K0 c.w.params).In h := O.X.keeps A.fkeep
theorem e_attr {K : Kt Value} (kc : KCl K0) (Z : ZOk K0 V cc c dz) (hx : Hd c.w H ld x (.ob (instObj C dx))) (hd : Hd c.w H ld dx (.di f)) (ha : hasN ATS C name = true) (hv : f name = some v) (hh : handedIn v = true) (y : K v l H ld) : Stp k (Sp c l H ld (getAttr (.ref x) name true) K) := .mk fun h t A => by
  obtain ⟨es, n, I, Es⟩ := inst_at A hx hd
  obtain ⟨a1, a2⟩ := andTT (hasN_all ha (kc.att c.w.params))
  obtain ⟨a2, a3⟩ := andTT a2
  exact get_value (Z.xin A) I (plainGet_of a1).1 (findObj_own a2 (beq_iff_eq.mp a3) rfl (by rw [lookIn_dict, Es.get, hv])) hh (.mk l H ld h _ A y)
theorem e_meth {K : Kt (Value × List Value)} {g : Addr} {pl : Sem Bool} (kc : KCl K0) (Z : ZOk K0 V cc c dz) (hx : Hd c.w H ld x (.ob (instObj C dx))) (hd : Hd c.w H ld dx (.di f)) (ha : lkM MES C name = some g) (hv : f name = none) (y : K (.ref g, [.ref x]) l H ld) : Stp k (Sp c l H ld (getMethod (.ref x) name pl) K) := .mk fun h t A => by
  obtain ⟨es, n, I, Es⟩ := inst_at A hx hd
  obtain ⟨a1, a2⟩ := andTT (lkM_all ha (kc.met c.w.params))
  obtain ⟨a2, a3⟩ := andTT a2
  exact method_fn (Z.xin A) I (plainGet_of a1).1 (plainGet_of a1).2 (beq_iff_eq.mp a2) (beq_iff_eq.mp a3) (by show (lookIn name (dictOf es n)).map _ = _; rw [lookIn_dict, Es.get, hv]; rfl) (.mk l H ld h t A y)
theorem putL_same {x : Str} {v k : Value} {hsh : Int} : ∀ {es : List DictEntry}, (es.find? (·.key.isStr x)).isSome = true → (putL x hsh k v es).length = es.length
  | [], h => by simp at h
  | e :: r, h => by
    unfold putL
    split
    · rfl
    · rename_i h1
      have : (r.find? (·.key.isStr x)).isSome = true := by
        rw [List.find?_cons] at h
        cases h2 : e.key.isStr x with
        | true => exact absurd h2 h1
        | false => rw [h2] at h; exact h
      simp [putL_same this]
theorem EsOf.put0 {P : Params} {f : Str → Option Value} {es : List DictEntry} (E : EsOf P f es) {x : Str} {v v0 : Value} {t : Tok} (h : f x = some v0) : EsOf P (upd x v f) (putL x (PyData.keyHash P x) (.str x t) v es) := by
  have e0 : (es.find? (·.key.isStr x)).isSome = true := by
    have := E.get x
    rw [getL_lit E.keys, h] at this
    have := Option.some.inj this
    cases q : es.find? (·.key.isStr x) with
    | none => rw [q] at this; cases this
    | some e => rfl
  refine ⟨fun y => ?_, putL_keys E.keys, by rw [putL_same e0]; exact E.len⟩
  rw [getL_lit (putL_keys E.keys), putL_find? E.keys, upd_is]
  congr 1
  by_cases hy : y = x
  · rw [if_pos hy, if_pos hy]
  · rw [if_neg hy, if_neg hy]
    have := E.get y
    rw [getL_lit E.keys] at this
    exact Option.some.inj this
theorem sto_core {Q : Unit → Shared → Prop} {es : List DictEntry} {n t : Nat} {d' : Ds} (kc : KCl K0) (Z : ZOk K0 V cc c dz) (A : At c l H ld h) (hx : Hd c.w H ld x (.ob (instObj C dx))) (ha : hasN STS C name = true) (U : Up dx d d' ld ld') (hi : isD d' = true → isD d = true) (e2 : h.get? dx = some (dictOf es n)) (Es : EsOf c.w.params f es) (hs : Sat c.w d' (dictOf (putL name (PyData.keyHash c.w.params name) (.str name (t + 1)) v es) (putN name es n)))
    (q : ∀ h', At c l H ld' h' → Q () ⟨h', c.G, c.D, t + 2, c.O⟩) : wpAny (model PG c.w) c.A (setAttr (.ref x) name v) Q c.E ⟨h, c.G, c.D, t, c.O⟩ := by
  refine elEEEAAAAAA (A.upd1 U hi) ?_; rintro m R o S F e s N hR bk
  obtain ⟨_, o1, e1, rfl⟩ := hx.at_ A
  obtain rfl : dictOf es n = o := Option.some.inj (e2.symm.trans e)
  refine elA (andTT (hasN_all ha (kc.sto c.w.params))) ?_; rintro a1 a2
  refine elA (andTT a2) ?_; rintro a2 a3
  refine elA (andTT a3) ?_; rintro a3 a4
  refine set_dict (h₀ := c.g) (L := c.L) (s := ⟨h, c.G, c.D, t, c.O⟩) F Z.X N ⟨e1, rfl, rfl, e2⟩ rfl (beq_iff_eq.mp a1) a2 (beq_iff_eq.mp a3) a4 (by rw [Es.get]; rfl) rfl (.head hR) (Nat.le_trans putL_len (Nat.le_trans (Nat.succ_le_succ Es.len) (by decide))) fun h' F' N' => q h' (bk h' _ F' N' hs)
theorem e_set {K : Kt Unit} {v0 : Value} (kc : KCl K0) (Z : ZOk K0 V cc c dz) (hx : Hd c.w H ld x (.ob (instObj C dx))) (ha : hasN STS C name = true) (hv : f name = some v0) (U : Up dx (.di f) (.di (upd name v f)) ld ld') (y : K () l H ld') : Stp k (Sp c l H ld (setAttr (.ref x) name v) K) := .mk fun h t A => by
  obtain ⟨_, o, e, es, n, rfl, Es⟩ := A.oat U.mem
  exact sto_core kc Z A hx ha U (fun h => h) e Es ⟨_, _, rfl, Es.put0 hv⟩ fun h' A' => .mk l H ld' h' _ A' y
theorem e_setK {K : Kt Unit} {n : Nat} (kc : KCl K0) (Z : ZOk K0 V cc c dz) (hx : Hd c.w H ld x (.ob (instObj C dx))) (ha : hasN STS C name = true) (hn : Nat.ble n 99 = true) (U : Up dx (.dk n f) (.dk (n + 1) (upd name v f)) ld ld') (y : K () l H ld') : Stp k (Sp c l H ld (setAttr (.ref x) name v) K) := .mk fun h t A => by
  obtain ⟨_, o, e, es, n', rfl, Es, hl⟩ := A.oat U.mem
  have hz := Nat.le_trans hl (ble_le hn)
  exact sto_core kc Z A hx ha U (fun h => h) e Es ⟨_, _, rfl, Es.put hz, Nat.le_trans putL_len (Nat.succ_le_succ hl)⟩ fun h' A' => .mk l H ld' h' _ A' y
theorem plain_inst (A : At c l H ld h) (hx : Hd c.w H ld x (.ob (instObj C dx))) (hd : Hd c.w H ld dx d) : ∃ od, h.get? x = some (instObj C dx) ∧ h.get? dx = some od := by
  obtain ⟨_, o, e, rfl⟩ := hx.at_ A
  obtain ⟨_, o, e2, _⟩ := hd.at_ A
  exact ⟨o, e, e2⟩
theorem e_isi {K : Kt Value} {D : Addr} (kc : KCl K0) (Z : ZOk K0 V cc c dz) (hx : Hd c.w H ld x (.ob (instObj D dx))) (hd : Hd c.w H ld dx d) (h1 : hasA clsB D = true) (h2 : hasA clsB C = true) (y : K (.bool (Nat.beq D C)) l H ld) : Stp k (Sp c l H ld (call (.builtin "isinstance") [.ref x, .ref C]) K) := .mk fun h t A => by
  obtain ⟨od, e1, e2⟩ := plain_inst A hx hd
  exact kc.isi c.w _ x dx D C od _ _ _ (Z.xin A) e1 e2 h1 h2 fun tk => .mk l H ld h tk A y
theorem e_isn {K : Kt Value} {D : Addr} (kc : KCl K0) (Z : ZOk K0 V cc c dz) (hx : Hd c.w H ld x (.ob (instObj D dx))) (hd : Hd c.w H ld dx d) (h1 : hasA clsB D = true) (y : K (.bool false) l H ld) : Stp k (Sp c l H ld (call (.builtin "isinstance") [.ref x, .type "int"]) K) := .mk fun h t A => by
  obtain ⟨od, e1, e2⟩ := plain_inst A hx hd
  exact kc.isn c.w _ x dx D od _ _ _ (Z.xin A) e1 e2 h1 fun tk => .mk l H ld h tk A y
theorem e_isp {K : Kt Value} (kc : KCl K0) (Z : ZOk K0 V cc c dz) (hv : Plain v) (h2 : hasA clsB C = true) (y : K (.bool false) l H ld) : Stp k (Sp c l H ld (call (.builtin "isinstance") [v, .ref C]) K) := .mk fun h t A =>
  kc.isp c.w _ v C _ _ _ (Z.xin A) hv h2 fun tk => .mk l H ld h tk A y
end
theorem cls_tri {K0 : Params → Frag} {V : Program} {C fI d : Nat} {args : List Value} {Ad : LD} {P : World → Heap → Prop} {T : World → (Value → LD → Prop) → Prop} {T' : Addr → Addr → World → (Value → LD → Prop) → Prop} (kc : KCl K0) (hm : hasP MKS C fI = true)
    (cn : ∀ x dx : Addr, Tri K0 V fI d (.ref x :: args) ((x, .ob (instObj C dx)) :: (dx, .dk 0 no0) :: Ad) P (T' x dx)) (hT : ∀ w k, T w k → ∀ x dx, T' x dx w (initK x k)) : Tri K0 V C (d + 1) args Ad P T := by
  intro w mean mg mb A g s k R hC hz hd hu LG hP hk hret
  obtain ⟨h, gs, dr, t, os⟩ := s
  refine elA (andTT (hasP_all hm (kc.mak w.params))) ?_; rintro a1 a2
  refine elA (andTT a2) ?_; rintro a2 a3
  have X := hC.kin.keeps LG.keep
  have low : sysModules < h.objs.size := Nat.lt_of_lt_of_le (modules_low hC.top.nolimit) hz
  refine make_core (makes_of X a1) (looks_findIn X (beq_iff_eq.mp a2)) (fun self => bind_fn X self (beq_iff_eq.mp a3)) (.inl rfl) ?_
  have kp : Keep h ((h.push emptyDict).push (instObj C h.objs.size)) := fun b o e => Heap.get?_push_of_some _ (Heap.get?_push_of_some _ e)
  have hx : ((h.push emptyDict).push (instObj C h.objs.size)).get? (h.objs.size + 1) = some (instObj C h.objs.size) := by heap_get
  have hdx : ((h.push emptyDict).push (instObj C h.objs.size)).get? h.objs.size = some emptyDict := by heap_get
  have fr : ∀ {a : Nat}, h.objs.size ≤ a → h.get? a = none := fun {a} q => by
    cases z : h.get? a with
    | none => rfl
    | some o => exact absurd (Heap.lt_size z) (Nat.not_lt.mpr q)
  have nz : ∀ p ∈ Ad, ∀ {a : Nat}, h.objs.size ≤ a → a ≠ p.1 := fun p hp a q e => by
    obtain ⟨_, o, y, _⟩ := LG.has p hp
    rw [← e, fr q] at y; cases y
  refine cn (h.objs.size + 1) h.objs.size w mean mg mb _ g _ (initK (h.objs.size + 1) k) _ (cx_under hC _ _) ?_ ?_ ?_ ⟨LG.keep.trans kp, fun p hp => ?_, fun p hp => ?_, ?_⟩ hP (hT w k hk _ _) fun v h' tk' B LB kB => ?_
  · rw [Heap.size_push, Heap.size_push]; exact Nat.le_trans hz (Nat.le_succ_of_le (Nat.le_succ _))
  · show A.depth + 1 + d ≤ 600; omega
  · show A.units + (Code.builtin "type.__call__" ⟨.ref C :: args, []⟩).cUnits + 40 * d ≤ 9000
    have : (Code.builtin "type.__call__" ⟨.ref C :: args, []⟩).cUnits ≤ 40 := Nat.le_of_ble_eq_true rfl
    omega
  · rcases List.mem_cons.mp hp with rfl | hp
    · exact fresh_of LG.keep (fr (Nat.le_succ _))
    · rcases List.mem_cons.mp hp with rfl | hp
      · exact fresh_of LG.keep (fr (Nat.le_refl _))
      · exact LG.off p hp
  · rcases List.mem_cons.mp hp with rfl | hp
    · exact ⟨fun _ => nmod (Nat.ne_of_gt (Nat.lt_succ_of_lt low)), _, hx, rfl⟩
    · rcases List.mem_cons.mp hp with rfl | hp
      · exact ⟨fun _ => nmod (Nat.ne_of_gt low), _, hdx, [], 0, rfl, EsOf.nil, Nat.le_refl _⟩
      · exact (LG.has p hp).keeps kp
  · refine List.pairwise_cons.mpr ⟨fun p hp => ?_, List.pairwise_cons.mpr ⟨fun p hp => nz p hp (Nat.le_refl _), LG.ne⟩⟩
    rcases List.mem_cons.mp hp with rfl | hp
    · exact Nat.succ_ne_self _
    · exact nz p hp (Nat.le_succ _)
  · cases v with
    | none => exact ⟨rfl, hret _ h' tk' B LB kB⟩
    | _ => cases (show False from kB)
inductive SL : Str → Nat → Prop
  | mk {x : Str} {n : Nat} (h : x.length ≤ n) : SL x n
theorem SL.le {x : Str} {n : Nat} (h : SL x n) : x.length ≤ n := by cases h; assumption
theorem SL.add {x y : Str} {a b : Nat} (h : SL x a) (k : SL y b) : SL (x ++ y) (a + b) := .mk (by rw [Str.length_append]; exact Nat.add_le_add h.le k.le)
theorem SL.lit {x : Str} (h : Nat.ble x.length 40 = true) : SL x 40 := .mk (Nat.le_of_ble_eq_true h)
theorem e_addS {c : Cf} {k : Nat} {l : List (Str × Value)} {H : Heap} {ld : LD} {K : Kt Value} {x y : Str} {t u : Tok} {a b : Nat} (h : SL x a) (g : SL y b) (q : Nat.ble (a + b) 5000 = true) (z : ∀ u, K (.str (x ++ y) u) l H ld) : Stp k (Sp c l H ld (binaryOp .Add (.str x t) (.str y u)) K) :=
  e_str (fun Q s hQ => add_str hQ (by have := h.le; have := g.le; have := Nat.le_of_ble_eq_true q; rw [sizeLine_eq]; omega)) z
inductive StrsAre : List Value → List Str → Prop
  | nil : StrsAre [] []
  | cons {x : Str} {u : Tok} {vs : List Value} {xs : List Str} : StrsAre vs xs → StrsAre (.str x u :: vs) (x :: xs)
noncomputable abbrev ListAt (h : Heap) (a : Addr) (vs : List Value) : Prop := h.IsList a vs.toArray
noncomputable def liOf : Ds → Option (List Value)
  | .li vs => some vs
  | .lo vs => some vs
  | _ => none
theorem sat_list {w : World} {d : Ds} {o : Obj} {vs : List Value} (e : liOf d = some vs) (s : Sat w d o) : o.cls = .type "list" ∧ ∃ n, o.data = .seq vs.toArray n := by
  cases d with
  | li us => cases e; refine elE s ?_; (try clear s); rintro n rfl; exact ⟨rfl, n, rfl⟩
  | lo us => cases e; exact s
  | _ => cases e
noncomputable def HL (w : World) (H : Heap) (ld : LD) (a : Addr) (vs : List Value) : Prop := ∃ d, Hd w H ld a d ∧ liOf d = some vs
theorem HL.h {w : World} {H : Heap} {ld : LD} {a : Addr} {vs : List Value} (x : OAt w H a (.lo vs)) : HL w H ld a vs := ⟨_, .h x, rfl⟩
theorem HL.hi {w : World} {H : Heap} {ld : LD} {a : Addr} {vs : List Value} (x : OAt w H a (.li vs)) : HL w H ld a vs := ⟨_, .h x, rfl⟩
theorem HL.l {w : World} {H : Heap} {ld : LD} {a : Addr} {vs : List Value} (x : (a, Ds.li vs) ∈ ld) : HL w H ld a vs := ⟨_, .l x, rfl⟩
theorem HL.o {w : World} {H : Heap} {ld : LD} {a : Addr} {vs : List Value} (x : (a, Ds.lo vs) ∈ ld) : HL w H ld a vs := ⟨_, .l x, rfl⟩
section
variable {c : Cf} {k : Nat} {l : List (Str × Value)} {H : Heap} {ld ld' : LD} {h : Heap} {a b : Addr} {vs us : List Value} {K : Kt Value} {KU : Kt Unit} {KB : Kt Bool} {v y : Value} {u : Tok}
theorem HL.at_ (x : HL c.w H ld a vs) (A : At c l H ld h) : ListAt h a vs := by
  refine elEA x ?_; (try clear x); rintro d x e
  obtain ⟨_, o, e2, s⟩ := x.at_ A
  refine elA (sat_list e s) ?_; rintro s1 s2
  exact ⟨o, e2, s1, s2⟩
theorem e_item {value slice : PySem.Expr} {i : Int} (hl : HL c.w H ld a vs) (h0 : 0 ≤ i) (h1 : i < 2 ^ 63) (hx : vs[i.toNat]? = some v) (z : K v l H ld)
    (hs : subscripted slice false (.ref a) (.int i u) = operate [.ref a, .int i u] (getItem (.ref a) (.int i u))) : Stp k (Sp c l H ld (subscriptTail value slice (.ref a) (.int i u)) K) := .mk fun h t A =>
  tail_any (hl.at_ A).typeIs slot_list_getitem.lookup (wpAny_getItem_list (hl.at_ A) h0 h1 (by simpa using hx) (.mk l H ld h t A z)) hs
theorem e_itemG {i : Int} (hl : HL c.w H ld a vs) (h0 : 0 ≤ i) (h1 : i < 2 ^ 63) (hx : vs[i.toNat]? = some v) (z : K v l H ld) : Stp k (Sp c l H ld (getItem (.ref a) (.int i u)) K) := .mk fun h t A =>
  wpAny_getItem_list (hl.at_ A) h0 h1 (by simpa using hx) (.mk l H ld h t A z)
theorem last_at (p : List Value) (y : Value) : (p ++ [y]).toArray[((-1 : Int) + (p ++ [y]).toArray.size).toNat]? = some y := by
  have : ((-1 : Int) + (p ++ [y]).toArray.size).toNat = p.length := by simp; omega
  rw [this]; simp
theorem e_last {value slice : PySem.Expr} (hl : HL c.w H ld a (vs ++ [y])) (z : K y l H ld)
    (hs : subscripted slice false (.ref a) (.int (-1) u) = operate [.ref a, .int (-1) u] (getItem (.ref a) (.int (-1) u))) : Stp k (Sp c l H ld (subscriptTail value slice (.ref a) (.int (-1) u)) K) := .mk fun h t A =>
  tail_any (hl.at_ A).typeIs slot_list_getitem.lookup (wpAny_getItem_list_neg (hl.at_ A) (by decide) (by simp; omega) (by decide) (last_at vs y) (.mk l H ld h t A z)) hs
theorem e_lastG (hl : HL c.w H ld a (vs ++ [y])) (z : K y l H ld) : Stp k (Sp c l H ld (getItem (.ref a) (.int (-1) u)) K) := .mk fun h t A =>
  wpAny_getItem_list_neg (hl.at_ A) (by decide) (by simp; omega) (by decide) (last_at vs y) (.mk l H ld h t A z)
theorem e_setLast (U : Up a (.li (vs ++ [y])) (.li (vs ++ [v])) ld ld') (z : KU () l H ld') : Stp k (Sp c l H ld (setItem (.ref a) (.int (-1) u) v) KU) := .mk fun h t A => by
  obtain ⟨m, R, o, S, F, e, ⟨n, rfl⟩, N, hR, bk⟩ := A.upd1 U (fun h => h)
  have q := N _ (.head _)
  refine ki_setBack (s := ⟨h, c.G, c.D, t, c.O⟩) e (by decide) (by simp; omega) (by decide) (.mk l H ld' _ t (bk _ _ (F.change (Heap.SameBut.update ..) q.2.1 q.2.2) (ki_turn (pre := []) _ N (fun _ h => nomatch h) hR ?_ rfl) ⟨_, rfl⟩) z)
  show (vs ++ [y]).toArray.setIfInBounds ((-1 : Int) + (vs ++ [y]).toArray.size).toNat v = (vs ++ [v]).toArray
  have : ((-1 : Int) + (vs ++ [y]).toArray.size).toNat = vs.length := by simp; omega
  rw [this]
  apply Array.toList_inj.mp
  simp
theorem e_set0 {x : Value} (U : Up a (.li [x]) (.li [v]) ld ld') (z : KU () l H ld') : Stp k (Sp c l H ld (setItem (.ref a) (.int 0 u) v) KU) := .mk fun h t A => by
  obtain ⟨m, R, o, S, F, e, ⟨n, rfl⟩, N, hR, bk⟩ := A.upd1 U (fun h => h)
  exact ki_set (q := [v]) (s := ⟨h, c.G, c.D, t, c.O⟩) F N (by decide) (by decide) rfl (.head hR) fun h' F' N' => .mk l H ld' h' _ (bk h' _ F' N' ⟨_, rfl⟩) z
theorem e_pop (U : Up a (.li (vs ++ [y])) (.li vs) ld ld') (hz : vs.length ≤ 100) (z : K y l H ld') : Stp k (Sp c l H ld (call (.builtin "list.pop") [.ref a]) K) := .mk fun h t A => by
  obtain ⟨m, R, o, S, F, e, ⟨n, rfl⟩, N, hR, bk⟩ := A.upd1 U (fun h => h)
  exact kl_pop (s := ⟨h, c.G, c.D, t, c.O⟩) F N (by simpa using kpa_last y vs) (.head hR) (by simp; rw [sizeLine_eq]; omega) fun h' F' N' => .mk l H ld' h' _ (bk h' _ F' N' ⟨_, rfl⟩) z
theorem e_append (U : Up a (.li vs) (.li (vs ++ [y])) ld ld') (hz : vs.length ≤ 100) (z : K .none l H ld') : Stp k (Sp c l H ld (call (.builtin "list.append") [.ref a, y]) K) := .mk fun h t A => by
  obtain ⟨m, R, o, S, F, e, ⟨n, rfl⟩, N, hR, bk⟩ := A.upd1 U (fun h => h)
  exact append_K (its := vs.toArray) (s := ⟨h, c.G, c.D, t, c.O⟩) F N (show Upd a _ (listOf (vs.toArray.push y) (n + 1)) _ ((a, listOf (vs.toArray.push y) (n + 1)) :: R) from .head hR) (fun h' F' N' => .mk l H ld' h' _ (bk h' _ F' N' ⟨n + 1, by simp⟩) z) (by rw [sizeLine_eq, List.size_toArray]; omega)
theorem e_len (hl : HL c.w H ld a vs) (hz : vs.length ≤ 1000) (z : ∀ u, K (.int (vs.length : Nat) u) l H ld) : Stp k (Sp c l H ld (call (.builtin "len") [.ref a]) K) := .mk fun h t A =>
  Calls.call_len_list (hl.at_ A) (by simp; omega) (.mk l H ld h _ A (by simpa using z _))
theorem e_truL (hl : HL c.w H ld a vs) (hz : vs.length ≤ 1000) (z : KB (!vs.isEmpty) l H ld) : Stp k (Sp c l H ld (truthy (.ref a)) KB) := .mk fun h t A =>
  wpAny_truthy_list (hl.at_ A) (by simp; omega) (.mk l H ld h _ A (by simpa using z))
theorem e_truS (hl : HL c.w H ld a (vs ++ [y])) (hz : (vs ++ [y]).length ≤ 1000) (z : KB true l H ld) : Stp k (Sp c l H ld (truthy (.ref a)) KB) := 
  e_truL hl hz ((by simp : true = !(vs ++ [y]).isEmpty) ▸ z)
theorem strs_any {x : Str} : ∀ {vs : List Value} {xs : List Str}, StrsAre vs xs → vs.any (fun v => v.isStr x) = decide (x ∈ xs)
  | _, _, .nil => by simp
  | _, _, .cons (x := y) (u := u) h => by
    have := strs_any (x := x) h
    rw [List.any_cons, this]
    by_cases e : y = x
    · subst e; simp [Value.isStr]
    · have e' : x ≠ y := fun q => e q.symm
      have : (Value.str y u).isStr x = false := by simpa [Value.isStr] using e
      simp [this, e']
theorem StrsAre.eqAt {x : Str} {t : Tok} {B : Around} {s : Shared} : ∀ {vs : List Value} {xs : List Str}, StrsAre vs xs → ∀ y ∈ vs, SeqAt.EqAt B s y (.str x t) (y.isStr x)
  | _, _, .nil, _, hy => nomatch hy
  | _, _, .cons (x := z) (u := u) h, y, hy => by
    rcases List.mem_cons.mp hy with rfl | hy
    · exact SeqAt.EqAt.str_str z u x t
    · exact h.eqAt y hy
theorem e_in {xs : List Str} {x : Str} (hl : HL c.w H ld a vs) (hs : StrsAre vs xs) (z : K (.bool (decide (x ∈ xs))) l H ld) : Stp k (Sp c l H ld (compareOp .In (.str x u) (.ref a)) K) := .mk fun h t A =>
  SeqAt.in_listAt (fun v => v.isStr x) (hl.at_ A) (fun y hy => hs.eqAt y (by simpa using hy)) (by rw [List.any_toArray, strs_any hs]; exact .mk l H ld h t A z)
theorem e_notin {xs : List Str} {x : Str} (hl : HL c.w H ld a vs) (hs : StrsAre vs xs) (z : K (.bool (!decide (x ∈ xs))) l H ld) : Stp k (Sp c l H ld (compareOp .NotIn (.str x u) (.ref a)) K) := .mk fun h t A =>
  SeqAt.notIn_listAt (fun v => v.isStr x) (hl.at_ A) (fun y hy => hs.eqAt y (by simpa using hy)) (by rw [List.any_toArray, strs_any hs]; exact .mk l H ld h t A z)
theorem e_inF {xs : List Str} {x : Str} (hl : HL c.w H ld a vs) (hs : StrsAre vs xs) (hx : x ∉ xs) (z : K (.bool false) l H ld) : Stp k (Sp c l H ld (compareOp .In (.str x u) (.ref a)) K) := e_in hl hs (by rw [decide_eq_false hx]; exact z)
theorem e_inT {xs : List Str} {x : Str} (hl : HL c.w H ld a vs) (hs : StrsAre vs xs) (hx : x ∈ xs) (z : K (.bool true) l H ld) : Stp k (Sp c l H ld (compareOp .In (.str x u) (.ref a)) K) := e_in hl hs (by rw [decide_eq_true hx]; exact z)
theorem e_notinF {xs : List Str} {x : Str} (hl : HL c.w H ld a vs) (hs : StrsAre vs xs) (hx : x ∈ xs) (z : K (.bool false) l H ld) : Stp k (Sp c l H ld (compareOp .NotIn (.str x u) (.ref a)) K) := e_notin hl hs (by rw [decide_eq_true hx]; exact z)
theorem e_notinT {xs : List Str} {x : Str} (hl : HL c.w H ld a vs) (hs : StrsAre vs xs) (hx : x ∉ xs) (z : K (.bool true) l H ld) : Stp k (Sp c l H ld (compareOp .NotIn (.str x u) (.ref a)) K) := e_notin hl hs (by rw [decide_eq_false hx]; exact z)
theorem StrsAre.length {vs : List Value} {xs : List Str} (h : StrsAre vs xs) : vs.length = xs.length := by
  induction h with
  | nil => rfl
  | cons _ ih => simp [ih]
theorem StrsAre.append {vs us : List Value} {xs ys : List Str} (h : StrsAre vs xs) (k : StrsAre us ys) : StrsAre (vs ++ us) (xs ++ ys) := by
  induction h with
  | nil => exact k
  | cons _ ih => exact .cons ih
theorem StrsAre.snoc {vs : List Value} {xs : List Str} {x : Str} {u : Tok} (h : StrsAre vs xs) : StrsAre (vs ++ [.str x u]) (xs ++ [x]) := h.append (.cons .nil)
theorem StrsAre.get {vs : List Value} {xs : List Str} (h : StrsAre vs xs) : ∀ {i : Nat} {x : Str}, xs[i]? = some x → ∃ u, vs[i]? = some (.str x u) := by
  induction h with
  | nil => intro i x e; simp at e
  | cons h ih =>
    intro i x e
    cases i with
    | zero => simp at e; subst e; exact ⟨_, rfl⟩
    | succ i => exact ih (by simpa using e)
theorem my_iaddB {A : Around} {s : Shared} {Q E : Value → Shared → Prop} {w : World} {l b : Addr} {items items2 : Array Value} {n n2 : Nat} (hl : s.heap.get? l = some (listOf items n)) (hb : s.heap.get? b = some (listOf items2 n2)) (hs1 : items.size + items2.size ≤ 1000)
    (h : Q (.ref l) { s with heap := s.heap.update l (Obj.mapSeq fun x => x ++ items2) }) : wpAny (model PG w) A (inplaceOp .Add (.ref l) (.ref b)) Q E s := by
  have hT : s.TypeIs (.ref l) "list" := ⟨_, hl, rfl⟩
  have hT2 : s.TypeIs (.ref b) "list" := ⟨_, hb, rfl⟩
  have hf := PySem.F.slot_list_iadd.lookup
  have hs : isSeqSlot (some (.builtin "list.__iadd__")) = true := by decide +kernel
  have hfi : fillsInplaceSlot (.type "list") "add" (Operator.Add == .Add) = pure false := by
    unfold fillsInplaceSlot
    show (typeLookup (.type "list") (dunderI "add") >>= fun fi => pure (fi.isSome && !isSeqSlot fi)) = pure false
    rw [hf]
    show (Sem.pure ((some (Value.builtin "list.__iadd__")).isSome && !isSeqSlot (some (.builtin "list.__iadd__"))) : Sem Bool) = _
    rw [hs]; rfl
  unfold inplaceOp
  refine wpAny_holding ?_
  refine wpAny_bind (wpAny_typeOf hT (wpAny_bind (wpAny_of_eq hfi ?_)))
  show wpAny _ A (if false = true then _ else _) Q E s
  rw [if_neg Bool.false_ne_true]
  refine wpAny_bind (wpAny_binaryOp1_none (nm := "add") hT hT2 noFill_list_add ?_)
  refine wpAny_bind (wpAny_of_eq (PySem.seqSlot_of hf hs) ?_)
  refine wpAny_bind (wpAny_rule ?_)
  have h1000 : (1000 : Nat) ≤ sizeLine := by rw [sizeLine_eq]; decide
  refine call_meets PySem.F.slot_list_iadd hT PySem.F.entry_list_iadd (PySem.F.args_list_iadd_2 _ _) (PySem.AutoSeq1.list___iadd___list_list_0 l items n b items2 n2 ?_ (by omega) (by omega)) ⟨hl, hb, h⟩
  simp only [Builtin.List.listTooLong, Bool.and_eq_true, decide_eq_true_eq, not_and]
  intro _ h2
  omega
theorem e_iadd (U : Up a (.li vs) (.li (vs ++ us)) ld ld') (hb : (b, Ds.li us) ∈ ld) (hz : vs.length + us.length ≤ 1000) (z : K (.ref a) l H ld') : Stp k (Sp c l H ld (inplaceOp .Add (.ref a) (.ref b)) K) := .mk fun h t A => by
  obtain ⟨m, R, o, S, F, e, ⟨n, rfl⟩, N, hR, bk⟩ := A.upd1 U (fun h => h)
  obtain ⟨_, o2, e2, n2, rfl⟩ := A.oat hb
  have q := N _ (.head _)
  refine my_iaddB (s := ⟨h, c.G, c.D, t, c.O⟩) e e2 (by simpa using hz) (.mk l H ld' _ t (bk _ (listOf (vs ++ us).toArray (if (vs ++ us).toArray.size == vs.toArray.size then n else n + 1)) (F.change (Heap.SameBut.update ..) q.2.1 q.2.2) (ki_turn (pre := []) _ N (fun _ h => nomatch h) hR (by simp) rfl) ⟨_, rfl⟩) z)
theorem gm_list {A : Around} {s : Shared} {Q : Value × List Value → Shared → Prop} {E : Value → Shared → Prop} {w : World} {name : Str} {id : String} {pl : Sem Bool} {o : Obj} (e : s.heap.get? a = some o) (hc : o.cls = .type "list") (slot : Slot "list" name id) (ty : typeOf (.builtin id) = pure (.type "method_descriptor")) (h : Q (.builtin id, [.ref a]) s)
    (hd : o.dict = none) : wpAny (model PG w) A (getMethod (.ref a) name pl) Q E s := getMethod_builtin ⟨o, e, hc⟩ PySem.F.plainAttrs_list slot ty (fun b hb => by cases hb; exact ⟨o, e, hd⟩) h
theorem e_gmA {KM : Kt (Value × List Value)} {pl : Sem Bool} (m : (a, Ds.li vs) ∈ ld) (z : KM (.builtin "list.append", [.ref a]) l H ld) : Stp k (Sp c l H ld (getMethod (.ref a) (Str.ofString "append") pl) KM) := .mk fun h t A => by
  obtain ⟨_, o, e, n, rfl⟩ := A.oat m
  exact gm_list e rfl PySem.F.slot_list_append PySem.F.type_list_append (.mk l H ld h t A z) rfl
theorem e_gmP {KM : Kt (Value × List Value)} {pl : Sem Bool} (m : (a, Ds.li vs) ∈ ld) (z : KM (.builtin "list.pop", [.ref a]) l H ld) : Stp k (Sp c l H ld (getMethod (.ref a) (Str.ofString "pop") pl) KM) := .mk fun h t A => by
  obtain ⟨_, o, e, n, rfl⟩ := A.oat m
  exact gm_list e rfl PySem.F.slot_list_pop PySem.F.type_list_pop (.mk l H ld h t A z) rfl
theorem e_tupOf (hl : HL c.w H ld a vs) (hz : vs.length ≤ 1000) (z : ∀ D : Addr, K (.ref D) l H ((D, .ob (tupOf vs)) :: ld)) : Stp k (Sp c l H ld (call (.type "tuple") [.ref a]) K) := .mk fun h t A => by
  exact call_tuple_list (hl.at_ A) (fun h' hk => .mk l H _ _ t ((A.ext hk).push (d := .ob (tupOf vs)) (tupOf vs) (Eq.refl _)) (by simpa [tupOf] using z h'.objs.size)) (by rw [List.size_toArray, sizeLine_eq]; omega)
end
section
variable {w : World} {K : Type} [DecidableEq K] {knd : KeyKind PG w K}
theorem DicO.at_ {h : Heap} {a : Addr} {o : Obj} {kvs : List (K × Value)} (t : DicO knd o kvs) (e : h.get? a = some o) : h.DictOf knd a kvs := let ⟨es, ep, x⟩ := t; ⟨o, es, ep, e, x⟩
theorem DicO.of {h : Heap} {a : Addr} {kvs : List (K × Value)} (t : h.DictOf knd a kvs) : ∃ o, h.get? a = some o ∧ DicO knd o kvs := let ⟨o, es, ep, e, x⟩ := t; ⟨o, e, es, ep, x⟩
noncomputable def emptyD : Obj := { cls := .type "dict", data := .dict #[] }
theorem emptyD_dic : DicO knd emptyD [] := ⟨#[], 0, ⟨rfl, rfl, rfl⟩, rfl, fun _ he => by simp at he, Pairs.nil, List.nodup_nil⟩
end
theorem emptyD_tab {w : World} : TabO w emptyD [] := ⟨#[], 0, ⟨rfl, rfl, rfl⟩, rfl, rfl, List.nodup_nil⟩
theorem valueAt_stored {K : Type} [DecidableEq K] (kvs : List (K × Value)) (k : K) (v : Value) : ∀ x, valueAt (stored kvs k v) x = if x = k then some v else valueAt kvs x := by
  intro x
  unfold stored
  by_cases ha : (kvs.any fun kv => decide (kv.1 = k)) = true
  · rw [if_pos ha]
    induction kvs with
    | nil => simp at ha
    | cons p r ih =>
      unfold valueAt at ih ⊢
      rw [List.map_cons, List.find?_cons, List.find?_cons]
      by_cases hp : p.1 = k
      · rw [if_pos hp]
        by_cases hx : x = k
        · subst hx; simp [hp]
        · have h1 : ¬ p.1 = x := fun e => hx (e ▸ hp)
          rw [if_neg hx]
          simp only [h1, decide_false]
          by_cases hr : (r.any fun kv => decide (kv.1 = k)) = true
          · have := ih hr; rw [if_neg hx] at this; exact this
          · have hm : (r.map fun kv => if kv.1 = k then (kv.1, v) else kv) = r := by
              refine PySem.map_store_of_not_mem r k v fun hmem => hr ?_
              rw [List.any_eq_true]
              refine elEA (List.mem_map.mp hmem) ?_; rintro q hq e
              exact ⟨q, hq, by simpa using e⟩
            rw [hm]
      · rw [if_neg hp]
        have hr : (r.any fun kv => decide (kv.1 = k)) = true := by simpa [hp] using ha
        by_cases hx : p.1 = x
        · have hxk : ¬ x = k := fun e => hp (hx.trans e)
          rw [if_neg hxk]; simp [hx]
        · have := ih hr
          simp only [hx, decide_false]
          exact this
  · rw [if_neg ha]
    unfold valueAt
    rw [List.find?_append]
    by_cases hx : x = k
    · subst hx
      rw [if_pos rfl]
      have : (kvs.find? fun kv => decide (kv.1 = x)) = none := by
        rw [List.find?_eq_none]
        intro q hq hq2
        exact ha (List.any_eq_true.mpr ⟨q, hq, hq2⟩)
      rw [this]; simp
    · rw [if_neg hx]
      have : ¬ k = x := fun e => hx e.symm
      cases kvs.find? (fun kv => decide (kv.1 = x)) with
      | none => simp [this]
      | some q => simp
theorem valueAt_self {K : Type} [DecidableEq K] {kvs : List (K × Value)} {k : K} {v : Value} : valueAt (stored kvs k v) k = some v := (valueAt_stored kvs k v k).trans (if_pos rfl)
theorem valueAt_ne {K : Type} [DecidableEq K] {kvs : List (K × Value)} {k x : K} {v : Value} (h : x ≠ k) : valueAt (stored kvs k v) x = valueAt kvs x := (valueAt_stored kvs k v x).trans (if_neg h)
section
variable {c : Cf} {k : Nat} {l : List (Str × Value)} {H : Heap} {ld ld' : LD} {h : Heap} {a : Addr} {d d' : Ds} {R : Kt Value} {RU : Kt Unit} {v key : Value}
variable {K : Type} [DecidableEq K] {knd : KeyKind PG c.w K} {kvs : List (K × Value)} {x : K}
theorem Hd.dict (y : Hd c.w H ld a d) (hi : isD d = true) (s : ∀ o, Sat c.w d o → DicO knd o kvs) (A : At c l H ld h) : h.DictOf knd a kvs ∧ (a == sysModules) = false := by
  obtain ⟨nm, o, e, z⟩ := y.at_ A
  exact ⟨(s o z).at_ e, nm hi⟩
theorem d_in (y : Hd c.w H ld a d) (hi : isD d = true) (s : ∀ o, Sat c.w d o → DicO knd o kvs) (hk : knd.is x key = true) {o : Option Value} (e : valueAt kvs x = o) (z : R (.bool o.isSome) l H ld) : Stp k (Sp c l H ld (compareOp .In key (.ref a)) R) := .mk fun h t A =>
  wpAny_in_of hk (y.dict hi s A).2 (y.dict hi s A).1.mapOf (.mk l H ld h _ A (by subst e; exact z))
theorem d_notin (y : Hd c.w H ld a d) (hi : isD d = true) (s : ∀ o, Sat c.w d o → DicO knd o kvs) (hk : knd.is x key = true) {o : Option Value} (e : valueAt kvs x = o) (z : R (.bool (!o.isSome)) l H ld) : Stp k (Sp c l H ld (compareOp .NotIn key (.ref a)) R) := .mk fun h t A =>
  wpAny_notIn_of hk (y.dict hi s A).2 (y.dict hi s A).1.mapOf (.mk l H ld h _ A (by subst e; exact z))
theorem d_get (y : Hd c.w H ld a d) (hi : isD d = true) (s : ∀ o, Sat c.w d o → DicO knd o kvs) (hk : knd.is x key = true) (e : valueAt kvs x = some v) (z : R v l H ld) : Stp k (Sp c l H ld (getItem (.ref a) key) R) := .mk fun h t A =>
  wpAny_getItem_of hk (y.dict hi s A).1.mapOf e (.mk l H ld h _ A z)
theorem d_tail {value slice : PySem.Expr} (y : Hd c.w H ld a d) (hi : isD d = true) (s : ∀ o, Sat c.w d o → DicO knd o kvs) (hk : knd.is x key = true) (e : valueAt kvs x = some v) (z : R v l H ld)
    (hs : subscripted slice false (.ref a) key = operate [.ref a, key] (getItem (.ref a) key)) : Stp k (Sp c l H ld (subscriptTail value slice (.ref a) key) R) := .mk fun h t A =>
  tail_any (y.dict hi s A).1.typeIs slot_dict_getitem.lookup (wpAny_getItem_of hk (y.dict hi s A).1.mapOf e (.mk l H ld h _ A z)) hs
theorem d_set (U : Up a d d' ld ld') (hi : isD d = true) (s : ∀ o, Sat c.w d o → DicO knd o kvs) (s' : ∀ o, DicO knd o (stored kvs x v) → Sat c.w d' o) (hk : knd.is x key = true) (hz : kvs.length ≤ 10000) (z : RU () l H ld') : Stp k (Sp c l H ld (setItem (.ref a) key v) RU) := .mk fun h t A => by
  obtain ⟨m, S, F⟩ := A.ex
  obtain ⟨_, o, e, so⟩ := A.oat U.mem
  refine wpAny_setItem_pairs hk ((s o so).at_ e) (fun h' hD hs => ?_) (by rw [sizeLine_eq]; omega)
  obtain ⟨o', ho', hT'⟩ := DicO.of hD
  exact .mk l H ld' h' _ (A.chg U (fun _ => hi) S (F.change hs (A.offL U.mem) (A.offg (.tail _ U.mem))) (fun b o e n _ => (hs.2 b n).trans e) ⟨o', ho', s' o' hT'⟩) z
theorem d_gm {RM : Kt (Value × List Value)} {pl : Sem Bool} (y : Hd c.w H ld a d) (hi : isD d = true) (s : ∀ o, Sat c.w d o → DicO knd o kvs) (z : RM (.builtin "dict.get", [.ref a]) l H ld) : Stp k (Sp c l H ld (getMethod (.ref a) (Str.ofString "get") pl) RM) := .mk fun h t A =>
  getMethod_builtin (y.dict hi s A).1.mapOf.typeIs PySem.F.plainAttrs_dict PySem.F.slot_dict_get PySem.F.type_dict_get (y.dict hi s A).1.mapOf.noDict (.mk l H ld h t A z)
theorem d_get2 {dflt : Value} (y : Hd c.w H ld a d) (hi : isD d = true) (s : ∀ o, Sat c.w d o → DicO knd o kvs) (hk : knd.is x key = true) {o : Option Value} (e : valueAt kvs x = o) (z : R (o.getD dflt) l H ld) : Stp k (Sp c l H ld (call (.builtin "dict.get") [.ref a, key, dflt]) R) := .mk fun h t A =>
  call_meetsIn PySem.F.slot_dict_get (y.dict hi s A).1.mapOf.typeIs PySem.F.entry_dict_get (PySem.F.args_dict_get_3 _ _ _) (meets_dict_get_default knd a hk (y.dict hi s A).2 dflt) ⟨_, (y.dict hi s A).1.mapOf, .mk l H ld h _ A (by subst e; exact z)⟩
theorem d_get1 (y : Hd c.w H ld a d) (hi : isD d = true) (s : ∀ o, Sat c.w d o → DicO knd o kvs) (hk : knd.is x key = true) {o : Option Value} (e : valueAt kvs x = o) (z : R (o.getD .none) l H ld) : Stp k (Sp c l H ld (call (.builtin "dict.get") [.ref a, key]) R) := .mk fun h t A =>
  call_meetsIn PySem.F.slot_dict_get (y.dict hi s A).1.mapOf.typeIs PySem.F.entry_dict_get (PySem.F.args_dict_get_2 _ _) (meets_dict_get knd a hk (y.dict hi s A).2) ⟨_, (y.dict hi s A).1.mapOf, .mk l H ld h _ A (by subst e; exact z)⟩
end
section
variable {c : Cf} {k : Nat} {l : List (Str × Value)} {H : Heap} {ld ld' : LD} {a : Addr} {R : Kt Value} {RU : Kt Unit} {v : Value} {u : Tok}
section
variable {kvs : List (Str × Value)} {x : Str}
theorem s_inT {v : Value} (y : Hd c.w H ld a (.sd kvs)) (e : valueAt kvs x = some v) (z : R (.bool true) l H ld) : Stp k (Sp c l H ld (compareOp .In (.str x u) (.ref a)) R) := d_in y rfl (fun _ h => h) (strKind_is _ _ _ _) e z
theorem s_inF (y : Hd c.w H ld a (.sd kvs)) (e : valueAt kvs x = none) (z : R (.bool false) l H ld) : Stp k (Sp c l H ld (compareOp .In (.str x u) (.ref a)) R) := d_in y rfl (fun _ h => h) (strKind_is _ _ _ _) e z
theorem s_in (y : Hd c.w H ld a (.sd kvs)) (z : R (.bool (valueAt kvs x).isSome) l H ld) : Stp k (Sp c l H ld (compareOp .In (.str x u) (.ref a)) R) := d_in y rfl (fun _ h => h) (strKind_is _ _ _ _) rfl z
theorem s_notinF {v : Value} (y : Hd c.w H ld a (.sd kvs)) (e : valueAt kvs x = some v) (z : R (.bool false) l H ld) : Stp k (Sp c l H ld (compareOp .NotIn (.str x u) (.ref a)) R) := d_notin y rfl (fun _ h => h) (strKind_is _ _ _ _) e z
theorem s_notinT (y : Hd c.w H ld a (.sd kvs)) (e : valueAt kvs x = none) (z : R (.bool true) l H ld) : Stp k (Sp c l H ld (compareOp .NotIn (.str x u) (.ref a)) R) := d_notin y rfl (fun _ h => h) (strKind_is _ _ _ _) e z
theorem s_tail {value slice : PySem.Expr} (y : Hd c.w H ld a (.sd kvs)) (e : valueAt kvs x = some v) (z : R v l H ld) (hs : subscripted slice false (.ref a) (.str x u) = operate [.ref a, .str x u] (getItem (.ref a) (.str x u))) :
    Stp k (Sp c l H ld (subscriptTail value slice (.ref a) (.str x u)) R) := d_tail y rfl (fun _ h => h) (strKind_is _ _ _ _) e z hs
theorem s_set (U : Up a (.sd kvs) (.sd (stored kvs x v)) ld ld') (hz : kvs.length ≤ 10000) (z : RU () l H ld') : Stp k (Sp c l H ld (setItem (.ref a) (.str x u) v) RU) := d_set U rfl (fun _ h => h) (fun _ h => h) (strKind_is _ _ _ _) hz z
theorem s_gm {RM : Kt (Value × List Value)} {pl : Sem Bool} (y : Hd c.w H ld a (.sd kvs)) (z : RM (.builtin "dict.get", [.ref a]) l H ld) : Stp k (Sp c l H ld (getMethod (.ref a) (Str.ofString "get") pl) RM) := d_gm y rfl (fun _ h => h) z
theorem s_get2 {dflt : Value} {o : Option Value} (y : Hd c.w H ld a (.sd kvs)) (e : valueAt kvs x = o) (z : R (o.getD dflt) l H ld) : Stp k (Sp c l H ld (call (.builtin "dict.get") [.ref a, .str x u, dflt]) R) := d_get2 y rfl (fun _ h => h) (strKind_is _ _ _ _) e z
end
section
variable {kvs : List (Int × Value)} {x : Int}
theorem i_inT {v : Value} (y : Hd c.w H ld a (.nd kvs)) (e : valueAt kvs x = some v) (z : R (.bool true) l H ld) : Stp k (Sp c l H ld (compareOp .In (.int x u) (.ref a)) R) := d_in y rfl (fun _ h => h) (intKind_is _ _ _ _) e z
theorem i_inF (y : Hd c.w H ld a (.nd kvs)) (e : valueAt kvs x = none) (z : R (.bool false) l H ld) : Stp k (Sp c l H ld (compareOp .In (.int x u) (.ref a)) R) := d_in y rfl (fun _ h => h) (intKind_is _ _ _ _) e z
theorem i_set (U : Up a (.nd kvs) (.nd (stored kvs x v)) ld ld') (hz : kvs.length ≤ 10000) (z : RU () l H ld') : Stp k (Sp c l H ld (setItem (.ref a) (.int x u) v) RU) := d_set U rfl (fun _ h => h) (fun _ h => h) (intKind_is _ _ _ _) hz z
theorem i_gm {RM : Kt (Value × List Value)} {pl : Sem Bool} (y : Hd c.w H ld a (.nd kvs)) (z : RM (.builtin "dict.get", [.ref a]) l H ld) : Stp k (Sp c l H ld (getMethod (.ref a) (Str.ofString "get") pl) RM) := d_gm y rfl (fun _ h => h) z
theorem i_get1 {o : Option Value} (y : Hd c.w H ld a (.nd kvs)) (e : valueAt kvs x = o) (z : R (o.getD .none) l H ld) : Stp k (Sp c l H ld (call (.builtin "dict.get") [.ref a, .int x u]) R) := d_get1 y rfl (fun _ h => h) (intKind_is _ _ _ _) e z
end
theorem e_dict0 {env : Env} {pos : Pos} {d : Ds} (hs : Sat c.w d emptyD) (z : ∀ a : Addr, R (.ref a) l H ((a, d) :: ld)) : Stp k (Sp c l H ld (eval (.Dict [] [] pos) env) R) := .mk fun h t A =>
  wpAny_Dict_empty (.mk l H _ _ t (A.push emptyD hs) (z _))
end
theorem TabO.dict {w : World} {h : Heap} {tb : Addr} {o : Obj} {xs : CX} (t : TabO w o xs) (ho : h.get? tb = some o) (hk : ∀ x ∈ xs, IsPair (prog := PG) (w := w) h x.1 x.2.1) : h.DictOfH (KD w) tb xs := by
  refine elEEAAA t ?_; (try clear t); rintro es ep a b c d
  exact ⟨o, es, ep, ho, a, b, c, hk, d⟩
theorem TabO.of {w : World} {h : Heap} {tb : Addr} {xs : CX} (t : h.DictOfH (KD w) tb xs) : ∃ o, h.get? tb = some o ∧ TabO w o xs ∧ ∀ x ∈ xs, IsPair (prog := PG) (w := w) h x.1 x.2.1 := by
  refine elEEEAAAAA t ?_; (try clear t); rintro o es ep ho a b c hk d
  exact ⟨o, ho, ⟨es, ep, a, b, c, d⟩, hk⟩
structure PrAt (w : World) (H : Heap) (ld : LD) (k : Str × List Str) (a : Addr) : Prop where
  ex : ∃ u b vs, Hd w H ld a (.ob (tupOf [.str k.1 u, .ref b])) ∧ Hd w H ld b (.ob (tupOf vs)) ∧ StrsAre vs k.2
theorem strs_items {w : World} {vs : List Value} {xs : List Str} (h : StrsAre vs xs) : ItemsAre (SK PG w) xs vs := by
  induction h with
  | nil => exact .nil
  | cons _ ih => exact .cons (by exact strKind_is _ _ _ _) ih
section
variable {K0 : Params → Frag} {V : Program} {cc : CC} {c : Cf} {dz k : Nat} {l : List (Str × Value)} {H : Heap} {ld ld' : LD} {h : Heap} {tb t : Addr} {xs : CX} {key : Str × List Str} {R : Kt Value} {RU : Kt Unit} {v : Value}
theorem PrAt.at_ (y : PrAt c.w H ld key t) (A : At c l H ld h) : IsPair (prog := PG) (w := c.w) h key t := by
  refine elEEEAA y.ex ?_; rintro u b vs x1 x2 hS
  obtain ⟨_, o, e1, rfl⟩ := x1.at_ A
  obtain ⟨_, o2, e2, rfl⟩ := x2.at_ A
  exact ⟨_, 0, u, b, e1, rfl, rfl, _, _, 0, e2, rfl, rfl, strs_items hS⟩
theorem units_ok (Z : ZOk K0 V cc c dz) : c.A.in1.units + 5 < cLine := by have := Z.hu; show c.A.units + 1 + 5 < 9900; omega
theorem t_notin (Z : ZOk K0 V cc c dz) (y : Hd c.w H ld tb (.tb xs)) (hk : ∀ x ∈ xs, PrAt c.w H ld x.1 x.2.1) (hkey : PrAt c.w H ld key t) {o : Option (Addr × Value)} (e : atKey xs key = o) (z : R (.bool (!o.isSome)) l H ld) : Stp k (Sp c l H ld (compareOp .NotIn (.ref t) (.ref tb)) R) := .mk fun h tk A => by
  obtain ⟨nm, o, e1, s⟩ := y.at_ A
  exact wpAny_notIn_heap (knd := KD c.w) (units_ok Z) (hkey.at_ A) (nm rfl) (TabO.dict s e1 fun x hx => (hk x hx).at_ A) (.mk l H ld h _ A (by subst e; exact z))
theorem t_get (Z : ZOk K0 V cc c dz) {value slice : PySem.Expr} {p : Addr × Value} (y : Hd c.w H ld tb (.tb xs)) (hk : ∀ x ∈ xs, PrAt c.w H ld x.1 x.2.1) (hkey : PrAt c.w H ld key t) (e : atKey xs key = some p) (z : R p.2 l H ld)
    (hs : subscripted slice false (.ref tb) (.ref t) = operate [.ref tb, .ref t] (getItem (.ref tb) (.ref t))) : Stp k (Sp c l H ld (subscriptTail value slice (.ref tb) (.ref t)) R) := .mk fun h tk A => by
  obtain ⟨nm, o, e1, s⟩ := y.at_ A
  have D := TabO.dict s e1 fun x hx => (hk x hx).at_ A
  have hT : (⟨h, c.G, c.D, tk, c.O⟩ : Shared).TypeIs (.ref tb) "dict" := by obtain ⟨es, ep, a, b, _⟩ := s; exact ⟨o, e1, a.1⟩
  exact tail_any hT slot_dict_getitem.lookup (wpAny_getItem_heap (knd := KD c.w) (units_ok Z) (hkey.at_ A) D e (.mk l H ld h _ A z)) hs
theorem t_set (Z : ZOk K0 V cc c dz) (U : Up tb (.tb xs) (.tb (storedH xs key t v)) ld ld') (hk : ∀ x ∈ xs, PrAt c.w H ld x.1 x.2.1) (hkey : PrAt c.w H ld key t) (hz : xs.length ≤ 10000) (z : RU () l H ld') : Stp k (Sp c l H ld (setItem (.ref tb) (.ref t) v) RU) := .mk fun h tk A => by
  obtain ⟨m, S, F⟩ := A.ex
  obtain ⟨_, o, e, so⟩ := A.oat U.mem
  refine wpAny_setItem_heap (knd := KD c.w) (units_ok Z) (hkey.at_ A) (TabO.dict so e fun x hx => (hk x hx).at_ A) (fun h' hD hs => ?_) (by rw [sizeLine_eq]; omega)
  obtain ⟨o', ho', hT', _⟩ := TabO.of hD
  exact .mk l H ld' h' _ (A.chg U (fun h => h) S (F.change hs (A.offL U.mem) (A.offg (.tail _ U.mem))) (fun b o e n _ => (hs.2 b n).trans e) ⟨o', ho', hT'⟩) z
end
section
variable {K0 : Params → Frag} {V : Program} {cc : CC} {c : Cf} {dz k : Nat} {l : List (Str × Value)} {H : Heap} {ld ld' : LD} {a : Addr} {x : Str} {R : Kt Value} {RU : Kt Unit} {v : Value} {v0 : Option Value}
theorem e_ldC (Z : ZOk K0 V cc c dz) (hx : hasS cc.ce x = true) (hc : c.cl.lookup x = some a) (y : (a, Ds.ce (some v)) ∈ ld) (z : R v l H ld) : Stp k (Sp c l H ld (loadName (envE cc c) x) R) := .mk fun h t A => by
  obtain ⟨_, o, e, s⟩ := A.oat y
  exact wpAny_loadName_cell Z.fn (Z.ce hx).1 hc ⟨o, e, s⟩ (.mk l H ld h t A z)
theorem e_stC (Z : ZOk K0 V cc c dz) (hx : hasS cc.ce x = true) (hc : c.cl.lookup x = some a) (U : Up a (.ce v0) (.ce (some v)) ld ld') (z : RU () l H ld') : Stp k (Sp c l H ld (storeName (envE cc c) x v) RU) := .mk fun h t A => by
  obtain ⟨m, S, F⟩ := A.ex
  obtain ⟨_, o, e, s⟩ := A.oat U.mem
  refine wpAny_storeName_cell Z.fn (Z.ce hx).1 hc ⟨o, e, s⟩ fun h' ⟨o', e', s'⟩ hs => ?_
  exact .mk l H ld' h' _ (A.chg U (fun h => h) S (F.change hs (A.offL U.mem) (A.offg (.tail _ U.mem))) (fun b o e n _ => (hs.2 b n).trans e) ⟨o', e', s'⟩) z
end
noncomputable def turnW (J : Nat → List (Str × Value) → Heap → LD → Prop) (m : Nat) (K : Kt Flow) : Kt Flow := fun fl l H ld => match fl with
  | .ret v => K (.ret v) l H ld
  | .brk => K .next l H ld
  | _ => Stp 17 (∃ m' l' ld' R, m' < m ∧ (∀ p ∈ l', lk l p.1 = some p.2) ∧ Cut ld ld' R ∧ J m' l' H ld')
noncomputable def turnF (w : World) (J : Nat → List (Str × Value) → Heap → LD → Prop) (i : Nat) (I : Addr) (io : Obj) (G : Heap) (K : Kt Flow) : Kt Flow := fun fl l H ld => match fl with
  | .ret v => K (.ret v) l H ld
  | .brk => K .next l H ld
  | _ => Stp 17 (∃ l' ld' R, (∀ p ∈ l', lk l p.1 = some p.2) ∧ Cut ld ((I, .ob io) :: ld') R ∧ Keep G H ∧ ∀ G', Keep H G' → Has w G' R → J (i + 1) l' G' ld')
section
variable {K0 : Params → Frag} {V : Program} {cc : CC} {c : Cf} {dz k : Nat} {l : List (Str × Value)} {H : Heap} {ld : LD} {h : Heap} {K : Kt Flow}
theorem Bk.brk {fin : Kt Flow} {X : Heap → Prop} {b : List Stmt} {s : Shared} (h : dT cc c fin X [.whl b] (.va (.bool false)) s) : Bk c fin .brk s := h
theorem At.sub {l' : List (Str × Value)} {ld' R : LD} (A : At c l H ld h) (a : ∀ p ∈ l', lk l p.1 = some p.2) (cu : Cut ld ld' R) : At c l' H ld' h := by
  refine elEA A.ex ?_; rintro m S F
  have ck := A.cut cu
  refine elA (List.pairwise_cons.mp A.lg.ne) ?_; rintro ne1 ne2
  refine ⟨⟨m, fun y v q => S _ _ (a _ (lk_mem q)), F⟩, A.gH, A.low, A.lg.keep, fun p hp => ?_, fun p hp => ?_, List.pairwise_cons.mpr ⟨fun p hp => ne1 p (ck.a p hp), ck.aa⟩⟩
  · cases hp with
    | head => exact A.lg.off _ (.head _)
    | tail _ hp => exact A.lg.off p (.tail _ (ck.a p hp))
  · cases hp with
    | head => exact A.lg.has _ (.head _)
    | tail _ hp => exact A.lg.has p (.tail _ (ck.a p hp))
theorem At.perm {ld' R : LD} (A : At c l H ld h) (cu : Cut ld ld' R) : At c l H ld' h := by
  have B := A.sub (l' := []) (fun _ h => nomatch h) cu
  exact ⟨A.ex, B.gH, B.low, B.lg⟩
theorem sp_sub {α : Type} {tr : Sem α} {KA : Kt α} {l' : List (Str × Value)} {ld' R : LD} (a : ∀ p ∈ l', lk l p.1 = some p.2) (cu : Cut ld ld' R) (x : Sp c l' H ld' tr KA) : Sp c l H ld tr KA := fun h t A => x h t (A.sub a cu)
theorem sp_cut {α : Type} {tr : Sem α} {KA : Kt α} {ld' R : LD} (cu : Cut ld ld' R) (x : Sp c l H ld' tr KA) : Sp c l H ld tr KA := fun h t A => x h t (A.perm cu)
noncomputable def seqK (c : Cf) (env : Env) (b : List Stmt) (fin : Kt Flow) : Kt Flow := fun f l H ld => match f with
  | .next => Sp c l H ld (execs b env) fin
  | f => fin f l H ld
theorem wpAny_execs_app {M : Model} {A : Around} {E : Value → Shared → Prop} {env : Env} {b1 b2 : List Stmt} {Q : Flow → Shared → Prop} {s : Shared} (h : wpAny M A (execs b1 env) (fun f s' => match f with | .next => wpAny M A (execs b2 env) Q E s' | f => Q f s') E s) : wpAny M A (execs (b1 ++ b2) env) Q E s := fun Γ p hΓ => by
  replace h := h Γ p hΓ
  induction b1 generalizing p s with
  | nil => exact h Γ p hΓ
  | cons x r ih =>
    rw [execs_cons, Sem.wp_bind'] at h
    rw [List.cons_append, execs_cons, Sem.wp_bind']
    refine Sem.wp_mono M Γ _ (fun f p' s' h' => ?_) (fun _ _ _ h' => h') _ _ h
    cases f <;> first | (apply ih; exact h') | exact h'
theorem sp_seq {fin : Kt Flow} {env : Env} {b : List Stmt} (i : Nat) (h : Sp c l H ld (execs (b.take i) env) (seqK c env (b.drop i) fin)) : Sp c l H ld (execs b env) fin := fun h' t A => by
  have e := wpAny_execs_app (b1 := b.take i) (b2 := b.drop i) (Q := Bk c fin) (wpAny_mono (h h' t A) (fun f s x => ?_) fun _ _ e => e)
  · rwa [List.take_append_drop] at e
  · obtain ⟨l, H, ld, h, t, A, x⟩ := x
    cases f with
    | next => exact x h t A
    | _ => exact .mk l H ld h t A x
noncomputable def nodupN : List (Str × Value) → Bool
  | [] => true
  | p :: l => !(l.any fun q => q.1 == p.1) && nodupN l
theorem lk_all : ∀ {l : List (Str × Value)}, nodupN l = true → ∀ p ∈ l, lk l p.1 = some p.2
  | q :: l, h, p, hp => by
    obtain ⟨h1, h2⟩ := andTT h
    rcases List.mem_cons.mp hp with rfl | hp
    · show cond (p.1 == p.1) (some p.2) (lk l p.1) = _
      rw [beq_self_eq_true]; rfl
    · have ne : (p.1 == q.1) = false := by
        cases e : p.1 == q.1 with
        | false => rfl
        | true => exact absurd e (List.any_eq_false.mp (notT h1) p hp)
      show cond (p.1 == q.1) (some q.2) (lk l p.1) = _
      rw [ne]; exact lk_all h2 p hp
theorem lk_rest {l l' : List (Str × Value)} (n : Nat) (e : l'.drop n = l) (h : nodupN l' = true) : ∀ p ∈ l, lk l' p.1 = some p.2 := fun p hp => lk_all h p (List.mem_of_mem_drop (e ▸ hp))
theorem lk_same {l : List (Str × Value)} (h : nodupN l = true) : ∀ p ∈ l, lk l p.1 = some p.2 := lk_all h
theorem e_while {test : PySem.Expr} {body : List Stmt} {pos : Pos} (n : Nat) (J : Nat → List (Str × Value) → Heap → LD → Prop) (m : Nat) (Z : ZOk K0 V cc c dz) {ld0 R0 : LD} (cu : Cut ld ld0 R0) (hj : J m l H ld0)
    (turn : ∀ m l H ld, J m l H ld → run cc c (turnW J m K) n (.te test) [.whl body] l H ld) : Stp k (Sp c l H ld (exec (.While test body [] pos) (envE cc c)) K) := by
  refine .mk fun h t A => wpAny_While (codeAny_whileLoop (fun m s => ∃ l H ld h t, s = ⟨h, c.G, c.D, t, c.O⟩ ∧ At c l H ld h ∧ J m l H ld) ?_ m ⟨l, H, ld0, h, t, rfl, A.perm cu, hj⟩)
  intro m _ zI1; refine elEEEEEAA zI1 ?_; (try clear zI1); rintro l H ld h t rfl A hj
  refine wpAny_mono (run_snd Z.toEOk n (.te test) [.whl body] _ _ _ (turn m l H ld hj) h t A) (fun b s₂ hb => ?_) Z.pe
  cases b with
  | false =>
    simp only [Bool.false_eq_true, if_false]
    obtain ⟨l, H, ld, h, t, A, x⟩ := Bk.brk hb
    exact wpAny_execs_nil (.mk l H ld h t A x)
  | true =>
    simp only [if_true]
    refine wpAny_mono hb (fun fl s₃ hf => ?_) Z.pe
    obtain ⟨l, H, ld, h, t, A, x⟩ := (show Bk c (turnW J m K) fl s₃ from hf)
    have nx : Stp 17 (∃ m' l' ld' R, m' < m ∧ (∀ p ∈ l', lk l p.1 = some p.2) ∧ Cut ld ld' R ∧ J m' l' H ld') → ∃ m', m' < m ∧ ∃ l' H' ld' h' t', (⟨h, c.G, c.D, t, c.O⟩ : Shared) = ⟨h', c.G, c.D, t', c.O⟩ ∧ At c l' H' ld' h' ∧ J m' l' H' ld' := fun x => by
      refine elEEEEAAA (Stp.get x) ?_; rintro m' l' ld' R a1 a2 a3 a4
      exact ⟨m', a1, l', H, ld', h, t, rfl, A.sub a2 a3, a4⟩
    cases fl with
    | ret v => exact .mk l H ld h t A x
    | brk => exact .mk l H ld h t A x
    | next => exact nx x
    | cont => exact nx x
theorem At.but {I : Addr} {d d' : Ds} {h' : Heap} (A : At c l H ((I, d) :: ld) h) (hi : isD d' = true → isD d = true) (kb : ∀ b o, b ≠ I → h.get? b = some o → h'.get? b = some o) (e : ∃ o, h'.get? I = some o ∧ Sat c.w d' o) : At c l H ((I, d') :: ld) h' := by
  refine elEA A.ex ?_; rintro m S F
  obtain ⟨⟨oL, a1, a2, hL, a3⟩, b, ab⟩ := F
  have gI := A.offg (.tail _ (.head _))
  exact A.chg .head hi S ⟨⟨oL, a1, a2, kb _ _ (A.offL (.head _)).symm hL, a3⟩, fun x o e => kb x o (fun q => by rw [q, gI] at e; cases e) (b x o e), ab⟩ (fun b o e n _ => kb b o n e) e
theorem for_core {tgt : PySem.Expr} {body : List Stmt} {I : Addr} {fp : List Addr} {n : Nat} {P : Nat → Value → Prop} {St : Nat → Heap → Prop} (W : Walks PG c.w c.A I fp [I] n P St) (stI : ∀ i h, St i h → ∃ o, h.get? I = some o) (J : Nat → List (Str × Value) → Heap → LD → Prop) (Z : ZOk K0 V cc c dz)
    (ht : ∀ v, letOwnedTupleGo tgt (.ref I) v = pure ()) {io : Obj} (A : At c l H ((I, .ob io) :: ld) h) (h0 : St 0 h) (hfp : ∀ b ∈ fp, b ≠ I → ∃ o, H.get? b = some o) (hj : J 0 l H ld)
    (step : ∀ i v io l H ld, P i v → J i l H ld → Sp c l H ((I, .ob io) :: ld) (assign tgt (envE cc c) v) fun _ l' H' ld' => H' = H ∧ (I, Ds.ob io) ∈ ld' ∧ Sp c l' H' ld' (execs body (envE cc c)) (turnF c.w J i I io H K))
    (done : ∀ l H ld, J n l H ld → K .next l H ld) {t : Nat} {Q : Flow → Shared → Prop} (hQ : ∀ f s, Bk c K f s → Q f s) :
    codeAny (model PG c.w) c.A (.forLoop tgt (.ref I) body [] (envE cc c)) (fun r s' => match r with | .ok f => Q f s' | .error e => cameBackBy (model PG c.w) c.A (envE cc c) c.E e s') ⟨h, c.G, c.D, t, c.O⟩ := by
  refine codeAny_forLoop (fun k s => ∃ i l H ld h t io, i ≤ n ∧ k = n + 1 - i ∧ s = ⟨h, c.G, c.D, t, c.O⟩ ∧ At c l H ((I, .ob io) :: ld) h ∧ St i h ∧ (∀ b ∈ fp, b ≠ I → ∃ o, H.get? b = some o) ∧ J i l H ld) ?_ (n + 1) ⟨0, l, H, ld, h, t, io, Nat.zero_le _, rfl, rfl, A, h0, hfp, hj⟩ ht
  intro k s zI1; refine elEEEEEEEAAAAAA zI1 ?_; (try clear zI1); rintro i l H ld h t io hi rfl rfl A hs hfp hj
  by_cases hlt : i < n
  · refine W.item i _ _ _ hlt hs fun v h' tk' hP hst hk => ?_
    refine elE (stI _ _ hst) ?_; rintro io' hio'
    have A' : At c l H ((I, .ob io') :: ld) h' := A.but (fun h => h) (fun b o n e => hk b o (by simpa using n) e) ⟨io', hio', rfl⟩
    refine wpAny_mono (step i v io' l H ld hP hj h' tk' A') (fun _ s₂ h₂ => ?_) Z.pe
    obtain ⟨l₂, H₂, ld₂, h₂, t₂, A₂, rfl, mI, hr⟩ := h₂
    have fr : ∀ {h₁ h₂ : Heap}, (∀ o, h₁.get? I = some o → h₂.get? I = some o) → Keep H₂ h₁ → Keep H₂ h₂ → ∀ b ∈ fp, ∀ o, h₁.get? b = some o → h₂.get? b = some o := fun a k1 k2 b hb o e => by
      by_cases q : b = I
      · rw [q] at e ⊢; exact a o e
      · refine elE (hfp b hb q) ?_; rintro o' e'
        have := k1 _ _ e'
        rw [e] at this; cases this
        exact k2 _ _ e'
    have atI : ∀ {l : List (Str × Value)} {ld : LD} {H h : Heap}, At c l H ld h → (I, Ds.ob io') ∈ ld → h.get? I = some io' := fun A m => by obtain ⟨_, o, e, rfl⟩ := A.oat m; exact e
    have st₂ : St (i + 1) h₂ := W.frame _ _ _ hst (fr (fun o e => by rw [hio'] at e; cases e; exact atI A₂ mI) A'.lg.keep A₂.lg.keep)
    refine wpAny_mono (hr h₂ t₂ A₂) (fun fl s₃ hb => ?_) Z.pe
    obtain ⟨l₃, H₃, ld₃, h₃, t₃, A₃, x⟩ := (show Bk c (turnF c.w J i I io' H₂ K) fl s₃ from hb)
    have nx : Stp 17 (∃ l' ld' R, (∀ p ∈ l', lk l₃ p.1 = some p.2) ∧ Cut ld₃ ((I, .ob io') :: ld') R ∧ Keep H₂ H₃ ∧ ∀ G', Keep H₃ G' → Has c.w G' R → J (i + 1) l' G' ld') → ∃ m, m < n + 1 - i ∧ ∃ i l H ld h t io, i ≤ n ∧ m = n + 1 - i ∧ (⟨h₃, c.G, c.D, t₃, c.O⟩ : Shared) = ⟨h, c.G, c.D, t, c.O⟩ ∧ At c l H ((I, .ob io) :: ld) h ∧ St i h ∧ (∀ b ∈ fp, b ≠ I → ∃ o, H.get? b = some o) ∧ J i l H ld := fun x => by
      refine elEEEAAA (Stp.get x) ?_; rintro l' ld' R a1 a2 a3 a4
      refine elEAA (A₃.freeze a2) ?_; rintro G g1 g2 AG
      have mI3 : (I, Ds.ob io') ∈ ld₃ := (A₃.cut a2).a _ (.head _)
      have st₃ : St (i + 1) h₃ := W.frame _ _ _ st₂ (fr (fun o e => by rw [atI A₂ mI] at e; cases e; exact atI A₃ mI3) A₂.lg.keep (a3.trans A₃.lg.keep))
      refine ⟨n + 1 - (i + 1), by omega, i + 1, l', G, ld', h₃, t₃, io', hlt, rfl, rfl, ?_, st₃, fun b hb q => ?_, a4 G g1 g2⟩
      · refine elEA AG.ex ?_; rintro m S F
        exact ⟨⟨m, fun y v q => S _ _ (a1 _ (lk_mem q)), F⟩, AG.gH, AG.low, AG.lg⟩
      · refine elE (hfp b hb q) ?_; rintro o e
        exact ⟨o, g1 _ _ (a3 _ _ e)⟩
    cases fl with
    | ret v => exact hQ _ _ (.mk l₃ H₃ ld₃ h₃ t₃ A₃ x)
    | brk => exact hQ _ _ (.mk l₃ H₃ ld₃ h₃ t₃ A₃ x)
    | next => exact nx x
    | cont => exact nx x
  · obtain rfl : i = n := by omega
    refine W.done _ _ _ hs fun h' tk' hk => wpAny_execs_nil (hQ _ _ (.mk l H ld h' tk' ?_ (done l H ld hj)))
    refine elEA A.ex ?_; rintro m S F
    obtain ⟨⟨oL, a1, a2, hL, a3⟩, b, ab⟩ := F
    have gI := A.offg (.tail _ (.head _))
    have kb : ∀ b o, h.get? b = some o → b ∉ [I] → b ≠ c.L → h'.get? b = some o := fun b o e n _ => hk b o n e
    refine A.step (as := [I]) (B := []) S ⟨⟨oL, a1, a2, hk _ _ (by simpa using (A.offL (.head _)).symm) hL, a3⟩, fun x o e => hk x o (fun q => by rw [List.mem_singleton.mp q, gI] at e; cases e) (b x o e), ab⟩ kb (fun x hx => by rw [List.mem_singleton.mp hx]; exact A.lg.off _ (.tail _ (.head _))) (fun p hp => ⟨.tail _ hp, fun q => ?_⟩) (List.pairwise_cons.mp (List.pairwise_cons.mp A.lg.ne).2).2 (fun _ h => nomatch h) .nil
    exact (List.pairwise_cons.mp (List.pairwise_cons.mp A.lg.ne).2).1 p hp (List.mem_singleton.mp q).symm
end
section
variable {K0 : Params → Frag} {V : Program} {cc : CC} {c : Cf} {dz k : Nat} {l : List (Str × Value)} {H : Heap} {ld ld0 R : LD} {K : Kt Flow} {x : Str} {px : Pos} {body : List Stmt} {a : Addr} {vs : List Value}
theorem asg_loc (Z : ZOk K0 V cc c dz) (hx : hasS cc.loc x = true) {v : Value} {KU : Kt Unit} (z : KU () ((x, v) :: l) H ld) : Sp c l H ld (assign (.Name x px) (envE cc c) v) KU := fun h t A => by
  obtain ⟨m, R, S, F, N, _, bk⟩ := A.whole []
  exact wpAny_assign_Name (storeX_L F N (fun h' F' N' => .mk _ H ld h' (t + 1) (A.loc (S.store x v) F' fun b o e n => bk h' _ F' N' b o e (fun q => nomatch q) n) z) Z.fn (Z.loc hx).1)
theorem asg_cel {ca : Addr} {v0 : Option Value} {ld' : LD} (Z : ZOk K0 V cc c dz) (hx : hasS cc.ce x = true) (hc : c.cl.lookup x = some ca) {v : Value} (U : Up ca (.ce v0) (.ce (some v)) ld ld') {KU : Kt Unit} (z : KU () l H ld') : Sp c l H ld (assign (.Name x px) (envE cc c) v) KU := fun h t A =>
  wpAny_assign_Name (Stp.get (e_stC (k := 0) Z hx hc U z) h t A)
noncomputable def FL (w : World) (G : Heap) (a : Addr) (vs : List Value) : Prop := ∃ d, OAt w G a d ∧ liOf d = some vs
theorem FL.at_ {w : World} {G h : Heap} (x : FL w G a vs) (k : Keep G h) : ListAt h a vs := by
  refine elEA x ?_; (try clear x); rintro d ⟨nm, o, e, s⟩ el
  refine elA (sat_list el s) ?_; rintro s1 s2
  exact ⟨o, k _ _ e, s1, s2⟩
theorem FL.hl {w : World} {G : Heap} {ld : LD} {a : Addr} {vs : List Value} (x : FL w G a vs) : HL w G ld a vs := let ⟨d, y, e⟩ := x; ⟨d, .h y, e⟩
theorem FL.keeps {w : World} {G G' : Heap} {a : Addr} {vs : List Value} (x : FL w G a vs) (k : Keep G G') : FL w G' a vs := let ⟨d, y, e⟩ := x; ⟨d, y.keeps k, e⟩
theorem e_forL (nn : Nat) (J : Nat → List (Str × Value) → Heap → LD → Prop) (Z : ZOk K0 V cc c dz) (hx : hasS cc.loc x = true) (cu : Cut ld ld0 R) (h0 : ∀ G, Keep H G → Has c.w G R → FL c.w G a vs ∧ J 0 l G ld0)
    (turn : ∀ i v I io l G ld, vs[i]? = some v → J i l G ld → run cc c (turnF c.w J i I io G K) nn (.ss body) [] ((x, v) :: l) G ((I, .ob io) :: ld))
    (done : ∀ l G ld, J vs.length l G ld → K .next l G ld) : Stp k (Fo cc c l H ld (.Name x px) body (.ref a) K) := .mk fun h t A Q hQ => by
  obtain ⟨G, g1, g2, AG⟩ := A.freeze cu
  obtain ⟨fl, hj⟩ := h0 G g1 g2
  have hla := fl.at_ AG.lg.keep
  obtain ⟨oa, ea, _⟩ := fl.at_ (Keep.refl G)
  obtain ⟨ob, eb, _⟩ := id hla
  refine wpAny_pyIter_list (s := ⟨h, c.G, c.D, t, c.O⟩) hla ?_
  have W := Walks.list (prog := PG) (w := c.w) Z.q h.objs.size a (Nat.ne_of_lt (Heap.lt_size eb)) vs.toArray
  rw [List.size_toArray] at W
  refine for_core W (fun i h q => let ⟨o, e, _⟩ := q.1; ⟨o, e⟩) J Z (fun _ => rfl) (AG.push (d := .ob _) _ (Eq.refl _)) ⟨⟨_, Heap.get?_push_size _ rfl, rfl, rfl⟩, hla.at fun o e => Heap.get?_push_of_some _ e⟩ (fun b hb q => ⟨oa, ?_⟩) hj (fun i v io l H ld hP hj => asg_loc Z hx ⟨rfl, .head _, sp_run Z.toEOk nn (turn i v _ io l H ld (by simpa using hP) hj)⟩) done hQ
  rcases List.mem_cons.mp hb with e | hb
  · exact absurd e q
  · rw [List.mem_singleton.mp hb]; exact ea
noncomputable def rgObj (a b : Int) (t u v : Tok) : Obj := { cls := .type "range", data := .fields #[.int a t, .int b u, .int 1 v] }
theorem rg_size {a : Int} {n : Nat} : Builtin.Range.rangeSize a (a + n) 1 = (n : Int) := by
  unfold Builtin.Range.rangeSize
  rw [if_pos (by decide)]
  by_cases h : a < a + n
  · rw [if_pos h, Int.ediv_one]; omega
  · rw [if_neg h]; omega
theorem rg_small {a : Int} {n : Nat} (h0 : 0 ≤ a) (h1 : a + n ≤ 1000) : Builtin.Range.small a (a + n) 1 = true := by
  unfold Builtin.Range.small
  rw [rg_size]
  unfold Builtin.Range.rangeFitsLong
  rw [if_pos (by decide)]
  simp only [Bool.and_eq_true, Bool.or_eq_true, beq_iff_eq, decide_eq_true_eq]
  omega
theorem e_forRg {tgt : PySem.Expr} {b : Int} {a0 : Int} {n : Nat} {t0 u0 v0 : Tok} (J : Nat → List (Str × Value) → Heap → LD → Prop) (Z : ZOk K0 V cc c dz) (hm : (a, Ds.ob (rgObj a0 b t0 u0 v0)) ∈ ld) (hb : b = a0 + n) (r0 : 0 ≤ a0) (r1 : a0 + n ≤ 1000) (cu : Cut ld ld0 R) (h0 : ∀ G, Keep H G → Has c.w G R → J 0 l G ld0)
    (ht : ∀ it v, letOwnedTupleGo tgt it v = pure ())
    (step : ∀ i u I io l H ld, i < n → J i l H ld → Sp c l H ((I, .ob io) :: ld) (assign tgt (envE cc c) (.int (a0 + (i : Nat)) u)) fun _ l' H' ld' => H' = H ∧ (I, Ds.ob io) ∈ ld' ∧ Sp c l' H' ld' (execs body (envE cc c)) (turnF c.w J i I io H K))
    (done : ∀ l G ld, J n l G ld → K .next l G ld) : Stp k (Fo cc c l H ld tgt body (.ref a) K) := .mk fun h t A Q hQ => by
  subst hb
  obtain ⟨_, o, e, rfl⟩ := A.oat hm
  obtain ⟨G, g1, g2, AG⟩ := A.freeze cu
  have hj := h0 G g1 g2
  refine wpAny_pyIter_range (s := ⟨h, c.G, c.D, t, c.O⟩) (show IsRange h a a0 (a0 + n) 1 t0 u0 v0 from e) (rg_small r0 r1) ?_
  have W := Walks.range (prog := PG) (w := c.w) Z.q h.objs.size a0 1 n
  have W2 : Walks PG c.w c.A h.objs.size [h.objs.size] [h.objs.size] n (fun i v => i < n ∧ ∃ t, v = .int (a0 + i * 1) t) (fun i h' => IsRangeIter h' h.objs.size (a0 + (i : Nat) * 1) ((n : Int) - (i : Nat)) 1) := W.bound
  refine for_core W2 (fun i h q => ⟨_, q⟩) J Z (fun _ => ht _ _) (AG.push (d := .ob _) _ (Eq.refl _)) (by show IsRangeIter _ _ _ _ _; rw [rg_size]; simpa using Heap.get?_push_size _ rfl) (fun b hb q => absurd (List.mem_singleton.mp hb) q) hj (fun i v io l H ld hP hj => ?_) done hQ
  obtain ⟨hi, u, rfl⟩ := hP
  rw [Int.mul_one]
  exact step i u _ io l H ld hi hj
theorem e_forR {b : Int} {a0 : Int} {n : Nat} {t0 u0 v0 : Tok} (nn : Nat) (J : Nat → List (Str × Value) → Heap → LD → Prop) (Z : ZOk K0 V cc c dz) (hx : hasS cc.loc x = true) (hm : (a, Ds.ob (rgObj a0 b t0 u0 v0)) ∈ ld) (hb : b = a0 + n) (r0 : 0 ≤ a0) (r1 : a0 + n ≤ 1000) (cu : Cut ld ld0 R) (h0 : ∀ G, Keep H G → Has c.w G R → J 0 l G ld0)
    (turn : ∀ i u I io l G ld, i < n → J i l G ld → run cc c (turnF c.w J i I io G K) nn (.ss body) [] ((x, .int (a0 + (i : Nat)) u) :: l) G ((I, .ob io) :: ld))
    (done : ∀ l G ld, J n l G ld → K .next l G ld) : Stp k (Fo cc c l H ld (.Name x px) body (.ref a) K) :=
  e_forRg J Z hm hb r0 r1 cu h0 (fun _ _ => rfl) (fun i u I io l H ld hi hj => asg_loc Z hx ⟨rfl, .head _, sp_run Z.toEOk nn (turn i u I io l H ld hi hj)⟩) done
theorem e_forC {b : Int} {a0 : Int} {n : Nat} {t0 u0 v0 : Tok} {ca : Addr} (nn : Nat) (J : Nat → List (Str × Value) → Heap → LD → Prop) (Z : ZOk K0 V cc c dz) (hx : hasS cc.ce x = true) (hc : c.cl.lookup x = some ca) (hm : (a, Ds.ob (rgObj a0 b t0 u0 v0)) ∈ ld) (hb : b = a0 + n) (r0 : 0 ≤ a0) (r1 : a0 + n ≤ 1000) (cu : Cut ld ld0 R)
    (h0 : ∀ G, Keep H G → Has c.w G R → ∃ v ld1, ld0 = (ca, .ce v) :: ld1 ∧ J 0 l G ld1)
    (turn : ∀ i u I io l G ld, i < n → J i l G ld → run cc c (turnF c.w (fun i l G ld => ∃ v ld1, ld = (ca, .ce v) :: ld1 ∧ J i l G ld1) i I io G K) nn (.ss body) [] l G ((I, .ob io) :: (ca, .ce (some (.int (a0 + (i : Nat)) u))) :: ld))
    (done : ∀ l G v ld, J n l G ld → K .next l G ((ca, .ce v) :: ld)) : Stp k (Fo cc c l H ld (.Name x px) body (.ref a) K) :=
  e_forRg (fun i l G ld => ∃ v ld1, ld = (ca, .ce v) :: ld1 ∧ J i l G ld1) Z hm hb r0 r1 cu h0 (fun _ _ => rfl) (fun i u I io l H ld hi hj => by
    obtain ⟨v, ld1, rfl, hj⟩ := hj
    exact asg_cel Z hx hc (.tail .head) ⟨rfl, .head _, sp_run Z.toEOk nn (turn i u I io l H ld1 hi hj)⟩) (fun l G ld hj => by obtain ⟨v, ld1, rfl, hj⟩ := hj; exact done l G v ld1 hj)
theorem e_forT (nn : Nat) (J : Nat → List (Str × Value) → Heap → LD → Prop) (Z : ZOk K0 V cc c dz) (hx : hasS cc.loc x = true) (hm : (a, Ds.ob (tupOf vs)) ∈ R) (cu : Cut ld ld0 R) (h0 : ∀ G, Keep H G → Has c.w G R → J 0 l G ld0)
    (turn : ∀ i v I io l G ld, vs[i]? = some v → J i l G ld → run cc c (turnF c.w J i I io G K) nn (.ss body) [] ((x, v) :: l) G ((I, .ob io) :: ld))
    (done : ∀ l G ld, J vs.length l G ld → K .next l G ld) : Stp k (Fo cc c l H ld (.Name x px) body (.ref a) K) := .mk fun h t A Q hQ => by
  obtain ⟨G, g1, g2, AG⟩ := A.freeze cu
  have hj := h0 G g1 g2
  obtain ⟨_, o, ea, rfl⟩ := g2 _ hm
  have eb := AG.lg.keep _ _ ea
  have hT : h.IsTuple a vs.toArray := ⟨_, eb, rfl, _, rfl⟩
  refine wpAny_pyIter_tuple (s := ⟨h, c.G, c.D, t, c.O⟩) hT ?_
  have W := Walks.tuple (prog := PG) (w := c.w) Z.q h.objs.size a (Nat.ne_of_lt (Heap.lt_size eb)) vs.toArray
  rw [List.size_toArray] at W
  refine for_core W (fun i h q => let ⟨o, e, _⟩ := q.1; ⟨o, e⟩) J Z (fun _ => rfl) (AG.push (d := .ob _) _ (Eq.refl _)) ⟨⟨_, Heap.get?_push_size _ rfl, rfl, rfl⟩, ⟨_, Heap.get?_push_of_some _ eb, rfl, _, rfl⟩⟩ (fun b hb q => ⟨tupOf vs, ?_⟩) hj (fun i v io l H ld hP hj => asg_loc Z hx ⟨rfl, .head _, sp_run Z.toEOk nn (turn i v _ io l H ld (by simpa using hP) hj)⟩) done hQ
  rcases List.mem_cons.mp hb with e | hb
  · exact absurd e q
  · rw [List.mem_singleton.mp hb]; exact ea
end
section
variable {c : Cf} {k : Nat} {l : List (Str × Value)} {H : Heap} {ld : LD} {K : Kt Value} {n a b : Int} {t u : Tok}
theorem e_range1 (z : ∀ (r : Addr) (t1 t2 : Tok), K (.ref r) l H ((r, .ob (rgObj 0 n t1 t t2)) :: ld)) : Stp k (Sp c l H ld (call (.type "range") [.int n t]) K) := .mk fun h tk A =>
  call_range_1 (s := ⟨h, c.G, c.D, tk, c.O⟩) (.mk l H _ _ _ (A.push (d := .ob (rgObj 0 n tk t (tk + 1))) _ (Eq.refl _)) (z _ _ _))
theorem e_range2 (z : ∀ (r : Addr) (t1 : Tok), K (.ref r) l H ((r, .ob (rgObj a b t u t1)) :: ld)) : Stp k (Sp c l H ld (call (.type "range") [.int a t, .int b u]) K) := .mk fun h tk A =>
  call_range_2 (s := ⟨h, c.G, c.D, tk, c.O⟩) (.mk l H _ _ _ (A.push (d := .ob (rgObj a b t u tk)) _ (Eq.refl _)) (z _ _))
end
noncomputable def S49 : Stmt := nth PG.main.body 7
noncomputable def t49 : CT := ⟨[Str.ofString "n", Str.ofString "text"], [(Str.ofString "number_text", .ref 49)], [49], [], [(Str.ofString "FIGURES", Str.ofString "0123456789")], []⟩
noncomputable def S63 : Stmt := nth (fnBody (nth PG.main.body 10)) 0
noncomputable def t63 : CT := ⟨[Str.ofString "self", Str.ofString "number"], [], [], [], [], []⟩
noncomputable def S84 : Stmt := nth (fnBody (nth PG.main.body 11)) 0
noncomputable def t84 : CT := ⟨[Str.ofString "self", Str.ofString "number", Str.ofString "value"], [(Str.ofString "Thing", .ref 66)], [66, 63], [], [], []⟩
noncomputable def S103 : Stmt := nth (fnBody (nth PG.main.body 12)) 0
noncomputable def t103 : CT := ⟨[Str.ofString "self", Str.ofString "number"], [(Str.ofString "Thing", .ref 66)], [66, 63], [], [], []⟩
noncomputable def S122 : Stmt := nth (fnBody (nth PG.main.body 13)) 0
noncomputable def t122 : CT := ⟨[Str.ofString "self", Str.ofString "number"], [(Str.ofString "Thing", .ref 66)], [66, 63], [], [], []⟩
noncomputable def S141 : Stmt := nth (fnBody (nth PG.main.body 14)) 0
noncomputable def t141 : CT := ⟨[Str.ofString "self", Str.ofString "number", Str.ofString "sub", Str.ofString "captures"], [(Str.ofString "Thing", .ref 66)], [66, 63], [], [], []⟩
noncomputable def S160 : Stmt := nth (fnBody (nth PG.main.body 15)) 0
noncomputable def t160 : CT := ⟨[Str.ofString "self", Str.ofString "number", Str.ofString "name"], [(Str.ofString "Thing", .ref 66)], [66, 63], [], [], []⟩
noncomputable def S180 : Stmt := nth (fnBody (nth PG.main.body 16)) 0
noncomputable def t180 : CT := ⟨[Str.ofString "self", Str.ofString "target", Str.ofString "is_weak"], [], [], [], [], []⟩
noncomputable def S201 : Stmt := nth (fnBody (nth PG.main.body 17)) 0
noncomputable def t201 : CT := ⟨[Str.ofString "self", Str.ofString "limits"], [], [], [], [], []⟩
noncomputable def S208 : Stmt := nth (fnBody (nth PG.main.body 17)) 1
noncomputable def t208 : CT := ⟨[Str.ofString "self"], [], [], [], [], []⟩
noncomputable def S215 : Stmt := nth (fnBody (nth PG.main.body 17)) 2
noncomputable def t215 : CT := ⟨[Str.ofString "self", Str.ofString "value"], [(Str.ofString "Scalar", .ref 87)], [87, 208], [], [], []⟩
noncomputable def S222 : Stmt := nth (fnBody (nth PG.main.body 17)) 3
noncomputable def t222 : CT := ⟨[Str.ofString "self"], [(Str.ofString "Array", .ref 106)], [106, 208], [], [], []⟩
noncomputable def S229 : Stmt := nth (fnBody (nth PG.main.body 17)) 4
noncomputable def t229 : CT := ⟨[Str.ofString "self"], [(Str.ofString "Hash", .ref 125)], [125, 208], [], [], []⟩
noncomputable def S236 : Stmt := nth (fnBody (nth PG.main.body 17)) 5
noncomputable def t236 : CT := ⟨[Str.ofString "self", Str.ofString "sub", Str.ofString "captures"], [(Str.ofString "Code", .ref 144)], [144, 208], [], [], []⟩
noncomputable def S243 : Stmt := nth (fnBody (nth PG.main.body 17)) 6
noncomputable def t243 : CT := ⟨[Str.ofString "self", Str.ofString "name"], [(Str.ofString "Glob", .ref 163)], [163, 208], [], [], []⟩
noncomputable def S257 : Stmt := nth PG.main.body 18
noncomputable def t257 : CT := ⟨[Str.ofString "thing"], [(Str.ofString "Array", .ref 106), (Str.ofString "Hash", .ref 125), (Str.ofString "Code", .ref 144), (Str.ofString "Glob", .ref 163), (Str.ofString "Ref", .ref 183)], [106, 125, 144, 163, 183], [Str.ofString "isinstance"], [], []⟩
noncomputable def S264 : Stmt := nth PG.main.body 19
noncomputable def t264 : CT := ⟨[Str.ofString "number", Str.ofString "text"], [], [], [], [(Str.ofString "HEX_FIGURES", Str.ofString "0123456789abcdef")], []⟩
noncomputable def S271 : Stmt := nth PG.main.body 20
noncomputable def t271 : CT := ⟨[Str.ofString "ref", Str.ofString "text"], [(Str.ofString "thing_word", .ref 257), (Str.ofString "hex_of", .ref 264)], [257, 264], [], [], []⟩
noncomputable def S278 : Stmt := nth PG.main.body 22
noncomputable def t278 : CT := ⟨[Str.ofString "x"], [(Str.ofString "Scalar", .ref 87)], [87], [Str.ofString "isinstance"], [], []⟩
noncomputable def S285 : Stmt := nth PG.main.body 23
noncomputable def t285 : CT := ⟨[Str.ofString "value"], [(Str.ofString "number_text", .ref 49), (Str.ofString "Ref", .ref 183), (Str.ofString "ref_text", .ref 271)], [49, 183, 271], [Str.ofString "isinstance", Str.ofString "int"], [], []⟩
noncomputable def S292 : Stmt := nth PG.main.body 24
noncomputable def t292 : CT := ⟨[Str.ofString "value", Str.ofString "limits"], [(Str.ofString "Ref", .ref 183), (Str.ofString "numeric_text", .ref 42)], [183, 42], [Str.ofString "isinstance", Str.ofString "int"], [], []⟩
noncomputable def S299 : Stmt := nth PG.main.body 25
noncomputable def t299 : CT := ⟨[Str.ofString "flag"], [], [], [], [], []⟩
noncomputable def S313 : Stmt := nth (fnBody (nth PG.main.body 27)) 0
noncomputable def t313 : CT := ⟨[Str.ofString "self", Str.ofString "text"], [], [], [Str.ofString "Exception"], [], []⟩
noncomputable def S333 : Stmt := nth (fnBody (nth PG.main.body 28)) 0
noncomputable def t333 : CT := ⟨[Str.ofString "self", Str.ofString "value"], [(Str.ofString "PerlError", .ref 316)], [316, 313], [], [], []⟩
noncomputable def S343 : Stmt := nth PG.main.body 31
noncomputable def t343 : CT := ⟨[Str.ofString "stash", Str.ofString "package", Str.ofString "array"], [], [720], [], [], []⟩
noncomputable def S350 : Stmt := nth PG.main.body 32
noncomputable def t350 : CT := ⟨[Str.ofString "stash", Str.ofString "package", Str.ofString "line", Str.ofString "path", Str.ofString "rows", Str.ofString "at", Str.ofString "parent"], [(Str.ofString "parents_of", .ref 343), (Str.ofString "Die", .ref 336)], [343, 336], [Str.ofString "len"], [], []⟩
noncomputable def S357 : Stmt := nth PG.main.body 33
noncomputable def t357 : CT := ⟨[Str.ofString "stash", Str.ofString "package", Str.ofString "line", Str.ofString "other"], [(Str.ofString "line_of_package", .ref 350)], [350], [], [(Str.ofString "UNIVERSAL", Str.ofString "UNIVERSAL")], []⟩
noncomputable def S364 : Stmt := nth PG.main.body 34
noncomputable def t364 : CT := ⟨[Str.ofString "stash", Str.ofString "line", Str.ofString "name", Str.ofString "package", Str.ofString "code"], [], [713], [], [], []⟩
noncomputable def S378 : Stmt := nth (fnBody (nth PG.main.body 35)) 0
noncomputable def t378 : CT := ⟨[Str.ofString "self"], [], [], [], [], []⟩
noncomputable def S385 : Stmt := nth (fnBody (nth PG.main.body 35)) 1
noncomputable def t385 : CT := ⟨[Str.ofString "self", Str.ofString "stash", Str.ofString "line", Str.ofString "name", Str.ofString "key"], [(Str.ofString "search_line", .ref 364)], [364], [Str.ofString "tuple"], [], []⟩
noncomputable def S399 : Stmt := nth PG.main.body 36
noncomputable def t399 : CT := ⟨[Str.ofString "stash", Str.ofString "cache", Str.ofString "package", Str.ofString "name", Str.ofString "found"], [(Str.ofString "whole_line", .ref 357)], [357, 385], [], [], []⟩
noncomputable def S406 : Stmt := nth PG.main.body 37
noncomputable def t406 : CT := ⟨[Str.ofString "stash", Str.ofString "value", Str.ofString "package", Str.ofString "text"], [(Str.ofString "Ref", .ref 183), (Str.ofString "thing_word", .ref 257), (Str.ofString "whole_line", .ref 357), (Str.ofString "to_text", .ref 285)], [183, 257, 357, 285], [Str.ofString "isinstance"], [], []⟩
noncomputable def S413 : Stmt := nth PG.main.body 38
noncomputable def t413 : CT := ⟨[Str.ofString "run", Str.ofString "values", Str.ofString "want"], [(Str.ofString "Die", .ref 336), (Str.ofString "truth_value", .ref 299), (Str.ofString "is_derived", .ref 406), (Str.ofString "value_of", .ref 278), (Str.ofString "to_text", .ref 285)], [336, 299, 406, 278, 285], [Str.ofString "len"], [], []⟩
noncomputable def S420 : Stmt := nth PG.main.body 39
noncomputable def t420 : CT := ⟨[Str.ofString "run", Str.ofString "values", Str.ofString "want", Str.ofString "value", Str.ofString "package", Str.ofString "code"], [(Str.ofString "Die", .ref 336), (Str.ofString "value_of", .ref 278), (Str.ofString "Ref", .ref 183), (Str.ofString "to_text", .ref 285), (Str.ofString "find_method", .ref 399)], [336, 278, 183, 285, 399], [Str.ofString "len", Str.ofString "isinstance"], [], []⟩
noncomputable def S427 : Stmt := nth PG.main.body 41
noncomputable def t427 : CT := ⟨[Str.ofString "value", Str.ofString "package", Str.ofString "name"], [(Str.ofString "Ref", .ref 183), (Str.ofString "Die", .ref 336), (Str.ofString "to_text", .ref 285)], [183, 336, 285], [Str.ofString "isinstance"], [], []⟩
noncomputable def S434 : Stmt := nth PG.main.body 42
noncomputable def t434 : CT := ⟨[Str.ofString "value"], [(Str.ofString "Ref", .ref 183), (Str.ofString "thing_word", .ref 257)], [183, 257], [Str.ofString "isinstance"], [], []⟩
noncomputable def S441 : Stmt := nth PG.main.body 43
noncomputable def t441 : CT := ⟨[Str.ofString "value"], [(Str.ofString "Ref", .ref 183)], [183], [Str.ofString "isinstance"], [], []⟩
noncomputable def S448 : Stmt := nth PG.main.body 44
noncomputable def t448 : CT := ⟨[Str.ofString "value"], [(Str.ofString "Ref", .ref 183), (Str.ofString "thing_word", .ref 257)], [183, 257], [Str.ofString "isinstance"], [], []⟩
noncomputable def S455 : Stmt := nth PG.main.body 45
noncomputable def t455 : CT := ⟨[Str.ofString "value"], [(Str.ofString "Ref", .ref 183)], [183], [Str.ofString "isinstance"], [], []⟩
noncomputable def S462 : Stmt := nth PG.main.body 46
noncomputable def t462 : CT := ⟨[Str.ofString "stash", Str.ofString "cache", Str.ofString "thing"], [(Str.ofString "find_method", .ref 399)], [399], [], [], []⟩
noncomputable def S469 : Stmt := nth PG.main.body 47
noncomputable def t469 : CT := ⟨[Str.ofString "run", Str.ofString "args", Str.ofString "want", Str.ofString "package"], [(Str.ofString "value_of", .ref 278), (Str.ofString "bless_value", .ref 427)], [278, 427], [Str.ofString "len"], [], []⟩
noncomputable def S476 : Stmt := nth PG.main.body 48
noncomputable def t476 : CT := ⟨[Str.ofString "run", Str.ofString "args", Str.ofString "want"], [(Str.ofString "ref_word", .ref 434), (Str.ofString "value_of", .ref 278)], [434, 278], [], [], []⟩
noncomputable def S483 : Stmt := nth PG.main.body 49
noncomputable def t483 : CT := ⟨[Str.ofString "run", Str.ofString "args", Str.ofString "want"], [(Str.ofString "blessed_word", .ref 441), (Str.ofString "value_of", .ref 278)], [441, 278], [], [], []⟩
noncomputable def S490 : Stmt := nth PG.main.body 50
noncomputable def t490 : CT := ⟨[Str.ofString "run", Str.ofString "args", Str.ofString "want"], [(Str.ofString "sort_word", .ref 448), (Str.ofString "value_of", .ref 278)], [448, 278], [], [], []⟩
noncomputable def S497 : Stmt := nth PG.main.body 51
noncomputable def t497 : CT := ⟨[Str.ofString "run", Str.ofString "args", Str.ofString "want"], [(Str.ofString "thing_number", .ref 455), (Str.ofString "value_of", .ref 278)], [455, 278], [], [], []⟩
noncomputable def S504 : Stmt := nth PG.main.body 52
noncomputable def t504 : CT := ⟨[Str.ofString "run", Str.ofString "args", Str.ofString "want", Str.ofString "value"], [(Str.ofString "value_of", .ref 278), (Str.ofString "blessed_word", .ref 441), (Str.ofString "truth_value", .ref 299), (Str.ofString "is_derived", .ref 406), (Str.ofString "to_text", .ref 285)], [278, 441, 299, 406, 285], [], [], []⟩
noncomputable def S518 : Stmt := nth (fnBody (nth PG.main.body 54)) 0
noncomputable def t518 : CT := ⟨[Str.ofString "self", Str.ofString "heap", Str.ofString "destroy"], [], [], [], [], []⟩
noncomputable def S525 : Stmt := nth (fnBody (nth PG.main.body 54)) 1
noncomputable def t525 : CT := ⟨[Str.ofString "self", Str.ofString "thing"], [], [], [], [], []⟩
noncomputable def S532 : Stmt := nth (fnBody (nth PG.main.body 54)) 2
noncomputable def t532 : CT := ⟨[Str.ofString "self", Str.ofString "thing"], [], [], [], [], []⟩
noncomputable def S546 : Stmt := nth (fnBody (nth PG.main.body 54)) 4
noncomputable def t546 : CT := ⟨[Str.ofString "self", Str.ofString "value"], [(Str.ofString "Ref", .ref 183)], [183, 525], [Str.ofString "isinstance"], [], []⟩
noncomputable def S551 : Stmt := nth (fnBody (nth PG.main.body 54)) 5
noncomputable def t551 : CT := ⟨[Str.ofString "self", Str.ofString "value"], [(Str.ofString "Ref", .ref 183)], [183, 532], [Str.ofString "isinstance"], [], [Str.ofString "scalar"]⟩
noncomputable def S558 : Stmt := nth (fnBody (nth PG.main.body 54)) 6
noncomputable def t558 : CT := ⟨[Str.ofString "self", Str.ofString "scalar", Str.ofString "value", Str.ofString "old"], [], [546, 551], [], [], []⟩
noncomputable def S565 : Stmt := nth (fnBody (nth PG.main.body 54)) 7
noncomputable def t565 : CT := ⟨[Str.ofString "self", Str.ofString "value", Str.ofString "scalar"], [], [215, 546], [], [], []⟩
noncomputable def S614 : Stmt := nth (fnBody (nth PG.main.body 56)) 0
noncomputable def t614 : CT := ⟨[Str.ofString "self", Str.ofString "pad", Str.ofString "args", Str.ofString "want", Str.ofString "code", Str.ofString "package", Str.ofString "line"], [], [], [], [], []⟩
noncomputable def S635 : Stmt := nth (fnBody (nth PG.main.body 57)) 0
noncomputable def t635 : CT := ⟨[Str.ofString "self", Str.ofString "heap", Str.ofString "counter", Str.ofString "stash", Str.ofString "limits"], [], [], [], [], []⟩
noncomputable def S657 : Stmt := nth (fnBody (nth PG.main.body 59)) 0
noncomputable def t657 : CT := ⟨[Str.ofString "self", Str.ofString "width", Str.ofString "depth", Str.ofString "steps", Str.ofString "text", Str.ofString "items"], [], [], [], [], []⟩
noncomputable def S678 : Stmt := nth (fnBody (nth PG.main.body 61)) 0
noncomputable def t678 : CT := ⟨[Str.ofString "self", Str.ofString "heap"], [], [], [], [], []⟩
noncomputable def S685 : Stmt := nth (fnBody (nth PG.main.body 61)) 1
noncomputable def t685 : CT := ⟨[Str.ofString "self", Str.ofString "name"], [], [243], [], [], []⟩
noncomputable def S699 : Stmt := nth (fnBody (nth PG.main.body 61)) 3
noncomputable def t699 : CT := ⟨[Str.ofString "self", Str.ofString "name", Str.ofString "glob"], [], [685, 222], [], [], []⟩
noncomputable def S713 : Stmt := nth (fnBody (nth PG.main.body 61)) 5
noncomputable def t713 : CT := ⟨[Str.ofString "self", Str.ofString "name"], [], [], [], [], []⟩
noncomputable def S720 : Stmt := nth (fnBody (nth PG.main.body 61)) 6
noncomputable def t720 : CT := ⟨[Str.ofString "self", Str.ofString "name"], [], [], [], [], []⟩
noncomputable def S734 : Stmt := nth PG.main.body 62
noncomputable def t734 : CT := ⟨[Str.ofString "counter", Str.ofString "new", Str.ofString "old"], [], [525, 532], [], [], []⟩
noncomputable def S741 : Stmt := nth PG.main.body 63
noncomputable def t741 : CT := ⟨[Str.ofString "stash", Str.ofString "counter", Str.ofString "name", Str.ofString "code", Str.ofString "glob", Str.ofString "old"], [(Str.ofString "swap_held", .ref 734)], [734, 685], [], [], []⟩
noncomputable def S749 : Stmt := nth PG.main.body 66
noncomputable def t749 : CT := ⟨[], [], [], [], [], []⟩
noncomputable def S756 : Stmt := nth PG.main.body 67
noncomputable def t756 : CT := ⟨[Str.ofString "script", Str.ofString "spot", Str.ofString "limit", Str.ofString "n"], [], [], [Str.ofString "len"], [], []⟩
noncomputable def S763 : Stmt := nth PG.main.body 68
noncomputable def t763 : CT := ⟨[Str.ofString "number", Str.ofString "text"], [], [], [], [], []⟩
noncomputable def S768 : Stmt := nth PG.main.body 69
noncomputable def t768 : CT := ⟨[Str.ofString "parents", Str.ofString "package", Str.ofString "parent"], [(Str.ofString "_law_above", .ref 768)], [768], [], [], [Str.ofString "line"]⟩
noncomputable def S775 : Stmt := nth PG.main.body 70
noncomputable def t775 : CT := ⟨[Str.ofString "run", Str.ofString "args", Str.ofString "fault"], [(Str.ofString "bless_func", .ref 469), (Str.ofString "Die", .ref 336)], [469, 336], [], [], []⟩
noncomputable def S782 : Stmt := nth PG.main.body 71
noncomputable def t782 : CT := ⟨[Str.ofString "run", Str.ofString "value", Str.ofString "package"], [(Str.ofString "ref_func", .ref 476), (Str.ofString "blessed_func", .ref 483), (Str.ofString "reftype_func", .ref 490), (Str.ofString "refaddr_func", .ref 497), (Str.ofString "isa_func", .ref 504), (Str.ofString "universal_isa", .ref 413)], [476, 483, 490, 497, 504, 413], [], [], []⟩
noncomputable def S787 : Stmt := nth PG.main.body 72
noncomputable def t787 : CT := ⟨[Str.ofString "run", Str.ofString "k", Str.ofString "thing", Str.ofString "package", Str.ofString "value", Str.ofString "sort", Str.ofString "own", Str.ofString "line", Str.ofString "is_of", Str.ofString "text", Str.ofString "due", Str.ofString "first", Str.ofString "code", Str.ofString "found"], [(Str.ofString "Ref", .ref 183), (Str.ofString "_law_sorts", .ref 749), (Str.ofString "_law_above", .ref 768), (Str.ofString "_law_hex", .ref 763), (Str.ofString "_law_told", .ref 782), (Str.ofString "to_text", .ref 285), (Str.ofString "to_number", .ref 292), (Str.ofString "destroy_code", .ref 462), (Str.ofString "universal_can", .ref 420)], [183, 749, 768, 763, 782, 285, 292, 462, 420], [], [], [Str.ofString "book"]⟩
noncomputable def S794 : Stmt := nth PG.main.body 73
noncomputable def t794 : CT := ⟨[Str.ofString "run", Str.ofString "book", Str.ofString "value", Str.ofString "package", Str.ofString "text", Str.ofString "is_of"], [(Str.ofString "_law_above", .ref 768), (Str.ofString "_law_told", .ref 782)], [768, 782], [Str.ofString "str"], [], []⟩
noncomputable def S799 : Stmt := nth PG.main.body 74
noncomputable def t799 : CT := ⟨[Str.ofString "script", Str.ofString "spot", Str.ofString "limits", Str.ofString "heap", Str.ofString "run", Str.ofString "things", Str.ofString "book", Str.ofString "_", Str.ofString "parent", Str.ofString "turn", Str.ofString "package", Str.ofString "code", Str.ofString "way", Str.ofString "value", Str.ofString "answer", Str.ofString "spare"], [(Str.ofString "Limits", .ref 660), (Str.ofString "Heap", .ref 246), (Str.ofString "Run", .ref 638), (Str.ofString "Counter", .ref 596), (Str.ofString "Stash", .ref 723), (Str.ofString "MethodCache", .ref 388), (Str.ofString "Frame", .ref 617), (Str.ofString "_law_take", .ref 756), (Str.ofString "_law_packages", .ref 742), (Str.ofString "set_code", .ref 741), (Str.ofString "Ref", .ref 183), (Str.ofString "_law_blessed", .ref 775), (Str.ofString "_law_same", .ref 787), (Str.ofString "_law_plain_same", .ref 794)], [660, 246, 638, 596, 723, 388, 617, 756, 741, 183, 775, 787, 794, 215, 222, 229, 236, 243, 699, 565, 558], [Str.ofString "range", Str.ofString "isinstance", Str.ofString "len"], [], [Str.ofString "k"]⟩
noncomputable def isValOf (o : Option CFound) (g : Addr) : Bool := match o with
  | some (.val (.ref b)) => Nat.beq b g
  | _ => false
noncomputable def cmOk (K : Frag) (C : Addr) (name : Str) (g : Addr) : Bool := (match specialIn K (.ref C) "__getattribute__" with | some (some (.builtin id)) => id == "type.__getattribute__" | _ => false) && (readsIn K C (.type "type") && isValOf (findCls K (.ref C) (.type "type") name) g)
noncomputable def CMS : List (Addr × Addr) := [(66, 63), (316, 313)]
structure DieK (K : Frag) : Prop where
  cls : ∃ nm q N bs sn sub ab col dd k0 k1 k2 k3 k5, K.lookup 336 = some (excClassObj nm q 336 N bs [.ref 316, .type "Exception", .type "BaseException", .type "object"] true sn sub ab col dd k0 k1 k2 k3 k5 "Exception.__new__")
  init : findIn K (.ref 336) "__init__" = some (some (.ref 333))
  ityp : typeIn K (.ref 333) = some (.type "function")
  text : findIn K (.ref 336) "text" = some none
  value : findIn K (.ref 336) "value" = some none
  seta : findIn K (.ref 336) "__setattr__" = some (some (.builtin "object.__setattr__"))
  geta : findIn K (.ref 336) "__getattribute__" = some (some (.builtin "BaseException.__getattribute__"))
  getr : findIn K (.ref 336) "__getattr__" = some none
  hasd : hasDictIn K 336 = true
  exi : findCls K (.type "Exception") (.type "type") "__init__" = some (.val (.builtin "Exception.__init__"))
  die : nsIn K mainGlobals "Die" = some (some (.ref 336))
structure KOk (K : Params → Frag) : Prop extends KCl K where
  dieK : ∀ P, DieK (K P)
  cms : ∀ P, (CMS.all fun p => cmOk (K P) p.1 (Str.ofString "__init__") p.2) = true
  f49 : FnOk K 49 S49 t49
  f63 : FnOk K 63 S63 t63
  f84 : FnOk K 84 S84 t84
  f103 : FnOk K 103 S103 t103
  f122 : FnOk K 122 S122 t122
  f141 : FnOk K 141 S141 t141
  f160 : FnOk K 160 S160 t160
  f180 : FnOkG K 180 S180 t180 (DfI fun xs => xs = #[.bool false])
  f201 : FnOk K 201 S201 t201
  f208 : FnOk K 208 S208 t208
  f215 : FnOk K 215 S215 t215
  f222 : FnOk K 222 S222 t222
  f229 : FnOk K 229 S229 t229
  f236 : FnOk K 236 S236 t236
  f243 : FnOk K 243 S243 t243
  f257 : FnOk K 257 S257 t257
  f264 : FnOk K 264 S264 t264
  f271 : FnOk K 271 S271 t271
  f278 : FnOk K 278 S278 t278
  f285 : FnOk K 285 S285 t285
  f292 : FnOk K 292 S292 t292
  f299 : FnOk K 299 S299 t299
  f313 : FnOk K 313 S313 t313
  f333 : FnOk K 333 S333 t333
  f343 : FnOk K 343 S343 t343
  f350 : FnOk K 350 S350 t350
  f357 : FnOk K 357 S357 t357
  f364 : FnOk K 364 S364 t364
  f378 : FnOk K 378 S378 t378
  f385 : FnOk K 385 S385 t385
  f399 : FnOk K 399 S399 t399
  f406 : FnOk K 406 S406 t406
  f413 : FnOk K 413 S413 t413
  f420 : FnOk K 420 S420 t420
  f427 : FnOk K 427 S427 t427
  f434 : FnOk K 434 S434 t434
  f441 : FnOk K 441 S441 t441
  f448 : FnOk K 448 S448 t448
  f455 : FnOk K 455 S455 t455
  f462 : FnOk K 462 S462 t462
  f469 : FnOk K 469 S469 t469
  f476 : FnOk K 476 S476 t476
  f483 : FnOk K 483 S483 t483
  f490 : FnOk K 490 S490 t490
  f497 : FnOk K 497 S497 t497
  f504 : FnOk K 504 S504 t504
  f518 : FnOk K 518 S518 t518
  f525 : FnOk K 525 S525 t525
  f532 : FnOk K 532 S532 t532
  f546 : FnOk K 546 S546 t546
  f551 : FnOk K 551 S551 t551
  f558 : FnOk K 558 S558 t558
  f565 : FnOk K 565 S565 t565
  f614 : FnOk K 614 S614 t614
  f635 : FnOk K 635 S635 t635
  f657 : FnOkG K 657 S657 t657 (DfI fun xs => ∃ t1 t2 t3 t4 t5, xs = #[.int 64 t1, .int 50 t2, .int 1000000 t3, .int 100000 t4, .int 10000 t5])
  f678 : FnOk K 678 S678 t678
  f685 : FnOk K 685 S685 t685
  f699 : FnOk K 699 S699 t699
  f713 : FnOk K 713 S713 t713
  f720 : FnOk K 720 S720 t720
  f734 : FnOk K 734 S734 t734
  f741 : FnOk K 741 S741 t741
  f749 : FnOk K 749 S749 t749
  f756 : FnOk K 756 S756 t756
  f763 : FnOk K 763 S763 t763
  f768 : FnOk K 768 S768 t768
  f775 : FnOk K 775 S775 t775
  f782 : FnOk K 782 S782 t782
  f787 : FnOk K 787 S787 t787
  f794 : FnOk K 794 S794 t794
  f799 : FnOk K 799 S799 t799
theorem enterC {w : World} {A : Around} {s : Shared} {g : Heap} {K : Frag} {V : Program} {mean : ExcName → Option Value} {mg mb : Str → Option Value}
    {R : Result → Shared → Prop} {name qual : Str} {params : Arguments} {body : List Stmt} {scope : Scope} {dV kV doc pm cdv ct oc : Value} {an od : Option Addr} {osl : Array (Option Value)} {f : Addr} {args : Args} {binds : List (Str × Value)}
    (hg : Keep g s.heap) (hz : g.objs.size ≤ s.heap.objs.size) (X : K.In g) (T : Top V LS mean mg mb g) (hroom : A.depth < recursionLimit)
    (ho : K.lookup f = some ⟨oc, od, .func (fnOf name qual params body scope dV kV doc pm an cdv ct), osl⟩) (hcd : codeIn K cdv qual = true)
    (hbind : BindsTo s (fnOf name qual params body scope dV kV doc pm an cdv ct) args binds)
    (hkind : (binds.all fun y => scope.names.lookup y.1 == some .local || scope.names.lookup y.1 == some .cell) = true)
    (hnd : ((cellsFrom 0 scope.names []).map (·.1)).Nodup)
    (h : ∀ L' h₁ tk cells, Fr g L' h₁ (bindL (envOfC qual scope L' f cdv).kindOf binds fun _ => none) → News g L' h₁ cells →
      CellsAre (bindC (envOfC qual scope L' f cdv).kindOf binds fun _ => none) (cellsFrom (L' + 1) scope.names []) cells → Keep s.heap h₁ → s.heap.get? L' = none → (∀ p ∈ cells, s.heap.get? p.1 = none) →
      wpAny (model PG w) (A.deeper (envOfC qual scope L' f cdv)) (execs body (envOfC qual scope L' f cdv))
        (fun fl s' => R (.ok (.ret (match fl with | .ret v => v | _ => .none))) s')
        (fun e s' => wpAny (model PG w) (A.deeper (envOfC qual scope L' f cdv)) (leaving (envOfC qual scope L' f cdv) e) (fun _ s'' => R (.error e) s'') (fun e' s'' => R (.error e') s'') s')
        { s with heap := h₁, toks := tk })
    (hco : scope.isCoroutine = false) (hgen : scope.isGenerator = false) (hk : scope.kind = .function) : codeAny (model PG w) A (.call (.ref f) args) R s := by
  refine codeAny_call_function hroom (X.keeps hg _ _ ho) rfl hco hgen rfl (codeRec_of (X.keeps hg) hcd) (hbind _ _ _ _ ?_)
  refine wpAny_newFunctionEnv_cells hk (kindsX hkind _) fun env' he s' x => ?_
  subst he
  refine ⟨(T.nolimit.keeps hg).keeps x.toInCall.keep, codeAny_func ?_⟩
  refine elEEA x.done ?_; rintro h₁ tk rfl _
  have hk₁ := x.toInCall.keep
  refine elEA (Cl.news (h₀ := s.heap) (Nat.le_refl _) fun n c hm => ⟨x.cell n c (lookup_of_mem_nodup (cellsFrom_names scope.names 0 (s.heap.objs.size + 1) [] [] rfl ▸ hnd) hm), x.above n c hm⟩) ?_; rintro cells NC Y
  refine h s.heap.objs.size h₁ tk cells ⟨x.toInCall.ns, fun b o e => hk₁ b o (hg b o e), hz⟩ (fun p hp => ?_) Y hk₁ ?_ (fun p hp => (NC p hp).2.2)
  · refine ⟨(NC p hp).1, (NC p hp).2.1, ?_⟩
    cases q : g.get? p.1 with
    | none => rfl
    | some o => have := hg _ _ q; rw [(NC p hp).2.2] at this; cases this
  · cases q : s.heap.get? s.heap.objs.size with
    | none => rfl
    | some o => exact absurd (Heap.lt_size q) (Nat.lt_irrefl _)
noncomputable def locL (kd : Str → Option NameKind) : List (Str × Value) → List (Str × Value) → List (Str × Value)
  | [], acc => acc
  | (n, v) :: r, acc => locL kd r (if kd n = some .local then (n, v) :: acc else acc)
theorem bindL_lk (kd : Str → Option NameKind) : ∀ (bs acc : List (Str × Value)), bindL kd bs (lk acc) = lk (locL kd bs acc)
  | [], acc => rfl
  | (n, v) :: r, acc => by
    unfold bindL locL
    rw [← bindL_lk kd r]
    by_cases h : kd n = some .local
    · rw [if_pos h, if_pos h, lk_cons]
    · rw [if_neg h, if_neg h]
section
variable {K0 : Params → Frag} {V : Program} {a : Addr} {d : Nat} {args : List Value} {Ad : LD} {P : World → Heap → Prop} {T : World → (Value → LD → Prop) → Prop} {s : Stmt} {t : CT}
theorem tri_inCs (ok : FnOk K0 a s t) (z : Str) (v0 : Option Value) (bs ls : List (Str × Value))
    (hb : ∀ nm qual doc pm an cdv ct, bindArgs (fnOf nm qual (fnPar s) (fnBody s) (fnScope s) .none .none doc pm an cdv ct) ⟨args, []⟩ = pure bs)
    (hkd : (bs.all fun y => (fnScope s).names.lookup y.1 == some .local || (fnScope s).names.lookup y.1 == some .cell) = true)
    (hls : locL (fun x => (fnScope s).names.lookup x) bs [] = ls) (hcz : bindC (fun x => (fnScope s).names.lookup x) bs (fun _ => none) z = v0)
    (hcf : ∀ m, cellsFrom m (fnScope s).names [] = [(z, m)])
    (hf : plainFn (fnScope s) = true)
    (h : ∀ qual cdv c k ca, ZOk K0 V (ccF s a t qual cdv) c d → c.cl = [(z, ca)] → P c.w c.g → T c.w k → Sp c ls c.g ((ca, .ce v0) :: Ad) (execs (fnBody s) (envE (ccF s a t qual cdv) c)) (finT k)) : Tri K0 V a (d + 1) args Ad P T := by
  intro w mean mg mb A g s' k Rz hC hz hd hu LG hP hk hret
  refine elEEEEEEEEEAA (ok.ex w.params) ?_; rintro qual oc od osl doc pm an cdv ct ho hcd hok
  refine elA (andTT hf) ?_; rintro f12 f3
  refine elA (andTT f12) ?_; rintro f1 f2
  have f3 := beq_iff_eq.mp f3
  obtain ⟨⟨base, outer, B⟩, X, T', hq⟩ := hC
  refine enterC (binds := bs) LG.keep hz X T' (by unfold recursionLimit; omega) ho hcd (BindsTo.of_eq (hb ..)) hkd (by rw [hcf 0]; exact List.nodup_cons.mpr ⟨(fun h => nomatch h), .nil⟩) ?_ (notT f1) (notT f2) f3
  intro L' h₁ tk cells F NC Y hk1 hL1 hc1
  have Y : CellsAre (bindC (fun x => (fnScope s).names.lookup x) bs (fun _ => none)) [(z, L' + 1)] cells := by have := Y; rw [hcf] at this; exact this
  refine elEA (CellsAre.one Y) ?_; rintro oc rfl hoc
  rw [hcz] at hoc
  have e1 : envOfC qual (fnScope s) L' a cdv = envX qual (fnScope s) L' a cdv [(z, L' + 1)] := by
    show envX qual (fnScope s) L' a cdv (cellsFrom (L' + 1) (fnScope s).names []) = _; rw [hcf]
  have F' : Fr g L' h₁ (bindL (fun x => (fnScope s).names.lookup x) bs fun _ => none) := F
  rw [e1]
  clear F
  suffices key : ∀ E', PassesOwn (model PG w) (A.deeper (envX qual (fnScope s) L' a cdv [(z, L' + 1)])) (envX qual (fnScope s) L' a cdv [(z, L' + 1)]) E' → wpAny (model PG w) (A.deeper (envX qual (fnScope s) L' a cdv [(z, L' + 1)])) (execs (fnBody s) (envX qual (fnScope s) L' a cdv [(z, L' + 1)])) _ E' _ from key _ PassesOwn.leaving
  intro E' pE
  let c : Cf := ⟨w, mean, mg, mb, A.deeper (envX qual (fnScope s) L' a cdv [(z, L' + 1)]), E', s'.gens, s'.drawn, s'.os, g, L', [(z, L' + 1)]⟩
  have Z : ZOk K0 V (ccF s a t qual cdv) c d := ⟨⟨pE, X, T', hok⟩, fun F' ha => cx_hide B X T' F' rfl f3 hq ha, by show A.depth + 1 + d ≤ 600; omega, by show A.units + 3 + 40 * d ≤ 9000; omega, hq⟩
  have S' : Sub ls (bindL (fun x => (fnScope s).names.lookup x) bs fun _ => none) := fun y v e => by rw [show (bindL (fun x => (fnScope s).names.lookup x) bs fun _ => none) = lk ls from hls ▸ bindL_lk _ bs []]; exact e
  refine elEEEA F'.ns ?_; rintro oL _ _ hL _
  have low := modules_low T'.nolimit
  have nc := NC _ (.head _)
  have A0 : At c ls g ((L' + 1, .ce v0) :: Ad) h₁ := by
    refine ⟨⟨_, S', F'⟩, Keep.refl _, low, F'.keep, fun p hp => ?_, fun p hp => ?_, List.pairwise_cons.mpr ⟨fun p hp e => ?_, List.pairwise_cons.mpr ⟨fun p hp e => ?_, LG.ne⟩⟩⟩
    · cases hp with
      | head => exact fresh_of LG.keep hL1
      | tail _ hp =>
        cases hp with
        | head => exact nc.2.2
        | tail _ hp => exact LG.off p hp
    · cases hp with
      | head => exact ⟨fun _ => nmod (Nat.ne_of_gt (Nat.lt_of_lt_of_le low F'.above)), oL, hL, trivial⟩
      | tail _ hp =>
        cases hp with
        | head => exact ⟨(fun q => nomatch q), oc, nc.1, hoc⟩
        | tail _ hp => exact (LG.has p hp).keeps hk1
    · cases hp with
      | head => exact nc.2.1 e.symm
      | tail _ hp =>
        obtain ⟨_, o, y, _⟩ := LG.has p hp
        have e : L' = p.1 := e
        rw [← e, hL1] at y; cases y
    · obtain ⟨_, o, y, _⟩ := LG.has p hp
      have e : L' + 1 = p.1 := e
      have := hc1 _ (.head _)
      dsimp only at this
      rw [← e, this] at y; cases y
  have Hr := h qual cdv c k (L' + 1) Z rfl hP hk h₁ tk A0
  refine wpAny_mono Hr (fun fl s b => ?_) fun _ _ e => e
  obtain ⟨l, H, ld, h', t', A2, p⟩ := (show Bk c (finT k) fl s from b)
  refine elEEEAA (Stp.get p) ?_; rintro B B' R cu wk kB
  have cok := A2.cut cu
  have lg : Lg w g h' B := Lg.wk wk ⟨A2.fkeep, fun p hp => A2.offg (.tail _ (cok.a p hp)), fun p hp => A2.lg.has p (.tail _ (cok.a p hp)), cok.aa⟩
  cases fl <;> exact hret _ h' t' B lg kB
theorem tri_inC (ok : FnOk K0 a s t) (z : Str) (v0 : Option Value) (bs ls : List (Str × Value)) (n : Nat)
    (hb : ∀ nm qual doc pm an cdv ct, bindArgs (fnOf nm qual (fnPar s) (fnBody s) (fnScope s) .none .none doc pm an cdv ct) ⟨args, []⟩ = pure bs)
    (hkd : (bs.all fun y => (fnScope s).names.lookup y.1 == some .local || (fnScope s).names.lookup y.1 == some .cell) = true)
    (hls : locL (fun x => (fnScope s).names.lookup x) bs [] = ls) (hcz : bindC (fun x => (fnScope s).names.lookup x) bs (fun _ => none) z = v0)
    (hcf : ∀ m, cellsFrom m (fnScope s).names [] = [(z, m)])
    (hf : plainFn (fnScope s) = true)
    (h : ∀ qual cdv c k ca, ZOk K0 V (ccF s a t qual cdv) c d → c.cl = [(z, ca)] → P c.w c.g → T c.w k → run (ccF s a t qual cdv) c (finT k) n (.ss (fnBody s)) [] ls c.g ((ca, .ce v0) :: Ad)) : Tri K0 V a (d + 1) args Ad P T :=
  tri_inCs ok z v0 bs ls hb hkd hls hcz hcf hf fun qual cdv c k ca Z hcl hP hk => sp_run Z.toEOk n (h qual cdv c k ca Z hcl hP hk)
end
theorem StrsAre.at_ {vs : List Value} {xs : List Str} (h : StrsAre vs xs) : ∀ {i : Nat} {v : Value}, vs[i]? = some v → ∃ q t, xs[i]? = some q ∧ v = .str q t := by
  induction h with
  | nil => intro i v e; simp at e
  | cons h ih =>
    intro i v e
    cases i with
    | zero => simp at e; subst e; exact ⟨_, _, rfl, rfl⟩
    | succ i => exact ih (by simpa using e)
open PyProof.Rows.LCg in
theorem comp_filter {prog : Program} {w : World} {A : Around} {h₀ : Heap} {L : Addr} {m : Str → Option Value} {env : Env} {ct : PySem.Expr} {x : Str} {pos : Pos} {scope : Scope} {cl : List (Str × Addr)} {s : Shared} {S : List (Addr × Obj) → Prop} {Fin : List Value → List (Addr × Obj) → Prop} {news : List (Addr × Obj)}
    (p : Str → Bool) {vs : List Value} {xs : List Str} (hS : StrsAre vs xs) (hs : S news)
    (test : ∀ y u I oI C oC D ys m₂ h tk E' Q, y ∈ xs → NsObj oC m₂ → m₂ x = some (.str y u) → Fr h₀ L h m → News h₀ L h ((I, oI) :: (C, oC) :: (D, lst ys) :: news) → Off3 I C D news →
      (∀ tk', Q (p y) { s with heap := h, toks := tk' }) → wpAny (model prog w) A (isTrue ct (compEnvC scope cl C env) (eval ct (compEnvC scope cl C env))) Q E' { s with heap := h, toks := tk })
    (fin : ∀ ys, StrsAre ys (xs.filter p) → Fin ys news)
    (hk : ∀ C, (compEnvC scope cl C env).scope.kind = .function) (hl : ∀ C, (compEnvC scope cl C env).kindOf x = some .local) (hd : (x == ("__debug__" : Str)) = false) :
    PyProof.Rows.LCt.CompRestT prog w A h₀ L m env ct (.Name x pos) x scope cl s S (fun i v => vs.toArray[i]? = some v) Fin vs.length 0 [] news := by
  have key : ∀ k i ys, i + k = vs.length → StrsAre ys ((xs.take i).filter p) → PyProof.Rows.LCt.CompRestT prog w A h₀ L m env ct (.Name x pos) x scope cl s S (fun i v => vs.toArray[i]? = some v) Fin k i ys news := by
    intro k
    induction k with
    | zero =>
      intro i ys hi hys
      have : xs.take i = xs := by rw [List.take_of_length_le]; rw [← hS.length]; omega
      rw [this] at hys
      exact fin ys hys
    | succ k ih =>
      intro i ys hi hys
      refine PyProof.Rows.LCt.CompRestT.succ ?_
      intro v I oI C oC D m₂ h tk E' hv hC hx F N off ne
      refine elEEA (hS.at_ (by simpa using hv)) ?_; rintro y u hy rfl
      have hcat : (xs.take (i + 1)).filter p = (xs.take i).filter p ++ (if p y = true then [y] else []) := by
        rw [List.take_add_one, hy, List.filter_append]
        cases hpy : p y <;> simp [hpy]
      refine test y u I oI C oC D ys m₂ h tk E' _ (List.mem_of_getElem? hy) hC hx F N off fun tk' => ?_
      cases hpy : p y with
      | true =>
        rw [if_pos rfl]
        refine PySem.W.LCgL.ld_own (s := { s with heap := h, toks := tk' }) N (.tail _ (.head _)) hC hx ?_ (hk C) (hl C) hd
        refine CompEnd.intro (s₁ := { s with heap := h, toks := tk }) F N news (fun q hq => hq) off hs (ih (i + 1) (ys ++ [.str y u]) (by omega) ?_)
        rw [hcat, hpy, if_pos rfl]
        exact hys.snoc
      | false =>
        rw [if_neg Bool.false_ne_true]
        refine CompEnd.intro (s₁ := { s with heap := h, toks := tk }) F N news (fun q hq => hq) off hs (ih (i + 1) ys (by omega) ?_)
        rw [hcat, hpy, if_neg Bool.false_ne_true, List.append_nil]
        exact hys
  exact key vs.length 0 [] (by omega) (by simp; exact .nil)
noncomputable def TstF (cc : CC) (c : Cf) (sc : Scope) (cl : List (Str × Addr)) (x : Str) (ct : PySem.Expr) (p : Str → Bool) (xs : List Str) (l : List (Str × Value)) (H : Heap) (ld : LD) : Prop :=
  ∀ y u C oC m₂ h t E' Q', y ∈ xs → At c l H ld h → h.get? C = some oC → PyProof.Rows.LCg.NsObj oC m₂ → m₂ x = some (.str y u) → (∀ tk', Q' (p y) ⟨h, c.G, c.D, tk', c.O⟩) →
    wpAny (model PG c.w) c.A (isTrue ct (compEnvC sc cl C (envE cc c)) (eval ct (compEnvC sc cl C (envE cc c)))) Q' E' ⟨h, c.G, c.D, t, c.O⟩
noncomputable def lcK (cc : CC) (c : Cf) (sc : Scope) (cl : List (Str × Addr)) (x : Str) (ct : PySem.Expr) (p : Str → Bool) (K : Kt Value) : Kt Flow := fun fl l H ld =>
  Stp 18 (∃ a vs xs, fl = .ret (.ref a) ∧ HL c.w H ld a vs ∧ StrsAre vs xs ∧ vs.length ≤ 1000 ∧ TstF cc c sc cl x ct p xs l H ld ∧ ∀ D ys, StrsAre ys (xs.filter p) → K (.ref D) l H ((D, .li ys) :: ld))
theorem lcMk {cc : CC} {c : Cf} {sc : Scope} {cl : List (Str × Addr)} {x : Str} {ct : PySem.Expr} {p : Str → Bool} {K : Kt Value} {l : List (Str × Value)} {H : Heap} {ld : LD} {a : Addr} {vs : List Value} {xs : List Str}
    (hl : HL c.w H ld a vs) (hs : StrsAre vs xs) (hz : vs.length ≤ 1000) (t : TstF cc c sc cl x ct p xs l H ld) (h : ∀ D ys, StrsAre ys (xs.filter p) → K (.ref D) l H ((D, .li ys) :: ld)) :
    Stp 18 (∃ a' vs xs, Flow.ret (.ref a) = .ret (.ref a') ∧ HL c.w H ld a' vs ∧ StrsAre vs xs ∧ vs.length ≤ 1000 ∧ TstF cc c sc cl x ct p xs l H ld ∧ ∀ D ys, StrsAre ys (xs.filter p) → K (.ref D) l H ((D, .li ys) :: ld)) := .mk ⟨a, vs, xs, rfl, hl, hs, hz, t, h⟩
section
variable {K0 : Params → Frag} {V : Program} {cc : CC} {c : Cf} {dz k : Nat} {l : List (Str × Value)} {H : Heap} {ld : LD} {K : Kt Value}
noncomputable def upO (y : Option Str) (v : Value) (m : Str → Option Value) : Str → Option Value := match y with
  | none => m
  | some y => fun z => if z = y then some v else m z
noncomputable def lpO (y : Option Str) (v : Value) (l : List (Str × Value)) : List (Str × Value) := match y with
  | none => l
  | some y => (y, v) :: l
theorem lc_core {x z : Str} {ca : Addr} {sc : Scope} {ct iter : PySem.Expr} {px pe pos ps : Pos} (p : Str → Bool) (n : Nat) (Z : ZOk K0 V cc c dz) (hcl : c.cl = [(z, ca)]) (y : Option Str) {use : Option (Value → Sem Unit)} {Q : Value → Shared → Prop} {QQ : Addr → Shared → Prop}
    (hclos : ∀ L, closureFor sc (envX cc.qual cc.scope L cc.fa cc.cdv [(z, ca)]) = pure [(z, ca)])
    (hsc : (sc.kind == .function && (sc.names.all fun y => y.2 != .cell && (!(y.2 == .local) || sc.names.lookup y.1 == some .local)) && sc.names.lookup x == some .local && plainTest iter && !(x == ("__debug__" : Str))) = true)
    (hit : run cc c (lcK cc c sc [(z, ca)] x ct p K) n (.ev iter) [.ret] l H ld)
    (hq : ∀ D l H ld h tk, At c (lpO y (.ref D) l) H ld h → K (.ref D) l H ld → QQ D ⟨h, c.G, c.D, tk, c.O⟩)
    (hu : ∀ D C h tk m m', Fr c.g c.L h m → C ≠ c.L → h.Ns C m' → (∀ h₂ tk₂, Fr c.g c.L h₂ (upO y (.ref D) m) → (∀ b o, b ≠ c.L → h.get? b = some o → h₂.get? b = some o) → ∀ h'', Heap.SameBut C h₂ h'' → QQ D ⟨h'', c.G, c.D, tk₂, c.O⟩) → compPost (model PG c.w) c.A c.E use Q (.ref D) C (.ok .next) ⟨h, c.G, c.D, tk, c.O⟩)
    {h₀ : Heap} {t₀ : Nat} (A₀ : At c l H ld h₀) :
    wpAny (model PG c.w) c.A (comprehension (.ListComp (.Name x pe) [⟨.Name x px, iter, [ct], 0⟩] sc pos) sc (envE cc c) ps (newList []) false (eval iter (envE cc c)) use) Q c.E ⟨h₀, c.G, c.D, t₀, c.O⟩ := by
  simp only [Bool.and_eq_true, Bool.or_eq_true, Bool.not_eq_true', List.all_eq_true, bne_iff_ne, beq_iff_eq, beq_eq_false_iff_ne] at hsc
  refine elA hsc ?_; (try clear hsc); rintro ⟨⟨⟨hkind, hall⟩, hx⟩, hpl⟩ hdb
  have hclos' : closureFor sc (envE cc c) = pure [(z, ca)] := by
    show closureFor sc (envX cc.qual cc.scope c.L cc.fa cc.cdv c.cl) = _
    rw [hcl]; exact hclos c.L
  have hiter := run_snd Z.toEOk n (.ev iter) [.ret] l H ld hit h₀ t₀ A₀
  refine wpAny_comprehension_free rfl (fold_plain hpl) hclos' hkind (fun y' hy e => (hall y' hy).2.resolve_left fun q => q e) (wpAny_mono hiter (fun v s₁ h₁' => ?_) fun _ _ e => e)
  obtain ⟨l₁, H₁, ld₁, h₁, t₁, A, q⟩ := (show Bk c (lcK cc c sc [(z, ca)] x ct p K) (.ret v) s₁ from h₁')
  refine elEEEAAAAA (Stp.get q) ?_; rintro a vs xs e hl hs hlen tst fin
  cases e
  refine elEA A.ex ?_; rintro m S F
  refine elEAA (bag_of (L := c.L) [] F.keep) ?_; rintro R N _ r2
  have hla := hl.at_ A
  refine elEAA (id hla) ?_; rintro oa ea a1 a2
  have haL : a ≠ c.L := by
    rintro rfl
    refine elEEEAA F.ns ?_; rintro oL es ep hL hd _
    rw [hL] at ea; cases ea
    refine elE a2 ?_; (try clear a2); rintro n e
    rw [hd] at e; cases e
  have Sr : PyProof.Rows.LCg.SrcAt c.g a vs.toArray R := (r2 a oa ea (fun q => nomatch q) haL).imp (fun e => ⟨oa, e, a1, a2⟩) fun q => ⟨oa, q, a1, a2⟩
  have toAt : ∀ h, Fr c.g c.L h m → (∀ p ∈ R, h.get? p.1 = some p.2) → At c l₁ H₁ ld₁ h := fun h F' N' => A.loc S F' fun b o e n => (r2 b o e (fun q => nomatch q) n).elim (F'.keep b o) fun q => N' _ q
  have up : ∀ b o, h₁.get? b = some o → (h₁.push { cls := .type "list_iterator", data := .fields #[.ref a, .int 0 0] }).get? b = some o := fun b o e => Heap.get?_push_of_some _ e
  refine wpAny_pyIter_list (s := ⟨h₁, c.G, c.D, t₁, c.O⟩) hla ?_
  refine PyProof.Rows.LCt.block_T (h₀ := c.g) (L := c.L) (m := m) (news := R) (S := PyProof.Rows.LCg.SrcAt c.g a vs.toArray) (Fin := fun ys news => ∀ D h tk, Fr c.g c.L h (upO y (.ref D) m) → News c.g c.L h ((D, PyProof.Rows.LCg.lst ys) :: news) → PyProof.Rows.LCg.Off1 D news → QQ D ⟨h, c.G, c.D, tk, c.O⟩) (Walks.list (prog := PG) (w := c.w) Z.q h₁.objs.size a (Nat.ne_of_lt (Heap.lt_size ea)) vs.toArray) (by rw [sizeLine_eq, List.size_toArray]; omega)
    (fun i h st => by obtain ⟨o, e, _⟩ := st.1; exact ⟨o, e⟩) PyProof.Rows.LCg.list_st (fun y' hy => (hall y' hy).1) hkind hx ⟨⟨_, Heap.get?_push_size _ rfl, rfl, rfl⟩, hla.at fun o e => Heap.get?_push_of_some _ e⟩ (fun b hb => ?_)
    (F.keeps up) (N.grown up) (Nat.ne_of_lt F.ns.lt) (fresh_of F.keep (by
      cases q : h₁.get? h₁.objs.size with
      | none => rfl
      | some o => exact absurd (Heap.lt_size q) (Nat.lt_irrefl _))) (fun p hp => Nat.ne_of_lt (Heap.lt_size (N p hp).1)) Sr ?_ ?_
  · show b < (h₁.push _).objs.size
    rw [Heap.size_push]
    rcases List.mem_cons.mp hb with rfl | hb
    · exact Nat.lt_succ_self _
    · rw [List.mem_singleton.mp hb]; exact Nat.lt_succ_of_lt (Heap.lt_size ea)
  · rw [List.size_toArray]
    refine comp_filter p hs Sr ?_ ?_ (fun _ => hkind) (fun _ => lookup_relabel_local hx) (beq_eq_false_iff_ne.mpr hdb)
    · intro y' u I oI C oC D ys m₂ h tk E' Q hy hC hm F' N' off hq
      exact tst y' u C oC m₂ h tk E' Q hy (toAt h F' fun p hp => (N' p (.tail _ (.tail _ (.tail _ hp)))).1) (N' _ (.tail _ (.head _))).1 hC hm hq
    · intro ys hys D h tk F' N' off
      have nD := N' _ (.head _)
      have offD : ∀ p ∈ R, p.1 ≠ D := by
        have key : ∀ {l : List (Addr × Obj)}, PyProof.Rows.LCg.Off1 D l → ∀ p ∈ l, p.1 ≠ D := by
          intro l
          induction l with
          | nil => exact fun _ _ h => nomatch h
          | cons q r ih => exact fun h p hp => (List.mem_cons.mp hp).elim (fun e => e ▸ h.1) (ih h.2 p)
        exact key off
      have kb : ∀ b o, h₁.get? b = some o → b ≠ c.L → h.get? b = some o := fun b o e n => (r2 b o e (fun q => nomatch q) n).elim (F'.keep b o) fun q => (N' _ (.tail _ q)).1
      have S' : Sub (lpO y (.ref D) l₁) (upO y (.ref D) m) := by
        cases y with
        | none => exact S
        | some y => exact S.store y _
      refine hq D l₁ H₁ _ h tk (A.step (as := []) (B := [(D, .li ys)]) S' F' (fun b o e _ n => kb b o e n) (fun _ h => nomatch h) (fun p hp => ⟨hp, fun h => nomatch h⟩) (List.pairwise_cons.mp A.lg.ne).2 (fun p hp => ?_) (List.pairwise_singleton _ _)) (fin D ys hys)
      cases List.mem_singleton.mp hp
      refine ⟨⟨(fun q => nomatch q), _, nD.1, ys.length, rfl⟩, .inl ?_⟩
      cases q : h₁.get? D with
      | none => rfl
      | some o => exact (r2 D o q (fun q => nomatch q) nD.2.1).elim (fun e => by rw [nD.2.2] at e; cases e) fun e => absurd rfl (offD _ e)
  · intro D C h tk m' ys news' F' N' o1 hn hC₀ hD₀ hCL hDL hCD offC fin'
    refine hu D C h tk m m' F' hCL hn fun h₂ tk₂ F₂ k₂ h'' hs'' => fin' D h'' tk₂ (F₂.change hs'' hCL hC₀) (fun p hp => ?_) o1
    refine ⟨hs''.extBut _ _ ?_ (k₂ _ _ (N' p hp).2.1 (N' p hp).1), (N' p hp).2⟩
    rcases List.mem_cons.mp hp with rfl | hp
    · exact Ne.symm hCD
    · exact offC p hp
theorem lc_filter {x z : Str} {ca : Addr} {sc : Scope} {ct iter : PySem.Expr} {px pe pos : Pos} (p : Str → Bool) (n : Nat) (Z : ZOk K0 V cc c dz) (hcl : c.cl = [(z, ca)])
    (hclos : ∀ L, closureFor sc (envX cc.qual cc.scope L cc.fa cc.cdv [(z, ca)]) = pure [(z, ca)])
    (hsc : (sc.kind == .function && (sc.names.all fun y => y.2 != .cell && (!(y.2 == .local) || sc.names.lookup y.1 == some .local)) && sc.names.lookup x == some .local && plainTest iter && !(x == ("__debug__" : Str))) = true)
    (hit : run cc c (lcK cc c sc [(z, ca)] x ct p K) n (.ev iter) [.ret] l H ld) :
    Stp k (Sp c l H ld (eval (.ListComp (.Name x pe) [⟨.Name x px, iter, [ct], 0⟩] sc pos) (envE cc c)) K) := .mk fun h t A => by
  rw [eval_ListComp]
  exact lc_core p n Z hcl none (use := none) (Q := Bk c K) (QQ := fun D s => Bk c K (.ref D) s) hclos hsc hit (fun D l H ld h tk A x => .mk l H ld h tk A x) (fun D C h tk m m' F hC hn k => ⟨m', hn, fun h'' hs => k h tk F (fun _ _ _ e => e) h'' hs⟩) A
theorem lc_filterA {KF : Kt Flow} {x y z : Str} {ca : Addr} {sc : Scope} {ct iter : PySem.Expr} {px pe py pos spos : Pos} (p : Str → Bool) (n : Nat) (Z : ZOk K0 V cc c dz) (hcl : c.cl = [(z, ca)]) (hy : hasS cc.loc y = true)
    (hsw : ∀ L, swapsWith (.ListComp (.Name x pe) [⟨.Name x px, iter, [ct], 0⟩] sc pos) (some (.Name y py)) spos.line (envX cc.qual cc.scope L cc.fa cc.cdv [(z, ca)]) = pure true)
    (hclos : ∀ L, closureFor sc (envX cc.qual cc.scope L cc.fa cc.cdv [(z, ca)]) = pure [(z, ca)])
    (hsc : (sc.kind == .function && (sc.names.all fun y => y.2 != .cell && (!(y.2 == .local) || sc.names.lookup y.1 == some .local)) && sc.names.lookup x == some .local && plainTest iter && !(x == ("__debug__" : Str))) = true)
    (hit : run cc c (lcK cc c sc [(z, ca)] x ct p fun v l H ld => KF .next ((y, v) :: l) H ld) n (.ev iter) [.ret] l H ld) :
    Stp k (Sp c l H ld (exec (.Assign [.Name y py] (.ListComp (.Name x pe) [⟨.Name x px, iter, [ct], 0⟩] sc pos) spos) (envE cc c)) KF) := .mk fun h t A => by
  have hsw' := hsw c.L
  rw [← hcl] at hsw'
  rw [exec_Assign_Name_used _ _ _ _ hsw']
  refine wpAny_bind (wpAny_standAt (wpAny_bind ?_))
  show wpAny _ c.A (do let _ ← comprehension (.ListComp (.Name x pe) [⟨.Name x px, iter, [ct], 0⟩] sc pos) sc (envE cc c) _ (newList []) false (eval iter (envE cc c)) (some (assign (.Name y py) (envE cc c)))) _ _ _
  have hp : ((envE cc c).scope.kind == .class || ((envE cc c).scope.kind == .module && (envE cc c).locals != (envE cc c).globals)) = false := by
    have : (envE cc c).scope.kind = .function := Z.fn
    rw [this]; rfl
  refine wpAny_bind (wpAny_mono (lc_core p n Z hcl (some y) (QQ := fun _ s => Bk c KF .next s) (Q := fun _ s => Bk c KF .next s) hclos hsc hit (fun D l H ld h tk A x => .mk _ H ld h tk A x) (fun D C h tk m m' F hC hn k => ?_) A) (fun _ s' hq => wpAny_pure (wpAny_pure hq)) fun _ _ e => e)
  show wpAny _ c.A (assign (.Name y py) (envE cc c) (.ref D)) _ _ _
  refine wpAny_assign_Name (wpAny_storeName_local (Z.loc hy).1 F.ns (fun h₂ hn₂ hs₂ => ?_) hp)
  have hL₀ : c.g.get? c.L = none := Heap.get?_none_of_le F.above
  exact ⟨m', hn.sameBut hs₂ hC, fun h'' hs'' => k h₂ _ ⟨hn₂, fun b o e => hs₂.extBut b o (fun q => by rw [q, hL₀] at e; cases e) (F.keep b o e), F.above⟩ (fun b o q e => hs₂.extBut b o q e) h'' hs''⟩
theorem tst_notin {x z : Str} {ca la : Addr} {sc : Scope} {p1 p2 pc : Pos} {LL : List Str} {vl : List Value} {xs : List Str} (hx : sc.names.lookup x = some .local) (hkind : sc.kind = .function)
    (hz : ∀ C, (compEnvC sc [(z, ca)] C (envE cc c)).kindOf z = some .cell) (hd1 : (x == ("__debug__" : Str)) = false) (hd2 : (z == ("__debug__" : Str)) = false)
    (hm : (ca, Ds.ce (some (.ref la))) ∈ ld) (hl : HL c.w H ld la vl) (hs : StrsAre vl LL) :
    TstF cc c sc [(z, ca)] x (.Compare (.Name x p1) [.NotIn] [.Name z p2] pc) (fun y => !decide (y ∈ LL)) xs l H ld := by
  intro y u C oC m₂ h t E' Q' _ A hC hN hm2 hq
  refine wpAny_isTrue_Compare1 (wpAny_Name (wpAny_loadName_local (s := ⟨h, c.G, c.D, t, c.O⟩) (show (compEnvC sc [(z, ca)] C (envE cc c)).scope.kind = .function from hkind) (lookup_relabel_local hx) (hN.ns hC) hm2 ?_) hd1)
  obtain ⟨_, o, e, s⟩ := A.oat hm
  refine wpAny_Name (wpAny_loadName_cell (show (compEnvC sc [(z, ca)] C (envE cc c)).scope.kind = .function from hkind) (hz C) (show List.lookup z [(z, ca)] = some ca by simp) ⟨o, e, s⟩ ?_) hd2
  refine SeqAt.notIn_listAt (fun v => v.isStr y) (hl.at_ A) (fun v hv => hs.eqAt v (by simpa using hv)) ?_
  rw [List.any_toArray, strs_any hs]
  exact wpAny_truthy_bool (hq _)
end
inductive Pv
  | n
  | s (x : Str)
  | i (k : Int)
inductive IsV : Pv → Value → Prop
  | n : IsV .n .none
  | s {x : Str} {u : Tok} : IsV (.s x) (.str x u)
  | i {k : Int} {u : Tok} : IsV (.i k) (.int k u)
inductive AreVs : List Pv → List Value → Prop
  | nil : AreVs [] []
  | cons {p v ps vs} : IsV p v → AreVs ps vs → AreVs (p :: ps) (v :: vs)
theorem IsV.eq {p : Pv} {x y : Value} {A : Around} {s : Shared} (h : IsV p x) (k : IsV p y) : SeqAt.EqAt A s x y true := by
  cases h with
  | n => cases k; exact SeqAt.EqAt.same _
  | @s a t => cases k with | @s _ u => have := SeqAt.EqAt.str_str (A := A) (s := s) a t a u; rwa [beq_self_eq_true] at this
  | @i a t => cases k with | @i _ u => have := SeqAt.EqAt.int_int (A := A) (s := s) a t a u; rwa [beq_self_eq_true] at this
theorem AreVs.len {ps : List Pv} {xs : List Value} (h : AreVs ps xs) : xs.length = ps.length := by
  induction h with
  | nil => rfl
  | cons _ _ ih => simp [ih]
theorem AreVs.get {ps : List Pv} {xs ys : List Value} (h : AreVs ps xs) : AreVs ps ys → ∀ j (h1 : j < xs.length) (h2 : j < ys.length) (A : Around) (s : Shared), SeqAt.EqAt A s xs[j] ys[j] true := by
  induction h generalizing ys with
  | nil => intro _ j h1; exact absurd h1 (Nat.not_lt_zero _)
  | cons a _ ih =>
    intro k j h1 h2 A s
    cases k with
    | cons b k =>
      cases j with
      | zero => exact a.eq b
      | succ j => exact ih k j (Nat.lt_of_succ_lt_succ h1) (Nat.lt_of_succ_lt_succ h2) A s
theorem all_true (n : Nat) : ((List.range n).all fun _ => true) = true := List.all_eq_true.mpr fun _ _ => rfl
section
variable {K0 : Params → Frag} {V : Program} {cc : CC} {c : Cf} {dz k : Nat} {l : List (Str × Value)} {H : Heap} {ld : LD} {K : Kt Value} {a b : Addr} {ps : List Pv} {xs ys : List Value}
theorem cl_line (Z : ZOk K0 V cc c dz) : c.A.units < cLine := by have := Z.hu; show c.A.units < 9900; omega
theorem e_eqL (Z : ZOk K0 V cc c dz) (ha : HL c.w H ld a xs) (hb : HL c.w H ld b ys) (h1 : AreVs ps xs) (h2 : AreVs ps ys) (z : K (.bool true) l H ld) : Stp k (Sp c l H ld (compareOp .Eq (.ref a) (.ref b)) K) := .mk fun h t A =>
  SeqAt.RcAt.lists (e := fun _ => true) (s := ⟨h, c.G, c.D, t, c.O⟩) (ha.at_ A) (hb.at_ A) (by simpa using h1.len.trans h2.len.symm) (cl_line Z) (fun j q1 q2 => by simpa using h1.get h2 j (by simpa using q1) (by simpa using q2) _ _) PG c.w c.E _ (by rw [all_true]; exact .mk l H ld h t A z)
theorem e_neL (Z : ZOk K0 V cc c dz) (ha : HL c.w H ld a xs) (hb : HL c.w H ld b ys) (h1 : AreVs ps xs) (h2 : AreVs ps ys) (z : K (.bool false) l H ld) : Stp k (Sp c l H ld (compareOp .NotEq (.ref a) (.ref b)) K) := .mk fun h t A =>
  SeqAt.RcNeAt.lists (e := fun _ => true) (s := ⟨h, c.G, c.D, t, c.O⟩) (ha.at_ A) (hb.at_ A) (by simpa using h1.len.trans h2.len.symm) (cl_line Z) (fun j q1 q2 => by simpa using h1.get h2 j (by simpa using q1) (by simpa using q2) _ _) PG c.w c.E _ (by rw [all_true]; exact .mk l H ld h t A z)
theorem e_eqLen (Z : ZOk K0 V cc c dz) (ha : HL c.w H ld a xs) (hb : HL c.w H ld b ys) (h1 : xs.length ≠ ys.length) (z : K (.bool false) l H ld) : Stp k (Sp c l H ld (compareOp .Eq (.ref a) (.ref b)) K) := .mk fun h t A =>
  SeqAt.eq_list_lengthsAt (s := ⟨h, c.G, c.D, t, c.O⟩) (ha.at_ A) (hb.at_ A) (by simpa using h1) (cl_line Z) (.mk l H ld h t A z)
end
section
variable {c : Cf} {k : Nat} {l : List (Str × Value)} {H : Heap} {ld : LD} {K : Kt Value}
theorem e_sitem {value slice : PySem.Expr} {x : Str} {i : Int} {cp : Nat} {t u : Tok} (hr : (decide (i < -(2 ^ 63 : Int)) || decide (i ≥ 2 ^ 63)) = false) (hc : (seqIndex? i x.length).bind (x.cps[·]?) = some cp) (z : ∀ u', K (.str ⟨#[cp]⟩ u') l H ld)
    (hs : subscripted slice false (.str x t) (.int i u) = operate [.str x t, .int i u] (getItem (.str x t) (.int i u))) : Stp k (Sp c l H ld (subscriptTail value slice (.str x t) (.int i u)) K) := .mk fun h tk A =>
  tail_any (typeIs_str _ _ _) PySem.F.slot_str_getitem.lookup (PyProof.Rows.getItem_str hr hc (.mk l H ld h _ A (z _))) hs
end
section
variable {c : Cf} {k : Nat} {l : List (Str × Value)} {H : Heap} {ld : LD} {K : Kt Bool} {env : Env} {p : Pos} {whole : Sem Value}
theorem e_orN (z : K false l H ld) : Stp k (Sp c l H ld (isTrue (.BoolOp .Or [] p) env whole) K) := .mk fun h t A => isTrue_or_nil (.mk l H ld h t A z)
theorem e_andN (z : K true l H ld) : Stp k (Sp c l H ld (isTrue (.BoolOp .And [] p) env whole) K) := .mk fun h t A => isTrue_and_nil (.mk l H ld h t A z)
end
section
variable {c : Cf} {k : Nat} {l : List (Str × Value)} {H : Heap} {ld : LD} {K : Kt Value} {x : Str} {t : Tok}
theorem e_strS (z : K (.str x t) l H ld) : Stp k (Sp c l H ld (call (.type "str") [.str x t]) K) := .mk fun h tk A => PySem.P.str_of_str (.mk l H ld h tk A z)
theorem e_strI0 (z : ∀ u, K (.str (Str.ofString "0") u) l H ld) : Stp k (Sp c l H ld (call (.type "str") [.int 0 t]) K) := .mk fun h tk A => PySem.P.str_of_int (by decide) (.mk l H ld h _ A (z _))
end
theorem pre_of {R : LD} : ∀ {B : LD} {κ : LD → Prop}, κ (B ++ R) → pre B R κ
  | [], _, h => h
  | p :: B, κ, h => pre_of (B := B) (κ := fun r => κ (p :: r)) h
theorem Pk.app {p : Addr × Ds} {r r' R : LD} (x : Pk p r r') : Pk p (r ++ R) (r' ++ R) := by
  induction x with
  | head => exact .head
  | tail _ ih => exact .tail ih
theorem Pk.mid {p : Addr × Ds} {R : LD} : ∀ (r : LD), Pk p (r ++ p :: R) (r ++ R)
  | [] => .head
  | _ :: r => .tail (Pk.mid r)
theorem Cut.skip {a : Addr × Ds} {r A R : LD} (x : Cut r A R) : Cut (a :: r) A (a :: R) := by
  induction x with
  | nil => exact .nil
  | cons y _ ih => exact .cons (.tail y) ih
theorem Cut.back {r : LD} : ∀ (R : LD), Cut (r ++ R) R r
  | [] => by rw [List.append_nil]; exact .nil
  | _ :: R => .cons (Pk.mid r) (Cut.back R)
theorem Cut.app {r A R S : LD} (x : Cut r A R) : Cut (r ++ S) A (R ++ S) := by
  induction x with
  | nil => exact .nil
  | cons y _ ih => exact .cons y.app ih
theorem Cut.trans {r A R A' R' : LD} (x : Cut r A R) (y : Cut R A' R') : Cut r (A ++ A') R' := by
  induction x with
  | nil => exact y
  | cons z _ ih => exact .cons z (ih y)
noncomputable def useRK (K : Kt Value) (R : LD) (l0 : List (Str × Value)) (H0 : Heap) : Kt Value := fun v l H ld => ∃ B B1 R1, ld = B ++ R ∧ l = l0 ∧ H = H0 ∧ Cut B B1 R1 ∧ pre R R1 fun r => pre B1 r fun ld => K v l0 H0 ld
theorem useR_mk {K : Kt Value} {R B B1 R1 : LD} {l : List (Str × Value)} {H : Heap} {v : Value} (cu : Cut B B1 R1) (h : pre R R1 fun r => pre B1 r fun ld => K v l H ld) : pre B R fun ld => useRK K R l H v l H ld := pre_of ⟨B, B1, R1, rfl, rfl, rfl, cu, h⟩
noncomputable def useFK (c : Cf) (K : Kt Value) (R : LD) (l0 : List (Str × Value)) (H0 : Heap) : Kt Value := fun v l H ld => ∃ B B1 R1, ld = B ++ R ∧ l = l0 ∧ H = H0 ∧ Cut B B1 R1 ∧ ∀ G, Keep H0 G → Has c.w G R1 → pre B1 R fun ld => K v l0 G ld
theorem useF_mk {c : Cf} {K : Kt Value} {R B B1 R1 : LD} {l : List (Str × Value)} {H : Heap} {v : Value} (cu : Cut B B1 R1) (h : ∀ G, Keep H G → Has c.w G R1 → pre B1 R fun ld => K v l G ld) : pre B R fun ld => useFK c K R l H v l H ld := pre_of ⟨B, B1, R1, rfl, rfl, rfl, cu, h⟩
section
variable {K0 : Params → Frag} {V : Program} {a : Addr} {d : Nat} {args : List Value} {Ad : LD} {P : World → Heap → Prop} {T : World → (Value → LD → Prop) → Prop}
variable {cc : CC} {c : Cf} {dz k : Nat} {l : List (Str × Value)} {H : Heap} {ld R : LD} {K : Kt Value}
theorem tri_useR (cn : Tri K0 V a d args Ad P T) (Z : ZOk K0 V cc c dz) (hd : d ≤ dz) (cu : Cut ld Ad R)
    (pr : ∀ g, Keep H g → Has c.w g R → P c.w g) (post : T c.w fun v B => pre B R fun ld => useRK K R l H v l H ld) : Stp k (Sp c l H ld (call (.ref a) args) K) := by
  refine .mk fun h t A => wpAny_mono (Stp.get (tri_use (k := 0) cn Z hd cu pr post) h t A) (fun v s b => ?_) fun _ _ e => e
  obtain ⟨l1, H1, ld1, h1, t1, A1, B, B1, R1, rfl, rfl, rfl, cb, x⟩ := b
  exact .mk _ _ _ h1 t1 (A1.perm (cb.app.trans ((Cut.back R).trans Cut.all))) (by have := pre_is (pre_is x); simpa using this)
theorem tri_useF (cn : Tri K0 V a d args Ad P T) (Z : ZOk K0 V cc c dz) (hd : d ≤ dz) (cu : Cut ld Ad R)
    (pr : ∀ g, Keep H g → Has c.w g R → P c.w g) (post : T c.w fun v B => pre B R fun ld => useFK c K R l H v l H ld) : Stp k (Sp c l H ld (call (.ref a) args) K) := by
  refine .mk fun h t A => wpAny_mono (Stp.get (tri_use (k := 0) cn Z hd cu pr post) h t A) (fun v s b => ?_) fun _ _ e => e
  obtain ⟨l1, H1, ld1, h1, t1, A1, B, B1, R1, rfl, rfl, rfl, cb, x⟩ := b
  have cu2 : Cut (B ++ R) (B1 ++ R) R1 := by
    have := (Cut.app (S := R) cb).trans (Cut.back R)
    exact this
  refine elEAA (A1.freeze cu2) ?_; rintro G g1 g2 AG
  exact .mk _ G _ h1 t1 AG (pre_is (x G g1 g2))
end
section
variable {c : Cf} {k : Nat} {l : List (Str × Value)} {H : Heap} {ld : LD} {K : Kt Value} {a : Addr} {vs : List Value} {v : Value} {u : Tok}
theorem e_itemT {value slice : PySem.Expr} {i : Int} {j : Nat} (hl : Hd c.w H ld a (.ob (tupOf vs))) (hlo : -(2 ^ 63) ≤ i) (hhi : i < 2 ^ 63) (hj : seqIndex? i vs.length = some j) (hx : vs[j]? = some v) (z : K v l H ld)
    (hs : subscripted slice false (.ref a) (.int i u) = operate [.ref a, .int i u] (getItem (.ref a) (.int i u))) : Stp k (Sp c l H ld (subscriptTail value slice (.ref a) (.int i u)) K) := .mk fun h t A => by
  obtain ⟨_, o, e, rfl⟩ := hl.at_ A
  have ht : IsTup h a vs.toArray := ⟨_, e, rfl, _, rfl⟩
  exact tail_any (T := "tuple") ⟨_, e, rfl⟩ slot_tuple_getitem.lookup (getItem_tuple (s := ⟨h, c.G, c.D, t, c.O⟩) ht hlo hhi (by simpa using hj) (by simpa using hx) (.mk l H ld h t A z)) hs
end
inductive WantTab : Prop
  | intro
inductive WantNd : Prop
  | intro
theorem isValOf_is {o : Option CFound} {g : Addr} (h : isValOf o g = true) : o = some (.val (.ref g)) := by
  unfold isValOf at h
  split at h
  · rw [Nat.eq_of_beq_eq_true h]
  · cases h
theorem cmOk_is {K : Frag} {C g : Addr} {name : Str} (h : cmOk K C name g = true) : specialIn K (.ref C) "__getattribute__" = some (some (.builtin "type.__getattribute__")) ∧ readsIn K C (.type "type") = true ∧ findCls K (.ref C) (.type "type") name = some (.val (.ref g)) := by
  refine elA (andTT h) ?_; rintro h1 h2
  refine elA (andTT h2) ?_; rintro h2 h3
  refine ⟨?_, h2, isValOf_is h3⟩
  split at h1
  · rename_i q; rw [q, beq_iff_eq.mp h1]
  · cases h1
section
variable {K0 : Params → Frag} {V : Program} {cc : CC} {c : Cf} {dz k : Nat} {l : List (Str × Value)} {H : Heap} {ld : LD}
theorem e_clsM {K : Kt (Value × List Value)} {C g : Addr} {pl : Sem Bool} (kc : KOk K0) (Z : ZOk K0 V cc c dz) (hm : hasP CMS C g = true) (y : K (.ref g, []) l H ld) : Stp k (Sp c l H ld (getMethod (.ref C) (Str.ofString "__init__") pl) K) := .mk fun h t A => by
  obtain ⟨a1, a2, a3⟩ := cmOk_is (hasP_all (q := fun C g => cmOk (K0 c.w.params) C (Str.ofString "__init__") g) hm (kc.cms c.w.params))
  exact method_cls (Z.xin A) a1 (cls_value (Z.xin A) a2 a3 rfl (.mk l H ld h _ A y))
end
section
variable {prog : Program} {w : World} {A : Around} {E : Value → Shared → Prop} {R : Result → Shared → Prop} {h : Heap} {g : Array GenState} {d : Drawn} {t : Nat} {os : OsState}
variable {nm q : Str} {C N : Addr} {bs bm : List Value} {hdct : Bool} {sn : List Str} {sub : List Value} {ab : Bool} {col : Option Bool} {dd : Option Addr} {k0 k1 k2 k3 k5 : Option Value}
structure DieBm (bm : List Value) : Prop where
  exc : bm.contains (.type "Exception") = true
  base : bm.contains (.type "BaseException") = true
  attr : bm.contains (.type "AttributeError") = false
  name : bm.contains (.type "NameError") = false
noncomputable abbrev dieObj (C t : Addr) : Obj := { cls := .ref C, data := .fields #[.ref t, .none, .none, .none, .bool false, .none] }
theorem die_new (D : DieBm bm) {rest : List Value} (hC : h.get? C = some (excClassObj nm q C N bs bm hdct sn sub ab col dd k0 k1 k2 k3 k5 "Exception.__new__")) (hz : rest.length ≤ sizeLine)
    (hq : R (.ok (.ret (.ref (h.objs.size + 1)))) ⟨(h.push (tupOf rest)).push (dieObj C h.objs.size), g, d, t, os⟩) :
    codeAny (model prog w) A (.builtin "Exception.__new__" ⟨.ref C :: rest, []⟩) R ⟨h, g, d, t, os⟩ := by
  have Fn := PySem.F.excBase_Exception
  have he := Fn.ends
  have y1 : (Value.ref C :: bm).contains (.type "Exception") = true := by rw [List.contains_cons, D.exc, Bool.or_true]
  have y2 : (Value.ref C :: bm).contains (.type "AttributeError") = false := by rw [List.contains_cons, D.attr]; rfl
  have y3 : (Value.ref C :: bm).contains (.type "NameError") = false := by rw [List.contains_cons, D.name]; rfl
  refine codeAny_builtinAt Fn.entry ?_
  unfold Builtin.«BaseException.__new__»
  refine PySem.wpAt_bind ?_
  show PySem.wpAt _ _ _ (stack >>= _) _ _ _
  refine PySem.wpAt_bind (PySem.wpAt_stack fun p below => PySem.wpAt_of_wpAny ?_)
  wp_walk
  refine PySem.wpAt_of_wpAny ?_
  rw [Fn.owner]
  repeat (first | with_reducible refine wpAny_madeHere_exc Fn.canon hC ?_ | with_reducible refine wpAny_loadPart_at hC ?_ | (with_reducible refine wpAny_isSubtype_exc hC ?_; first | rw [y1] | rw [y2] | rw [y3]) | wp_step)
  show R _ _
  rw [Heap.size_push]
  exact hq
theorem die_check (D : DieBm bm) {M : Model} {rest : List Value} {Q : Unit → Shared → Prop} (hC : h.get? C = some (excClassObj nm q C N bs bm hdct sn sub ab col dd k0 k1 k2 k3 k5 "Exception.__new__")) (hq : Q () ⟨h, g, d, t, os⟩) :
    wpAny M A (checkBuiltinCall "Exception.__new__" ⟨.ref C :: rest, []⟩) Q E ⟨h, g, d, t, os⟩ := by
  have Fn := PySem.F.excBase_Exception
  have y1 : (Value.ref C :: bm).contains (.type "Exception") = true := by rw [List.contains_cons, D.exc, Bool.or_true]
  have hs := Fn.noStar
  simp only [checkBuiltinCall, Fn.newKind, Fn.newSplit, Fn.newRow]
  repeat (first | refine wpAny_loadPart_at hC ?_ | (refine wpAny_isSubtype_exc hC ?_; rw [y1]) | refine wpAny_staticBase_exc hC ?_ | refine wpAny_madeBy_exc hC ?_ | simp only [bne_self_eq_false, Bool.false_eq_true, if_false] | wp_step)
  exact hq
theorem die_call (D : DieBm bm) {K : Frag} {fI : Addr} {rest : List Value} (X : K.In h) (hC : h.get? C = some (excClassObj nm q C N bs bm hdct sn sub ab col dd k0 k1 k2 k3 k5 "Exception.__new__"))
    (hi : findIn K (.ref C) "__init__" = some (some (.ref fI))) (hf : typeIn K (.ref fI) = some (.type "function")) (hz : rest.length ≤ sizeLine)
    (hq : wpAny (model prog w) (A.under (.builtin "type.__call__" ⟨.ref C :: rest, []⟩)) (call (.ref fI) (.ref (h.objs.size + 1) :: rest)) (fun r s' => r = .none ∧ R (.ok (.ret (.ref (h.objs.size + 1)))) s') (fun e s' => R (.error e) s') ⟨(h.push (tupOf rest)).push (dieObj C h.objs.size), g, d, t, os⟩) :
    codeAny (model prog w) A (.call (.ref C) ⟨rest, []⟩) R ⟨h, g, d, t, os⟩ := by
  have f1 := tc_lookup
  have f2 := tc_bind (.ref C)
  have hT : (⟨h, g, d, t, os⟩ : Shared).TypeIs (.ref C) "type" := ⟨_, hC, rfl⟩
  refine codeAny_of_tree ?_
  show wpAny _ _ (callAny (.ref C) _) _ _ _
  repeat (any_goals (first | assumption | with_reducible refine wpAny_loadPart_at hC ?_ | wp_step))
  refine ⟨rfl, ?_⟩
  refine codeAny_call_builtin_at (Code.quiet_builtin _ (by decide +kernel)) entry_typeCall (wpAny_check_type_call_sub hC ?_)
  repeat (first | with_reducible refine wpAny_loadPart_at hC ?_ | with_reducible refine wpAny_madeBy_exc hC ?_ | wp_step)
  refine codeAny_call_builtin_code (Code.quiet_builtin _ PySem.F.excBase_Exception.quiet) (die_check D hC ?_)
  refine die_new (rest := rest) D hC hz ?_
  show wpAny _ _ _ _ _ _
  have k : ∀ b o, h.get? b = some o → ((h.push (tupOf rest)).push (dieObj C h.objs.size)).get? b = some o := fun b o e => Heap.get?_push_of_some _ (Heap.get?_push_of_some _ e)
  have hx : ((h.push (tupOf rest)).push (dieObj C h.objs.size)).get? (h.objs.size + 1) = some (dieObj C h.objs.size) := by heap_get
  have X1 : K.In ((h.push (tupOf rest)).push (dieObj C h.objs.size)) := X.keeps k
  have hC1 := k _ _ hC
  have y : (Value.ref C :: bm).contains (.ref C) = true := by simp
  unfold isInstance
  repeat (first | (with_reducible refine wpAny_loadPart_at hx ?_; dsimp only [dieObj]) | (with_reducible refine wpAny_isSubtype_exc hC1 ?_; rw [y]) | wp_step)
  show wpAny _ _ (typeLookup (.ref C) _) _ _ _
  refine (looks_findIn X1 hi).here ?_
  dsimp only
  refine wpAny_holding (wpAny_bind ((bind_fn X1 (.ref (h.objs.size + 1)) hf).here ?_))
  refine wpAny_bind (wpAny_mono hq (fun r s' hr => ?_) fun _ _ x => x)
  refine elA hr ?_; (try clear hr); rintro rfl hQ
  wp_walk
  exact hQ
end
noncomputable abbrev dieBm (P : Addr) : List Value := [.ref P, .type "Exception", .type "BaseException", .type "object"]
theorem dieBm_ok {P : Addr} : DieBm (dieBm P) := ⟨by simp [dieBm], by simp [dieBm], by simp [dieBm], by simp [dieBm]⟩
section
open Builtin Builtin.ObjectAttr
variable {prog : Program} {w : World} {A : Around} {E : Value → Shared → Prop} {R : Result → Shared → Prop} {s : Shared} {K : Frag}
variable {nm q : Str} {C N P x : Addr} {bs bm : List Value} {sn : List Str} {sub : List Value} {ab : Bool} {col : Option Bool} {dd : Option Addr} {k0 k1 k2 k3 k5 : Option Value} {newId : String}
theorem refuse_die (self : Value) : refuseLoop self "__setattr__" [.ref C, .ref P, .type "Exception", .type "BaseException", .type "object"] = pure () := by
  rw [refuseLoop_ref, refuseLoop_ref]; exact PySem.F.store_Exception.passes self
theorem die_open {ox : Obj} {od : Option Obj} {name : Str} {tk : Tok} {v : Value} (X : K.In s.heap) (I : InstAt s.heap x ox C od) (hl : K.lookup C = some (excClassObj nm q C N bs (dieBm P) true sn sub ab col dd k0 k1 k2 k3 k5 newId)) (ht : findIn K (.ref C) name = some none)
    (h : ∀ b, wpAny (model prog w) A.in1 (storeInOwnDict (.ref x) (.ref C) (.str name tk) name v b)
      (fun fin s' => match fin with | .done f => R (.ok f) s' | .again c' => c'.quiet = true ∧ codeAny (model prog w) A c' R s') (fun e s' => R (.error e) s') s) :
    codeAny (model prog w) A (.call (.builtin "object.__setattr__") ⟨[.ref x, .str name tk, v], []⟩) R s := by
  have SF := PySem.F.store_object
  have hC := X _ _ hl
  have y : (Value.ref C :: dieBm P).contains (.type "object") = true := by simp [dieBm]
  have sub : Looks (model prog w) s.heap (isInstance (.ref x) (.type "object")) true := I.type.andThen fun A Q E s' k q => by
    obtain ⟨hh, g, d, t, os⟩ := s'
    refine wpAny_isSubtype_exc (k _ _ hC) ?_
    rw [y]; exact q
  refine codeAny_call_builtin SF.slot.plain SF.entry (@check_slot (model prog w) _ _ s "object.__setattr__" "object" "__setattr__" (.ref x) [.str name tk, v] [] _ SF.kind SF.split sub (SF.args (.ref x) (.str name tk) v) ?_)
  have hm : Looks (model prog w) s.heap (mroOf (.ref C)) (.ref C :: dieBm P) := fun A Q E s' k q => by
    obtain ⟨hh, g, d, t, os⟩ := s'
    exact wpAny_mroOf_exc (k _ _ hC) q
  rw [osa_eq, refuse_eq]
  refine wpAny_bind (wpAny_bind (I.type.here (wpAny_bind (hm.here ?_))))
  rw [show refuseLoop (.ref x) "__setattr__" (Value.ref C :: dieBm P) = pure () from refuse_die (.ref x)]
  refine wpAny_pure (wpAny_bind (I.type.here (wpAny_bind ((looks_findIn X ht).here (wpAny_bind ?_)))))
  exact wpAny_pure (h _)
theorem die_set0 {ox : Obj} {name : Str} {v : Value} {Q : Unit → Shared → Prop} (X : K.In s.heap) (hx : s.heap.get? x = some ox) (hc : ox.cls = .ref C) (hn : notCls ox = true) (hd : ox.dict = none) (hl : K.lookup C = some (excClassObj nm q C N bs (dieBm P) true sn sub ab col dd k0 k1 k2 k3 k5 newId)) (ht : findIn K (.ref C) name = some none)
    (hs : findIn K (.ref C) "__setattr__" = some (some (.builtin "object.__setattr__")))
    (h : ∀ h' u, (∀ b o, b ≠ x → s.heap.get? b = some o → h'.get? b = some o) → h'.get? x = some { ox with dict := some s.heap.objs.size } → h'.get? s.heap.objs.size = some (dictOf [⟨PyData.keyHash w.params name, .str name u, v⟩] 1) → Q () { s with heap := h', toks := s.toks + 2 }) :
    wpAny (model prog w) A (setAttr (.ref x) name v) Q E s := by
  have I : InstAt s.heap x ox C none := ⟨hx, hc, hn, by rw [hd]; trivial⟩
  refine set_plain X I hs (die_open (s := { s with toks := s.toks + 1 }) X I hl ht fun b => ?_)
  have hC := X _ _ hl
  obtain ⟨oc, odi, oda, osl⟩ := ox
  dsimp only at hc hd
  subst hc hd
  have hxs : x ≠ s.heap.objs.size := Nat.ne_of_lt (Heap.lt_size hx)
  refine wpAny_bind (wpAny_pure (wpAny_bind (wpAny_bind (wpAny_loadPart hx (wpAny_bind ?_)))))
  unfold classData
  refine wpAny_bind (wpAny_load hC (wpAny_pure ?_))
  have hnc : ∀ c, oda ≠ .cls c := fun c e => by subst e; cases hn
  have fin : wpAny (model prog w) A.in1 (do
      let d ← alloc emptyDict
      update x fun o => { o with dict := some d }
      dictMade (.ref C) x d) (fun a s' => wpAny (model prog w) A.in1 (match a with
        | some d => storeInDict d (Value.str name s.toks) name v
        | none => noDictFor (Value.ref x) (Value.ref C) name b) (fun fin s' => match fin with
          | .done f => (match (Except.ok f : Result) with | .ok (.ret v) => Q () s' | .ok a => False | .error e => E e s')
          | .again c' => c'.quiet = true ∧ codeAny (model prog w) A c' (fun r s' => match r with | .ok (.ret v) => Q () s' | .ok a => False | .error e => E e s') s') (fun e s' => E e s') s') (fun e s' => E e s') { s with toks := s.toks + 1 } := by
    have hx₁ : (s.heap.push emptyDict).get? x = some { cls := .ref C, dict := none, data := oda, slots := osl } := Heap.get?_push_of_some _ hx
    refine wpAny_bind (wpAny_alloc' (wpAny_bind (wpAny_update' hx₁ ?_)))
    refine wpAny_pure ?_
    have hfr : ({ cls := .ref C, dict := some s.heap.objs.size, data := oda, slots := osl } : Obj).isFreed = false := by
      have := (Heap.get?_some_iff.mp hx).2
      cases oda <;> first | rfl | exact this
    have D : ((s.heap.push emptyDict).update x fun o => { o with dict := some s.heap.objs.size }).get? s.heap.objs.size = some emptyDict := (Heap.get?_update_ne _ _ _ _ hxs.symm).trans (Heap.get?_push_at rfl rfl)
    have hx₂ : ((s.heap.push emptyDict).update x fun o => { o with dict := some s.heap.objs.size }).get? x = some { cls := .ref C, dict := some s.heap.objs.size, data := oda, slots := osl } := Heap.get?_update_self _ hx₁ hfr
    show wpAny _ _ (storeInDict s.heap.objs.size (.str name s.toks) name v) _ _ _
    unfold storeInDict newKeyGuard
    refine wpAny_bind (wpAny_pure (wpAny_bind ?_))
    unfold nsSet
    refine wpAny_bind (wpAny_bind (wpAny_askSetting (wpAny_pure (wpAny_bind (wpAny_mkText (wpAny_bind (wpAny_loadPart D ?_)))))))
    dsimp only
    rw [aRefKeyMayBeTheName_at, if_neg (by simp)]
    have D' : (((s.heap.push emptyDict).update x fun o => { o with dict := some s.heap.objs.size }).update s.heap.objs.size (Obj.putName name (PyData.keyHash w.params name) (.str name (s.toks + 1)) v)).get? s.heap.objs.size = some (dictOf [⟨PyData.keyHash w.params name, .str name (s.toks + 1), v⟩] 1) := by
      have z := Heap.get?_update_self (Obj.putName name (PyData.keyHash w.params name) (.str name (s.toks + 1)) v) D (by rfl)
      exact z
    refine wpAny_updatePart D ?_
    refine wpAny_bind (wpAny_lookBehind D' (pastItsLine_dict (by rw [sizeLine_eq]; simp)) ?_)
    refine wpAny_pure (h _ (s.toks + 1) (fun c o hb e => ?_) ?_ D')
    · exact (Heap.get?_update_ne _ _ _ _ (Nat.ne_of_lt (Heap.lt_size e))).trans ((Heap.get?_update_ne _ _ _ _ hb).trans (Heap.get?_push_of_some _ e))
    · exact (Heap.get?_update_ne _ _ _ _ hxs).trans hx₂
  cases oda with
  | cls c => exact absurd rfl (hnc c)
  | _ => exact fin
theorem die_set1 {ox : Obj} {dx : Addr} {es : List DictEntry} {n : Nat} {name : Str} {v : Value} {Q : Unit → Shared → Prop} (X : K.In s.heap) (hx : s.heap.get? x = some ox) (hc : ox.cls = .ref C) (hn : notCls ox = true) (hd : ox.dict = some dx) (hdx : s.heap.get? dx = some (dictOf es n)) (hk : KeysLit w.params es) (hz : es.length ≤ 100)
    (hl : K.lookup C = some (excClassObj nm q C N bs (dieBm P) true sn sub ab col dd k0 k1 k2 k3 k5 newId)) (ht : findIn K (.ref C) name = some none) (hs : findIn K (.ref C) "__setattr__" = some (some (.builtin "object.__setattr__")))
    (h : ∀ h' u, (∀ b o, b ≠ dx → s.heap.get? b = some o → h'.get? b = some o) → h'.get? dx = some (dictOf (putL name (PyData.keyHash w.params name) (.str name u) v es) (putN name es n)) → Q () { s with heap := h', toks := s.toks + 2 }) :
    wpAny (model prog w) A (setAttr (.ref x) name v) Q E s := by
  have I : InstAt s.heap x ox C (some (dictOf es n)) := ⟨hx, hc, hn, by rw [hd]; exact hdx⟩
  refine set_plain X I hs (die_open (s := { s with toks := s.toks + 1 }) X I hl ht fun b => ?_)
  have hC := X _ _ hl
  obtain ⟨oc, odi, oda, osl⟩ := ox
  dsimp only at hc hd
  subst hc hd
  refine wpAny_bind (wpAny_pure (wpAny_bind (wpAny_bind (wpAny_loadPart hx (wpAny_bind ?_)))))
  unfold classData
  refine wpAny_bind (wpAny_load hC (wpAny_pure ?_))
  refine wpAny_pure ?_
  show wpAny _ _ (storeInDict dx (.str name s.toks) name v) _ _ _
  unfold storeInDict newKeyGuard
  refine wpAny_bind (wpAny_pure (wpAny_bind ?_))
  unfold nsSet
  refine wpAny_bind (wpAny_bind (wpAny_askSetting (wpAny_pure (wpAny_bind (wpAny_mkText (wpAny_bind (wpAny_loadPart hdx ?_)))))))
  dsimp only
  have hr : es.any (·.refKey) = false := by
    rw [List.any_eq_false]
    intro e he
    refine elEEA (hk.all e he) ?_; rintro y t hy _
    unfold DictEntry.refKey
    rw [hy]; simp
  have c : (!es.toArray.any (·.key.isStr name) && es.toArray.any (·.refKey)) = false := by
    rw [← Array.any_toList, ← Array.any_toList]
    simp [hr]
  rw [aRefKeyMayBeTheName_at, c, if_neg Bool.false_ne_true]
  have D' : (s.heap.update dx (Obj.putName name (PyData.keyHash w.params name) (.str name (s.toks + 1)) v)).get? dx = some (dictOf (putL name (PyData.keyHash w.params name) (.str name (s.toks + 1)) v es) (putN name es n)) := by
    have z := Heap.get?_update_self (Obj.putName name (PyData.keyHash w.params name) (.str name (s.toks + 1)) v) hdx (by rw [putName_dict]; rfl)
    rw [putName_dict] at z
    exact z
  refine wpAny_updatePart hdx ?_
  refine wpAny_bind (wpAny_lookBehind D' (pastItsLine_dict ?_) ?_)
  · rw [List.size_toArray, sizeLine_eq]
    have : (putL name (PyData.keyHash w.params name) (.str name (s.toks + 1)) v es).length ≤ es.length + 1 := putL_len
    omega
  · exact wpAny_pure (h _ (s.toks + 1) (fun c o hb e => (Heap.get?_update_ne _ _ _ _ hb).trans e) D')
end
section
open Builtin Builtin.ObjectAttr
variable {prog : Program} {w : World} {A : Around} {E : Value → Shared → Prop} {R : Result → Shared → Prop} {s : Shared} {K : Frag}
variable {nm q : Str} {C N P x : Addr} {bs bm : List Value} {sn : List Str} {sub : List Value} {ab : Bool} {col : Option Bool} {dd : Option Addr} {k0 k1 k2 k3 k5 : Option Value} {newId : String}
theorem die_init {ox : Obj} {vs : Array Value} {t0 : Addr} {v : Value} {Q : Value → Shared → Prop} (X : K.In s.heap) (hx : s.heap.get? x = some ox) (hc : ox.cls = .ref C) (hd : ox.data = .fields vs) (h0 : vs[0]? = some (.ref t0))
    (hl : K.lookup C = some (excClassObj nm q C N bs (dieBm P) true sn sub ab col dd k0 k1 k2 k3 k5 newId))
    (h : ∀ h', (∀ b o, b ≠ x → s.heap.get? b = some o → h'.get? b = some o) → h'.get? x = some { ox with data := .fields (vs.setIfInBounds 0 (.ref s.heap.objs.size)) } → h'.get? s.heap.objs.size = some (tupOf [v]) → Q .none { s with heap := h' }) :
    wpAny (model prog w) A (call (.builtin "Exception.__init__") [.ref x, v]) Q E s := by
  have Fn := PySem.F.excBase_Exception
  have hC := X _ _ hl
  have y : (Value.ref C :: dieBm P).contains (.type "Exception") = true := by simp [dieBm]
  have chk : ∀ (M : Model) (A : Around) (E : Value → Shared → Prop) (Q : Unit → Shared → Prop), Q () s → wpAny M A (checkBuiltinCall "Exception.__init__" ⟨[.ref x, v], []⟩) Q E s := by
    intro M A E Q q
    obtain ⟨hh, g, d, tk, os⟩ := s
    dsimp only at hx hC
    have hs := Fn.noStar
    simp only [checkBuiltinCall, Fn.initKind, Fn.initSplit, Fn.initRow]
    repeat (first | (with_reducible refine wpAny_loadPart_at hx ?_; rw [hc]) | with_reducible refine wpAny_loadPart_at hC ?_ | (with_reducible refine wpAny_isSubtype_exc hC ?_; rw [y]) | wp_step)
    exact q
  refine wpAny_call (codeAny_call_builtin Fn.init.plain Fn.initEntry (chk _ _ _ _ ?_))
  unfold Builtin.«BaseException.__init__»
  refine wpAny_bind (wpAny_newTuple ?_ (by rw [sizeLine_eq]; simp))
  have hx1 : (s.heap.push (tupOf [v])).get? x = some ox := Heap.get?_push_of_some _ hx
  unfold Builtin.BaseException.bexcPut
  refine wpAny_bind (wpAny_bind (wpAny_field hx1 hd h0 (wpAny_bind (wpAny_setField hx1 hd (Array.getElem?_eq_some_iff.mp h0).1 ?_))))
  have hxs : x ≠ s.heap.objs.size := Nat.ne_of_lt (Heap.lt_size hx)
  have fin : Q .none { s with heap := (s.heap.push (tupOf [v])).update x (Obj.mapFields (·.setIfInBounds 0 (.ref s.heap.objs.size))) } := by
    refine h _ (fun b o hb e => ?_) ?_ ?_
    · exact (Heap.get?_update_ne _ _ _ _ hb).trans (Heap.get?_push_of_some _ e)
    · refine (Heap.get?_update_self _ hx1 (Obj.isFreed_of_fields (Obj.data_mapFields hd _))).trans ?_
      obtain ⟨oc, od, oda, osl⟩ := ox
      dsimp only at hd
      subst hd
      rfl
    · exact (Heap.get?_update_ne _ _ _ _ hxs.symm).trans (Heap.get?_push_at rfl rfl)
  wp_walk
  exact fin
end
section
variable {prog : Program} {w : World} {A : Around} {E : Value → Shared → Prop} {s : Shared} {K : Frag} {env : Env}
variable {nm q : Str} {C N P x : Addr} {bs bm : List Value} {hdct : Bool} {sn : List Str} {sub : List Value} {ab : Bool} {col : Option Bool} {dd : Option Addr} {k0 k1 k2 k3 k5 : Option Value} {newId : String}
theorem die_raise0 {M : Model} {ex : Sem Value} {Q : Flow → Shared → Prop} (hh : A.handled = none)
    (h : wpAny M A ex (fun v s₁ => ∃ e oe vs, v = .ref e ∧ s₁.heap.get? C = some (excClassObj nm q C N bs (dieBm P) hdct sn sub ab col dd k0 k1 k2 k3 k5 newId) ∧ s₁.heap.get? e = some oe ∧ oe.cls = .ref C ∧ oe.data = .fields vs ∧ vs[1]? = some .none ∧ E (.ref e) s₁) E s) :
    wpAny M A (raiseStmt env (some ex) none) Q E s := by
  have y : (Value.ref C :: dieBm P).contains (.type "BaseException") = true := by simp [dieBm]
  unfold raiseStmt
  refine wpAny_bind (wpAny_mono h (fun v s₁ h₁ => ?_) fun _ _ x => x)
  refine elEEEAAAAAA h₁ ?_; (try clear h₁); rintro e oe vs rfl hC he hc hd h1 hE
  obtain ⟨hp, g, d, tk, os⟩ := s₁
  dsimp only at hC he
  repeat (first | (with_reducible refine wpAny_loadPart_at he ?_; rw [hc]) | with_reducible refine wpAny_field he hd h1 ?_ | with_reducible refine wpAny_loadPart_at hC ?_ | (with_reducible refine wpAny_isSubtype_exc hC ?_; rw [y]) | wp_step)
  exact wpAny_raiseNew_none hh hE
theorem die_raise {ex : PySem.Expr} {pos : Pos} {Q : Flow → Shared → Prop} (hh : A.handled = none)
    (h : wpAny (model prog w) A (eval ex env) (fun v s₁ => ∃ e oe vs, v = .ref e ∧ s₁.heap.get? C = some (excClassObj nm q C N bs (dieBm P) hdct sn sub ab col dd k0 k1 k2 k3 k5 newId) ∧ s₁.heap.get? e = some oe ∧ oe.cls = .ref C ∧ oe.data = .fields vs ∧ vs[1]? = some .none ∧ E (.ref e) s₁) E s) :
    wpAny (model prog w) A (exec (.Raise (some ex) none pos) env) Q E s := by
  rw [arm_exec_Raise]
  refine wpAny_bind (wpAny_standAt ?_)
  exact die_raise0 hh (wpAny_bind (wpAny_mono h (fun v s₁ hv => wpAny_bind (wpAny_standAt (wpAny_pure hv))) fun _ _ e => e))
end
structure FlyD (G h : Heap) (e d C : Addr) (fl : Value) : Prop where
  keep : G.StaysIn h
  en : G.get? e = none
  ex : ∃ oe vs T oT ts, h.get? e = some oe ∧ oe.cls = .ref C ∧ oe.dict = some d ∧ oe.data = .fields vs ∧ vs[1]? = some (.ref T) ∧ T ≠ e ∧ G.get? T = none ∧ h.get? T = some oT ∧ oT.data = .fields ts ∧ ts[3]? = some fl
section
variable {M : Model} {A : Around} {E : Value → Shared → Prop} {s : Shared} {G : Heap} {env : Env} {outer l : List Env} {L e d C : Addr} {oe : Obj} {vs : Array Value} {fl : Value}
theorem dict_mapFields (o : Obj) (f : Array Value → Array Value) : (Obj.mapFields f o).dict = o.dict := by
  obtain ⟨oc, od, dt, sl⟩ := o
  cases dt <;> rfl
theorem fly_entry {head : Value} {hadNext : Bool} {Q : Unit → Shared → Prop} (hfr : A.frames = some (env :: outer)) (hl : s.heap.FunFrames G (env :: outer)) (he : s.heap.get? e = some oe) (hc : oe.cls = .ref C) (hdd : oe.dict = some d) (hd : oe.data = .fields vs) (hz : 1 < vs.size) (hk : G.StaysIn s.heap) (hen : G.get? e = none) (hf : env.frame = some L)
    (h : ∀ h', FlyD G h' e d C (rawInt L) → h'.FunFrames G (env :: outer) → s.heap.UpToSlots h' → Q () { s with heap := h' }) :
    wpAny M A (do let a ← frameOf env; let pl ← entryPlaceOf L hadNext; let b ← EntryCells.newEntry head a .none (rawInt L) .none pl; setField (.ref e) 1 b) Q E s := by
  have nofr : e ∉ (env :: outer).filterMap (·.frame) := fun hm => by
    refine elAEA (hl.mem hm) ?_; rintro _ o ho hnf
    rw [he] at ho; cases ho
    exact hnf _ hd
  refine wpAny_bind (wpAny_frameOf_fun hfr hl hf fun h₁ hs₁ => wpAny_bind (wpAny_entryPlaceOf fun pl hpl => ?_))
  unfold EntryCells.newEntry newFields
  refine wpAny_bind (wpAny_newObj_type ?_ (hpl.sizeOk5 _ _ _ _ _))
  have k1 : G.StaysIn h₁ := fun b o e => (hs₁.2.1 b fun hm => by rw [(hl.mem hm).1] at e; cases e).trans (hk b o e)
  have he1 : h₁.get? e = some oe := (hs₁.2.1 e nofr).trans he
  generalize hTo : ({ cls := .type "traceback", dict := none, data := .fields ([head, .ref L, .none, rawInt L, .none] ++ (if pl.isEmpty then List.replicate 6 Value.none else pl)).toArray } : Obj) = oT
  have hTe : h₁.objs.size ≠ e := Nat.ne_of_gt (Heap.lt_size he1)
  have hTd : oT.data = .fields ([head, .ref L, .none, rawInt L, .none] ++ (if pl.isEmpty then List.replicate 6 Value.none else pl)).toArray := by rw [← hTo]
  have hTf : oT.isFreed = false := Obj.isFreed_of_fields hTd
  have he2 : (h₁.push oT).get? e = some oe := Heap.get?_push_of_some _ he1
  refine wpAny_setField he2 hd hz (h _ ?_ ?_ ?_)
  · have hd3 := Obj.data_mapFields hd (·.setIfInBounds 1 (Value.ref h₁.objs.size))
    refine ⟨fun b o q => ?_, hen, _, _, h₁.objs.size, oT, _, Heap.get?_update_self _ he2 (Obj.isFreed_of_fields hd3), (Obj.cls_mapFields _ _).trans hc, (dict_mapFields _ _).trans hdd, hd3, by simp [hz], hTe, ?_, (Heap.get?_update_other _ _ (Ne.symm hTe)).trans (Heap.get?_push_at rfl hTf), hTd, ?_⟩
    · refine (Heap.get?_update_other _ _ (fun z : e = b => by rw [← z, hen] at q; cases q)).trans (Heap.get?_push_of_some _ (k1 b o q))
    · cases q : G.get? h₁.objs.size with
      | none => rfl
      | some o => exact absurd (Heap.lt_size (k1 _ _ q)) (Nat.lt_irrefl _)
    · rcases hpl with rfl | ⟨_, _, _, _, _, _, _, rfl⟩ <;> simp
  · refine hl.of_keeps fun b o q hnf => ?_
    refine elE (hs₁.2.2 b o q) ?_; rintro sl hs
    refine ⟨_, (Heap.get?_update_other _ _ (fun z : e = b => by rw [← z, he] at q; cases q; exact hnf _ hd)).trans (Heap.get?_push_of_some _ hs), rfl⟩
  · intro b o q hnf
    refine elE (hs₁.2.2 b o q) ?_; rintro sl hs
    exact ⟨sl, (Heap.get?_update_other _ _ (fun z : e = b => by rw [← z, he] at q; cases q; exact hnf _ hd)).trans (Heap.get?_push_of_some _ hs)⟩
theorem fly_set {Q : Unit → Shared → Prop} (F : FlyD G s.heap e d C fl) (hl : s.heap.FunFrames G l) (h : ∀ h', FlyD G h' e d C .none → h'.FunFrames G l → s.heap.UpToSlots h' → Q () { s with heap := h' }) : wpAny M A (setFlight (.ref e) none) Q E s := by
  obtain ⟨k, hen, oe, vs, T, oT, ts, he, hc, hdd, hd, h1, hTe, hTG, hT, hTd, h3⟩ := F
  unfold setFlight
  refine wpAny_bind (wpAny_field he hd h1 ?_)
  rw [if_pos (show (Value.ref T != Value.none) = true from by simp)]
  have hz := (Array.getElem?_eq_some_iff.mp h3).1
  have nT : ∀ b o, s.heap.get? b = some o → (∀ vs, o.data ≠ .fields vs) → T ≠ b := fun b o q hnf z => by rw [← z, hT] at q; cases q; exact hnf _ hTd
  refine wpAny_setField hT hTd hz (h _ ⟨fun b o q => ?_, hen, oe, vs, T, _, _, ?_, hc, hdd, hd, h1, hTe, hTG, Heap.get?_update_self _ hT (Obj.isFreed_of_fields (Obj.data_mapFields hTd _)), Obj.data_mapFields hTd _, by simp [hz]⟩ ?_ ?_)
  · exact (Heap.get?_update_other _ _ (fun z : T = b => by rw [← z, hTG] at q; cases q)).trans (k b o q)
  · exact (Heap.get?_update_other _ _ hTe).trans he
  · exact hl.of_keeps fun b o q hnf => ⟨o, (Heap.get?_update_other _ _ (nT b o q hnf)).trans q, rfl⟩
  · exact fun b o q hnf => ⟨o.slots, (Heap.get?_update_other _ _ (nT b o q hnf)).trans q⟩
end
section
variable {M : Model} {A : Around} {E : Value → Shared → Prop} {s : Shared} {G : Heap} {env : Env} {outer l : List Env} {L e d C : Addr} {oe : Obj} {vs : Array Value} {fl : Value}
theorem fly_first {Q : Unit → Shared → Prop} (hfr : A.frames = some (env :: outer)) (hl : s.heap.FunFrames G (env :: outer)) (he : s.heap.get? e = some oe) (hc : oe.cls = .ref C) (hdd : oe.dict = some d) (hd : oe.data = .fields vs) (h1 : vs[1]? = some .none) (hk : G.StaysIn s.heap) (hen : G.get? e = none) (hf : env.frame = some L)
    (h : ∀ h', FlyD G h' e d C .none → h'.FunFrames G outer → s.heap.UpToSlots h' → Q () { s with heap := h' }) : wpAny M A (leaving env (.ref e)) Q E s := by
  unfold leaving noteFrame
  simp only [hf]
  refine wpAny_bind (wpAny_bind (wpAny_field he hd h1 ?_))
  rw [if_neg (by decide)]
  refine fly_entry hfr hl he hc hdd hd (Array.getElem?_eq_some_iff.mp h1).1 hk hen hf fun h' F' l' u' => ?_
  refine fly_set (s := { s with heap := h' }) F' l' fun h2 F2 l2 u2 => ?_
  exact h h2 F2 l2.2.2 (u'.trans u2)
theorem fly_note {Q : Unit → Shared → Prop} (hfr : A.frames = some (env :: outer)) (hl : s.heap.FunFrames G (env :: outer)) (F : FlyD G s.heap e d C .none) (hf : env.frame = some L)
    (h : ∀ h', FlyD G h' e d C (rawInt L) → h'.FunFrames G (env :: outer) → s.heap.UpToSlots h' → Q () { s with heap := h' }) : wpAny M A (noteFrame (.ref e) env) Q E s := by
  obtain ⟨k, hen, oe, vs, T, oT, ts, he, hc, hdd, hd, h1, hTe, hTG, hT, hTd, h3⟩ := F
  have nT : ∀ b o, s.heap.get? b = some o → (∀ vs, o.data ≠ .fields vs) → T ≠ b := fun b o q hnf z => by rw [← z, hT] at q; cases q; exact hnf _ hTd
  unfold noteFrame
  simp only [hf]
  refine wpAny_bind (wpAny_field he hd h1 ?_)
  rw [if_pos (show (Value.ref T != Value.none) = true from by simp)]
  refine wpAny_bind (wpAny_field hT hTd h3 ?_)
  rw [if_neg (show ¬ ((Value.none == rawInt L) = true) from by simp [rawInt])]
  refine wpAny_bind (wpAny_setField hT hTd (Array.getElem?_eq_some_iff.mp h3).1 ?_)
  refine fly_entry (s := { s with heap := s.heap.update T (Obj.mapFields (·.setIfInBounds 3 Value.none)) }) hfr (hl.of_keeps fun b o q hnf => ⟨o, (Heap.get?_update_other _ _ (nT b o q hnf)).trans q, rfl⟩) ((Heap.get?_update_other _ _ hTe).trans he) hc hdd hd (Array.getElem?_eq_some_iff.mp h1).1
    (fun b o q => (Heap.get?_update_other _ _ (fun z : T = b => by rw [← z, hTG] at q; cases q)).trans (k b o q)) hen hf fun h' F' l' u' => h h' F' l' fun b o q hnf => u' b o ((Heap.get?_update_other _ _ (nT b o q hnf)).trans q) hnf
theorem fly_next {Q : Unit → Shared → Prop} (hfr : A.frames = some (env :: outer)) (hl : s.heap.FunFrames G (env :: outer)) (F : FlyD G s.heap e d C .none) (hf : env.frame = some L)
    (h : ∀ h', FlyD G h' e d C .none → h'.FunFrames G outer → s.heap.UpToSlots h' → Q () { s with heap := h' }) : wpAny M A (leaving env (.ref e)) Q E s := by
  unfold leaving
  refine wpAny_bind (fly_note hfr hl F hf fun h' F' l' u' => ?_)
  exact fly_set (s := { s with heap := h' }) F' l' fun h2 F2 l2 u2 => h h2 F2 l2.2.2 (u'.trans u2)
end
theorem funFrames_hideD {base h : Heap} {as : List Addr} : ∀ {l : List Env}, h.FunFrames base l → (∀ env ∈ l, ∀ a, env.frame = some a → a ∈ as) → h.FunFrames (hideAll h as) l
  | [], _, _ => trivial
  | env :: _, ⟨hk, ⟨L, o, hf, _, ho, hd⟩, hr⟩, hin => ⟨hk, ⟨L, o, hf, hideAll_none _ (hin env (.head _) L hf), ho, hd⟩, funFrames_hideD hr fun e he => hin e (.tail _ he)⟩
section
open Builtin Builtin.ObjectAttr
variable {w : World} {A : Around} {E : Value → Shared → Prop} {s : Shared} {K : Frag}
variable {nm q : Str} {C N P x : Addr} {bs bm : List Value} {sn : List Str} {sub : List Value} {ab : Bool} {col : Option Bool} {dd : Option Addr} {k0 k1 k2 k3 k5 : Option Value} {newId : String}
theorem die_get {ox : Obj} {od : Option Obj} {name : Str} {v : Value} {expr : Bool} {Q : Value → Shared → Prop} (X : K.In s.heap) (I : InstAt s.heap x ox C od) (hl : K.lookup C = some (excClassObj nm q C N bs (dieBm P) true sn sub ab col dd k0 k1 k2 k3 k5 newId))
    (hga : findIn K (.ref C) "__getattribute__" = some (some (.builtin "BaseException.__getattribute__"))) (hgt : findIn K (.ref C) "__getattr__" = some none) (hf : findObj K C od name = some (.value v)) (hv : handedIn v = true) (h : Q v { s with toks := s.toks + 1 }) :
    wpAny (model PG w) A (getAttr (.ref x) name expr) Q E s := by
  have FX := PySem.F.attr_Exception
  have hC := X _ _ hl
  obtain ⟨hh, g, d, t, os⟩ := s
  dsimp only at hC
  have L0 := I.type (M := model PG w)
  have L1 := looks_findIn (M := model PG w) X hga
  have L2 := looks_findIn (M := model PG w) X hgt
  have L3 := looks_find (M := model PG w) X I hf
  have f3 := FX.ga.bind (.ref x)
  have y : (Value.ref C :: dieBm P).contains (.type "BaseException") = true := by simp [dieBm]
  have sub : Looks (model PG w) hh (isInstance (.ref x) (.type "BaseException")) true := I.type.andThen fun A Q E s' k q => by
    obtain ⟨h2, g, d, t, os⟩ := s'
    refine wpAny_isSubtype_exc (k _ _ hC) ?_
    rw [y]; exact q
  have hx0 : (expr && onTheHeap (Value.builtin "BaseException.__getattribute__")) = false := by cases expr <;> rfl
  have hx2 : (Value.builtin "BaseException.__getattribute__" == Value.builtin "object.__getattribute__") = false := by decide +kernel
  have hx1 : (onTheHeap (Value.ref C) && Value.builtin "BaseException.__getattribute__" == Value.builtin "object.__getattribute__") = false := by rw [hx2]; rfl
  unfold getAttr getAttrBy
  refine wpAny_bind (wpAny_mkText (wpAny_holding (wpAny_bind (L0.at (wpAny_bind (L1.at ?_))))))
  dsimp only
  rw [hx1, if_neg Bool.false_ne_true]
  unfold getAttrByItsOwn
  have run : ∀ (A' : Around) (R : Result → Shared → Prop), R (.ok (.ret v)) ⟨hh, g, d, t + 1, os⟩ → codeAny (model PG w) A' (.call (.builtin "BaseException.__getattribute__") ⟨[.ref x, .str name t], []⟩) R ⟨hh, g, d, t + 1, os⟩ := by
    intro A' R hR
    refine codeAny_call_builtin FX.ga.plain PySem.F.entry_bexc_ga (@check_slot (model PG w) _ _ ⟨hh, g, d, t + 1, os⟩ "BaseException.__getattribute__" "BaseException" "__getattribute__" (.ref x) [.str name t] [] _ (by decide +kernel) (by decide +kernel) sub (PySem.F.args_bexc_ga _ _) ?_)
    unfold Builtin.«object.__getattribute__»
    refine wpAny_bind (wpAny_of_eq (show slotArgs "__getattribute__" 1 ⟨[.ref x, .str name t], []⟩ = pure (.ref x, [.str name t]) by rfl) ?_)
    dsimp only
    refine wpAny_bind (wpAny_of_eq (show attrName (.str name t) = pure name by rfl) (wpAny_bind (L0.at (wpAny_bind (L3.at ?_)))))
    exact wpAny_pure hR
  unfold hookBefore callGetattribute
  rw [if_pos (show onTheHeap (Value.ref C) = true from rfl), hx0, if_neg Bool.false_ne_true]
  refine wpAny_bind (L2.at (wpAny_bind (wpAny_attempt (wpAny_holding ?_))))
  unfold boundAndCalled
  rw [f3]
  refine wpAny_bind (wpAny_pure (wpAny_call (run _ _ ?_)))
  dsimp only
  rw [handedOut_of hv]
  exact wpAny_pure h
end
noncomputable abbrev dieArgs (t : Addr) : Data := .fields #[.ref t, .none, .none, .none, .bool false, .none]
noncomputable abbrev dieAt (d t : Addr) : Obj := ⟨.ref 336, some d, dieArgs t, #[]⟩
section
variable {c : Cf} {l : List (Str × Value)} {ld : LD} {H h h' : Heap}
theorem At.cutTo {e : Addr} {d d' : Ds} {B' R : LD} (A : At c l H ld h) (cu : Cut ld [(e, d)] R) (kb : ∀ b o, b ≠ e → h.get? b = some o → h'.get? b = some o) (hs : OAt c.w h' e d') (hB : ∀ p ∈ B', OAt c.w h' p.1 p.2 ∧ h.get? p.1 = none) (bb : Apt ((e, d') :: B')) : At c l H ((e, d') :: B' ++ R) h' := by
  refine elEA A.ex ?_; rintro m S F
  have ck := A.cut cu
  have me := ck.a _ (.head _)
  have gI := A.offg (.tail _ me)
  have eL := A.offL me
  obtain ⟨⟨oL, a1, a2, hL, a3⟩, b, ab⟩ := F
  refine A.step (as := [e]) (B := (e, d') :: B') S ⟨⟨oL, a1, a2, kb _ _ (A.offL me).symm hL, a3⟩, fun x o q => kb x o (fun z => by rw [z, gI] at q; cases q) (b x o q), ab⟩ (fun b o q n _ => kb b o (fun z => n (List.mem_singleton.mpr z)) q) (fun x hx => by rw [List.mem_singleton.mp hx]; exact A.lg.off _ (.tail _ me)) (fun p hp => ⟨ck.r p hp, fun q => ck.ar _ (.head _) p hp (List.mem_singleton.mp q).symm⟩) ck.rr (fun p hp => ?_) bb
  rcases List.mem_cons.mp hp with rfl | hp
  · exact ⟨hs, .inr ⟨.head _, eL⟩⟩
  · exact ⟨(hB p hp).1, .inl (hB p hp).2⟩
theorem none_size {h : Heap} : h.get? h.objs.size = none := by
  cases q : h.get? h.objs.size with
  | none => rfl
  | some o => exact absurd (Heap.lt_size q) (Nat.lt_irrefl _)
end
section
variable {K0 : Params → Frag} {V : Program} {cc : CC} {c : Cf} {dz k : Nat} {l : List (Str × Value)} {H : Heap} {ld ld' R : LD} {h : Heap} {e d t0 : Addr} {name : Str} {v : Value} {f : Str → Option Value} {n : Nat}
theorem e_dieInit {K : Kt Value} (kd : KOk K0) (Z : ZOk K0 V cc c dz) (cu : Cut ld [(e, .ob (dieObj 336 t0))] R) (y : ∀ t, K .none l H ((e, .ob (dieObj 336 t)) :: R)) : Stp k (Sp c l H ld (call (.builtin "Exception.__init__") [.ref e, v]) K) := .mk fun h tk A => by
  obtain ⟨nm, q, N, bs, sn, sub, ab, col, dd, k0, k1, k2, k3, k5, hl⟩ := (kd.dieK c.w.params).cls
  obtain ⟨_, o, e1, rfl⟩ := A.oat ((A.cut cu).a _ (.head _))
  exact die_init (s := ⟨h, c.G, c.D, tk, c.O⟩) (Z.xin A) e1 rfl rfl rfl hl fun h' k1 k2 k3 => .mk l H _ h' tk (A.cutTo (d' := .ob (dieObj 336 h.objs.size)) (B' := []) cu (fun b o q e => k1 b o q e) ⟨(fun q => nomatch q), _, k2, rfl⟩ (fun _ h => nomatch h) (List.pairwise_singleton _ _)) (y _)
noncomputable def dieN : List Str := [Str.ofString "text", Str.ofString "value"]
theorem die_nm {K : Frag} (kd : DieK K) (h : hasS dieN name = true) : findIn K (.ref 336) name = some none := by
  have := hasS_mem h
  simp only [dieN, List.mem_cons, List.not_mem_nil, or_false] at this
  rcases this with rfl | rfl
  · exact kd.text
  · exact kd.value
theorem e_dieSet0 {K : Kt Unit} (kd : KOk K0) (Z : ZOk K0 V cc c dz) (cu : Cut ld [(e, .ob (dieObj 336 t0))] R) (hn : hasS dieN name = true) (y : ∀ d, K () l H ((e, .ob (dieAt d t0)) :: (d, .dk 1 (upd name v no0)) :: R)) : Stp k (Sp c l H ld (setAttr (.ref e) name v) K) := .mk fun h tk A => by
  obtain ⟨nm, q, N, bs, sn, sub, ab, col, dd, k0, k1, k2, k3, k5, hl⟩ := (kd.dieK c.w.params).cls
  obtain ⟨_, o, e1, rfl⟩ := A.oat ((A.cut cu).a _ (.head _))
  refine die_set0 (s := ⟨h, c.G, c.D, tk, c.O⟩) (Z.xin A) e1 rfl rfl rfl hl (die_nm (kd.dieK _) hn) (kd.dieK _).seta fun h' u k1 k2 k3 => .mk l H _ h' _ (A.cutTo (d' := .ob (dieAt h.objs.size t0)) (B' := [(h.objs.size, .dk 1 (upd name v no0))]) cu (fun b o q e => k1 b o q e) ⟨(fun q => nomatch q), _, k2, rfl⟩ (fun p hp => ?_) (List.pairwise_cons.mpr ⟨fun p hp => ?_, List.pairwise_singleton _ _⟩)) (y _)
  · cases List.mem_singleton.mp hp
    exact ⟨⟨(fun q => nomatch q), _, k3, _, _, rfl, EsOf.nil.put (Nat.zero_le _), Nat.le_refl _⟩, none_size⟩
  · cases List.mem_singleton.mp hp
    exact Nat.ne_of_lt (Heap.lt_size e1)
theorem e_dieSet1 {K : Kt Unit} (kd : KOk K0) (Z : ZOk K0 V cc c dz) (hx : (e, Ds.ob (dieAt d t0)) ∈ ld) (U : Up d (.dk n f) (.dk (n + 1) (upd name v f)) ld ld') (hn : hasS dieN name = true) (hz : Nat.ble n 99 = true) (y : K () l H ld') : Stp k (Sp c l H ld (setAttr (.ref e) name v) K) := .mk fun h tk A => by
  obtain ⟨nm, q, N, bs, sn, sub, ab, col, dd, k0, k1, k2, k3, k5, hl⟩ := (kd.dieK c.w.params).cls
  obtain ⟨_, o, e1, rfl⟩ := A.oat hx
  obtain ⟨_, o, e2, es, n', rfl, Es, hle⟩ := A.oat U.mem
  have hz := Nat.le_trans hle (ble_le hz)
  obtain ⟨m, S, F⟩ := A.ex
  refine die_set1 (s := ⟨h, c.G, c.D, tk, c.O⟩) (Z.xin A) e1 rfl rfl rfl e2 Es.keys Es.len hl (die_nm (kd.dieK _) hn) (kd.dieK _).seta fun h' u k1 k2 => .mk l H ld' h' _ (A.chg U (fun h => h) S ?_ (fun b o q n _ => k1 b o n q) ⟨_, k2, _, _, rfl, Es.put hz, Nat.le_trans putL_len (Nat.succ_le_succ hle)⟩) y
  have gI := A.offg (.tail _ U.mem)
  obtain ⟨⟨oL, a1, a2, hL, a3⟩, b, ab⟩ := F
  exact ⟨⟨oL, a1, a2, k1 _ _ (A.offL U.mem).symm hL, a3⟩, fun x o q => k1 x o (fun z => by rw [z, gI] at q; cases q) (b x o q), ab⟩
theorem meta_exc : typeOf (.type "Exception") = pure (.type "type") := by kernel_rfl
theorem e_excM {K : Kt (Value × List Value)} {pl : Sem Bool} (kd : KOk K0) (Z : ZOk K0 V cc c dz) (y : K (.builtin "Exception.__init__", []) l H ld) : Stp k (Sp c l H ld (getMethod (.type "Exception") (Str.ofString "__init__") pl) K) := .mk fun h tk A => by
  obtain ⟨m, S, F⟩ := A.ex
  exact method_type (s := ⟨h, c.G, c.D, tk, c.O⟩) F Z.X meta_exc (by decide +kernel) (kd.dieK c.w.params).exi rfl (.mk l H ld h _ A y)
end
theorem die_tri {K0 : Params → Frag} {V : Program} {d : Nat} {v : Value} {P : World → Heap → Prop} {T : World → (Value → LD → Prop) → Prop} {T' : Addr → World → (Value → LD → Prop) → Prop} (kc : KOk K0)
    (cn : ∀ e t0 : Addr, Tri K0 V 333 d [.ref e, v] [(e, .ob (dieObj 336 t0))] P (T' e)) (hT : ∀ w k, T w k → ∀ e, T' e w (initK e k)) : Tri K0 V 336 (d + 1) [v] [] P T := by
  intro w mean mg mb A g s k R hC hz hd hu LG hP hk hret
  obtain ⟨h, gs, dr, t, os⟩ := s
  have kd := kc.dieK w.params
  obtain ⟨nm, q, N, bs, sn, sub, ab, col, dd, k0, k1, k2, k3, k5, hl⟩ := kd.cls
  have X := hC.kin.keeps LG.keep
  have low : sysModules < h.objs.size := Nat.lt_of_lt_of_le (modules_low hC.top.nolimit) hz
  refine die_call (dieBm_ok (P := 316)) X (X _ _ hl) kd.init kd.ityp (by rw [sizeLine_eq]; show 1 ≤ 16777216; decide) ?_
  have kp : Keep h ((h.push (tupOf [v])).push (dieObj 336 h.objs.size)) := fun b o e => Heap.get?_push_of_some _ (Heap.get?_push_of_some _ e)
  have hx : ((h.push (tupOf [v])).push (dieObj 336 h.objs.size)).get? (h.objs.size + 1) = some (dieObj 336 h.objs.size) := by heap_get
  refine wpAny_call (cn (h.objs.size + 1) h.objs.size w mean mg mb _ g _ (initK (h.objs.size + 1) k) _ (cx_under hC _ _) ?_ ?_ ?_ ⟨LG.keep.trans kp, fun p hp => ?_, fun p hp => ?_, List.pairwise_singleton _ _⟩ hP (hT w k hk _) fun v h' tk' B LB kB => ?_)
  · rw [Heap.size_push, Heap.size_push]; exact Nat.le_trans hz (Nat.le_succ_of_le (Nat.le_succ _))
  · show A.depth + 1 + d ≤ 600; omega
  · show A.units + (Code.builtin "type.__call__" ⟨[.ref 336, v], []⟩).cUnits + 40 * d ≤ 9000
    have : (Code.builtin "type.__call__" ⟨[.ref 336, v], []⟩).cUnits ≤ 40 := Nat.le_of_ble_eq_true rfl
    omega
  · cases List.mem_singleton.mp hp
    refine fresh_of LG.keep ?_
    show h.get? (h.objs.size + 1) = none
    cases z : h.get? (h.objs.size + 1) with
    | none => rfl
    | some o => exact absurd (Heap.lt_size z) (Nat.not_lt.mpr (Nat.le_succ _))
  · cases List.mem_singleton.mp hp
    exact ⟨(fun q => nomatch q), _, hx, rfl⟩
  · cases v with
    | none => exact ⟨rfl, hret _ h' tk' B LB kB⟩
    | _ => cases (show False from kB)
noncomputable abbrev frs (l : List Env) : List Addr := l.filterMap (·.frame)
structure Flown (w : World) (h0 h' : Heap) (outer : List Env) (e d : Addr) (msg : Str) : Prop where
  ex : ∃ G f u, (∀ b o, h0.get? b = some o → b ∉ frs outer → G.get? b = some o) ∧ FlyD G h' e d 336 .none ∧ h'.FunFrames G outer ∧ h0.UpToSlots h' ∧ h0.get? d = none ∧ OAt w G d (.di f) ∧ f (Str.ofString "value") = some (.str msg u)
section
variable {w : World} {A : Around} {base h0 : Heap} {outer : List Env} {env : Env} {L e d t1 : Addr} {m : Str → Option Value} {s : Shared} {u : Tok} {msg : Str} {f : Str → Option Value} {Q : Unit → Shared → Prop} {E : Value → Shared → Prop}
theorem frs_old (B : Below A base outer h0) {a : Addr} (h : a ∈ frs outer) : ∃ o, h0.get? a = some o := let ⟨_, o, ho, _⟩ := B.frames.mem h; ⟨o, ho⟩
theorem die_flies (B : Below A base outer h0) (F : Fr h0 L s.heap m) (hf : env.frame = some L) (hk : env.scope.kind = .function) (he : s.heap.get? e = some (dieAt d t1)) (hd : OAt w s.heap d (.di f)) (hv : f (Str.ofString "value") = some (.str msg u)) (hen : h0.get? e = none) (hdn : h0.get? d = none) (eL : e ≠ L) (dL : d ≠ L)
    (h : ∀ h', Flown w h0 h' outer e d msg → Q () { s with heap := h' }) : wpAny (model PG w) (A.deeper env) (leaving env (.ref e)) Q E s := by
  have B' := pushX B F hf hk
  have hin : ∀ env' ∈ (env :: outer), ∀ a, env'.frame = some a → a ∈ (e :: frs (env :: outer)) := fun env' he a ha => .tail _ (List.mem_filterMap.mpr ⟨env', he, ha⟩)
  have hfr : frs (env :: outer) = L :: frs outer := by unfold frs; rw [List.filterMap_cons, hf]
  have ed : d ∉ (e :: frs (env :: outer)) := fun hm => by
    rcases List.mem_cons.mp hm with z | hm
    · obtain ⟨_, o, e2, es, n, rfl, _⟩ := hd
      rw [z, he] at e2; cases e2
    · rw [hfr] at hm
      rcases List.mem_cons.mp hm with z | hm
      · exact dL z
      · refine elE (frs_old B hm) ?_; rintro o ho
        rw [hdn] at ho; cases ho
  refine fly_first (G := hideAll s.heap (e :: frs (env :: outer))) B'.stack (funFrames_hideD B'.frames hin) he rfl rfl rfl rfl (fun b o q => of_hideAll _ q) (hideAll_none _ (.head _)) hf fun h' F2 l2 w2 => h h' ⟨⟨_, f, u, ?_, F2, l2, (Heap.UpToSlots.of_keeps F.keep).trans w2, hdn, ?_, hv⟩⟩
  · intro b o q hb
    refine hideAll_get _ (F.keep b o q) fun hm => ?_
    rcases List.mem_cons.mp hm with z | hm
    · rw [z, hen] at q; cases q
    · rw [hfr] at hm
      rcases List.mem_cons.mp hm with z | hm
      · rw [z] at q; exact absurd (Nat.lt_of_lt_of_le (Heap.lt_size q) F.above) (Nat.lt_irrefl _)
      · exact hb hm
  · obtain ⟨nm, o, e2, s2⟩ := hd
    exact ⟨nm, o, hideAll_get _ e2 ed, s2⟩
theorem die_passes {h9 : Heap} (B : Below A base outer h0) (F : Fr h0 L h9 m) (hf : env.frame = some L) (Fl : Flown w h9 s.heap (env :: outer) e d msg)
    (h : ∀ h', Flown w h0 h' outer e d msg → Q () { s with heap := h' }) : wpAny (model PG w) (A.deeper env) (leaving env (.ref e)) Q E s := by
  refine elEEEAAAAA Fl.ex ?_; rintro G f u g1 g2 g3 g4 g5 g6
  have hfr : frs (env :: outer) = L :: frs outer := by unfold frs; rw [List.filterMap_cons, hf]
  refine fly_next (Around.frames_deeper B.stack) g3 g2 hf fun h' F2 l2 w2 => h h' ⟨⟨G, f, u, fun b o q hb => g1 b o (F.keep b o q) fun hm => ?_, F2, l2, ((Heap.UpToSlots.of_keeps F.keep).trans g4).trans w2, fresh_of F.keep g5, g6⟩⟩
  rw [hfr] at hm
  rcases List.mem_cons.mp hm with z | hm
  · rw [z] at q; exact absurd (Nat.lt_of_lt_of_le (Heap.lt_size q) F.above) (Nat.lt_irrefl _)
  · exact hb hm
end
noncomputable abbrev TriE (K : Params → Frag) (V : Program) (f : Addr) (d : Nat) (args : List Value) (P : World → Heap → Prop) (msg : Str) : Prop :=
  ∀ (w : World) (mean : ExcName → Option Value) (mg mb : Str → Option Value) (A : Around) (base : Heap) (outer : List Env) (s : Shared) (R : Result → Shared → Prop),
    Below A base outer s.heap → (K w.params).In base → Top V LS mean mg mb base → A.handled = none → A.depth + d ≤ 600 → A.units + 40 * d ≤ 9000 → P w s.heap →
    (∀ e dd h' tk', Flown w s.heap h' outer e dd msg → R (.error (.ref e)) { s with heap := h', toks := tk' }) → codeAny (model PG w) A (.call (.ref f) ⟨args, []⟩) R s
structure EB (K0 : Params → Frag) (V : Program) (c : Cf) (base : Heap) (l : List Env) : Prop where
  B : ∀ {h m}, Fr c.g c.L h m → Below c.A base l h
  X : (K0 c.w.params).In base
  T : Top V LS c.mean c.mg c.mb base
noncomputable def Flies (c : Cf) (msg : Str) : Prop := ∀ h m e d t1 f u tk, Fr c.g c.L h m → h.get? e = some (dieAt d t1) → OAt c.w h d (.di f) → f (Str.ofString "value") = some (.str msg u) → c.g.get? e = none → c.g.get? d = none → e ≠ c.L → d ≠ c.L → c.E (.ref e) ⟨h, c.G, c.D, tk, c.O⟩
noncomputable def Passes (c : Cf) (l : List Env) (msg : Str) : Prop := ∀ h m e d h' tk, Fr c.g c.L h m → Flown c.w h h' l e d msg → c.E (.ref e) ⟨h', c.G, c.D, tk, c.O⟩
noncomputable def neverK {α : Type} : Kt α := fun _ _ _ _ => False
section
variable {K0 : Params → Frag} {V : Program} {a : Addr} {d : Nat} {args : List Value} {P : World → Heap → Prop} {msg : Str} {s : Stmt} {t : CT}
theorem tri_inE (ok : FnOk K0 a s t) (ls : List (Str × Value)) (n : Nat)
    (hb : ∀ nm qual doc pm an cdv ct, bindArgs (fnOf nm qual (fnPar s) (fnBody s) (fnScope s) .none .none doc pm an cdv ct) ⟨args, []⟩ = pure ls.reverse) (hl : (ls.all fun x => decide ((fnScope s).names.lookup x.1 = some .local)) = true)
    (hf : plainFn (fnScope s) = true) (hn : noCell (fnScope s) = true)
    (h : ∀ qual cdv c base outer, ZOk K0 V (ccF s a t qual cdv) c d → EB K0 V c base (envE (ccF s a t qual cdv) c :: outer) → P c.w c.g → Flies c msg → Passes c (envE (ccF s a t qual cdv) c :: outer) msg → run (ccF s a t qual cdv) c neverK n (.ss (fnBody s)) [] ls c.g []) : TriE K0 V a (d + 1) args P msg := by
  intro w mean mg mb A base outer s' Rz B X T' hq hd hu hP hret
  refine elEEEEEEEEEAA (ok.ex w.params) ?_; rintro qual oc od osl doc pm an cdv ct ho hcd hok
  refine elA (andTT hf) ?_; rintro f12 f3
  refine elA (andTT f12) ?_; rintro f1 f2
  have f3 := beq_iff_eq.mp f3
  have X' := X.keeps B.stays
  have T2 := T'.keeps B.stays
  refine (enterG (g := s'.heap) (binds := ls.reverse) (Keep.refl _) (Nat.le_refl _) X' T2 (by unfold recursionLimit; omega) ho hcd (BindsTo.of_eq (hb ..)) (fun x hx => locs hl x (List.mem_reverse.mp hx)) ?_ (notT f1) (notT f2) f3 (fun x hx => bne_iff_ne.mp (List.all_eq_true.mp hn x hx)))
  intro L' h₁ F hk1 hL1
  let c : Cf := ⟨w, mean, mg, mb, A.deeper (envOf qual (fnScope s) L' a cdv), (fun e s₁ => wpAny (model PG w) (A.deeper (envOf qual (fnScope s) L' a cdv)) (leaving (envOf qual (fnScope s) L' a cdv) e) (fun _ s'' => Rz (.error e) s'') (fun e' s'' => Rz (.error e') s'') s₁), s'.gens, s'.drawn, s'.os, s'.heap, L', []⟩
  have Z : ZOk K0 V (ccF s a t qual cdv) c d := ⟨⟨PassesOwn.leaving, X', T2, hok⟩, fun F' ha => cx_hide B X' T2 F' rfl f3 hq ha, by show A.depth + 1 + d ≤ 600; omega, by show A.units + 3 + 40 * d ≤ 9000; omega, hq⟩
  have S' : Sub ls (fun y => ls.reverse.reverse.lookup y) := by rw [List.reverse_reverse, lk_lookup]; exact fun _ _ e => e
  refine elEEEA F.ns ?_; rintro oL _ _ hL _
  have A0 : At c ls s'.heap [] h₁ := by
    refine ⟨⟨_, S', F⟩, Keep.refl _, modules_low T2.nolimit, F.keep, fun p hp => ?_, fun p hp => ?_, List.pairwise_singleton _ _⟩
    · cases List.mem_singleton.mp hp; exact hL1
    · cases List.mem_singleton.mp hp
      exact ⟨fun _ => nmod (Nat.ne_of_gt (Nat.lt_of_lt_of_le (modules_low T2.nolimit) F.above)), oL, hL, trivial⟩
  have Hr := run_snd Z.toEOk n (.ss (fnBody s)) [] _ _ _ (h qual cdv c base outer Z ⟨fun F' => pushX B F' rfl f3, X, T'⟩ hP (fun h m e d t1 f u tk F' he hd hv hen hdn eL dL => die_flies (s := ⟨h, s'.gens, s'.drawn, tk, s'.os⟩) B F' rfl f3 he hd hv hen hdn eL dL fun h' Fl => hret _ _ _ _ Fl) (fun h m e d h' tk F' Fl => die_passes (s := ⟨h', s'.gens, s'.drawn, tk, s'.os⟩) B F' rfl Fl fun h' Fl => hret _ _ _ _ Fl)) h₁ (s'.toks + ls.reverse.length) A0
  refine wpAny_mono Hr (fun fl s b => ?_) fun _ _ e => e
  obtain ⟨l, H, ld, h', t', A2, p⟩ := (show Bk c neverK fl s from b)
  cases p
end
section
variable {K0 : Params → Frag} {V : Program} {cc : CC} {c : Cf} {dz k : Nat} {l : List (Str × Value)} {H : Heap} {ld : LD} {msg : Str} {base : Heap} {le : List Env} {a : Addr} {d : Nat} {args : List Value} {P : World → Heap → Prop}
theorem e_triE {K : Kt Value} (cn : TriE K0 V a d args P msg) (Z : ZOk K0 V cc c dz) (hd : d ≤ dz) (B : EB K0 V c base le) (pr : ∀ g, Keep H g → Has c.w g ld → P c.w g) (hp : Passes c le msg) : Stp k (Sp c l H ld (call (.ref a) args) K) := .mk fun h t A => by
  obtain ⟨m, S, F⟩ := A.ex
  exact wpAny_call (cn c.w c.mean c.mg c.mb c.A base le _ _ (B.B F) B.X B.T Z.q (zhd Z hd) (zhu Z hd) (pr _ A.lg.keep fun p hp => A.oat hp) fun e dd h' tk' Fl => hp _ _ _ _ _ _ F Fl)
noncomputable def dieF (msg : Str) : Kt Flow := fun fl _ _ ld => Stp 19 (∃ e d t1 f u, fl = .ret (.ref e) ∧ (e, Ds.ob (dieAt d t1)) ∈ ld ∧ (d, Ds.di f) ∈ ld ∧ f (Str.ofString "value") = some (.str msg u))
theorem e_raise {K : Kt Flow} {ex : PySem.Expr} {pos : Pos} (n : Nat) (kd : KOk K0) (Z : ZOk K0 V cc c dz) (hp : Flies c msg) (hit : run cc c (dieF msg) n (.ev ex) [.ret] l H ld) : Stp k (Sp c l H ld (exec (.Raise (some ex) none pos) (envE cc c)) K) := .mk fun h t A => by
  obtain ⟨nm, q, N, bs, sn, sub, ab, col, dd, k0, k1, k2, k3, k5, hl⟩ := (kd.dieK c.w.params).cls
  have hiter := run_snd Z.toEOk n (.ev ex) [.ret] l H ld hit h t A
  refine die_raise (C := 336) (P := 316) (nm := nm) (q := q) (N := N) (bs := bs) (hdct := true) (sn := sn) (sub := sub) (ab := ab) (col := col) (dd := dd) (k0 := k0) (k1 := k1) (k2 := k2) (k3 := k3) (k5 := k5) (newId := "Exception.__new__") Z.q (wpAny_mono hiter (fun v s₁ hb₁ => ?_) fun _ _ e => e)
  obtain ⟨l₁, H₁, ld₁, h₁, t₁, A, q⟩ := (show Bk c (dieF msg) (.ret v) s₁ from hb₁)
  obtain ⟨e, d, t1, f, u, q1, q2, q3, q4⟩ := Stp.get q
  cases q1
  obtain ⟨_, o, e1, rfl⟩ := A.oat q2
  obtain ⟨m, S, F⟩ := A.ex
  exact ⟨e, _, _, rfl, Z.xin A _ _ hl, e1, rfl, rfl, rfl, hp h₁ m e d t1 f u t₁ F e1 (A.oat q3) q4 (A.offg (.tail _ q2)) (A.offg (.tail _ q3)) (A.offL q2) (A.offL q3)⟩
end
section
variable {K0 : Params → Frag} {V : Program} {cc : CC} {c : Cf} {dz k : Nat} {l : List (Str × Value)} {H : Heap} {ld : LD}
theorem ZOk.withE (Z : ZOk K0 V cc c dz) {E' : Value → Shared → Prop} (pe : PassesOwn (model PG c.w) c.A (envE cc c) E') : ZOk K0 V cc { c with E := E' } dz := ⟨⟨pe, Z.X, Z.T, Z.ok⟩, Z.cxh, Z.hd, Z.hu, Z.q⟩
theorem At.withE {E' : Value → Shared → Prop} {h : Heap} (A : At c l H ld h) : At { c with E := E' } l H ld h := ⟨A.ex, A.gH, A.low, A.lg⟩
theorem At.ofE {E' : Value → Shared → Prop} {h : Heap} (A : At { c with E := E' } l H ld h) : At c l H ld h := ⟨A.ex, A.gH, A.low, A.lg⟩
theorem e_try {K : Kt Flow} {body : List Stmt} {h0 : ExceptHandler} {hs : List ExceptHandler} {pos : Pos} (n : Nat) (Z : ZOk K0 V cc c dz) (hit : ∀ E', ZOk K0 V cc { c with E := E' } dz → run cc { c with E := E' } K n (.ss body) [] l H ld) :
    Stp k (Sp c l H ld (exec (.Try body (h0 :: hs) [] [] pos) (envE cc c)) K) := .mk fun h t A => by
  refine wpAny_Try_except (wpAny_mono (run_snd (c := { c with E := _ }) (Z.withE PassesOwn.looking).toEOk n (.ss body) [] l H ld (hit _ (Z.withE PassesOwn.looking)) h t A.withE) (fun f s₁ hb => ?_) fun _ _ e => e)
  obtain ⟨l, H, ld, h, t, A, x⟩ := (show Bk { c with E := _ } K f s₁ from hb)
  cases f with
  | next => exact wpAny_execs_nil (.mk l H ld h t A.ofE x)
  | _ => exact .mk l H ld h t A.ofE x
end
theorem hide_stays {A : Around} {base h : Heap} {outer : List Env} (B : Below A base outer h) : base.StaysIn (hideAll h (frs outer)) := fun b o q => hideAll_get _ (B.stays b o q) fun hm => by rw [(B.frames.mem hm).1] at q; cases q
theorem die_caught {K0 : Params → Frag} {V : Program} {mean : ExcName → Option Value} {mg mb : Str → Option Value} {w : World} {A₀ : Around} {E : Value → Shared → Prop} {s : Shared} {base h0 h9 : Heap} {outer : List Env} {L a e d : Addr} {m : Str → Option Value} {name : Str} {scope : Scope} {cd : Value} {msg : Str}
    {n : Str} {pos np p1 p2 p3 : Pos} {rest : List ExceptHandler} {Q : Flow → Shared → Prop}
    (B : Below A₀ base outer h0) (F : Fr h0 L h9 m) (Fl : Flown w h9 s.heap (envOf name scope L a cd :: outer) e d msg) (kd : KOk K0) (X : (K0 w.params).In base) (T : Top V LS mean mg mb base)
    (k : ∀ u h' tk', (∀ b o, h0.get? b = some o → b ∉ frs outer → h'.get? b = some o) → h0.UpToSlots h' → Q (.ret (.str msg u)) { s with heap := h', toks := tk' })
    (hk : scope.kind = .function) (hlo : (envOf name scope L a cd).kindOf n = some .local) (hx : (envOf name scope L a cd).kindOf (Str.ofString "Die") = some .globalImplicit) (hnd : (n == ("__debug__" : Str)) = false) :
    wpAny (model PG w) (A₀.deeper (envOf name scope L a cd)) (noteFrame (.ref e) (envOf name scope L a cd))
      (fun _ s₂ => wpAny (model PG w) (A₀.deeper (envOf name scope L a cd)) (setFlight (.ref e) none) (fun _ s₃ =>
        wpAny (model PG w) (A₀.deeper (envOf name scope L a cd)) (handleBy (.ref e) (envOf name scope L a cd) (.ExceptHandler (some (.Name (Str.ofString "Die") np)) (some n) [.Return (some (.Attribute (.Name n p1) (Str.ofString "value") p2)) p3] pos :: rest)) Q E s₃) E s₂) E s := by
  refine elEEEAAAAAA Fl.ex ?_; rintro G f u g2 g3 g4 g5 g6 g7 g8
  have dk := kd.dieK w.params
  obtain ⟨nm, q, N, bs, sn, sub, ab, col, dd, k0, k1, k2, k3, k5, hl⟩ := dk.cls
  have X1 := X.keeps (hide_stays B)
  have T1 := T.keeps (hide_stays B)
  have hp : (scope.kind == .class || (scope.kind == .module && L != mainGlobals)) = false := by rw [hk]; rfl
  have kG : (hideAll h0 (frs outer)).StaysIn G := fun b o q => g2 b o (F.keep b o (of_hideAll _ q)) fun hm => by
    refine elEA (List.mem_filterMap.mp hm) ?_; rintro env' he' hf'
    rcases List.mem_cons.mp he' with rfl | he'
    · cases hf'
      exact absurd (Nat.lt_of_lt_of_le (Heap.lt_size (of_hideAll _ q)) F.above) (Nat.lt_irrefl _)
    · rw [hideAll_none _ (List.mem_filterMap.mpr ⟨env', he', hf'⟩)] at q; cases q
  have F0 : ∀ h', G.StaysIn h' → h9.UpToSlots h' → Fr (hideAll h0 (frs outer)) L h' m := fun h' k u => ⟨u.ns F.ns, fun b o q => k b o (kG b o q), Nat.le_trans (Nat.le_of_eq (hideAll_size _ _)) F.above⟩
  refine fly_note (Around.frames_deeper B.stack) g4 g3 rfl fun h₄ f4 l4 w4 => ?_
  refine fly_set (s := { s with heap := h₄ }) f4 l4 fun h₅ f5 l5 w5 => ?_
  have w95 := (g5.trans w4).trans w5
  have F5 := F0 h₅ f5.keep w95
  refine wpAny_handleBy_cons (codeAny_handlers_test (name_K F5 X1 (topRead_of T1) dk.die ?_ hk hx (by decide))) (by intro q; cases q)
  refine elEEEEEAA f5.ex ?_; rintro oe vs TT oT ts he hc hrest
  refine wpAny_excMatches_sub_self (X1.keeps F5.keep _ _ hl) he hc (by simp) (codeAny_handlers_suite_as ?_)
  refine fly_set (s := { s with heap := h₅ }) f5 l5 fun h₆ f6 l6 w6 => ?_
  have w96 := w95.trans w6
  have F6 := F0 h₆ f6.keep w96
  refine elEEEEEAAAA f6.ex ?_; rintro oe vs TT oT ts he hc hdi hda hrest
  have LG : G.get? L = none := (l6.mem (List.mem_filterMap.mpr ⟨_, .head _, rfl⟩)).1
  have eL : e ≠ L := fun z => by
    refine elAEA (l6.mem (b := L) (List.mem_filterMap.mpr ⟨_, .head _, rfl⟩)) ?_; rintro _ o ho hnf
    rw [← z, he] at ho; cases ho
    exact hnf _ hda
  obtain ⟨_, od, hd1, es, nn, rfl, Es⟩ := g7
  have dL : d ≠ L := fun z => by rw [z, LG] at hd1; cases hd1
  have u06 := (Heap.UpToSlots.of_keeps F.keep).trans w96
  refine wpAny_storeName_local hlo F6.ns (fun h₇ n₇ s₇ => ?_) hp
  have he7 : h₇.get? e = some oe := (s₇.2 e eL).trans he
  have hd7 : h₇.get? d = some (dictOf es nn) := (s₇.2 d dL).trans (f6.keep _ _ hd1)
  have hL0 : ∀ {b o}, h0.get? b = some o → b ≠ L := fun q z => by rw [z] at q; exact absurd (Nat.lt_of_lt_of_le (Heap.lt_size q) F.above) (Nat.lt_irrefl _)
  have k7 : Keep (hideAll h0 (frs outer)) h₇ := fun b o q => (s₇.2 b (hL0 (of_hideAll _ q))).trans (F6.keep b o q)
  have I : InstAt h₇ e oe 336 (some (dictOf es nn)) := ⟨he7, hc, by unfold notCls; rw [hda], by rw [hdi]; exact hd7⟩
  refine wpAny_execs_cons (wpAny_Return_some (Attribute_any_ (wpAny_Name (wpAny_loadName_local hk hlo n₇ (if_pos rfl) ?_) hnd)))
  refine die_get (s := { s with heap := h₇, toks := _ }) (X1.keeps k7) I hl dk.geta dk.getr (findObj_own dk.hasd dk.value rfl (by rw [lookIn_dict]; exact Es.some_ g8)) rfl ?_
  refine wpAny_nameGoes hlo n₇ hp fun h₈ m₈ n₈ s₈ => ?_
  refine k u h₈ _ (fun b o q hb => (s₈.2 b (hL0 q)).trans (k7 b o (hideAll_get _ q hb))) fun b o q hnf => ?_
  by_cases hm : b ∈ frs outer
  · refine elE (u06 b o q hnf) ?_; rintro sl hs
    exact ⟨sl, ((s₈.2 b (hL0 q)).trans (s₇.2 b (hL0 q))).trans hs⟩
  · exact ⟨o.slots, (s₈.2 b (hL0 q)).trans (k7 b o (hideAll_get _ q hm))⟩
noncomputable abbrev TriC (K : Params → Frag) (V : Program) (f : Addr) (d : Nat) (args : List Value) (P : World → Heap → Prop) (msg : Str) : Prop :=
  ∀ (w : World) (mean : ExcName → Option Value) (mg mb : Str → Option Value) (A : Around) (base : Heap) (outer : List Env) (s : Shared) (R : Result → Shared → Prop),
    Below A base outer s.heap → (K w.params).In base → Top V LS mean mg mb base → A.handled = none → A.depth + d ≤ 600 → A.units + 40 * d ≤ 9000 → P w s.heap →
    (∀ u h' tk', (∀ b o, s.heap.get? b = some o → b ∉ frs outer → h'.get? b = some o) → s.heap.UpToSlots h' → R (.ok (.ret (.str msg u))) { s with heap := h', toks := tk' }) → codeAny (model PG w) A (.call (.ref f) ⟨args, []⟩) R s
noncomputable def tryB : Stmt → List Stmt
  | .Try b .. => b
  | _ => []
theorem tri_inC775 {K0 : Params → Frag} {V : Program} (kd : KOk K0) {d : Nat} {x y : Value} {P : World → Heap → Prop} {msg : Str} (n : Nat)
    (h : ∀ qual cdv c base outer, ZOk K0 V (ccF S775 775 t775 qual cdv) c d → EB K0 V c base (envE (ccF S775 775 t775 qual cdv) c :: outer) → P c.w c.g → Passes c (envE (ccF S775 775 t775 qual cdv) c :: outer) msg → run (ccF S775 775 t775 qual cdv) c neverK n (.ss (tryB (nth (fnBody S775) 0))) [] [(Str.ofString "args", y), (Str.ofString "run", x)] c.g []) : TriC K0 V 775 (d + 1) [x, y] P msg := by
  intro w mean mg mb A base outer s' Rz B X T' hq hd hu hP hret
  refine elEEEEEEEEEAA (kd.f775.ex w.params) ?_; rintro qual oc od osl doc pm an cdv ct ho hcd hok
  have X' := X.keeps B.stays
  have T2 := T'.keeps B.stays
  refine (enterG (g := s'.heap) (binds := [(Str.ofString "run", x), (Str.ofString "args", y)]) (Keep.refl _) (Nat.le_refl _) X' T2 (by unfold recursionLimit; omega) ho hcd (BindsTo.of_eq rfl) (fun z hz => locs (binds := [(Str.ofString "run", x), (Str.ofString "args", y)]) rfl z hz) ?_ rfl rfl rfl (fun x hx => bne_iff_ne.mp (List.all_eq_true.mp (show noCell (fnScope S775) = true from rfl) x hx)))
  intro L' h₁ F hk1 hL1
  obtain ⟨p0, np, p1, p2, p3, p4, eb⟩ : ∃ p0 np p1 p2 p3 p4, fnBody S775 = [.Try (tryB (nth (fnBody S775) 0)) [.ExceptHandler (some (.Name (Str.ofString "Die") np)) (some (Str.ofString "fault")) [.Return (some (.Attribute (.Name (Str.ofString "fault") p1) (Str.ofString "value") p2)) p3] p4] [] [] p0] := ⟨_, _, _, _, _, _, rfl⟩
  rw [eb]
  refine wpAny_execs_cons (wpAny_Try_except ?_)
  have Z0 : ∀ E', PassesOwn (model PG w) (A.deeper (envOf qual (fnScope S775) L' 775 cdv)) (envOf qual (fnScope S775) L' 775 cdv) E' → ZOk K0 V (ccF S775 775 t775 qual cdv) ⟨w, mean, mg, mb, A.deeper (envOf qual (fnScope S775) L' 775 cdv), E', s'.gens, s'.drawn, s'.os, s'.heap, L', []⟩ d := fun E' pe =>
    ⟨⟨pe, X', T2, hok⟩, fun F' ha => cx_hide B X' T2 F' rfl rfl hq ha, by show A.depth + 1 + d ≤ 600; omega, by show A.units + 3 + 40 * d ≤ 9000; omega, hq⟩
  refine elEEEA F.ns ?_; rintro oL _ _ hL _
  have A0 : ∀ E', At ⟨w, mean, mg, mb, A.deeper (envOf qual (fnScope S775) L' 775 cdv), E', s'.gens, s'.drawn, s'.os, s'.heap, L', []⟩ [(Str.ofString "args", y), (Str.ofString "run", x)] s'.heap [] h₁ := by
    refine fun E' => ⟨⟨_, fun n v e => (congrFun (lk_lookup [(Str.ofString "args", y), (Str.ofString "run", x)]) n).trans e, F⟩, Keep.refl _, modules_low T2.nolimit, F.keep, fun p hp => ?_, fun p hp => ?_, List.pairwise_singleton _ _⟩
    · cases List.mem_singleton.mp hp; exact hL1
    · cases List.mem_singleton.mp hp
      exact ⟨fun _ => nmod (Nat.ne_of_gt (Nat.lt_of_lt_of_le (modules_low T2.nolimit) F.above)), oL, hL, trivial⟩
  refine wpAny_mono (run_snd (Z0 _ PassesOwn.looking).toEOk n (.ss (tryB (nth (fnBody S775) 0))) [] _ _ _ (h qual cdv _ base outer (Z0 _ PassesOwn.looking) ⟨fun F' => pushX B F' rfl rfl, X, T'⟩ hP ?_) h₁ _ (A0 _)) (fun fl s b => ?_) fun _ _ e => e
  · exact fun h m e d h' tk F' Fl => die_caught (s := ⟨h', s'.gens, s'.drawn, tk, s'.os⟩) B F' Fl kd X T' (fun u h' tk' a b => hret u h' tk' a b) rfl rfl rfl rfl
  · obtain ⟨l, H, ld, h', t', A2, p⟩ := (show Bk _ neverK fl s from b)
    cases p
local macro_rules | `(tactic| walk_at $s:str) => `(tactic| k_extra $s)
structure Th where
  word : Str
  num : Int
  own : Option Str
inductive IsOwn : Option Str → Value → Prop
  | none : IsOwn none .none
  | some (x : Str) (t : Tok) : IsOwn (some x) (.str x t)
theorem IsOwn.handed {o : Option Str} {v : Value} (h : IsOwn o v) : handedIn v = true := by cases h <;> rfl
theorem IsOwn.none_ {o : Option Str} {v : Value} (h : o = Option.none) (x : IsOwn o v) : v = .none := by
  cases x with
  | none => rfl
  | some y t => cases h
theorem IsOwn.some_ {o : Option Str} {v : Value} {p : Str} (h : o = Option.some p) (x : IsOwn o v) : ∃ u, v = .str p u := by
  cases x with
  | none => cases h
  | some y t => cases h; exact ⟨t, rfl⟩
noncomputable def thC : List Addr := [87, 106, 125, 144, 163]
theorem thC_cls {C : Addr} (h : hasA thC C = true) : hasA clsB C = true := by
  have := hasA_mem h
  simp only [thC, List.mem_cons, List.not_mem_nil, or_false] at this
  rcases this with rfl | rfl | rfl | rfl | rfl <;> rfl
theorem th_at {C : Addr} {n : Str} (h : hasA thC C = true) (k : hasS thN n = true) : hasN ATS C n = true := by
  have := hasA_mem h
  have k2 := hasS_mem k
  simp only [thC, thN, List.mem_cons, List.not_mem_nil, or_false] at this k2
  rcases this with rfl | rfl | rfl | rfl | rfl <;> rcases k2 with rfl | rfl | rfl <;> rfl
theorem th_st {C : Addr} {n : Str} (h : hasA thC C = true) (k : hasS thS n = true) : hasN STS C n = true := by
  have := hasA_mem h
  have k2 := hasS_mem k
  simp only [thC, thS, List.mem_cons, List.not_mem_nil, or_false] at this k2
  rcases this with rfl | rfl | rfl | rfl | rfl <;> rcases k2 with rfl | rfl | rfl | rfl | rfl | rfl <;> rfl
structure RefAt (w : World) (h : Heap) (r x : Addr) : Prop where
  ex : ∃ dr f, OAt w h r (.ob (instObj 183 dr)) ∧ OAt w h dr (.di f) ∧ f (Str.ofString "target") = some (.ref x)
theorem RefAt.keeps {w : World} {h h' : Heap} {r x : Addr} (a : RefAt w h r x) (k : Keep h h') : RefAt w h' r x := let ⟨dr, f, b1, b2, b3⟩ := a.ex; ⟨dr, f, b1.keeps k, b2.keeps k, b3⟩
inductive SortW (w : World) (h : Heap) : Addr → (Str → Option Value) → Str → Prop
  | array (f) {x} (e : x = Str.ofString "ARRAY") : SortW w h 106 f x
  | hash (f) {x} (e : x = Str.ofString "HASH") : SortW w h 125 f x
  | code (f) {x} (e : x = Str.ofString "CODE") : SortW w h 144 f x
  | glob (f) {x} (e : x = Str.ofString "GLOB") : SortW w h 163 f x
  | scalar (f v) {x} : f (Str.ofString "value") = some v → Plain v → x = Str.ofString "SCALAR" → SortW w h 87 f x
  | ref (f r y) {x} : f (Str.ofString "value") = some (.ref r) → RefAt w h r y → x = Str.ofString "REF" → SortW w h 87 f x
theorem SortW.keeps {w : World} {h h' : Heap} {C : Addr} {f : Str → Option Value} {x : Str} (a : SortW w h C f x) (k : Keep h h') : SortW w h' C f x := by
  cases a with
  | array _ e => exact .array f e
  | hash _ e => exact .hash f e
  | code _ e => exact .code f e
  | glob _ e => exact .glob f e
  | scalar _ v a b e => exact .scalar f v a b e
  | ref _ r y a b e => exact .ref f r y a (b.keeps k) e
theorem SortW.cls {w : World} {h : Heap} {C : Addr} {f : Str → Option Value} {x : Str} (a : SortW w h C f x) : hasA thC C = true := by cases a <;> rfl
structure ThF (f : Str → Option Value) (t : Th) : Prop where
  num : ∃ u, f (Str.ofString "number") = some (.int t.num u)
  own : ∃ v, f (Str.ofString "blessed") = some v ∧ IsOwn t.own v
structure ThAt (w : World) (h : Heap) (x dx C : Addr) (f : Str → Option Value) (t : Th) : Prop where
  inst : OAt w h x (.ob (instObj C dx))
  dict : OAt w h dx (.di f)
  ok : ThF f t
  sort : SortW w h C f t.word
theorem ThAt.keeps {w : World} {h h' : Heap} {x dx C : Addr} {f : Str → Option Value} {t : Th} (a : ThAt w h x dx C f t) (k : Keep h h') : ThAt w h' x dx C f t := ⟨a.inst.keeps k, a.dict.keeps k, a.ok, a.sort.keeps k⟩
noncomputable def refW (t : Th) : Str := t.own.getD t.word
noncomputable abbrev Tc := World → (Value → LD → Prop) → Prop
noncomputable abbrev RefT (r x dx C : Addr) (f : Str → Option Value) (t : Th) (w : World) (g : Heap) : Prop := RefAt w g r x ∧ ThAt w g x dx C f t
noncomputable def C_thing_word (K : Params → Frag) (V : Program) : Prop := ∀ (x dx C : Addr) (f : Str → Option Value) (t : Th), Tri K V 257 1 [.ref x] [] (fun w g => ThAt w g x dx C f t) (fun _ k => ∀ u, k (.str t.word u) [])
noncomputable def C_value_ofP (K : Params → Frag) (V : Program) : Prop := ∀ v, Plain v → Tri K V 278 1 [v] [] (fun _ _ => True) (fun _ k => k v [])
noncomputable def C_value_ofR (K : Params → Frag) (V : Program) : Prop := ∀ r x, Tri K V 278 1 [.ref r] [] (fun w g => RefAt w g r x) (fun _ k => k (.ref r) [])
noncomputable def C_thing_number (K : Params → Frag) (V : Program) : Prop := ∀ (r x dx C : Addr) (f : Str → Option Value) (t : Th), Tri K V 455 1 [.ref r] [] (RefT r x dx C f t) (fun _ k => ∀ u, k (.int t.num u) [])
noncomputable def C_sort_word (K : Params → Frag) (V : Program) : Prop := ∀ (r x dx C : Addr) (f : Str → Option Value) (t : Th), Tri K V 448 2 [.ref r] [] (RefT r x dx C f t) (fun _ k => ∀ u, k (.str t.word u) [])
noncomputable def C_blessed_word (K : Params → Frag) (V : Program) : Prop := ∀ (r x dx C : Addr) (f : Str → Option Value) (t : Th), Tri K V 441 1 [.ref r] [] (RefT r x dx C f t) (fun _ k => ∀ v, IsOwn t.own v → k v [])
noncomputable def C_ref_word (K : Params → Frag) (V : Program) : Prop := ∀ (r x dx C : Addr) (f : Str → Option Value) (t : Th), Tri K V 434 2 [.ref r] [] (RefT r x dx C f t) (fun _ k => ∀ u, k (.str (refW t) u) [])
theorem rows_all : True := by
  k_with "an" => (first | exact rfl | (refine' th_at ?jq1 rfl; (case jq1 => with_reducible assumption)))
  k_with "as" => (first | exact rfl | (refine' th_st ?jq1 rfl; (case jq1 => with_reducible assumption)))
  k_with "ac" => (first | exact rfl | (refine' thC_cls ?jq1; (case jq1 => with_reducible assumption)))
  k_with "go" => (repeat' ((refine (?_ : Stp _ _)); k_extra "stp"))
  k_with "mm" => (first | with_reducible exact List.mem_cons_self | (apply List.mem_cons_of_mem; k_extra "mm") | with_reducible assumption)
  k_with "up" => (first | with_reducible exact Up.head | (apply Up.tail; k_extra "up"))
  k_with "pk" => (first | exact Pk.head | (apply Pk.tail; k_extra "pk"))
  k_with "cut" => (first | with_reducible exact Cut.nil | with_reducible exact Cut.all | (apply Cut.cons; (focus (k_extra "pk")); k_extra "cut"))
  k_with "hd" => (first | (apply Hd.h; with_reducible assumption) | (apply Hd.l; k_extra "mm"))
  k_with "hl" => (first | (refine hl8 _ ?_; k_extra "mm") | (apply HL.l; k_extra "mm") | (apply HL.o; k_extra "mm") | (apply FL.hl; with_reducible assumption) | (apply HL.h; with_reducible assumption) | (apply HL.hi; with_reducible assumption))
  k_with "fv" => (first | with_reducible assumption | exact rfl | assumption)
  k_with "hand" => (first | exact rfl | (refine' Plain.handed ?jr9; (case jr9 => with_reducible assumption)) | with_reducible assumption | (refine' IsOwn.handed ?jr9; (case jr9 => with_reducible assumption)))
  k_with "sz" => (first | exact Nat.le_of_ble_eq_true rfl | omega | ((simp only [List.length_reverse, List.length_append, List.length_cons, List.length_nil] at *); omega))
  k_with "stp" => (first | ((with_reducible show Stp 4 _); k_extra "s4") | ((with_reducible show Stp 3 _); k_extra "s3") | ((with_reducible show Stp 10 _); k_extra "s10") | ((with_reducible show Stp 7 _); k_extra "s7") | ((with_reducible show Stp 8 _); k_extra "s8") | ((with_reducible show Stp 9 _); k_extra "s9") | ((with_reducible show Stp 11 _); k_extra "s11") | ((with_reducible show Stp 6 _); k_extra "s6") | ((with_reducible show Stp 20 _); refine Stp.mk fun u9 => ?_) | ((with_reducible show Stp 22 _); refine Stp.mk fun a9 => ?_) | ((with_reducible show Stp 12 _); k_extra "s12") | ((with_reducible show Stp 13 _); k_extra "s13") | ((with_reducible show Stp 14 _); k_extra "s14") | ((with_reducible show Stp 23 _); k_extra "s23") | ((with_reducible show Stp 24 _); k_extra "s24") | ((with_reducible show Stp 1 _); k_extra "s1") | ((with_reducible show Stp 5 _); k_extra "s5"))
  k_with "s10" => (first | refine br_t ?_ | refine br_f ?_ | (refine' br_tt ?bt ?_; (case bt => with_reducible assumption)) | (refine' br_ff ?bt ?_; (case bt => with_reducible assumption)) | (refine br_mk ?_ ?_ <;> intro b9))
  k_with "v" => (refine' e_val ?jr9 ?_; (case jr9 => (intro Q9 s9 hQ9; (repeat walk1); exact hQ9 _)))
  k_with "i" => (refine' e_int ?jr9 ?_; (case jr9 => (intro Q9 s9 hQ9; (repeat walk1); exact hQ9 _ _)); intro u9)
  k_with "s" => (refine' e_str ?jr9 ?_; (case jr9 => (intro Q9 s9 hQ9; (repeat walk1); exact hQ9 _ _)); intro u9)
  k_with "s7" => (k_extra "v")
  k_with "s7" => ((with_reducible show Stp _ (Sp _ _ _ _ (compareOp CmpOp.In (Value.str _ _) (Value.ref _)) _)); first | (refine' s_inT ?jy ?je ?_; (case jy => k_extra "hd"); (case je => k_extra "fv")) | (refine' s_inF ?jy ?je ?_; (case jy => k_extra "hd"); (case je => k_extra "fv")) | (refine' s_in ?jy ?_; (case jy => k_extra "hd")) | (refine' e_inT ?jl ?js ?jx ?_; (case jl => k_extra "hl"); (case js => assumption); (case jx => assumption)) | (refine' e_inF ?jl ?js ?jx ?_; (case jl => k_extra "hl"); (case js => assumption); (case jx => assumption)) | (refine' e_in ?jl ?js ?_; (case jl => k_extra "hl"); (case js => assumption)))
  k_with "s7" => ((with_reducible show Stp _ (Sp _ _ _ _ (compareOp CmpOp.NotIn (Value.str _ _) (Value.ref _)) _)); first | (refine' s_notinT ?jy ?je ?_; (case jy => k_extra "hd"); (case je => k_extra "fv")) | (refine' s_notinF ?jy ?je ?_; (case jy => k_extra "hd"); (case je => k_extra "fv")) | (refine' e_notinT ?jl ?js ?jx ?_; (case jl => k_extra "hl"); (case js => assumption); (case jx => assumption)) | (refine' e_notinF ?jl ?js ?jx ?_; (case jl => k_extra "hl"); (case js => assumption); (case jx => assumption)) | (refine' e_notin ?jl ?js ?_; (case jl => k_extra "hl"); (case js => assumption)))
  k_with "s7" => ((with_reducible show Stp _ (Sp _ _ _ _ (compareOp CmpOp.In (Value.int _ _) (Value.ref _)) _)); first | (refine' i_inT ?jy ?je ?_; (case jy => k_extra "hd"); (case je => k_extra "fv")) | (refine' i_inF ?jy ?je ?_; (case jy => k_extra "hd"); (case je => k_extra "fv")))
  k_with "s8" => (first | ((with_reducible show Stp _ (Sp _ _ _ _ (unaryOp _ (Value.int _ _)) _)); k_extra "i") | ((with_reducible show Stp _ (Sp _ _ _ _ (binaryOp _ (Value.int _ _) (Value.int _ _)) _)); k_extra "i") | ((with_reducible show Stp _ (Sp _ _ _ _ (inplaceOp _ (Value.int _ _) (Value.int _ _)) _)); k_extra "i") | ((with_reducible show Stp _ (Sp _ _ _ _ (binaryOp _ (Value.str _ _) (Value.str _ _)) _)); k_extra "s") | (refine' e_iadd ?ju ?jb ?jz ?_; (case ju => k_extra "up"); (case jb => k_extra "mm"); (case jz => k_extra "sz")) | k_extra "v" | k_extra "s" | k_extra "i")
  k_with "sl" => (first | exact SL.lit rfl | (apply SL.add; (focus (k_extra "sl")); k_extra "sl") | exact SL.mk (by with_reducible assumption))
  k_with "s8" => ((with_reducible show Stp _ (Sp _ _ _ _ (binaryOp _ (Value.str _ _) (Value.str _ _)) _)); refine' e_addS ?jx ?jy ?jq ?_; (case jx => k_extra "sl"); (case jy => k_extra "sl"); (case jq => exact rfl); intro u9)
  k_with "s9" => (k_extra "v")
  k_with "s9" => ((with_reducible show Stp _ (Sp _ _ _ _ (truthy (Value.ref _)) _)); first | (refine' e_truS ?jl ?jz ?_; (case jl => k_extra "hl"); (case jz => k_extra "sz")) | (refine' e_truL ?jl ?jz ?_; (case jl => k_extra "hl"); (case jz => k_extra "sz")))
  k_with "s11" => ((with_reducible show Stp _ (Sp _ _ _ _ (subscriptTail _ _ (Value.str _ _) _) _)); k_extra "s")
  k_with "s11" => ((with_reducible show Stp _ (Sp _ _ _ _ (subscriptTail _ _ (Value.ref _) (Value.str _ _)) _)); (refine' s_tail ?jy ?je ?_ ?js; (case jy => k_extra "hd"); (case je => k_extra "fv"); (case js => with_unfolding_all rfl)))
  k_with "s11" => ((with_reducible show Stp _ (Sp _ _ _ _ (subscriptTail _ _ (Value.ref _) (Value.int _ _)) _)); first | (refine' e_item ?jl ?ja ?jb ?jx ?_ ?js; (case ja => first | decide | omega); (case jb => first | decide | omega); (case jl => k_extra "hl"); (case jx => first | exact rfl | assumption); (case js => with_unfolding_all rfl)) | (refine' e_last ?jl ?_ ?js; (case jl => k_extra "hl"); (case js => with_unfolding_all rfl)))
  k_with "s12" => ((with_reducible show Stp _ (Sp _ _ _ _ (getItem (Value.ref _) (Value.int _ _)) _)); first | (refine' e_itemG ?jl ?ja ?jb ?jx ?_; (case ja => decide); (case jb => decide); (case jl => k_extra "hl"); (case jx => first | exact rfl | assumption)) | (refine' e_lastG ?jl ?_; (case jl => k_extra "hl")))
  k_with "s14" => ((with_reducible show Stp _ (Sp _ _ _ _ (setItem (Value.ref _) (Value.int _ _) _) _)); first | ((with_reducible show Stp _ (Sp _ _ _ _ (setItem (Value.ref _) (Value.int 0 _) _) _)); refine' e_set0 ?ju ?_; (case ju => k_extra "up")) | (refine' i_set ?ju ?jz ?_; (case ju => k_extra "up"); (case jz => k_extra "sz")) | (refine' e_setLast ?ju ?_; (case ju => k_extra "up")))
  k_with "s14" => ((with_reducible show Stp _ (Sp _ _ _ _ (setItem (Value.ref _) (Value.str _ _) _) _)); (refine' s_set ?ju ?jz ?_; (case ju => k_extra "up"); (case jz => k_extra "sz")))
  k_with "s3" => (refine' e_attr HK.toKCl ?jz ?jx ?jd ?ja ?jv ?jh ?_; (case jz => assumption); (case jx => k_extra "hd"); (case jd => k_extra "hd"); (case ja => k_extra "an"); (case jv => k_extra "fv"); (case jh => k_extra "hand"))
  k_with "s6" => (first | (refine' e_meth HK.toKCl ?jz ?jx ?jd ?ja ?jv ?_; (case jz => assumption); (case jx => k_extra "hd"); (case jd => k_extra "hd"); (case ja => exact rfl); (case jv => k_extra "fv")) | ((with_reducible show Stp _ (Sp _ _ _ _ (getMethod _ (Str.ofString "get") _) _)); refine' s_gm ?jy ?_; (case jy => k_extra "hd")) | ((with_reducible show Stp _ (Sp _ _ _ _ (getMethod _ (Str.ofString "get") _) _)); refine' i_gm ?jy ?_; (case jy => k_extra "hd")) | ((with_reducible show Stp _ (Sp _ _ _ _ (getMethod _ (Str.ofString "append") _) _)); refine' e_gmA ?jm ?_; (case jm => k_extra "mm")) | ((with_reducible show Stp _ (Sp _ _ _ _ (getMethod _ (Str.ofString "pop") _) _)); refine' e_gmP ?jm ?_; (case jm => k_extra "mm")))
  k_with "s13" => (first | (refine' e_setK HK.toKCl ?jz ?jx ?ja ?jn ?ju ?_; (case jz => assumption); (case jx => k_extra "hd"); (case ju => k_extra "up"); (case ja => k_extra "as"); (case jn => exact rfl)) | (refine' e_set HK.toKCl ?jz ?jx ?ja ?jv ?ju ?_; (case jz => assumption); (case jx => k_extra "hd"); (case ju => k_extra "up"); (case ja => k_extra "as"); (case jv => k_extra "fv")))
  k_with "s4" => (first | ((with_reducible show Stp _ (Sp _ _ _ _ (call (Value.builtin "list.append") _) _)); (refine' e_append ?ju ?jz ?_; (case ju => k_extra "up"); (case jz => k_extra "sz"))) | ((with_reducible show Stp _ (Sp _ _ _ _ (call (Value.builtin "list.pop") _) _)); (refine' e_pop ?ju ?jz ?_; (case ju => k_extra "up"); (case jz => k_extra "sz"))) | ((with_reducible show Stp _ (Sp _ _ _ _ (call (Value.builtin "len") _) _)); (refine' e_len ?jl ?jz ?_; (case jl => k_extra "hl"); (case jz => k_extra "sz"); intro u9)) | ((with_reducible show Stp _ (Sp _ _ _ _ (call (Value.builtin "dict.get") [_, Value.str _ _, _]) _)); (refine' s_get2 ?jy ?je ?_; (case jy => k_extra "hd"); (case je => k_extra "fv"))) | ((with_reducible show Stp _ (Sp _ _ _ _ (call (Value.builtin "dict.get") [_, Value.int _ _]) _)); (refine' i_get1 ?jy ?je ?_; (case jy => k_extra "hd"); (case je => k_extra "fv"))) | k_extra "v")
  k_with "s4" => ((with_reducible show Stp _ (Sp _ _ _ _ (call (Value.builtin "isinstance") [_, Value.ref _]) _)); (first | (refine' e_isi HK.toKCl ?jz ?jx ?jd ?ja ?jb ?_; (case jz => assumption); (case jx => k_extra "hd"); (case jd => k_extra "hd"); (case ja => k_extra "ac"); (case jb => exact rfl)) | (refine' e_isp HK.toKCl ?jz ?jv ?ja ?_; (case jz => assumption); (case jv => first | exact rfl | with_reducible assumption); (case ja => exact rfl))))
  k_with "s4" => ((with_reducible show Stp _ (Sp _ _ _ _ (call (Value.builtin "isinstance") [Value.ref _, Value.type "int"]) _)); (refine' e_isn HK.toKCl ?jz ?jx ?jd ?ja ?_; (case jz => assumption); (case jx => k_extra "hd"); (case jd => k_extra "hd"); (case ja => exact rfl)))
  k_with "s23" => (refine' e_stC ?jz ?jx ?jc ?ju ?_; (case jz => assumption); (case jx => exact rfl); (case jc => first | assumption | exact rfl); (case ju => k_extra "up"))
  k_with "s24" => (refine' e_ldC ?jz ?jx ?jc ?jm ?_; (case jz => assumption); (case jx => exact rfl); (case jc => first | assumption | exact rfl); (case jm => k_extra "mm"))
  k_with "s1" => ((with_reducible show Stp _ (Sp _ _ _ _ (eval (PySem.Expr.Dict [] [] _) _) _)); refine e_dict0 (d := .sd []) emptyD_dic fun a9 => ?_)
  k_with "fin" => ((refine (?_ : Stp 0 _)); (refine' fin_mk ?jk ?ju; (case jk => first | exact k9K | k_extra "fk"); (case ju => k_extra "cut")))
  k_with "pr" => ((with_reducible show StH _ _ _ _ _ _ _); (refine' ⟨?jra, ?jrb, ?jrc, ?jrd⟩; (case jra => k_extra "fv"); (case jrb => k_extra "fv"); (case jrc => k_extra "fv"); (case jrd => k_extra "oat")))
  k_with "s6" => ((with_reducible show Stp _ (Sp _ _ _ _ (getMethod _ (Str.ofString "pop") _) _)); refine' i_gmP ?jy ?_; (case jy => k_extra "hd"))
  k_with "s4" => ((with_reducible show Stp _ (Sp _ _ _ _ (call (Value.builtin "dict.pop") [_, Value.int _ _, _]) _)); refine' i_popN ?jy ?je ?_; (case jy => k_extra "hd"); (case je => exact rfl))
  k_with "s6" => ((with_reducible show Stp _ (Sp _ _ _ _ (getMethod (Value.type "Exception") _ _) _)); refine e_excM HK (by assumption) ?_)
  k_with "s4" => ((with_reducible show Stp _ (Sp _ _ _ _ (call (Value.builtin "Exception.__init__") [Value.ref _, _]) _)); refine' e_dieInit HK ?jz ?jc ?_; (case jz => assumption); (case jc => k_extra "cut"); intro t9)
  k_with "s13" => (first | (refine' e_dieSet0 HK ?jz ?jc ?jn ?_; (case jz => assumption); (case jc => k_extra "cut"); (case jn => exact rfl); intro d9) | (refine' e_dieSet1 HK ?jz ?jx ?ju ?jn ?jb ?_; (case jz => assumption); (case jx => k_extra "mm"); (case ju => k_extra "up"); (case jn => exact rfl); (case jb => exact rfl)))
  k_with "pr" => ((with_reducible show SubV _ _ _); exact SubV.keeps (by with_reducible assumption) kp9)
  k_with "ls" => ((repeat (refine List.forall_mem_cons.mpr ⟨rfl, ?_⟩)); exact fun _ h => nomatch h)
  k_with "s7" => ((with_reducible show Stp _ (Sp _ _ _ _ (compareOp CmpOp.NotEq (Value.ref _) (Value.ref _)) _)); (refine' e_neL ?jz ?ja ?jb ?jc ?jd ?_; (case jz => assumption); (case ja => k_extra "hl"); (case jb => k_extra "hl"); (case jc => with_reducible assumption); (case jd => with_reducible assumption)))
  k_with "pr" => ((with_reducible show CaP _ _ _ _ _ _ _ _); first | exact CaP.keeps (by with_reducible assumption) kp9 | (refine hn9 _ (CaP.keeps (by with_reducible assumption) kp9) (fun p9 hm9 => hp9 p9 ?_); k_extra "mm"))
  k_with "s4" => ((with_reducible show Stp _ (Sp _ _ _ _ (call (Value.builtin "dict.get") [_, Value.int _ _]) _)); (refine' i_getV ?jy ?je ?_; (case jy => k_extra "hd"); (case je => with_reducible assumption)))
  k_with "s11" => ((with_reducible show Stp _ (Sp _ _ _ _ (subscriptTail _ _ (Value.ref _) (Value.int _ _)) _)); (have hx8 := StrsAre.get (by assumption : StrsAre _ _) (by assumption : sortsP[_]? = some _)); obtain ⟨u8, hx8⟩ := hx8; (refine' e_item ?jl ?ja ?jb hx8 ?_ ?js; (case ja => assumption); (case jb => omega); (case jl => k_extra "hl"); (case js => with_unfolding_all rfl)))
  k_with "s1" => ((with_reducible show Stp _ (Sp _ _ _ _ (eval (PySem.Expr.Slice _ _ _ _) _) _)); refine e_Slice fun a9 u9 => ?_)
  k_with "s11" => ((with_reducible show Stp _ (Sp _ _ _ _ (subscriptTail _ (PySem.Expr.Slice _ _ _ _) (Value.ref _) (Value.ref _)) _)); (refine' e_sliceL (n := 48) ?jl ?js ?ji ?jz ?_ ?j1 ?j2; (case jl => k_extra "hl"); (case js => k_extra "mm"); (case ji => exact rfl); (case jz => k_extra "sz"); (case j1 => (intro b; with_unfolding_all rfl)); (case j2 => (intro r; with_unfolding_all rfl)); intro D9))
  k_with "s4" => ((with_reducible show Stp _ (Sp _ _ _ _ (call (Value.type "range") [Value.int _ _]) _)); refine e_range1 fun r9 t9 t8 => ?_)
  k_with "s4" => ((with_reducible show Stp _ (Sp _ _ _ _ (call (Value.type "range") [Value.int _ _, Value.int _ _]) _)); refine e_range2 fun r9 t9 => ?_)
  k_with "s8" => ((with_reducible show Stp _ (Sp _ _ _ _ (binaryOp _ (Value.ref _) (Value.ref _)) _)); (refine' e_addL ?ja ?jb ?jz ?_; (case ja => k_extra "hl"); (case jb => k_extra "hl"); (case jz => k_extra "sz"); intro D9))
  k_with "s1" => ((with_reducible show Stp _ (Sp _ _ _ _ (eval (PySem.Expr.Dict (_ :: _) _ _) _) _)); refine e_book fun b9 o9 h9 p9 e9 => ?_)
  k_with "s11" => ((with_reducible show Stp _ (Sp _ _ _ _ (subscriptTail _ _ (Value.ref 742) (Value.int _ _)) _)); first | (refine' e_pkK ?h1 ?h2 ?h3 ?_ ?h4; (case h3 => with_reducible assumption); (case h1 => assumption); (case h2 => assumption); (case h4 => with_unfolding_all rfl); intro u9) | (refine' e_pk ?h1 ?h2 ?h3 ?h4 ?_ ?h5; (case h1 => assumption); (case h2 => assumption); (case h3 => omega); (case h4 => omega); (case h5 => with_unfolding_all rfl); intro P9 u9 hP9))
  k_with "s4" => ((with_reducible show Stp _ (Sp _ _ _ _ (call (Value.builtin "dict.get") [_, Value.str _ _, _]) _)); first | (refine' s_getP ?jy ?jp ?jm ?_; (case jp => with_reducible assumption); (case jy => k_extra "hd"); (case jm => k_extra "mm"); intro l8 vs8 hl8 hs8 hz8) | (refine' s_getS ?jy ?je ?_; (case jy => k_extra "hd"); (case je => with_reducible assumption)) | (refine' s_getN ?jy ?je ?_; (case jy => k_extra "hd"); (case je => with_reducible assumption)) | (refine' s_get2 ?jy ?je ?_; (case jy => k_extra "hd"); (case je => k_extra "fv")))
  k_with "pr" => ((with_reducible show CtrH _ _ _ _ _); exact CtrH.keeps (by with_reducible assumption) kp9)
  k_with "pr" => ((with_reducible show CtrM _ _ _); exact CtrM.keeps (by with_reducible assumption) kp9)
  k_with "pr" => ((with_reducible show CtrAt _ _ _ _ _ _ _); (refine' hctA _ _ kp9 ?hz ?ho; (case ho => k_extra "oat"); (case hz => k_extra "fv")))
  k_with "s11" => ((with_reducible show Stp _ (Sp _ _ _ _ (subscriptTail _ _ (Value.ref _) (Value.int (Int.fmod _ _) _)) _)); (refine' e_itemM ?jl ?ja ?jb ?jz ?_ ?js; (case jl => k_extra "hl"); (case ja => exact (fmod_rng _ (by decide)).1); (case jb => exact (fmod_rng _ (by decide)).2); (case jz => exact Nat.le_of_ble_eq_true rfl); (case js => with_unfolding_all rfl); intro v9 hv9))
  k_with "s11" => ((with_reducible show Stp _ (Sp _ _ _ _ (subscriptTail _ _ (Value.ref (LA.tl _)) (Value.int _ _)) _)); (refine' e_thing ?jt ?jx ?jn ?_ ?js; (case jt => with_reducible assumption); (case jx => first | with_reducible rfl | with_reducible assumption); (case jn => with_reducible assumption); (case js => with_unfolding_all rfl)))
  k_with "pr" => ((with_reducible show FrmD _ _ _ _); exact FrmD.keeps (by with_reducible assumption) kp9)
  k_with "IN 49" => (refine' tri_in HK.f49 [(Str.ofString "n", _)] 4000 ?hb ?hl ?hf ?hn ?_; (case hb => intros; exact rfl); (case hl => exact rfl); (case hf => exact rfl); (case hn => exact rfl); intro q9 v9 c k9 Z hP hk; (try dsimp only at hP hk))
  k_with "IN 63" => (refine' tri_in HK.f63 [(Str.ofString "number", _), (Str.ofString "self", _)] 4000 ?hb ?hl ?hf ?hn ?_; (case hb => intros; exact rfl); (case hl => exact rfl); (case hf => exact rfl); (case hn => exact rfl); intro q9 v9 c k9 Z hP hk; (try dsimp only at hP hk))
  k_with "IN 84" => (refine' tri_in HK.f84 [(Str.ofString "value", _), (Str.ofString "number", _), (Str.ofString "self", _)] 4000 ?hb ?hl ?hf ?hn ?_; (case hb => intros; exact rfl); (case hl => exact rfl); (case hf => exact rfl); (case hn => exact rfl); intro q9 v9 c k9 Z hP hk; (try dsimp only at hP hk))
  k_with "IN 103" => (refine' tri_in HK.f103 [(Str.ofString "number", _), (Str.ofString "self", _)] 4000 ?hb ?hl ?hf ?hn ?_; (case hb => intros; exact rfl); (case hl => exact rfl); (case hf => exact rfl); (case hn => exact rfl); intro q9 v9 c k9 Z hP hk; (try dsimp only at hP hk))
  k_with "IN 122" => (refine' tri_in HK.f122 [(Str.ofString "number", _), (Str.ofString "self", _)] 4000 ?hb ?hl ?hf ?hn ?_; (case hb => intros; exact rfl); (case hl => exact rfl); (case hf => exact rfl); (case hn => exact rfl); intro q9 v9 c k9 Z hP hk; (try dsimp only at hP hk))
  k_with "IN 141" => (refine' tri_in HK.f141 [(Str.ofString "captures", _), (Str.ofString "sub", _), (Str.ofString "number", _), (Str.ofString "self", _)] 4000 ?hb ?hl ?hf ?hn ?_; (case hb => intros; exact rfl); (case hl => exact rfl); (case hf => exact rfl); (case hn => exact rfl); intro q9 v9 c k9 Z hP hk; (try dsimp only at hP hk))
  k_with "IN 160" => (refine' tri_in HK.f160 [(Str.ofString "name", _), (Str.ofString "number", _), (Str.ofString "self", _)] 4000 ?hb ?hl ?hf ?hn ?_; (case hb => intros; exact rfl); (case hl => exact rfl); (case hf => exact rfl); (case hn => exact rfl); intro q9 v9 c k9 Z hP hk; (try dsimp only at hP hk))
  k_with "IN 180" => (refine' tri_inD HK.f180 [(Str.ofString "is_weak", _), (Str.ofString "target", _), (Str.ofString "self", _)] 4000 ?hb ?hl ?hf ?hn ?_; (case hb => (rintro _ rfl; intros; refine ⟨_, rfl, ?_⟩; exact rfl)); (case hl => exact rfl); (case hf => exact rfl); (case hn => exact rfl); intro q9 v9 c k9 Z hP hk; (try dsimp only at hP hk))
  k_with "IN 201" => (refine' tri_in HK.f201 [(Str.ofString "limits", _), (Str.ofString "self", _)] 4000 ?hb ?hl ?hf ?hn ?_; (case hb => intros; exact rfl); (case hl => exact rfl); (case hf => exact rfl); (case hn => exact rfl); intro q9 v9 c k9 Z hP hk; (try dsimp only at hP hk))
  k_with "IN 208" => (refine' tri_in HK.f208 [(Str.ofString "self", _)] 4000 ?hb ?hl ?hf ?hn ?_; (case hb => intros; exact rfl); (case hl => exact rfl); (case hf => exact rfl); (case hn => exact rfl); intro q9 v9 c k9 Z hP hk; (try dsimp only at hP hk))
  k_with "IN 215" => (refine' tri_in HK.f215 [(Str.ofString "value", _), (Str.ofString "self", _)] 4000 ?hb ?hl ?hf ?hn ?_; (case hb => intros; exact rfl); (case hl => exact rfl); (case hf => exact rfl); (case hn => exact rfl); intro q9 v9 c k9 Z hP hk; (try dsimp only at hP hk))
  k_with "IN 222" => (refine' tri_in HK.f222 [(Str.ofString "self", _)] 4000 ?hb ?hl ?hf ?hn ?_; (case hb => intros; exact rfl); (case hl => exact rfl); (case hf => exact rfl); (case hn => exact rfl); intro q9 v9 c k9 Z hP hk; (try dsimp only at hP hk))
  k_with "IN 229" => (refine' tri_in HK.f229 [(Str.ofString "self", _)] 4000 ?hb ?hl ?hf ?hn ?_; (case hb => intros; exact rfl); (case hl => exact rfl); (case hf => exact rfl); (case hn => exact rfl); intro q9 v9 c k9 Z hP hk; (try dsimp only at hP hk))
  k_with "IN 236" => (refine' tri_in HK.f236 [(Str.ofString "captures", _), (Str.ofString "sub", _), (Str.ofString "self", _)] 4000 ?hb ?hl ?hf ?hn ?_; (case hb => intros; exact rfl); (case hl => exact rfl); (case hf => exact rfl); (case hn => exact rfl); intro q9 v9 c k9 Z hP hk; (try dsimp only at hP hk))
  k_with "IN 243" => (refine' tri_in HK.f243 [(Str.ofString "name", _), (Str.ofString "self", _)] 4000 ?hb ?hl ?hf ?hn ?_; (case hb => intros; exact rfl); (case hl => exact rfl); (case hf => exact rfl); (case hn => exact rfl); intro q9 v9 c k9 Z hP hk; (try dsimp only at hP hk))
  k_with "IN 257" => (refine' tri_in HK.f257 [(Str.ofString "thing", _)] 4000 ?hb ?hl ?hf ?hn ?_; (case hb => intros; exact rfl); (case hl => exact rfl); (case hf => exact rfl); (case hn => exact rfl); intro q9 v9 c k9 Z hP hk; (try dsimp only at hP hk))
  k_with "IN 264" => (refine' tri_in HK.f264 [(Str.ofString "number", _)] 4000 ?hb ?hl ?hf ?hn ?_; (case hb => intros; exact rfl); (case hl => exact rfl); (case hf => exact rfl); (case hn => exact rfl); intro q9 v9 c k9 Z hP hk; (try dsimp only at hP hk))
  k_with "IN 271" => (refine' tri_in HK.f271 [(Str.ofString "ref", _)] 4000 ?hb ?hl ?hf ?hn ?_; (case hb => intros; exact rfl); (case hl => exact rfl); (case hf => exact rfl); (case hn => exact rfl); intro q9 v9 c k9 Z hP hk; (try dsimp only at hP hk))
  k_with "IN 278" => (refine' tri_in HK.f278 [(Str.ofString "x", _)] 4000 ?hb ?hl ?hf ?hn ?_; (case hb => intros; exact rfl); (case hl => exact rfl); (case hf => exact rfl); (case hn => exact rfl); intro q9 v9 c k9 Z hP hk; (try dsimp only at hP hk))
  k_with "IN 285" => (refine' tri_in HK.f285 [(Str.ofString "value", _)] 4000 ?hb ?hl ?hf ?hn ?_; (case hb => intros; exact rfl); (case hl => exact rfl); (case hf => exact rfl); (case hn => exact rfl); intro q9 v9 c k9 Z hP hk; (try dsimp only at hP hk))
  k_with "IN 292" => (refine' tri_in HK.f292 [(Str.ofString "limits", _), (Str.ofString "value", _)] 4000 ?hb ?hl ?hf ?hn ?_; (case hb => intros; exact rfl); (case hl => exact rfl); (case hf => exact rfl); (case hn => exact rfl); intro q9 v9 c k9 Z hP hk; (try dsimp only at hP hk))
  k_with "IN 299" => (refine' tri_in HK.f299 [(Str.ofString "flag", _)] 4000 ?hb ?hl ?hf ?hn ?_; (case hb => intros; exact rfl); (case hl => exact rfl); (case hf => exact rfl); (case hn => exact rfl); intro q9 v9 c k9 Z hP hk; (try dsimp only at hP hk))
  k_with "IN 313" => (refine' tri_in HK.f313 [(Str.ofString "text", _), (Str.ofString "self", _)] 4000 ?hb ?hl ?hf ?hn ?_; (case hb => intros; exact rfl); (case hl => exact rfl); (case hf => exact rfl); (case hn => exact rfl); intro q9 v9 c k9 Z hP hk; (try dsimp only at hP hk))
  k_with "IN 333" => (refine' tri_in HK.f333 [(Str.ofString "value", _), (Str.ofString "self", _)] 4000 ?hb ?hl ?hf ?hn ?_; (case hb => intros; exact rfl); (case hl => exact rfl); (case hf => exact rfl); (case hn => exact rfl); intro q9 v9 c k9 Z hP hk; (try dsimp only at hP hk))
  k_with "IN 343" => (refine' tri_in HK.f343 [(Str.ofString "package", _), (Str.ofString "stash", _)] 4000 ?hb ?hl ?hf ?hn ?_; (case hb => intros; exact rfl); (case hl => exact rfl); (case hf => exact rfl); (case hn => exact rfl); intro q9 v9 c k9 Z hP hk; (try dsimp only at hP hk))
  k_with "IN 350" => (refine' tri_in HK.f350 [(Str.ofString "package", _), (Str.ofString "stash", _)] 4000 ?hb ?hl ?hf ?hn ?_; (case hb => intros; exact rfl); (case hl => exact rfl); (case hf => exact rfl); (case hn => exact rfl); intro q9 v9 c k9 Z hP hk; (try dsimp only at hP hk))
  k_with "IN 357" => (refine' tri_in HK.f357 [(Str.ofString "package", _), (Str.ofString "stash", _)] 4000 ?hb ?hl ?hf ?hn ?_; (case hb => intros; exact rfl); (case hl => exact rfl); (case hf => exact rfl); (case hn => exact rfl); intro q9 v9 c k9 Z hP hk; (try dsimp only at hP hk))
  k_with "IN 364" => (refine' tri_in HK.f364 [(Str.ofString "name", _), (Str.ofString "line", _), (Str.ofString "stash", _)] 4000 ?hb ?hl ?hf ?hn ?_; (case hb => intros; exact rfl); (case hl => exact rfl); (case hf => exact rfl); (case hn => exact rfl); intro q9 v9 c k9 Z hP hk; (try dsimp only at hP hk))
  k_with "IN 378" => (refine' tri_in HK.f378 [(Str.ofString "self", _)] 4000 ?hb ?hl ?hf ?hn ?_; (case hb => intros; exact rfl); (case hl => exact rfl); (case hf => exact rfl); (case hn => exact rfl); intro q9 v9 c k9 Z hP hk; (try dsimp only at hP hk))
  k_with "IN 385" => (refine' tri_in HK.f385 [(Str.ofString "name", _), (Str.ofString "line", _), (Str.ofString "stash", _), (Str.ofString "self", _)] 4000 ?hb ?hl ?hf ?hn ?_; (case hb => intros; exact rfl); (case hl => exact rfl); (case hf => exact rfl); (case hn => exact rfl); intro q9 v9 c k9 Z hP hk; (try dsimp only at hP hk))
  k_with "IN 399" => (refine' tri_in HK.f399 [(Str.ofString "name", _), (Str.ofString "package", _), (Str.ofString "cache", _), (Str.ofString "stash", _)] 4000 ?hb ?hl ?hf ?hn ?_; (case hb => intros; exact rfl); (case hl => exact rfl); (case hf => exact rfl); (case hn => exact rfl); intro q9 v9 c k9 Z hP hk; (try dsimp only at hP hk))
  k_with "IN 406" => (refine' tri_in HK.f406 [(Str.ofString "package", _), (Str.ofString "value", _), (Str.ofString "stash", _)] 4000 ?hb ?hl ?hf ?hn ?_; (case hb => intros; exact rfl); (case hl => exact rfl); (case hf => exact rfl); (case hn => exact rfl); intro q9 v9 c k9 Z hP hk; (try dsimp only at hP hk))
  k_with "IN 413" => (refine' tri_in HK.f413 [(Str.ofString "want", _), (Str.ofString "values", _), (Str.ofString "run", _)] 4000 ?hb ?hl ?hf ?hn ?_; (case hb => intros; exact rfl); (case hl => exact rfl); (case hf => exact rfl); (case hn => exact rfl); intro q9 v9 c k9 Z hP hk; (try dsimp only at hP hk))
  k_with "IN 420" => (refine' tri_in HK.f420 [(Str.ofString "want", _), (Str.ofString "values", _), (Str.ofString "run", _)] 4000 ?hb ?hl ?hf ?hn ?_; (case hb => intros; exact rfl); (case hl => exact rfl); (case hf => exact rfl); (case hn => exact rfl); intro q9 v9 c k9 Z hP hk; (try dsimp only at hP hk))
  k_with "IN 427" => (refine' tri_in HK.f427 [(Str.ofString "package", _), (Str.ofString "value", _)] 4000 ?hb ?hl ?hf ?hn ?_; (case hb => intros; exact rfl); (case hl => exact rfl); (case hf => exact rfl); (case hn => exact rfl); intro q9 v9 c k9 Z hP hk; (try dsimp only at hP hk))
  k_with "IN 434" => (refine' tri_in HK.f434 [(Str.ofString "value", _)] 4000 ?hb ?hl ?hf ?hn ?_; (case hb => intros; exact rfl); (case hl => exact rfl); (case hf => exact rfl); (case hn => exact rfl); intro q9 v9 c k9 Z hP hk; (try dsimp only at hP hk))
  k_with "IN 441" => (refine' tri_in HK.f441 [(Str.ofString "value", _)] 4000 ?hb ?hl ?hf ?hn ?_; (case hb => intros; exact rfl); (case hl => exact rfl); (case hf => exact rfl); (case hn => exact rfl); intro q9 v9 c k9 Z hP hk; (try dsimp only at hP hk))
  k_with "IN 448" => (refine' tri_in HK.f448 [(Str.ofString "value", _)] 4000 ?hb ?hl ?hf ?hn ?_; (case hb => intros; exact rfl); (case hl => exact rfl); (case hf => exact rfl); (case hn => exact rfl); intro q9 v9 c k9 Z hP hk; (try dsimp only at hP hk))
  k_with "IN 455" => (refine' tri_in HK.f455 [(Str.ofString "value", _)] 4000 ?hb ?hl ?hf ?hn ?_; (case hb => intros; exact rfl); (case hl => exact rfl); (case hf => exact rfl); (case hn => exact rfl); intro q9 v9 c k9 Z hP hk; (try dsimp only at hP hk))
  k_with "IN 462" => (refine' tri_in HK.f462 [(Str.ofString "thing", _), (Str.ofString "cache", _), (Str.ofString "stash", _)] 4000 ?hb ?hl ?hf ?hn ?_; (case hb => intros; exact rfl); (case hl => exact rfl); (case hf => exact rfl); (case hn => exact rfl); intro q9 v9 c k9 Z hP hk; (try dsimp only at hP hk))
  k_with "IN 469" => (refine' tri_in HK.f469 [(Str.ofString "want", _), (Str.ofString "args", _), (Str.ofString "run", _)] 4000 ?hb ?hl ?hf ?hn ?_; (case hb => intros; exact rfl); (case hl => exact rfl); (case hf => exact rfl); (case hn => exact rfl); intro q9 v9 c k9 Z hP hk; (try dsimp only at hP hk))
  k_with "IN 476" => (refine' tri_in HK.f476 [(Str.ofString "want", _), (Str.ofString "args", _), (Str.ofString "run", _)] 4000 ?hb ?hl ?hf ?hn ?_; (case hb => intros; exact rfl); (case hl => exact rfl); (case hf => exact rfl); (case hn => exact rfl); intro q9 v9 c k9 Z hP hk; (try dsimp only at hP hk))
  k_with "IN 483" => (refine' tri_in HK.f483 [(Str.ofString "want", _), (Str.ofString "args", _), (Str.ofString "run", _)] 4000 ?hb ?hl ?hf ?hn ?_; (case hb => intros; exact rfl); (case hl => exact rfl); (case hf => exact rfl); (case hn => exact rfl); intro q9 v9 c k9 Z hP hk; (try dsimp only at hP hk))
  k_with "IN 490" => (refine' tri_in HK.f490 [(Str.ofString "want", _), (Str.ofString "args", _), (Str.ofString "run", _)] 4000 ?hb ?hl ?hf ?hn ?_; (case hb => intros; exact rfl); (case hl => exact rfl); (case hf => exact rfl); (case hn => exact rfl); intro q9 v9 c k9 Z hP hk; (try dsimp only at hP hk))
  k_with "IN 497" => (refine' tri_in HK.f497 [(Str.ofString "want", _), (Str.ofString "args", _), (Str.ofString "run", _)] 4000 ?hb ?hl ?hf ?hn ?_; (case hb => intros; exact rfl); (case hl => exact rfl); (case hf => exact rfl); (case hn => exact rfl); intro q9 v9 c k9 Z hP hk; (try dsimp only at hP hk))
  k_with "IN 504" => (refine' tri_in HK.f504 [(Str.ofString "want", _), (Str.ofString "args", _), (Str.ofString "run", _)] 4000 ?hb ?hl ?hf ?hn ?_; (case hb => intros; exact rfl); (case hl => exact rfl); (case hf => exact rfl); (case hn => exact rfl); intro q9 v9 c k9 Z hP hk; (try dsimp only at hP hk))
  k_with "IN 518" => (refine' tri_in HK.f518 [(Str.ofString "destroy", _), (Str.ofString "heap", _), (Str.ofString "self", _)] 4000 ?hb ?hl ?hf ?hn ?_; (case hb => intros; exact rfl); (case hl => exact rfl); (case hf => exact rfl); (case hn => exact rfl); intro q9 v9 c k9 Z hP hk; (try dsimp only at hP hk))
  k_with "IN 525" => (refine' tri_in HK.f525 [(Str.ofString "thing", _), (Str.ofString "self", _)] 4000 ?hb ?hl ?hf ?hn ?_; (case hb => intros; exact rfl); (case hl => exact rfl); (case hf => exact rfl); (case hn => exact rfl); intro q9 v9 c k9 Z hP hk; (try dsimp only at hP hk))
  k_with "IN 532" => (refine' tri_in HK.f532 [(Str.ofString "thing", _), (Str.ofString "self", _)] 4000 ?hb ?hl ?hf ?hn ?_; (case hb => intros; exact rfl); (case hl => exact rfl); (case hf => exact rfl); (case hn => exact rfl); intro q9 v9 c k9 Z hP hk; (try dsimp only at hP hk))
  k_with "IN 546" => (refine' tri_in HK.f546 [(Str.ofString "value", _), (Str.ofString "self", _)] 4000 ?hb ?hl ?hf ?hn ?_; (case hb => intros; exact rfl); (case hl => exact rfl); (case hf => exact rfl); (case hn => exact rfl); intro q9 v9 c k9 Z hP hk; (try dsimp only at hP hk))
  k_with "IN 558" => (refine' tri_in HK.f558 [(Str.ofString "value", _), (Str.ofString "scalar", _), (Str.ofString "self", _)] 4000 ?hb ?hl ?hf ?hn ?_; (case hb => intros; exact rfl); (case hl => exact rfl); (case hf => exact rfl); (case hn => exact rfl); intro q9 v9 c k9 Z hP hk; (try dsimp only at hP hk))
  k_with "IN 565" => (refine' tri_in HK.f565 [(Str.ofString "value", _), (Str.ofString "self", _)] 4000 ?hb ?hl ?hf ?hn ?_; (case hb => intros; exact rfl); (case hl => exact rfl); (case hf => exact rfl); (case hn => exact rfl); intro q9 v9 c k9 Z hP hk; (try dsimp only at hP hk))
  k_with "IN 614" => (refine' tri_in HK.f614 [(Str.ofString "line", _), (Str.ofString "package", _), (Str.ofString "code", _), (Str.ofString "want", _), (Str.ofString "args", _), (Str.ofString "pad", _), (Str.ofString "self", _)] 4000 ?hb ?hl ?hf ?hn ?_; (case hb => intros; exact rfl); (case hl => exact rfl); (case hf => exact rfl); (case hn => exact rfl); intro q9 v9 c k9 Z hP hk; (try dsimp only at hP hk))
  k_with "IN 635" => (refine' tri_in HK.f635 [(Str.ofString "limits", _), (Str.ofString "stash", _), (Str.ofString "counter", _), (Str.ofString "heap", _), (Str.ofString "self", _)] 4000 ?hb ?hl ?hf ?hn ?_; (case hb => intros; exact rfl); (case hl => exact rfl); (case hf => exact rfl); (case hn => exact rfl); intro q9 v9 c k9 Z hP hk; (try dsimp only at hP hk))
  k_with "IN 678" => (refine' tri_in HK.f678 [(Str.ofString "heap", _), (Str.ofString "self", _)] 4000 ?hb ?hl ?hf ?hn ?_; (case hb => intros; exact rfl); (case hl => exact rfl); (case hf => exact rfl); (case hn => exact rfl); intro q9 v9 c k9 Z hP hk; (try dsimp only at hP hk))
  k_with "IN 685" => (refine' tri_in HK.f685 [(Str.ofString "name", _), (Str.ofString "self", _)] 4000 ?hb ?hl ?hf ?hn ?_; (case hb => intros; exact rfl); (case hl => exact rfl); (case hf => exact rfl); (case hn => exact rfl); intro q9 v9 c k9 Z hP hk; (try dsimp only at hP hk))
  k_with "IN 699" => (refine' tri_in HK.f699 [(Str.ofString "name", _), (Str.ofString "self", _)] 4000 ?hb ?hl ?hf ?hn ?_; (case hb => intros; exact rfl); (case hl => exact rfl); (case hf => exact rfl); (case hn => exact rfl); intro q9 v9 c k9 Z hP hk; (try dsimp only at hP hk))
  k_with "IN 713" => (refine' tri_in HK.f713 [(Str.ofString "name", _), (Str.ofString "self", _)] 4000 ?hb ?hl ?hf ?hn ?_; (case hb => intros; exact rfl); (case hl => exact rfl); (case hf => exact rfl); (case hn => exact rfl); intro q9 v9 c k9 Z hP hk; (try dsimp only at hP hk))
  k_with "IN 720" => (refine' tri_in HK.f720 [(Str.ofString "name", _), (Str.ofString "self", _)] 4000 ?hb ?hl ?hf ?hn ?_; (case hb => intros; exact rfl); (case hl => exact rfl); (case hf => exact rfl); (case hn => exact rfl); intro q9 v9 c k9 Z hP hk; (try dsimp only at hP hk))
  k_with "IN 734" => (refine' tri_in HK.f734 [(Str.ofString "old", _), (Str.ofString "new", _), (Str.ofString "counter", _)] 4000 ?hb ?hl ?hf ?hn ?_; (case hb => intros; exact rfl); (case hl => exact rfl); (case hf => exact rfl); (case hn => exact rfl); intro q9 v9 c k9 Z hP hk; (try dsimp only at hP hk))
  k_with "IN 741" => (refine' tri_in HK.f741 [(Str.ofString "code", _), (Str.ofString "name", _), (Str.ofString "counter", _), (Str.ofString "stash", _)] 4000 ?hb ?hl ?hf ?hn ?_; (case hb => intros; exact rfl); (case hl => exact rfl); (case hf => exact rfl); (case hn => exact rfl); intro q9 v9 c k9 Z hP hk; (try dsimp only at hP hk))
  k_with "IN 749" => (refine' tri_in HK.f749 [] 4000 ?hb ?hl ?hf ?hn ?_; (case hb => intros; exact rfl); (case hl => exact rfl); (case hf => exact rfl); (case hn => exact rfl); intro q9 v9 c k9 Z hP hk; (try dsimp only at hP hk))
  k_with "IN 756" => (refine' tri_in HK.f756 [(Str.ofString "limit", _), (Str.ofString "spot", _), (Str.ofString "script", _)] 4000 ?hb ?hl ?hf ?hn ?_; (case hb => intros; exact rfl); (case hl => exact rfl); (case hf => exact rfl); (case hn => exact rfl); intro q9 v9 c k9 Z hP hk; (try dsimp only at hP hk))
  k_with "IN 763" => (refine' tri_in HK.f763 [(Str.ofString "number", _)] 4000 ?hb ?hl ?hf ?hn ?_; (case hb => intros; exact rfl); (case hl => exact rfl); (case hf => exact rfl); (case hn => exact rfl); intro q9 v9 c k9 Z hP hk; (try dsimp only at hP hk))
  k_with "IN 775" => (refine' tri_in HK.f775 [(Str.ofString "args", _), (Str.ofString "run", _)] 4000 ?hb ?hl ?hf ?hn ?_; (case hb => intros; exact rfl); (case hl => exact rfl); (case hf => exact rfl); (case hn => exact rfl); intro q9 v9 c k9 Z hP hk; (try dsimp only at hP hk))
  k_with "IN 782" => (refine' tri_in HK.f782 [(Str.ofString "package", _), (Str.ofString "value", _), (Str.ofString "run", _)] 4000 ?hb ?hl ?hf ?hn ?_; (case hb => intros; exact rfl); (case hl => exact rfl); (case hf => exact rfl); (case hn => exact rfl); intro q9 v9 c k9 Z hP hk; (try dsimp only at hP hk))
  k_with "IN 794" => (refine' tri_in HK.f794 [(Str.ofString "package", _), (Str.ofString "value", _), (Str.ofString "book", _), (Str.ofString "run", _)] 4000 ?hb ?hl ?hf ?hn ?_; (case hb => intros; exact rfl); (case hl => exact rfl); (case hf => exact rfl); (case hn => exact rfl); intro q9 v9 c k9 Z hP hk; (try dsimp only at hP hk))
  k_with "IN 768" => (refine' tri_inC HK.f768 (Str.ofString "line") none [(Str.ofString "parents", _), (Str.ofString "package", _)] [(Str.ofString "package", _), (Str.ofString "parents", _)] 4000 ?hb ?hkd ?hls ?hcz ?hcf ?hf ?_; (case hb => intros; exact rfl); (case hkd => exact rfl); (case hls => exact rfl); (case hcz => exact rfl); (case hcf => intro m; exact rfl); (case hf => exact rfl); intro q9 v9 c k9 ca Z hcl hP hk; (try dsimp only at hP hk); (have hcc : c.cl.lookup (Str.ofString "line") = some ca := hcl ▸ List.lookup_cons_self))
  k_with "IN 787" => (refine' tri_inC HK.f787 (Str.ofString "book") (some _) [(Str.ofString "run", _), (Str.ofString "book", _), (Str.ofString "k", _), (Str.ofString "thing", _), (Str.ofString "package", _)] [(Str.ofString "package", _), (Str.ofString "thing", _), (Str.ofString "k", _), (Str.ofString "run", _)] 4000 ?hb ?hkd ?hls ?hcz ?hcf ?hf ?_; (case hb => intros; exact rfl); (case hkd => exact rfl); (case hls => exact rfl); (case hcz => exact rfl); (case hcf => intro m; exact rfl); (case hf => exact rfl); intro q9 v9 c k9 ca Z hcl hP hk; (try dsimp only at hP hk); (have hcc : c.cl.lookup (Str.ofString "book") = some ca := hcl ▸ List.lookup_cons_self))
  k_with "IN 551" => (refine' tri_inC HK.f551 (Str.ofString "scalar") (some _) [(Str.ofString "self", _), (Str.ofString "scalar", _), (Str.ofString "value", _)] [(Str.ofString "value", _), (Str.ofString "self", _)] 4000 ?hb ?hkd ?hls ?hcz ?hcf ?hf ?_; (case hb => intros; exact rfl); (case hkd => exact rfl); (case hls => exact rfl); (case hcz => exact rfl); (case hcf => intro m; exact rfl); (case hf => exact rfl); intro q9 v9 c k9 ca Z hcl hP hk; (try dsimp only at hP hk); (have hcc : c.cl.lookup (Str.ofString "scalar") = some ca := hcl ▸ List.lookup_cons_self))
  k_with "IN 799" => (refine' tri_inC HK.f799 (Str.ofString "k") none [(Str.ofString "script", _)] [(Str.ofString "script", _)] 4000 ?hb ?hkd ?hls ?hcz ?hcf ?hf ?_; (case hb => intros; exact rfl); (case hkd => exact rfl); (case hls => exact rfl); (case hcz => exact rfl); (case hcf => intro m; exact rfl); (case hf => exact rfl); intro q9 v9 c k9 ca Z hcl hP hk; (try dsimp only at hP hk); (have hcc : c.cl.lookup (Str.ofString "k") = some ca := hcl ▸ List.lookup_cons_self))
  k_with "IN 180d" => (refine' tri_inD HK.f180 [(Str.ofString "is_weak", .bool false), (Str.ofString "target", _), (Str.ofString "self", _)] 4000 ?hb ?hl ?hf ?hn ?_; (case hb => (rintro _ rfl; intros; refine ⟨_, rfl, ?_⟩; exact rfl)); (case hl => exact rfl); (case hf => exact rfl); (case hn => exact rfl); intro q9 v9 c k9 Z hP hk; (try dsimp only at hP hk))
  k_with "IE 427" => (refine' tri_inE HK.f427 [(Str.ofString "package", _), (Str.ofString "value", _)] 4000 ?hb ?hl ?hf ?hn ?_; (case hb => intros; exact rfl); (case hl => exact rfl); (case hf => exact rfl); (case hn => exact rfl); intro q9 v9 c base9 outer9 Z EB9 hP hfl hps; (try dsimp only at hP))
  k_with "IE 469" => (refine' tri_inE HK.f469 [(Str.ofString "want", _), (Str.ofString "args", _), (Str.ofString "run", _)] 4000 ?hb ?hl ?hf ?hn ?_; (case hb => intros; exact rfl); (case hl => exact rfl); (case hf => exact rfl); (case hn => exact rfl); intro q9 v9 c base9 outer9 Z EB9 hP hfl hps; (try dsimp only at hP))
  k_with "IS 787" => (refine' tri_inCs HK.f787 (Str.ofString "book") (some _) [(Str.ofString "run", _), (Str.ofString "book", _), (Str.ofString "k", _), (Str.ofString "thing", _), (Str.ofString "package", _)] [(Str.ofString "package", _), (Str.ofString "thing", _), (Str.ofString "k", _), (Str.ofString "run", _)] ?hb ?hkd ?hls ?hcz ?hcf ?hf ?_; (case hb => intros; exact rfl); (case hkd => exact rfl); (case hls => exact rfl); (case hcz => exact rfl); (case hcf => intro m; exact rfl); (case hf => exact rfl); intro q9 v9 c k9 ca9 Z hcl hP hk; (try dsimp only at hP hk); (have hcc : c.cl.lookup (Str.ofString "book") = some ca9 := hcl ▸ List.lookup_cons_self))
  k_with "oat" => (first | exact OAt.keeps (by with_reducible assumption) kp9 | (refine' hp9 (_, _) ?jr7; (case jr7 => k_extra "mm")))
  k_with "pr" => (first | exact trivial | with_reducible assumption | k_extra "oat")
  k_with "pr" => ((with_reducible show RefAt _ _ _ _); first | exact RefAt.keeps (by with_reducible assumption) kp9 | (refine' ⟨_, _, ?jra, ?jrb, ?jrc⟩; (case jra => k_extra "oat"); (case jrb => k_extra "oat"); (case jrc => k_extra "fv")))
  k_with "pr" => ((with_reducible show SortW _ _ _ _ _); first | exact SortW.keeps (by with_reducible assumption) kp9)
  k_with "pr" => ((with_reducible show ThAt _ _ _ _ _ _ _); first | exact ThAt.keeps (by with_reducible assumption) kp9 | (refine' ⟨?jra, ?jrb, ?jrc, ?jrd⟩; (case jra => k_extra "oat"); (case jrb => k_extra "oat"); (case jrc => with_reducible assumption); (case jrd => k_extra "pr")))
  k_with "pr" => ((with_reducible show _ ∧ _); refine And.intro ?_ ?_ <;> k_extra "pr")
  k_with "pr0" => (intro gp9 kp9 hp9; k_extra "pr")
  k_with "pl" => (first | exact rfl | with_reducible assumption)
  k_with "w0" => (refine e_while 4000 (fun _ l9 h9 d9 => l9 = _ ∧ h9 = _ ∧ d9 = _) 0 Z Cut.all9 ⟨rfl, rfl, rfl⟩ ?_; rintro _ _ _ _ ⟨rfl, rfl, rfl⟩)
  k_with "tp" => (first | exact rfl | with_reducible assumption)
  k_with "pr" => ((with_reducible show FL _ _ _ _); first | exact FL.keeps (by with_reducible assumption) kp9 | (refine' ⟨_, ?jra, ?jrb⟩; (case jra => k_extra "oat"); (case jrb => exact rfl)))
  k_with "pr" => ((with_reducible show StashD _ _ _ _ _ _); exact StashD.keeps (by with_reducible assumption) kp9)
  k_with "pr" => ((with_reducible show GivesA _ _ _ _ _); exact GivesA.keeps (by with_reducible assumption) kp9)
  k_with "s1" => ((with_reducible show Stp _ (Sp _ _ _ _ (eval (PySem.Expr.ListComp (PySem.Expr.Call _ _ _ _) _ _ _) _) _)); (refine' lc_texts HK.toKCl (c_value_ofS HK) (c_to_text HK) 4000 ?jz ?hz ?jl ?js ?len ?it ?sc ?_; (case jz => assumption); (case hz => exact Nat.le_of_ble_eq_true rfl); (case js => assumption); (case jl => k_extra "hl"); (case len => assumption); (case it => (k_extra "go"; all_goals exact Stp.mk ⟨rfl, rfl, rfl, rfl⟩)); (case sc => exact rfl); intro D9 ys9 hS9))
  k_with "st" => (refine (?_ : Stp _ _))
  k_with "dn" => (first | with_reducible assumption | decide)
  k_with "pr" => ((with_reducible show RunD _ _ _ _ _ _ _ _); exact RunD.keeps (by with_reducible assumption) kp9)
  k_with "pr" => ((with_reducible show AnyV _ _ _ _ _ _); first | exact AnyV.keeps (by with_reducible assumption) kp9 | (refine' AnyV.ref ?jre ?jrf ?jrg; (case jre => k_extra "pr"); (case jrf => k_extra "pr"); (case jrg => with_reducible assumption)))
  k_with "pr" => ((with_reducible show ParD _ _ _ _); exact ParD.keeps (by with_reducible assumption) kp9)
  k_with "s11" => ((with_reducible show Stp _ (Sp _ _ _ _ (subscriptTail (PySem.Expr.Constant _ _ _) _ (Value.str _ _) (Value.int _ _)) _)); refine' e_sitem ?ja ?jb ?_ ?js; (case ja => decide); (case jb => exact rfl); (case js => with_unfolding_all rfl); intro u9)
  k_with "s1" => ((with_reducible show Stp _ (Sp _ _ _ _ (isTrue (PySem.Expr.BoolOp BoolOp.Or [] _) _ _) _)); refine e_orN ?_)
  k_with "s1" => ((with_reducible show Stp _ (Sp _ _ _ _ (isTrue (PySem.Expr.BoolOp BoolOp.And [] _) _ _) _)); refine e_andN ?_)
  k_with "s4" => ((with_reducible show Stp _ (Sp _ _ _ _ (call (Value.type "str") [Value.str _ _]) _)); refine e_strS ?_)
  k_with "s4" => ((with_reducible show Stp _ (Sp _ _ _ _ (call (Value.type "str") [Value.int 0 _]) _)); refine e_strI0 ?_; intro u9)
  k_with "eq" => ((refine (?_ : Stp _ _)); (refine' e_eqL ?jz ?ja ?jb ?jc ?_ ?_; (case jz => assumption); (case ja => k_extra "hl"); (case jb => k_extra "hl"); (case jc => assumption)))
  k_with "s1" => ((with_reducible show Stp _ (Sp _ _ _ _ (eval (PySem.Expr.Dict [] [] _) _) _)); have := (by with_reducible assumption : WantTab); refine e_dict0 (d := .tb []) emptyD_tab fun a9 => ?_)
  k_with "s4" => ((with_reducible show Stp _ (Sp _ _ _ _ (call (Value.type "tuple") [Value.ref _]) _)); (refine' e_tupOf ?jl ?jz ?_; (case jl => k_extra "hl"); (case jz => k_extra "sz"); intro D9))
  k_with "prat" => (first | with_reducible assumption | (refine' pr_mk ?ja ?jb ?jc; (case ja => k_extra "mm"); (case jb => k_extra "mm"); (case jc => assumption)))
  k_with "keys" => (first | (apply PrAt.ups; (with_reducible assumption)) | exact keys_nil | (apply keys_new; (focus (first | with_reducible assumption | exact atKey_nil)); (focus (k_extra "keys")); k_extra "prat"))
  k_with "s7" => ((with_reducible show Stp _ (Sp _ _ _ _ (compareOp CmpOp.NotIn (Value.ref _) (Value.ref _)) _)); (refine' t_notin ?jz ?jy ?jk ?jq ?je ?_; (case jz => assumption); (case jy => k_extra "hd"); (case jk => k_extra "keys"); (case jq => k_extra "prat"); (case je => first | assumption | exact atKey_nil)))
  k_with "s11" => ((with_reducible show Stp _ (Sp _ _ _ _ (subscriptTail _ _ (Value.ref _) (Value.ref _)) _)); (refine' t_get ?jz ?jy ?jk ?jq ?je ?_ ?js; (case jz => assumption); (case jy => k_extra "hd"); (case jk => k_extra "keys"); (case jq => k_extra "prat"); (case je => first | assumption | exact atKey_new (by assumption) | exact atKey_new atKey_nil); (case js => with_unfolding_all rfl)))
  k_with "s14" => ((with_reducible show Stp _ (Sp _ _ _ _ (setItem (Value.ref _) (Value.ref _) _) _)); (refine' t_set ?jz ?ju ?jk ?jq ?jl ?_; (case jz => assumption); (case ju => k_extra "up"); (case jk => k_extra "keys"); (case jq => k_extra "prat"); (case jl => first | omega | exact Nat.le_of_ble_eq_true rfl)))
  k_with "cut" => (first | with_reducible exact Cut.nil | with_reducible exact Cut.all | (apply Cut.cons; (focus (k_extra "pk")); k_extra "cut") | (apply Cut.skip; k_extra "cut"))
  k_with "pr" => ((with_reducible show CaP _ _ _ _ _ _ _ _); exact CaP.keeps (by with_reducible assumption) kp9)
  k_with "s11" => ((with_reducible show Stp _ (Sp _ _ _ _ (subscriptTail _ _ (Value.ref _) (Value.int 0 _)) _)); first | (refine' e_item ?jl ?ja ?jb ?jx ?_ ?js; (case ja => decide); (case jb => decide); (case jl => k_extra "hl"); (case jx => first | exact rfl | assumption); (case js => with_unfolding_all rfl)) | (refine' e_itemT ?jl ?ja ?jb ?jx ?jy ?_ ?js; (case ja => decide); (case jb => decide); (case jl => k_extra "hd"); (case jx => exact rfl); (case jy => exact rfl); (case js => with_unfolding_all rfl)))
  k_with "s6" => ((with_reducible show Stp _ (Sp _ _ _ _ (getMethod (Value.ref 66) _ _) _)); refine e_clsM (g := 63) HK (by assumption) rfl ?_)
  k_with "s6" => ((with_reducible show Stp _ (Sp _ _ _ _ (getMethod (Value.ref 316) _ _) _)); refine e_clsM (g := 313) HK (by assumption) rfl ?_)
  k_with "s1" => ((with_reducible show Stp _ (Sp _ _ _ _ (eval (PySem.Expr.Dict [] [] _) _) _)); have := (by with_reducible assumption : WantNd); refine e_dict0 (d := .nd []) emptyD_dic fun a9 => ?_)
  k_with "pr" => ((with_reducible show CtrAt _ _ _ _ _ _ _); first | exact CtrAt.keeps (by with_reducible assumption) kp9 | (refine' ⟨?jra, ?jrb, ?jrc, ?jrd⟩; (case jra => with_reducible assumption); (case jrb => k_extra "oat"); (case jrc => k_extra "oat"); (case jrd => k_extra "fv")))
  k_with "fv" => (with_reducible exact valueAt_new)
  k_with "s4" => ((with_reducible show Stp _ (Sp _ _ _ _ (call (Value.ref 257) [_]) _)); first | (refine' tri_use (c_thing_word HK _ _ _ _ _) ?jz ?jd .nil ?jp ?_; (case jz => assumption); (case jd => first | exact Nat.le_of_ble_eq_true rfl | omega); (case jp => k_extra "pr0"); intro u9))
  k_with "s4" => ((with_reducible show Stp _ (Sp _ _ _ _ (call (Value.ref 278) [_]) _)); first | (refine' tri_use (c_value_ofP HK _ ?h1) ?jz ?jd .nil ?jp ?_; (case jz => assumption); (case jd => first | exact Nat.le_of_ble_eq_true rfl | omega); (case h1 => k_extra "pl"); (case jp => k_extra "pr0"); skip) | (refine' tri_use (c_value_ofR HK _ _) ?jz ?jd .nil ?jp ?_; (case jz => assumption); (case jd => first | exact Nat.le_of_ble_eq_true rfl | omega); (case jp => k_extra "pr0"); skip) | (refine' tri_use (c_value_ofS HK _ _) ?jz ?jd .nil ?jp ?_; (case jz => assumption); (case jd => first | exact Nat.le_of_ble_eq_true rfl | omega); (case jp => k_extra "pr0"); intro u9) | (refine' tri_use (c_value_ofV HK _) ?jz ?jd .nil ?jp ?_; (case jz => assumption); (case jd => first | exact Nat.le_of_ble_eq_true rfl | omega); (case jp => k_extra "pr0"); skip))
  k_with "s4" => ((with_reducible show Stp _ (Sp _ _ _ _ (call (Value.ref 441) [_]) _)); first | (refine' tri_use (c_blessed_word HK _ _ _ _ _ _) ?jz ?jd .nil ?jp ?_; (case jz => assumption); (case jd => first | exact Nat.le_of_ble_eq_true rfl | omega); (case jp => k_extra "pr0"); intro v9 hv9) | (refine' tri_use (c_blessed_wordP HK _ ?h1) ?jz ?jd .nil ?jp ?_; (case jz => assumption); (case jd => first | exact Nat.le_of_ble_eq_true rfl | omega); (case h1 => k_extra "pl"); (case jp => k_extra "pr0"); skip))
  k_with "s4" => ((with_reducible show Stp _ (Sp _ _ _ _ (call (Value.ref 264) [_]) _)); first | (refine' tri_use (c_hex_of HK _ _ ?h1) ?jz ?jd .nil ?jp ?_; (case jz => assumption); (case jd => first | exact Nat.le_of_ble_eq_true rfl | omega); (case jp => k_extra "pr0"); (case h1 => with_reducible assumption); intro u9))
  k_with "s4" => ((with_reducible show Stp _ (Sp _ _ _ _ (call (Value.ref 49) [_]) _)); first | (refine' tri_use (c_number_text HK _) ?jz ?jd .nil ?jp ?_; (case jz => assumption); (case jd => first | exact Nat.le_of_ble_eq_true rfl | omega); (case jp => k_extra "pr0"); intro u9))
  k_with "s4" => ((with_reducible show Stp _ (Sp _ _ _ _ (call (Value.ref 271) [_]) _)); first | (refine' tri_use (c_ref_text HK _ _ _ _ _ _ ?h1) ?jz ?jd .nil ?jp ?_; (case jz => assumption); (case jd => first | exact Nat.le_of_ble_eq_true rfl | omega); (case jp => k_extra "pr0"); (case h1 => with_reducible assumption); intro u9))
  k_with "s4" => ((with_reducible show Stp _ (Sp _ _ _ _ (call (Value.ref 285) [_]) _)); first | (refine' tri_use (c_to_text HK _ _ ?h1) ?jz ?jd .nil ?jp ?_; (case jz => assumption); (case jd => first | exact Nat.le_of_ble_eq_true rfl | omega); (case h1 => k_extra "tp"); (case jp => k_extra "pr0"); intro u9) | (refine' tri_use (c_to_textR HK _ _ _ _ _ _ ?h1) ?jz ?jd .nil ?jp ?_; (case jz => assumption); (case jd => first | exact Nat.le_of_ble_eq_true rfl | omega); (case jp => k_extra "pr0"); (case h1 => with_reducible assumption); intro u9))
  k_with "s4" => ((with_reducible show Stp _ (Sp _ _ _ _ (call (Value.ref 299) [_]) _)); first | (refine' tri_use (c_truth_value HK _) ?jz ?jd .nil ?jp ?_; (case jz => assumption); (case jd => first | exact Nat.le_of_ble_eq_true rfl | omega); (case jp => k_extra "pr0"); skip))
  k_with "s4" => ((with_reducible show Stp _ (Sp _ _ _ _ (call (Value.ref 434) [_]) _)); first | (refine' tri_use (c_ref_word HK _ _ _ _ _ _) ?jz ?jd .nil ?jp ?_; (case jz => assumption); (case jd => first | exact Nat.le_of_ble_eq_true rfl | omega); (case jp => k_extra "pr0"); intro u9) | (refine' tri_use (c_ref_wordP HK _ ?h1) ?jz ?jd .nil ?jp ?_; (case jz => assumption); (case jd => first | exact Nat.le_of_ble_eq_true rfl | omega); (case h1 => k_extra "pl"); (case jp => k_extra "pr0"); intro u9))
  k_with "s4" => ((with_reducible show Stp _ (Sp _ _ _ _ (call (Value.ref 448) [_]) _)); first | (refine' tri_use (c_sort_word HK _ _ _ _ _ _) ?jz ?jd .nil ?jp ?_; (case jz => assumption); (case jd => first | exact Nat.le_of_ble_eq_true rfl | omega); (case jp => k_extra "pr0"); intro u9) | (refine' tri_use (c_sort_wordP HK _ ?h1) ?jz ?jd .nil ?jp ?_; (case jz => assumption); (case jd => first | exact Nat.le_of_ble_eq_true rfl | omega); (case h1 => k_extra "pl"); (case jp => k_extra "pr0"); skip))
  k_with "s4" => ((with_reducible show Stp _ (Sp _ _ _ _ (call (Value.ref 455) [_]) _)); first | (refine' tri_use (c_thing_number HK _ _ _ _ _ _) ?jz ?jd .nil ?jp ?_; (case jz => assumption); (case jd => first | exact Nat.le_of_ble_eq_true rfl | omega); (case jp => k_extra "pr0"); intro u9) | (refine' tri_use (c_thing_numberP HK _ ?h1) ?jz ?jd .nil ?jp ?_; (case jz => assumption); (case jd => first | exact Nat.le_of_ble_eq_true rfl | omega); (case h1 => k_extra "pl"); (case jp => k_extra "pr0"); skip))
  k_with "s4" => ((with_reducible show Stp _ (Sp _ _ _ _ (call (Value.ref 720) [Value.ref _, Value.str _ _]) _)); first | (refine' tri_use (c_find_array HK _ _ _ _) ?jz ?jd .nil ?jp ?_; (case jz => assumption); (case jd => first | exact Nat.le_of_ble_eq_true rfl | omega); (case jp => k_extra "pr0"); skip))
  k_with "s4" => ((with_reducible show Stp _ (Sp _ _ _ _ (call (Value.ref 713) [Value.ref _, Value.str _ _]) _)); first | (refine' tri_use (c_code_of HK _ _ _ _ _ _) ?jz ?jd .nil ?jp ?_; (case jz => assumption); (case jd => first | exact Nat.le_of_ble_eq_true rfl | omega); (case jp => k_extra "pr0"); skip))
  k_with "s4" => ((with_reducible show Stp _ (Sp _ _ _ _ (call (Value.ref 343) [Value.ref _, Value.str _ _]) _)); first | (refine' tri_use (c_parents_of HK _ _ _ _ _ _ ?h1 ?h2) ?jz ?jd .nil ?jp ?_; (case jz => assumption); (case jd => first | exact Nat.le_of_ble_eq_true rfl | omega); (case jp => k_extra "pr0"); (case h1 => with_reducible assumption); (case h2 => with_reducible assumption); intro D9 ys9 hS9))
  k_with "s4" => ((with_reducible show Stp _ (Sp _ _ _ _ (call (Value.ref 350) [Value.ref _, Value.str _ _]) _)); first | (refine' tri_use (c_line_of_package HK _ _ _ _ _ _ _ _ ?h1 ?h2 ?h3 ?h4) ?jz ?jd .nil ?jp ?_; (case jz => assumption); (case jd => first | exact Nat.le_of_ble_eq_true rfl | omega); (case jp => k_extra "pr0"); (case h4 => with_reducible assumption); (case h1 => with_reducible assumption); (case h2 => with_reducible assumption); (case h3 => k_extra "dn"); intro D9 ys9 hS9))
  k_with "s4" => ((with_reducible show Stp _ (Sp _ _ _ _ (call (Value.ref 357) [Value.ref _, Value.str _ _]) _)); first | (refine' tri_use (c_wholeL HK _ _ _ _ _ _ _ ?h1 ?h2 ?h3) ?jz ?jd .nil ?jp ?_; (case jz => assumption); (case jd => first | exact Nat.le_of_ble_eq_true rfl | omega); (case jp => k_extra "pr0"); (case h1 => with_reducible assumption); (case h2 => with_reducible assumption); (case h3 => with_reducible assumption); intro D9 ys9 hS9))
  k_with "s4" => ((with_reducible show Stp _ (Sp _ _ _ _ (call (Value.ref 406) [Value.ref _, _, Value.str _ _]) _)); first | (refine' tri_use (c_is_derived HK _ _ _ _ _ _ _ _ _ _ ?h1) ?jz ?jd .nil ?jp ?_; (case jz => assumption); (case jd => first | exact Nat.le_of_ble_eq_true rfl | omega); (case jp => k_extra "pr0"); (case h1 => with_reducible assumption); skip))
  k_with "s4" => ((with_reducible show Stp _ (Sp _ _ _ _ (call (Value.ref 413) [_, _, _]) _)); first | (refine' tri_use (c_universal_isa HK _ _ _ _ _ _ _ _ _ _ _ _ _ _ _ _ _ ?h1 ?h2) ?jz ?jd .nil ?jp ?_; (case jz => assumption); (case jd => first | exact Nat.le_of_ble_eq_true rfl | omega); (case jp => k_extra "pr0"); (case h1 => with_reducible assumption); (case h2 => with_reducible assumption); intro v9 hv9))
  k_with "s4" => ((with_reducible show Stp _ (Sp _ _ _ _ (call (Value.ref 504) [_, _, _]) _)); first | (refine' tri_use (c_isa_func HK _ _ _ _ _ _ _ _ _ _ _ _ _ _ _ _ _ ?h1 ?h2) ?jz ?jd .nil ?jp ?_; (case jz => assumption); (case jd => first | exact Nat.le_of_ble_eq_true rfl | omega); (case jp => k_extra "pr0"); (case h1 => with_reducible assumption); (case h2 => with_reducible assumption); intro v9 hv9))
  k_with "s4" => ((with_reducible show Stp _ (Sp _ _ _ _ (call (Value.ref 476) [_, Value.ref _, _]) _)); first | (refine' tri_use (c_ref_func HK _ _ _ _ _ _ _ _ _) ?jz ?jd .nil ?jp ?_; (case jz => assumption); (case jd => first | exact Nat.le_of_ble_eq_true rfl | omega); (case jp => k_extra "pr0"); intro u9) | (refine' tri_use (c_ref_funcP HK _ _ _ _ ?h1) ?jz ?jd .nil ?jp ?_; (case jz => assumption); (case jd => first | exact Nat.le_of_ble_eq_true rfl | omega); (case h1 => k_extra "pl"); (case jp => k_extra "pr0"); intro u9))
  k_with "s4" => ((with_reducible show Stp _ (Sp _ _ _ _ (call (Value.ref 483) [_, Value.ref _, _]) _)); first | (refine' tri_use (c_blessed_func HK _ _ _ _ _ _ _ _ _) ?jz ?jd .nil ?jp ?_; (case jz => assumption); (case jd => first | exact Nat.le_of_ble_eq_true rfl | omega); (case jp => k_extra "pr0"); intro v9 hv9) | (refine' tri_use (c_blessed_funcP HK _ _ _ _ ?h1) ?jz ?jd .nil ?jp ?_; (case jz => assumption); (case jd => first | exact Nat.le_of_ble_eq_true rfl | omega); (case h1 => k_extra "pl"); (case jp => k_extra "pr0"); skip))
  k_with "s4" => ((with_reducible show Stp _ (Sp _ _ _ _ (call (Value.ref 490) [_, Value.ref _, _]) _)); first | (refine' tri_use (c_reftype_func HK _ _ _ _ _ _ _ _ _) ?jz ?jd .nil ?jp ?_; (case jz => assumption); (case jd => first | exact Nat.le_of_ble_eq_true rfl | omega); (case jp => k_extra "pr0"); intro u9) | (refine' tri_use (c_reftype_funcP HK _ _ _ _ ?h1) ?jz ?jd .nil ?jp ?_; (case jz => assumption); (case jd => first | exact Nat.le_of_ble_eq_true rfl | omega); (case h1 => k_extra "pl"); (case jp => k_extra "pr0"); skip))
  k_with "s4" => ((with_reducible show Stp _ (Sp _ _ _ _ (call (Value.ref 497) [_, Value.ref _, _]) _)); first | (refine' tri_use (c_refaddr_func HK _ _ _ _ _ _ _ _ _) ?jz ?jd .nil ?jp ?_; (case jz => assumption); (case jd => first | exact Nat.le_of_ble_eq_true rfl | omega); (case jp => k_extra "pr0"); intro u9) | (refine' tri_use (c_refaddr_funcP HK _ _ _ _ ?h1) ?jz ?jd .nil ?jp ?_; (case jz => assumption); (case jd => first | exact Nat.le_of_ble_eq_true rfl | omega); (case h1 => k_extra "pl"); (case jp => k_extra "pr0"); skip))
  k_with "s4" => ((with_reducible show Stp _ (Sp _ _ _ _ (call (Value.ref 768) [Value.ref _, Value.str _ _]) _)); first | (refine' tri_use ((show C_above _ _ _ by assumption) _ _ _ _ ?h1 ?h2 ?h3) ?jz ?jd .nil ?jp ?_; (case jz => assumption); (case jd => first | exact Nat.le_of_ble_eq_true rfl | omega); (case jp => k_extra "pr0"); (case h1 => with_reducible assumption); (case h2 => with_reducible assumption); (case h3 => with_reducible assumption); intro D9 ys9 hS9))
  k_with "s4" => ((with_reducible show Stp _ (Sp _ _ _ _ (call (Value.ref 782) [_, _, Value.str _ _]) _)); first | (refine' tri_use (c_told HK _ _ _ _ _ _ _ _ _ _ _ _ _ _ _ ?h1 ?h2) ?jz ?jd .nil ?jp ?_; (case jz => assumption); (case jd => first | exact Nat.le_of_ble_eq_true rfl | omega); (case h1 => with_reducible assumption); (case jp => k_extra "pr0"); (case h2 => with_reducible assumption); intro l9 vs9 hA9))
  k_with "s4" => ((with_reducible show Stp _ (Sp _ _ _ _ (call (Value.ref 364) [Value.ref _, Value.ref _, Value.str _ _]) _)); first | (refine' tri_use (c_search_line HK _ _ _ _ _ _ _ _ ?h1 ?h2) ?jz ?jd .nil ?jp ?_; (case jz => assumption); (case jd => first | exact Nat.le_of_ble_eq_true rfl | omega); (case jp => k_extra "pr0"); (case h1 => with_reducible assumption); (case h2 => assumption); skip))
  k_with "s4" => ((with_reducible show Stp _ (Sp _ _ _ _ (call (Value.ref 385) [Value.ref _, Value.ref _, Value.ref _, Value.str _ _]) _)); first | (refine' tri_useR (c_find HK _ _ _ _ _ _ _ _ _ _ _ _ _ _ ?h1 ?h2 ?h3 ?h4) ?jz ?jd ?jc ?jp ?_; (case jz => assumption); (case jd => first | exact Nat.le_of_ble_eq_true rfl | omega); (case jc => k_extra "cut"); (case jp => k_extra "pr0"); (case h4 => assumption); (case h1 => first | with_reducible assumption | assumption); (case h2 => (simp only [List.length_append, List.length_cons, List.length_nil]; omega)); (case h3 => with_reducible assumption); intro v9 f9 tb9 xs9 R9 hn9 hv9; refine useR_mk (Cut.cons .head (Cut.cons .head .nil)) ?_))
  k_with "s4" => ((with_reducible show Stp _ (Sp _ _ _ _ (call (Value.ref 399) [Value.ref _, Value.ref _, Value.str _ _, Value.str _ _]) _)); first | (refine' tri_useR (c_find_method HK _ _ _ _ _ _ _ _ _ _ _ _ _ _ ?h1 ?h2 ?h3 ?h4) ?jz ?jd ?jc ?jp ?_; (case jz => assumption); (case jd => first | exact Nat.le_of_ble_eq_true rfl | omega); (case jc => k_extra "cut"); (case jp => k_extra "pr0"); (case h1 => with_reducible assumption); (case h2 => with_reducible assumption); (case h3 => with_reducible assumption); (case h4 => with_reducible assumption); intro f9 tb9 xs9 R9 hn9; refine useR_mk (Cut.cons .head (Cut.cons .head .nil)) ?_))
  k_with "s4" => ((with_reducible show Stp _ (Sp _ _ _ _ (call (Value.ref 462) [Value.ref _, Value.ref _, Value.ref _]) _)); first | (refine' tri_useR (c_desF HK ?h0 _ _ _ _ _ _ _ _ _ _ _ _ _ _ ?h1 ?h2 ?h3) ?jz ?jd ?jc ?jp ?_; (case jz => assumption); (case jd => first | exact Nat.le_of_ble_eq_true rfl | omega); (case h0 => with_reducible assumption); (case jc => k_extra "cut"); (case jp => k_extra "pr0"); (case h1 => with_reducible assumption); (case h2 => with_reducible assumption); (case h3 => first | with_reducible assumption | omega); intro f9 tb9 xs9 R9 hn9; refine useR_mk (Cut.cons .head (Cut.cons .head .nil)) ?_))
  k_with "s4" => ((with_reducible show Stp _ (Sp _ _ _ _ (call (Value.ref 63) [Value.ref _, Value.int _ _]) _)); first | (refine' tri_use (c_init63 HK _ _ _ _ _ ?h1) ?jz ?jd ?jc ?jp ?_; (case jz => assumption); (case jd => first | exact Nat.le_of_ble_eq_true rfl | omega); (case jc => k_extra "cut"); (case jp => k_extra "pr0"); (case h1 => exact rfl); intro wl9 u9))
  k_with "s4" => ((with_reducible show Stp _ (Sp _ _ _ _ (call (Value.ref 84) [Value.ref _, Value.int _ _, _]) _)); first | (refine' tri_use (c_init84 HK _ _ _ _ _) ?jz ?jd ?jc ?jp ?_; (case jz => assumption); (case jd => first | exact Nat.le_of_ble_eq_true rfl | omega); (case jc => k_extra "cut"); (case jp => k_extra "pr0"); skip))
  k_with "s4" => ((with_reducible show Stp _ (Sp _ _ _ _ (call (Value.ref 183) [Value.ref _]) _)); first | (refine' tri_use (c_Ref HK _) ?jz ?jd .nil ?jp ?_; (case jz => assumption); (case jd => first | exact Nat.le_of_ble_eq_true rfl | omega); (case jp => k_extra "pr0"); intro r9 dr9))
  k_with "s4" => ((with_reducible show Stp _ (Sp _ _ _ _ (call (Value.ref 87) [Value.int _ _, _]) _)); first | (refine' tri_use (c_Scalar HK _ _ _) ?jz ?jd .nil ?jp ?_; (case jz => assumption); (case jd => first | exact Nat.le_of_ble_eq_true rfl | omega); (case jp => k_extra "pr0"); intro x9 dx9 wl9 u9))
  k_with "s4" => ((with_reducible show Stp _ (Sp _ _ _ _ (call (Value.ref 106) [Value.int _ _]) _)); first | (refine' tri_use (c_Array HK _ _) ?jz ?jd .nil ?jp ?_; (case jz => assumption); (case jd => first | exact Nat.le_of_ble_eq_true rfl | omega); (case jp => k_extra "pr0"); intro x9 dx9 wl9 u9 l9))
  k_with "s4" => ((with_reducible show Stp _ (Sp _ _ _ _ (call (Value.ref 125) [Value.int _ _]) _)); first | (refine' tri_use (c_Hash HK _ _) ?jz ?jd .nil ?jp ?_; (case jz => assumption); (case jd => first | exact Nat.le_of_ble_eq_true rfl | omega); (case jp => k_extra "pr0"); intro x9 dx9 wl9 u9 l9 u8))
  k_with "s4" => ((with_reducible show Stp _ (Sp _ _ _ _ (call (Value.ref 144) [Value.int _ _, _, _]) _)); first | (refine' tri_use (c_Code HK _ _ _ _) ?jz ?jd .nil ?jp ?_; (case jz => assumption); (case jd => first | exact Nat.le_of_ble_eq_true rfl | omega); (case jp => k_extra "pr0"); intro x9 dx9 wl9 u9 u8))
  k_with "s4" => ((with_reducible show Stp _ (Sp _ _ _ _ (call (Value.ref 163) [Value.int _ _, _]) _)); first | (refine' tri_use (c_Glob HK _ _ _) ?jz ?jd .nil ?jp ?_; (case jz => assumption); (case jd => first | exact Nat.le_of_ble_eq_true rfl | omega); (case jp => k_extra "pr0"); intro x9 dx9 wl9 u9))
  k_with "s4" => ((with_reducible show Stp _ (Sp _ _ _ _ (call (Value.ref 246) [_]) _)); first | (refine' tri_use (c_Heap HK _) ?jz ?jd .nil ?jp ?_; (case jz => assumption); (case jd => first | exact Nat.le_of_ble_eq_true rfl | omega); (case jp => k_extra "pr0"); intro x9 dx9 l9 u9))
  k_with "s4" => ((with_reducible show Stp _ (Sp _ _ _ _ (call (Value.ref 388) []) _)); first | (refine' tri_use (c_MethodCache HK) ?jz ?jd .nil ?jp ?_; (case jz => assumption); (case jd => first | exact Nat.le_of_ble_eq_true rfl | omega); (case jp => k_extra "pr0"); intro x9 dx9 l9 u9))
  k_with "s4" => ((with_reducible show Stp _ (Sp _ _ _ _ (call (Value.ref 596) [_, _]) _)); first | (refine' tri_use (c_Counter HK _ _) ?jz ?jd .nil ?jp ?_; (case jz => assumption); (case jd => first | exact Nat.le_of_ble_eq_true rfl | omega); (case jp => k_extra "pr0"); intro x9 dx9 l9))
  k_with "s4" => ((with_reducible show Stp _ (Sp _ _ _ _ (call (Value.ref 617) [_, _, _, _, _, _]) _)); first | (refine' tri_use (c_Frame HK _ _ _ _ _ _) ?jz ?jd .nil ?jp ?_; (case jz => assumption); (case jd => first | exact Nat.le_of_ble_eq_true rfl | omega); (case jp => k_extra "pr0"); intro x9 dx9))
  k_with "s4" => ((with_reducible show Stp _ (Sp _ _ _ _ (call (Value.ref 723) [_]) _)); first | (refine' tri_use (c_Stash HK _) ?jz ?jd .nil ?jp ?_; (case jz => assumption); (case jd => first | exact Nat.le_of_ble_eq_true rfl | omega); (case jp => k_extra "pr0"); intro x9 dx9 l9 u9))
  k_with "s4" => ((with_reducible show Stp _ (Sp _ _ _ _ (call (Value.ref 208) [Value.ref _]) _)); first | (refine' tri_use (c_next HK _ _ _ _ _ ?h1 ?h2) ?jz ?jd ?jc ?jp ?_; (case jz => assumption); (case jd => first | exact Nat.le_of_ble_eq_true rfl | omega); (case jc => k_extra "cut"); (case jp => k_extra "pr0"); (case h1 => k_extra "fv"); (case h2 => k_extra "fv"); intro u9))
  k_with "s4" => ((with_reducible show Stp _ (Sp _ _ _ _ (call (Value.ref 525) [_, Value.ref _]) _)); first | (refine' tri_use (c_hold HK _ _ _ _ _ _ _ ?h1 ?h2) ?jz ?jd ?jc ?jp ?_; (case jz => assumption); (case jd => first | exact Nat.le_of_ble_eq_true rfl | omega); (case jp => exact fun _ k9 _ => OAt.keeps (by with_reducible assumption) k9); (case jc => k_extra "cut"); (case h1 => first | exact rfl | with_reducible assumption); (case h2 => k_extra "fv"); intro u9))
  k_with "s4" => ((with_reducible show Stp _ (Sp _ _ _ _ (call (Value.ref 532) [Value.ref _, Value.ref _]) _)); first | (refine' tri_use (c_let_go HK _ _ _ _ _ _ _ _ _ _ _ _ ?h1 ?h2 ?h5) ?jz ?jd ?jc ?jp ?_; (case jz => assumption); (case jd => first | exact Nat.le_of_ble_eq_true rfl | omega); (case jp => exact fun _ k9 _ => ⟨CtrAt.keeps (by with_reducible assumption) k9, OAt.keeps (by with_reducible assumption) k9⟩); (case jc => k_extra "cut"); (case h1 => first | exact rfl | with_reducible assumption); (case h2 => k_extra "fv"); (case h5 => first | assumption | omega); intro u9 zs9 hz9))
  k_with "s4" => ((with_reducible show Stp _ (Sp _ _ _ _ (call (Value.ref 546) [_, _]) _)); first | (refine' tri_use (c_takeP HK _ _ ?h1) ?jz ?jd .nil ?jp ?_; (case jz => assumption); (case jd => first | exact Nat.le_of_ble_eq_true rfl | omega); (case h1 => k_extra "pl"); (case jp => k_extra "pr0"); skip) | (refine' tri_use (c_takeR HK _ _ _ _ _ _ _ _ ?h1 ?h2) ?jz ?jd ?jc ?jp ?_; (case jz => assumption); (case jd => first | exact Nat.le_of_ble_eq_true rfl | omega); (case jp => exact fun _ k9 _ => ⟨CtrM.keeps (by with_reducible assumption) k9, RefN.keeps (by with_reducible assumption) k9, OAt.keeps (by with_reducible assumption) k9⟩); (case jc => k_extra "cut"); (case h1 => with_reducible assumption); (case h2 => k_extra "fv"); intro u9))
  k_with "s4" => ((with_reducible show Stp _ (Sp _ _ _ _ (call (Value.ref 215) [Value.ref _, _]) _)); first | (refine' tri_use (c_new_scalar HK _ _ _ _ _ _ ?h1 ?h2) ?jz ?jd ?jc ?jp ?_; (case jz => assumption); (case jd => first | exact Nat.le_of_ble_eq_true rfl | omega); (case jp => exact fun _ k9 _ => OAt.keeps (by with_reducible assumption) k9); (case jc => k_extra "cut"); (case h1 => k_extra "fv"); (case h2 => k_extra "fv"); intro u9 x9 dx9 wl9 u8))
  k_with "s4" => ((with_reducible show Stp _ (Sp _ _ _ _ (call (Value.ref 243) [Value.ref _, _]) _)); first | (refine' tri_use (c_new_glob HK _ _ _ _ _ _ ?h1 ?h2) ?jz ?jd ?jc ?jp ?_; (case jz => assumption); (case jd => first | exact Nat.le_of_ble_eq_true rfl | omega); (case jp => exact fun _ k9 _ => OAt.keeps (by with_reducible assumption) k9); (case jc => k_extra "cut"); (case h1 => k_extra "fv"); (case h2 => k_extra "fv"); intro u9 x9 dx9 wl9 u8))
  k_with "s4" => ((with_reducible show Stp _ (Sp _ _ _ _ (call (Value.ref 222) [Value.ref _]) _)); first | (refine' tri_use (c_new_array HK _ _ _ _ _ ?h1 ?h2) ?jz ?jd ?jc ?jp ?_; (case jz => assumption); (case jd => first | exact Nat.le_of_ble_eq_true rfl | omega); (case jp => exact fun _ k9 _ => OAt.keeps (by with_reducible assumption) k9); (case jc => k_extra "cut"); (case h1 => k_extra "fv"); (case h2 => k_extra "fv"); intro u9 x9 dx9 wl9 u8 l9))
  k_with "s4" => ((with_reducible show Stp _ (Sp _ _ _ _ (call (Value.ref 565) [Value.ref _, _]) _)); first | (refine' tri_use (c_fresh HK _ _ _ _ _ _ _ ?h1 ?h2 ?h3 ?h6) ?jz ?jd ?jc ?jp ?_; (case jz => assumption); (case jd => first | exact Nat.le_of_ble_eq_true rfl | omega); (case jp => exact fun _ k9 _ => CtrH.keeps (by with_reducible assumption) k9); (case jc => k_extra "cut"); (case h1 => k_extra "fv"); (case h2 => k_extra "fv"); (case h3 => k_extra "fv"); (case h6 => k_extra "pl"); intro u9 x9 dx9 wl9 u8 u7))
  k_with "s4" => ((with_reducible show Stp _ (Sp _ _ _ _ (call (Value.ref 183) [Value.ref _, Value.bool true]) _)); first | (refine' tri_use (c_RefW HK _) ?jz ?jd .nil ?jp ?_; (case jz => assumption); (case jd => first | exact Nat.le_of_ble_eq_true rfl | omega); (case jp => k_extra "pr0"); intro r9 dr9))
  k_with "s4" => ((with_reducible show Stp _ (Sp _ _ _ _ (call (Value.ref 660) []) _)); first | (refine' tri_use (c_Limits HK) ?jz ?jd .nil ?jp ?_; (case jz => assumption); (case jd => first | exact Nat.le_of_ble_eq_true rfl | omega); (case jp => k_extra "pr0"); intro x9 dx9))
  k_with "s4" => ((with_reducible show Stp _ (Sp _ _ _ _ (call (Value.ref 638) [_, _, _, _]) _)); first | (refine' tri_use (c_Run HK _ _ _ _) ?jz ?jd .nil ?jp ?_; (case jz => assumption); (case jd => first | exact Nat.le_of_ble_eq_true rfl | omega); (case jp => k_extra "pr0"); intro x9 dx9 f9 hr9))
  k_with "s4" => ((with_reducible show Stp _ (Sp _ _ _ _ (call (Value.ref 685) [Value.ref _, Value.str _ _]) _)); first | (refine' tri_use (c_glob_ofN HK _ _ _ _ _ _ _ _ _ _ _ _ ?h1 ?h2 ?h3 ?h4 ?h5) ?jz ?jd ?jc ?jp ?_; (case jz => assumption); (case jd => first | exact Nat.le_of_ble_eq_true rfl | omega); (case jc => k_extra "cut"); (case jp => k_extra "pr0"); (case h1 => with_reducible assumption); (case h2 => first | assumption | omega); (case h3 => k_extra "fv"); (case h4 => k_extra "fv"); (case h5 => k_extra "fv"); intro u9 x9 dx9 wl9 u8) | (refine' tri_use (c_glob_ofO HK _ _ _ _ _ _ _ _ _ ?h1 ?h2) ?jz ?jd .nil ?jp ?_; (case jz => assumption); (case jd => first | exact Nat.le_of_ble_eq_true rfl | omega); (case h1 => with_reducible assumption); (case jp => k_extra "pr0"); (case h2 => with_reducible assumption); skip))
  k_with "s4" => ((with_reducible show Stp _ (Sp _ _ _ _ (call (Value.ref 229) [Value.ref _]) _)); first | (refine' tri_use (c_new_hash HK _ _ _ _ _ ?h1 ?h2) ?jz ?jd ?jc ?jp ?_; (case jz => assumption); (case jd => first | exact Nat.le_of_ble_eq_true rfl | omega); (case jp => exact fun _ k9 _ => OAt.keeps (by with_reducible assumption) k9); (case jc => k_extra "cut"); (case h1 => k_extra "fv"); (case h2 => k_extra "fv"); intro u9 x9 dx9 wl9 u8 l9 u7))
  k_with "s4" => ((with_reducible show Stp _ (Sp _ _ _ _ (call (Value.ref 236) [Value.ref _, _, _]) _)); first | (refine' tri_use (c_new_code HK _ _ _ _ _ _ _ ?h1 ?h2) ?jz ?jd ?jc ?jp ?_; (case jz => assumption); (case jd => first | exact Nat.le_of_ble_eq_true rfl | omega); (case jp => exact fun _ k9 _ => OAt.keeps (by with_reducible assumption) k9); (case jc => k_extra "cut"); (case h1 => k_extra "fv"); (case h2 => k_extra "fv"); intro u9 x9 dx9 wl9 u8 u7))
  k_with "s4" => ((with_reducible show Stp _ (Sp _ _ _ _ (call (Value.ref 734) [Value.ref _, Value.ref _, Value.none]) _)); first | (refine' tri_use (c_swapN HK _ _ _ _ _ _ _ ?h1 ?h2) ?jz ?jd ?jc ?jp ?_; (case jz => assumption); (case jd => first | exact Nat.le_of_ble_eq_true rfl | omega); (case jp => exact fun _ k9 _ => ⟨CtrM.keeps (by with_reducible assumption) k9, OAt.keeps (by with_reducible assumption) k9⟩); (case jc => k_extra "cut"); (case h1 => exact rfl); (case h2 => k_extra "fv"); intro u9))
  k_with "s4" => ((with_reducible show Stp _ (Sp _ _ _ _ (call (Value.ref 734) [Value.ref _, Value.ref _, Value.ref _]) _)); first | (refine' tri_use (c_swapO HK _ _ _ _ _ _ _ _ _ _ _ _ _ _ _ _ _ _ ?h1 ?h2 ?h3 ?h6 ?h9) ?jz ?jd ?jc ?jp ?_; (case jz => assumption); (case jd => first | exact Nat.le_of_ble_eq_true rfl | omega); (case jp => exact fun _ k9 _ => ⟨CtrAt.keeps (by with_reducible assumption) k9, OAt.keeps (by with_reducible assumption) k9, OAt.keeps (by with_reducible assumption) k9⟩); (case jc => k_extra "cut"); (case h1 => exact rfl); (case h2 => exact rfl); (case h3 => k_extra "fv"); (case h6 => k_extra "fv"); (case h9 => first | assumption | omega); intro u9 u8 zs9 hz9))
  k_with "s4" => ((with_reducible show Stp _ (Sp _ _ _ _ (call (Value.ref 551) [_, _, _]) _)); first | (refine' tri_use (c_put_offP HK _ _ _ ?h1) ?jz ?jd .nil ?jp ?_; (case jz => assumption); (case jd => first | exact Nat.le_of_ble_eq_true rfl | omega); (case h1 => k_extra "pl"); (case jp => k_extra "pr0"); skip) | (refine' tri_use (c_put_offR HK _ _ _ _ _ _ _ _ _ _ _ _ _ _ ?h1 ?h2 ?h5) ?jz ?jd ?jc ?jp ?_; (case jz => assumption); (case jd => first | exact Nat.le_of_ble_eq_true rfl | omega); (case jp => exact fun _ k9 _ => ⟨CtrAt.keeps (by with_reducible assumption) k9, RefN.keeps (by with_reducible assumption) k9, OAt.keeps (by with_reducible assumption) k9⟩); (case jc => k_extra "cut"); (case h1 => with_reducible assumption); (case h2 => k_extra "fv"); (case h5 => first | assumption | omega); intro u9 zs9 hz9))
  k_with "s4" => ((with_reducible show Stp _ (Sp _ _ _ _ (call (Value.ref 427) [Value.ref _, _]) _)); first | (refine' tri_use (c_bless_value HK _ _ _ _ _ _ _ _ ?h1 ?h2 ?h3 ?h4) ?jz ?jd ?jc ?jp ?_; (case jz => assumption); (case jd => first | exact Nat.le_of_ble_eq_true rfl | omega); (case jp => exact fun _ k9 _ => ⟨RefAt.keeps (by with_reducible assumption) k9, OAt.keeps (by with_reducible assumption) k9⟩); (case jc => k_extra "cut"); (case h1 => k_extra "pl"); (case h2 => with_reducible assumption); (case h3 => with_reducible assumption); (case h4 => k_extra "fv"); intro u9))
  k_with "s4" => ((with_reducible show Stp _ (Sp _ _ _ _ (call (Value.ref 469) [_, _, _]) _)); first | (refine' tri_use (c_bless_func HK _ _ _ _ _ _ _ _ _ _ _ _ _ _ _ _ _ _ ?h1 ?h2 ?h3 ?h4 ?h5 ?h6) ?jz ?jd ?jc ?jp ?_; (case jz => assumption); (case jd => first | exact Nat.le_of_ble_eq_true rfl | omega); (case jp => exact fun _ k9 _ => ⟨RunD.keeps (by with_reducible assumption) k9, FrmD.keeps (by with_reducible assumption) k9, FL.keeps (by with_reducible assumption) k9, RefAt.keeps (by with_reducible assumption) k9, OAt.keeps (by with_reducible assumption) k9⟩); (case jc => k_extra "cut"); (case h6 => with_reducible assumption); (case h1 => k_extra "pl"); (case h2 => with_reducible assumption); (case h3 => with_reducible assumption); (case h4 => k_extra "fv"); (case h5 => k_extra "pl"); intro u9))
  k_with "s4" => ((with_reducible show Stp _ (Sp _ _ _ _ (call (Value.ref 313) [Value.ref _, _]) _)); first | (refine' tri_use (c_init313 HK _ _ _) ?jz ?jd ?jc ?jp ?_; (case jz => assumption); (case jd => first | exact Nat.le_of_ble_eq_true rfl | omega); (case jc => k_extra "cut"); (case jp => k_extra "pr0"); intro d9 t9))
  k_with "s4" => ((with_reducible show Stp _ (Sp _ _ _ _ (call (Value.ref 336) [Value.str _ _]) _)); first | (refine' tri_use (c_Die HK _ _) ?jz ?jd .nil ?jp ?_; (case jz => assumption); (case jd => first | exact Nat.le_of_ble_eq_true rfl | omega); (case jp => k_extra "pr0"); intro e9 d9 t9 f9 hf9))
  k_with "s4" => ((with_reducible show Stp _ (Sp _ _ _ _ (call (Value.ref 763) [_]) _)); first | (refine' tri_use (c_law_hex HK _ _ ?h1) ?jz ?jd .nil ?jp ?_; (case jz => assumption); (case jd => first | exact Nat.le_of_ble_eq_true rfl | omega); (case jp => k_extra "pr0"); (case h1 => with_reducible assumption); intro u9))
  k_with "s4" => ((with_reducible show Stp _ (Sp _ _ _ _ (call (Value.ref 749) []) _)); first | (refine' tri_use (c_law_sorts HK) ?jz ?jd .nil ?jp ?_; (case jz => assumption); (case jd => first | exact Nat.le_of_ble_eq_true rfl | omega); (case jp => k_extra "pr0"); intro D9 ys9 hS9))
  k_with "s4" => ((with_reducible show Stp _ (Sp _ _ _ _ (call (Value.ref 292) [_, _]) _)); first | (refine' tri_use (c_to_number HK _ _ _ _ _ _ _) ?jz ?jd .nil ?jp ?_; (case jz => assumption); (case jd => first | exact Nat.le_of_ble_eq_true rfl | omega); (case jp => k_extra "pr0"); intro u9))
  k_with "s4" => ((with_reducible show Stp _ (Sp _ _ _ _ (call (Value.ref 420) [Value.ref _, Value.ref _, _]) _)); first | (refine' tri_useR (c_canF HK ?h0 _ _ _ _ _ _ _ _ _ _ _ _ _ _ _ _ _ _ _ _ _ _ ?h1 ?h2 ?h3 ?h4) ?jz ?jd ?jc ?jp ?_; (case jz => assumption); (case jd => first | exact Nat.le_of_ble_eq_true rfl | omega); (case h0 => with_reducible assumption); (case jc => k_extra "cut"); (case jp => k_extra "pr0"); (case h1 => with_reducible assumption); (case h2 => with_reducible assumption); (case h3 => with_reducible assumption); (case h4 => omega); intro f8 tb8 xs8 R8 hn8))
  k_with "s4" => ((with_reducible show Stp _ (Sp _ _ _ _ (call (Value.ref 756) [Value.ref _, Value.ref _, Value.int _ _]) _)); first | (refine' tri_use (c_take HK _ _ _ _ _ _ _ _ ?h1 ?h2 ?h3 ?h4 ?h5 ?h6) ?jz ?jd ?jc ?jp ?_; (case jz => assumption); (case jd => first | exact Nat.le_of_ble_eq_true rfl | omega); (case jc => k_extra "cut"); (case jp => k_extra "pr0"); (case h5 => assumption); (case h6 => with_reducible assumption); (case h1 => omega); (case h2 => omega); (case h3 => omega); (case h4 => omega); intro i9 u9 t9 hi9 hj9))
  k_with "s4" => ((with_reducible show Stp _ (Sp _ _ _ _ (call (Value.ref 699) [Value.ref _, Value.str _ _]) _)); first | (refine' tri_use (c_array_ofN HK _ _ _ _ _ _ _ _ _ _ _ ?h1 ?h2 ?h3 ?h4) ?jz ?jd ?jc ?jp ?_; (case jz => assumption); (case jd => first | exact Nat.le_of_ble_eq_true rfl | omega); (case h1 => with_reducible assumption); (case h3 => with_reducible assumption); (case h4 => with_reducible assumption); (case jc => k_extra "cut"); (case jp => k_extra "pr0"); (case h2 => omega); intro x9 dx9 wl9 u9 u8 ax9 da9 wa9 ub9 uc9 ud9 l9) | (refine' tri_use (c_array_ofO HK _ _ _ _ _ _ _ _ _ _ _ _ ?h1 ?h2 ?h3) ?jz ?jd .nil ?jp ?_; (case jz => assumption); (case jd => first | exact Nat.le_of_ble_eq_true rfl | omega); (case h2 => with_reducible assumption); (case h1 => with_reducible assumption); (case h3 => with_reducible assumption); (case jp => k_extra "pr0"); skip))
  k_with "s4" => ((with_reducible show Stp _ (Sp _ _ _ _ (call (Value.ref 741) [Value.ref _, Value.ref _, Value.str _ _, Value.ref _]) _)); first | (refine' tri_use (c_set_codeNF HK ?f1 ?f2 _ _ _ _ _ _ _ _ _ _ _ _ _ _ _ ?h1 ?h2 ?h3 ?h4 ?h5 ?h6) ?jz ?jd ?jc ?jp ?_; (case jz => assumption); (case jd => first | exact Nat.le_of_ble_eq_true rfl | omega); (case f1 => with_reducible assumption); (case f2 => with_reducible assumption); (case h1 => with_reducible assumption); (case jc => k_extra "cut"); (case jp => k_extra "pr0"); (case h2 => omega); (case h3 => first | with_reducible assumption | exact HpM.up (by with_reducible assumption)); (case h4 => with_reducible assumption); (case h5 => with_reducible assumption); (case h6 => k_extra "fv"); intro x9 dx9 wl9 u9 u8 u7 u6) | (refine' tri_use (c_set_codeOF HK ?f2 ?f1 _ _ _ _ _ _ _ _ _ _ _ _ _ _ _ _ _ _ _ _ _ _ _ _ _ ?h1 ?h2 ?h3 ?h4 ?h5 ?h6 ?h7) ?jz ?jd ?jc ?jp ?_; (case jz => assumption); (case jd => first | exact Nat.le_of_ble_eq_true rfl | omega); (case f2 => with_reducible assumption); (case f1 => with_reducible assumption); (case h1 => with_reducible assumption); (case h2 => with_reducible assumption); (case h3 => with_reducible assumption); (case h6 => with_reducible assumption); (case jc => k_extra "cut"); (case jp => k_extra "pr0"); (case h4 => with_reducible assumption); (case h5 => k_extra "fv"); (case h7 => omega); intro u9 u8 u7 zs9 hz9))
  trivial
theorem c_thing_word {K : Params → Frag} {V : Program} (HK : KOk K) : C_thing_word K V := by
  rintro x dx C f ⟨word, num, own⟩
  k_extra "IN 257"
  obtain ⟨h1, h2, h3, hS⟩ := hP
  clear h3
  cases hS with
  | array _ e => subst e; k_extra "go"; exact fin_mk (hk _) .nil
  | hash _ e => subst e; k_extra "go"; exact fin_mk (hk _) .nil
  | code _ e => subst e; k_extra "go"; exact fin_mk (hk _) .nil
  | glob _ e => subst e; k_extra "go"; exact fin_mk (hk _) .nil
  | scalar _ v hv hp e => subst e; k_extra "go"; exact fin_mk (hk _) .nil
  | ref _ r y hv hr e => subst e; obtain ⟨dr, fr, r1, r2, r3⟩ := hr; k_extra "go"; exact fin_mk (hk _) .nil
theorem c_value_ofP {K : Params → Frag} {V : Program} (HK : KOk K) : C_value_ofP K V := by
  intro v hv; k_extra "IN 278"; k_extra "go"; exact fin_mk hk .nil
theorem c_value_ofR {K : Params → Frag} {V : Program} (HK : KOk K) : C_value_ofR K V := by
  intro r x; k_extra "IN 278"; obtain ⟨dr, fr, r1, r2, r3⟩ := hP; k_extra "go"; exact fin_mk hk .nil
theorem c_thing_number {K : Params → Frag} {V : Program} (HK : KOk K) : C_thing_number K V := by
  intro r x dx C f t; k_extra "IN 455"; obtain ⟨⟨dr, fr, r1, r2, r3⟩, h1, h2, ⟨⟨u, h3⟩, _⟩, hS⟩ := hP; have hC := hS.cls; k_extra "go"; exact fin_mk (hk _) .nil
theorem c_sort_word {K : Params → Frag} {V : Program} (HK : KOk K) : C_sort_word K V := by
  intro r x dx C f t; k_extra "IN 448"; refine elA hP ?_; (try clear hP); rintro ⟨dr, fr, r1, r2, r3⟩ hT; k_extra "go"; exact fin_mk (hk _) .nil
theorem c_blessed_word {K : Params → Frag} {V : Program} (HK : KOk K) : C_blessed_word K V := by
  intro r x dx C f t; k_extra "IN 441"; obtain ⟨⟨dr, fr, r1, r2, r3⟩, h1, h2, ⟨_, v, h4, h5⟩, hS⟩ := hP; have hC := hS.cls; k_extra "go"; exact fin_mk (hk _ h5) .nil
theorem c_ref_word {K : Params → Frag} {V : Program} (HK : KOk K) : C_ref_word K V := by
  intro r x dx C f zI1; obtain ⟨wd, nu, ow⟩ := zI1; k_extra "IN 434"; refine elA hP ?_; (try clear hP); rintro ⟨dr, fr, r1, r2, r3⟩ hT; obtain ⟨h1, h2, ⟨_, v, h4, h5⟩, hS⟩ := id hT; have hC := hS.cls
  cases h5 with
  | none => k_extra "go"; exact fin_mk (hk _) .nil
  | some p u => k_extra "go"; exact fin_mk (hk _) .nil
noncomputable def truS (b : Bool) (k : Value → Prop) : Prop := match b with
  | true => ∀ u, k (.int 1 u)
  | false => ∀ u, k (.str (Str.ofString "") u)
noncomputable def hexD (n : Int) : Str := match n with
  | 1 => Str.ofString "1" | 2 => Str.ofString "2" | 3 => Str.ofString "3" | 4 => Str.ofString "4" | 5 => Str.ofString "5" | 6 => Str.ofString "6" | _ => Str.ofString "0"
noncomputable def NumOk (n : Int) : Prop := n = 1 ∨ n = 2 ∨ n = 3 ∨ n = 4 ∨ n = 5 ∨ n = 6
noncomputable def TxtOk (x : Str) : Prop := x.length ≤ 40
noncomputable def baseText (t : Th) : Str := t.word ++ Str.ofString "(0x" ++ hexD t.num ++ Str.ofString ")"
noncomputable def refText (t : Th) : Str := match t.own with
  | none => baseText t
  | some o => o ++ Str.ofString "=" ++ baseText t
structure ThOk (t : Th) : Prop where
  num : NumOk t.num
  word : TxtOk t.word
  own : ∀ o, t.own = some o → TxtOk o
theorem hexD_len (n : Int) : (hexD n).length ≤ 1 := by
  unfold hexD; split <;> decide
noncomputable def textP : Value → Option Str
  | .none => some (Str.ofString "")
  | .int 0 _ => some (Str.ofString "0")
  | .str x _ => some x
  | _ => none
noncomputable def C_truth_value (K : Params → Frag) (V : Program) : Prop := ∀ (b : Bool), Tri K V 299 1 [.bool b] [] (fun _ _ => True) (fun _ k => truS b fun v => k v [])
noncomputable def C_hex_of (K : Params → Frag) (V : Program) : Prop := ∀ (n : Int) (u : Tok), NumOk n → Tri K V 264 1 [.int n u] [] (fun _ _ => True) (fun _ k => ∀ u, k (.str (hexD n) u) [])
noncomputable def C_number_text (K : Params → Frag) (V : Program) : Prop := ∀ (u : Tok), Tri K V 49 1 [.int 0 u] [] (fun _ _ => True) (fun _ k => ∀ u, k (.str (Str.ofString "0") u) [])
noncomputable def C_ref_text (K : Params → Frag) (V : Program) : Prop := ∀ (r x dx C : Addr) (f : Str → Option Value) (t : Th), ThOk t → Tri K V 271 2 [.ref r] [] (RefT r x dx C f t) (fun _ k => ∀ u, k (.str (refText t) u) [])
noncomputable def C_to_text (K : Params → Frag) (V : Program) : Prop := ∀ (v : Value) (x : Str), textP v = some x → Tri K V 285 2 [v] [] (fun _ _ => True) (fun _ k => ∀ u, k (.str x u) [])
noncomputable def C_to_textR (K : Params → Frag) (V : Program) : Prop := ∀ (r x dx C : Addr) (f : Str → Option Value) (t : Th), ThOk t → Tri K V 285 3 [.ref r] [] (RefT r x dx C f t) (fun _ k => ∀ u, k (.str (refText t) u) [])
noncomputable def C_to_number (K : Params → Frag) (V : Program) : Prop := ∀ (r x dx C : Addr) (f : Str → Option Value) (t : Th) (l : Value), Tri K V 292 1 [.ref r, l] [] (RefT r x dx C f t) (fun _ k => ∀ u, k (.int t.num u) [])
theorem c_truth_value {K : Params → Frag} {V : Program} (HK : KOk K) : C_truth_value K V := by
  intro b; k_extra "IN 299"; cases b <;> (k_extra "go"; exact fin_mk (hk _) .nil)
theorem c_hex_of {K : Params → Frag} {V : Program} (HK : KOk K) : C_hex_of K V := by
  intro n u hn; k_extra "IN 264"
  rcases hn with rfl | rfl | rfl | rfl | rfl | rfl
  all_goals (k_extra "go"; k_extra "w0"; k_extra "go"; exact fin_mk (hk _) .nil)
theorem c_number_text {K : Params → Frag} {V : Program} (HK : KOk K) : C_number_text K V := by
  intro u; k_extra "IN 49"; k_extra "go"; k_extra "w0"; k_extra "go"; exact fin_mk (hk _) .nil
theorem c_ref_text {K : Params → Frag} {V : Program} (HK : KOk K) : C_ref_text K V := by
  intro r x dx C f zI1 zI2; obtain ⟨wd, nu, ow⟩ := zI1; obtain ⟨k1, k2, k3⟩ := zI2; k_extra "IN 271"; refine elA hP ?_; (try clear hP); rintro ⟨dr, fr, r1, r2, r3⟩ hT; obtain ⟨h1, h2, ⟨⟨_, h3⟩, v, h4, h5⟩, hS⟩ := id hT; have hC := hS.cls
  have k4 := hexD_len nu
  have k5 : wd.length ≤ 40 := k2
  cases h5 with
  | none => k_extra "go"; exact fin_mk (hk _) .nil
  | some p u => have k6 : p.length ≤ 40 := k3 p rfl; k_extra "go"; exact fin_mk (hk _) .nil
theorem c_to_text {K : Params → Frag} {V : Program} (HK : KOk K) : C_to_text K V := by
  intro v x hx
  unfold textP at hx
  split at hx
  · cases hx; k_extra "IN 285"; k_extra "go"; exact fin_mk (hk _) .nil
  · cases hx; k_extra "IN 285"; k_extra "go"; exact fin_mk (hk _) .nil
  · cases hx; k_extra "IN 285"; k_extra "go"; exact fin_mk (hk _) .nil
  · cases hx
theorem c_to_textR {K : Params → Frag} {V : Program} (HK : KOk K) : C_to_textR K V := by
  intro r x dx C f t ht; k_extra "IN 285"; refine elA (id hP) ?_; rintro ⟨dr, fr, r1, r2, r3⟩ hT; k_extra "go"; exact fin_mk (hk _) .nil
theorem c_to_number {K : Params → Frag} {V : Program} (HK : KOk K) : C_to_number K V := by
  intro r x dx C f t l; k_extra "IN 292"; refine elA (id hP) ?_; rintro ⟨dr, fr, r1, r2, r3⟩ hT; obtain ⟨h1, h2, ⟨⟨_, h3⟩, _⟩, hS⟩ := id hT; have hC := hS.cls; k_extra "go"; exact fin_mk (hk _) .nil
noncomputable abbrev arg1 (a : Addr) (v : Value) (w : World) (g : Heap) : Prop := FL w g a [v]
noncomputable def C_ref_funcP (K : Params → Frag) (V : Program) : Prop := ∀ (run want v : Value) (a : Addr), Plain v → Tri K V 476 3 [run, .ref a, want] [] (arg1 a v) (fun _ k => ∀ u, k (.str (Str.ofString "") u) [])
noncomputable def C_blessed_funcP (K : Params → Frag) (V : Program) : Prop := ∀ (run want v : Value) (a : Addr), Plain v → Tri K V 483 3 [run, .ref a, want] [] (arg1 a v) (fun _ k => k .none [])
noncomputable def C_reftype_funcP (K : Params → Frag) (V : Program) : Prop := ∀ (run want v : Value) (a : Addr), Plain v → Tri K V 490 3 [run, .ref a, want] [] (arg1 a v) (fun _ k => k .none [])
noncomputable def C_refaddr_funcP (K : Params → Frag) (V : Program) : Prop := ∀ (run want v : Value) (a : Addr), Plain v → Tri K V 497 3 [run, .ref a, want] [] (arg1 a v) (fun _ k => k .none [])
noncomputable abbrev argR (a r x dx C : Addr) (f : Str → Option Value) (t : Th) (w : World) (g : Heap) : Prop := FL w g a [.ref r] ∧ RefAt w g r x ∧ ThAt w g x dx C f t
noncomputable def C_ref_func (K : Params → Frag) (V : Program) : Prop := ∀ (run want : Value) (a r x dx C : Addr) (f : Str → Option Value) (t : Th), Tri K V 476 3 [run, .ref a, want] [] (argR a r x dx C f t) (fun _ k => ∀ u, k (.str (refW t) u) [])
noncomputable def C_blessed_func (K : Params → Frag) (V : Program) : Prop := ∀ (run want : Value) (a r x dx C : Addr) (f : Str → Option Value) (t : Th), Tri K V 483 3 [run, .ref a, want] [] (argR a r x dx C f t) (fun _ k => ∀ v, IsOwn t.own v → k v [])
noncomputable def C_reftype_func (K : Params → Frag) (V : Program) : Prop := ∀ (run want : Value) (a r x dx C : Addr) (f : Str → Option Value) (t : Th), Tri K V 490 3 [run, .ref a, want] [] (argR a r x dx C f t) (fun _ k => ∀ u, k (.str t.word u) [])
noncomputable def C_refaddr_func (K : Params → Frag) (V : Program) : Prop := ∀ (run want : Value) (a r x dx C : Addr) (f : Str → Option Value) (t : Th), Tri K V 497 3 [run, .ref a, want] [] (argR a r x dx C f t) (fun _ k => ∀ u, k (.int t.num u) [])
noncomputable def C_plainW (K : Params → Frag) (V : Program) (f : Addr) (k : (Value → Prop) → Prop) : Prop := ∀ v, Plain v → Tri K V f 2 [v] [] (fun _ _ => True) (fun _ q => k fun v => q v [])
theorem c_ref_wordP {K : Params → Frag} {V : Program} (HK : KOk K) : C_plainW K V 434 fun k => ∀ u, k (.str (Str.ofString "") u) := by
  intro v hv; k_extra "IN 434"; k_extra "go"; exact fin_mk (hk _) .nil
theorem c_blessed_wordP {K : Params → Frag} {V : Program} (HK : KOk K) : C_plainW K V 441 fun k => k .none := by
  intro v hv; k_extra "IN 441"; k_extra "go"; exact fin_mk hk .nil
theorem c_sort_wordP {K : Params → Frag} {V : Program} (HK : KOk K) : C_plainW K V 448 fun k => k .none := by
  intro v hv; k_extra "IN 448"; k_extra "go"; exact fin_mk hk .nil
theorem c_thing_numberP {K : Params → Frag} {V : Program} (HK : KOk K) : C_plainW K V 455 fun k => k .none := by
  intro v hv; k_extra "IN 455"; k_extra "go"; exact fin_mk hk .nil
theorem c_ref_funcP {K : Params → Frag} {V : Program} (HK : KOk K) : C_ref_funcP K V := by
  intro run want v a hv; k_extra "IN 476"; k_extra "go"; exact fin_mk (hk _) .nil
theorem c_blessed_funcP {K : Params → Frag} {V : Program} (HK : KOk K) : C_blessed_funcP K V := by
  intro run want v a hv; k_extra "IN 483"; k_extra "go"; exact fin_mk hk .nil
theorem c_reftype_funcP {K : Params → Frag} {V : Program} (HK : KOk K) : C_reftype_funcP K V := by
  intro run want v a hv; k_extra "IN 490"; k_extra "go"; exact fin_mk hk .nil
theorem c_refaddr_funcP {K : Params → Frag} {V : Program} (HK : KOk K) : C_refaddr_funcP K V := by
  intro run want v a hv; k_extra "IN 497"; k_extra "go"; exact fin_mk hk .nil
theorem c_ref_func {K : Params → Frag} {V : Program} (HK : KOk K) : C_ref_func K V := by
  intro run want a r x dx C f t; k_extra "IN 476"; refine elAA hP ?_; (try clear hP); rintro hl hr hT; k_extra "go"; exact fin_mk (hk _) .nil
theorem c_blessed_func {K : Params → Frag} {V : Program} (HK : KOk K) : C_blessed_func K V := by
  intro run want a r x dx C f t; k_extra "IN 483"; refine elAA hP ?_; (try clear hP); rintro hl hr hT; k_extra "go"; exact fin_mk (hk _ (by assumption)) .nil
theorem c_reftype_func {K : Params → Frag} {V : Program} (HK : KOk K) : C_reftype_func K V := by
  intro run want a r x dx C f t; k_extra "IN 490"; refine elAA hP ?_; (try clear hP); rintro hl hr hT; k_extra "go"; exact fin_mk (hk _) .nil
theorem c_refaddr_func {K : Params → Frag} {V : Program} (HK : KOk K) : C_refaddr_func K V := by
  intro run want a r x dx C f t; k_extra "IN 497"; refine elAA hP ?_; (try clear hP); rintro hl hr hT; k_extra "go"; exact fin_mk (hk _) .nil
noncomputable def ScalarOf (w : World) (h : Heap) (v : Value) (x : Str) : Prop := ∃ a d f u, v = .ref a ∧ OAt w h a (.ob (instObj 87 d)) ∧ OAt w h d (.di f) ∧ f (Str.ofString "magic") = some .none ∧ f (Str.ofString "value") = some (.str x u)
inductive Scalars (w : World) (h : Heap) : List Value → List Str → Prop
  | nil : Scalars w h [] []
  | cons {v x vs xs} : ScalarOf w h v x → Scalars w h vs xs → Scalars w h (v :: vs) (x :: xs)
noncomputable def ArrAt (w : World) (h : Heap) (v : Value) (xs : List Str) : Prop := ∃ a d f l vs, v = .ref a ∧ OAt w h a (.ob (instObj 106 d)) ∧ OAt w h d (.di f) ∧ f (Str.ofString "items") = some (.ref l) ∧ FL w h l vs ∧ Scalars w h vs xs
noncomputable def FoundA (w : World) (h : Heap) (xs : List Str) (v : Value) : Prop := (v = .none ∧ xs = []) ∨ ArrAt w h v xs
noncomputable abbrev isaN (p : Str) : Str := p ++ Str.ofString "::ISA"
noncomputable def desN (p : Str) : Str := p ++ Str.ofString "::DESTROY"
theorem desN_cat (p : Str) : p ++ Str.ofString "::" ++ Str.ofString "DESTROY" = desN p := by
  unfold desN; rw [Str.append_assoc]; rfl
noncomputable def codV : Option Addr → Value
  | none => .none
  | some c => .ref c
noncomputable def GlobAt (w : World) (h : Heap) (o : Option Value) (P : Option (Str → Option Value) → Prop) : Prop := (o = none ∧ P none) ∨ ∃ g dg fg, o = some (.ref g) ∧ OAt w h g (.ob (instObj 163 dg)) ∧ OAt w h dg (.di fg) ∧ P (some fg)
theorem GlobAt.imp {w : World} {h h' : Heap} {o : Option Value} {P P' : Option (Str → Option Value) → Prop} (x : GlobAt w h o P) (k : Keep h h') (i : ∀ f, P f → P' f) : GlobAt w h' o P' :=
  x.elim (fun x => .inl ⟨x.1, i _ x.2⟩) fun ⟨g, dg, fg, a, b, c, d⟩ => .inr ⟨g, dg, fg, a, b.keeps k, c.keeps k, i _ d⟩
noncomputable def isaP (w : World) (h : Heap) (xs : List Str) (o : Option (Str → Option Value)) : Prop := match o with
  | none => xs = []
  | some f => ∃ v, f (Str.ofString "array") = some v ∧ FoundA w h xs v ∧ handedIn v = true
noncomputable def desP (c : Option Addr) (o : Option (Str → Option Value)) : Prop := match o with
  | none => c = none
  | some f => f (Str.ofString "code") = some (codV c)
structure StF (f : Str → Option Value) (gl : Addr) (gen : Int) : Prop where
  globs : f (Str.ofString "globs") = some (.ref gl)
  gen : ∃ u, f (Str.ofString "generation") = some (.int gen u)
  m1 : f (Str.ofString "find_array") = none
  m2 : f (Str.ofString "code_of") = none
structure StashD (w : World) (h : Heap) (st : Addr) (gen : Int) (par : Str → List Str) (cod : Str → Option Addr) : Prop where
  ex : ∃ d f gl kvs, OAt w h st (.ob (instObj 723 d)) ∧ OAt w h d (.di f) ∧ StF f gl gen ∧ OAt w h gl (.sd kvs) ∧ (∀ p, GlobAt w h (valueAt kvs (isaN p)) (isaP w h (par p))) ∧ ∀ p, GlobAt w h (valueAt kvs (desN p)) (desP (cod p))
theorem ScalarOf.keeps {w : World} {h h' : Heap} {v : Value} {x : Str} (S : ScalarOf w h v x) (k : Keep h h') : ScalarOf w h' v x := let ⟨a, d, f, u, e, i, j, r⟩ := S; ⟨a, d, f, u, e, i.keeps k, j.keeps k, r⟩
theorem Scalars.keeps {w : World} {h h' : Heap} {vs : List Value} {xs : List Str} (S : Scalars w h vs xs) (k : Keep h h') : Scalars w h' vs xs := by
  induction S with
  | nil => exact .nil
  | cons a _ ih => exact .cons (a.keeps k) ih
theorem ArrAt.keeps {w : World} {h h' : Heap} {v : Value} {xs : List Str} (S : ArrAt w h v xs) (k : Keep h h') : ArrAt w h' v xs := let ⟨a, d, f, l, vs, e, i, i2, j, m, n⟩ := S; ⟨a, d, f, l, vs, e, i.keeps k, i2.keeps k, j, m.keeps k, n.keeps k⟩
theorem FoundA.keeps {w : World} {h h' : Heap} {v : Value} {xs : List Str} (S : FoundA w h xs v) (k : Keep h h') : FoundA w h' xs v := S.imp id fun a => a.keeps k
theorem isaP.keeps {w : World} {h h' : Heap} {xs : List Str} (k : Keep h h') : ∀ o, isaP w h xs o → isaP w h' xs o
  | none, x => x
  | some _, x => let ⟨v, a, b, c⟩ := x; ⟨v, a, b.keeps k, c⟩
theorem StashD.keeps {w : World} {h h' : Heap} {st : Addr} {gen : Int} {par : Str → List Str} {cod : Str → Option Addr} (S : StashD w h st gen par cod) (k : Keep h h') : StashD w h' st gen par cod := by
  refine elEEEEAAAAA S.ex ?_; rintro d f gl kvs a b c e x y
  exact ⟨d, f, gl, kvs, a.keeps k, b.keeps k, c, e.keeps k, fun p => (x p).imp k (isaP.keeps k), fun p => (y p).imp k fun _ h => h⟩
theorem Scalars.length {w : World} {h : Heap} {vs : List Value} {xs : List Str} (S : Scalars w h vs xs) : vs.length = xs.length := by
  induction S with
  | nil => rfl
  | cons _ _ ih => simp [ih]
theorem Scalars.mem {w : World} {h : Heap} {vs : List Value} {xs : List Str} (S : Scalars w h vs xs) : ∀ v ∈ vs, ∃ x, ScalarOf w h v x := by
  induction S with
  | nil => intro v hv; cases hv
  | cons a _ ih =>
    intro v hv
    rcases List.mem_cons.mp hv with rfl | hv
    · exact ⟨_, a⟩
    · exact ih v hv
theorem di_one {w : World} {h : Heap} {a : Addr} {f g : Str → Option Value} (x : OAt w h a (.di f)) (y : OAt w h a (.di g)) (n : Str) : f n = g n := by
  obtain ⟨_, o, e, es, k, e1, E⟩ := x
  obtain ⟨_, o', e', es', k', e1', E'⟩ := y
  rw [e] at e'; cases e'
  rw [e1] at e1'
  have : es = es' := by simpa using congrArg (fun o : Obj => match o.data with | .dict es _ => es.toList | _ => []) e1'
  subst this
  have := E.get n
  rw [E'.get] at this
  exact (Option.some.inj this).symm
theorem ob_one {w : World} {h : Heap} {a : Addr} {o o' : Obj} (x : OAt w h a (.ob o)) (y : OAt w h a (.ob o')) : o = o' := by
  obtain ⟨_, _, e, rfl⟩ := x
  obtain ⟨_, _, e', rfl⟩ := y
  exact Option.some.inj (e.symm.trans e')
theorem scalarOf_one {w : World} {h : Heap} {v : Value} {x y : Str} (a : ScalarOf w h v x) (b : ScalarOf w h v y) : x = y := by
  refine elEEEEAAAA a ?_; (try clear a); rintro c d f u rfl i1 i2 _ k
  refine elEEEEAAAA b ?_; (try clear b); rintro c' d' f' u' e j1 j2 _ k'
  cases e
  cases ob_one i1 j1
  have := di_one i2 j2 (Str.ofString "value")
  rw [k, k'] at this
  cases this; rfl
structure ParOk (par : Str → List Str) : Prop where
  len : ∀ p, (par p).length ≤ 2
  txt : ∀ p, ∀ q ∈ par p, TxtOk q
theorem texts_of {w : World} {h : Heap} : ∀ {vs : List Value} {xs : List Str} {ys : List Value}, Scalars w h vs xs → Paired (fun v y => ∀ x, ScalarOf w h v x → ∃ u, y = .str x u) (vs.filter fun _ => true) ys → StrsAre ys xs := by
  intro vs xs ys S F
  rw [List.filter_eq_self.mpr (fun _ _ => rfl)] at F
  induction S generalizing ys with
  | nil => cases F; exact .nil
  | cons a _ ih =>
    cases F with
    | cons b F' =>
      refine elE (b _ a) ?_; rintro u rfl
      exact .cons (ih F')
noncomputable def givP (v : Value) (o : Option (Str → Option Value)) : Prop := match o with
  | none => v = .none
  | some f => f (Str.ofString "array") = some v ∧ handedIn v = true
noncomputable def GivesA (w : World) (h : Heap) (st : Addr) (name : Str) (v : Value) : Prop := ∃ d f gl gen kvs, OAt w h st (.ob (instObj 723 d)) ∧ OAt w h d (.di f) ∧ StF f gl gen ∧ OAt w h gl (.sd kvs) ∧ GlobAt w h (valueAt kvs name) (givP v)
theorem GivesA.keeps {w : World} {h h' : Heap} {st : Addr} {name : Str} {v : Value} (x : GivesA w h st name v) (k : Keep h h') : GivesA w h' st name v :=
  let ⟨d, f, gl, gen, kvs, a, b, c, e, y⟩ := x; ⟨d, f, gl, gen, kvs, a.keeps k, b.keeps k, c, e.keeps k, y.imp k fun _ h => h⟩
theorem StashD.arr {w : World} {h : Heap} {st : Addr} {gen : Int} {par : Str → List Str} {cod : Str → Option Addr} (S : StashD w h st gen par cod) (p : Str) : ∃ v, GivesA w h st (isaN p) v ∧ FoundA w h (par p) v := by
  refine elEEEEAAAAA S.ex ?_; rintro d f gl kvs a b c e x y
  rcases x p with ⟨q1, q2⟩ | ⟨g, dg, fg, q1, q2, q3, v, q4, q5, q6⟩
  · exact ⟨.none, ⟨d, f, gl, gen, kvs, a, b, c, e, .inl ⟨q1, rfl⟩⟩, .inl ⟨rfl, q2⟩⟩
  · exact ⟨v, ⟨d, f, gl, gen, kvs, a, b, c, e, .inr ⟨g, dg, fg, q1, q2, q3, q4, q6⟩⟩, q5⟩
noncomputable def C_value_ofS (K : Params → Frag) (V : Program) : Prop := ∀ (v : Value) (x : Str), Tri K V 278 1 [v] [] (fun w g => ScalarOf w g v x) (fun _ k => ∀ u, k (.str x u) [])
noncomputable def C_find_array (K : Params → Frag) (V : Program) : Prop := ∀ (st : Addr) (name : Str) (u : Tok) (v : Value), Tri K V 720 1 [.ref st, .str name u] [] (fun w g => GivesA w g st name v) (fun w k => k v [])
noncomputable def codT (o : Option Addr) (k : Value → LD → Prop) : Prop := match o with
  | none => k .none []
  | some c => k (.ref c) []
noncomputable def C_code_of (K : Params → Frag) (V : Program) : Prop := ∀ (st : Addr) (gen : Int) (par : Str → List Str) (cod : Str → Option Addr) (p : Str) (u : Tok), Tri K V 713 1 [.ref st, .str (p ++ Str.ofString "::" ++ Str.ofString "DESTROY") u] [] (fun w g => StashD w g st gen par cod) (fun _ k => codT (cod p) k)
noncomputable def C_parents_of (K : Params → Frag) (V : Program) : Prop := ∀ (st : Addr) (gen : Int) (par : Str → List Str) (cod : Str → Option Addr) (p : Str) (u : Tok), TxtOk p → ParOk par → Tri K V 343 4 [.ref st, .str p u] [] (fun w g => StashD w g st gen par cod) (fun _ k => ∀ D ys, StrsAre ys (par p) → k (.ref D) [(D, .lo ys)])
theorem tri_raw {K0 : Params → Frag} {V : Program} {cc : CC} {c : Cf} {dz : Nat} {a : Addr} {d : Nat} {args : List Value} {P : World → Heap → Prop} {T : World → (Value → LD → Prop) → Prop} {m : Str → Option Value} {s : Shared} {Q E : Value → Shared → Prop} (cn : Tri K0 V a d args [] P T) (Z : ZOk K0 V cc c dz) (hd : d ≤ dz) (F : Fr c.g c.L s.heap m) (hP : P c.w s.heap)
    (post : T c.w fun v B => ∀ h' tk', Keep s.heap h' → Q v { s with heap := h', toks := tk' }) : wpAny (model PG c.w) c.A (call (.ref a) args) Q E s := by
  refine elA (Z.cxh F (as := []) (fun _ h => nomatch h)) ?_; rintro cx _
  exact wpAny_call (cn c.w c.mean c.mg c.mb c.A _ s _ _ cx (Nat.le_refl _) (zhd Z hd) (zhu Z hd) ⟨Keep.refl _, (fun _ h => (nomatch h)), (fun _ h => (nomatch h)), .nil⟩ hP post fun v h' tk' B LB kB => kB h' tk' LB.keep)
noncomputable def eqF (a : Addr) (l : List (Str × Value)) (H : Heap) (ld : LD) : Kt Flow := fun fl l' H' ld' => Stp 18 (fl = .ret (.ref a) ∧ l' = l ∧ H' = H ∧ ld' = ld)
theorem lc_texts {K0 : Params → Frag} (kc : KCl K0) {V : Program} {cc : CC} {c : Cf} {dz k : Nat} {l : List (Str × Value)} {H : Heap} {ld : LD} {K : Kt Value} (c2 : C_value_ofS K0 V) (c3 : C_to_text K0 V) {a : Addr} {sc : Scope} {vs : List Value} {xs : List Str} {iter : PySem.Expr} {p1 p2 p3 p4 p5 px pos : Pos} (n : Nat)
    (Z : ZOk K0 V cc c dz) (hz : 3 ≤ dz) (hl : HL c.w H ld a vs) (hs : Scalars c.w H vs xs) (hlen : vs.length ≤ 100) (hit : run cc c (eqF a l H ld) n (.ev iter) [.ret] l H ld)
    (hsc : (sc.kind == .function && (sc.names.all fun y => y.2 != .free && y.2 != .cell && (!(y.2 == .local) || sc.names.lookup y.1 == some .local)) && sc.names.lookup (Str.ofString "item") == some .local && sc.names.lookup (Str.ofString "to_text") == some .globalImplicit && sc.names.lookup (Str.ofString "value_of") == some .globalImplicit && plainTest iter) = true)
    (hQ : ∀ D ys, StrsAre ys xs → K (.ref D) l H ((D, .lo ys) :: ld)) :
    Stp k (Sp c l H ld (eval (.ListComp (.Call (.Name (Str.ofString "to_text") p1) [.Call (.Name (Str.ofString "value_of") p2) [.Name (Str.ofString "item") p3] [] p4] [] p5) [⟨.Name (Str.ofString "item") px, iter, [], 0⟩] sc pos) (envE cc c)) K) := by
  simp only [Bool.and_eq_true, Bool.or_eq_true, Bool.not_eq_true', List.all_eq_true, bne_iff_ne, beq_iff_eq, beq_eq_false_iff_ne] at hsc
  refine elA hsc ?_; (try clear hsc); rintro ⟨⟨⟨⟨hkind, hall⟩, hx⟩, hx1⟩, hx2⟩ hpl
  have X := Z.X
  have T := Z.T
  refine elA (andTT (kc.gvs c.w.params)) ?_; rintro q1 q2
  refine elA (andTT q2) ?_; rintro q2 _
  have n1 := beq_iff_eq.mp (andTT q1).1
  have n2 := beq_iff_eq.mp (andTT q2).1
  have k1 := (andTT q1).2
  have k2 := (andTT q2).2
  refine .mk fun h₀ t₀ A₀ => ?_
  have hiter := run_snd Z.toEOk n (.ev iter) [.ret] l H ld hit h₀ t₀ A₀
  refine wpAny_ListComp_map (fun _ => true) (fun v y => ∀ x, ScalarOf c.w H v x → ∃ u, y = .str x u) Z.q (fun y hy => (hall y hy).1.1) (fun y hy => (hall y hy).1.2) hkind (fun y hy e => ((hall y hy).2.resolve_left (fun q => q e))) hx (wpAny_mono hiter (fun v s₁ h₁ => ?_) fun _ _ e => e) (fold_plain hpl)
  obtain ⟨l₁, H₁, ld₁, h₁, t₁, A, q⟩ := (show Bk c (eqF a l H ld) (.ret v) s₁ from h₁)
  refine elAAA (Stp.get q) ?_; rintro e rfl rfl rfl
  cases e
  refine elEA A.ex ?_; rintro m S F
  refine ⟨a, vs.toArray, rfl, hl.at_ A, ?_, ?_, ?_, ?_⟩
  · rw [List.size_toArray, sizeLine_eq]; omega
  · intro C v s₂ m₂ E' _ hn hm hk
    exact wpAny_tests_nil ⟨rfl, s₂.heap, s₂.toks, rfl, fun _ _ e => e⟩
  · intro C v s₂ m₂ E' hv _ hn hm hk
    have F2 : Fr c.g c.L s₂.heap m := fr_ext F hk
    have kH : Keep H₁ s₂.heap := A.lg.keep.trans hk
    refine elE (hs.mem v (by simpa using hv)) ?_; rintro x hx'
    have z2 : ∀ u h₃ tk₃, Keep s₂.heap h₃ → wpAny (model PG c.w) c.A (call (.ref 285) [.str x u]) (fun y s₃ => (∀ x, ScalarOf c.w H₁ v x → ∃ u, y = .str x u) ∧ Keeps s₂ s₃) E' { s₂ with heap := h₃, toks := tk₃ } := by
      intro u h₃ tk₃ hk₃
      refine tri_raw (c3 (.str x u) x rfl) Z (Nat.le_trans (by decide) hz) (fr_ext F2 hk₃) trivial fun u' h₄ tk₄ hk₄ => ⟨fun y hy => ⟨u', by rw [scalarOf_one hx' hy]⟩, h₄, tk₄, rfl, hk₃.trans hk₄⟩
    have z1 : wpAny (model PG c.w) c.A (call (.ref 278) [v]) (fun v' s₃ => wpAny (model PG c.w) c.A (spliced (backTo p5 (starEach [] (compEnv sc C (envE cc c))))) (fun ws s₄ => (K0 c.w.params).In s₄.heap ∧ wpAny (model PG c.w) c.A (call (.ref 285) (v' :: ws)) (fun y s₃ => (∀ x, ScalarOf c.w H₁ v x → ∃ u, y = .str x u) ∧ Keeps s₂ s₃) E' s₄) E' s₃) E' s₂ :=
      tri_raw (c2 v x) Z (Nat.le_trans (by decide) hz) F2 (hx'.keeps kH) fun u h₃ tk₃ hk₃ => spliced_none ⟨X.keeps (fr_ext F2 hk₃).keep, z2 u h₃ tk₃ hk₃⟩
    refine Call_ (nameG_K F2 X (topRead_of T) n1 ?_ rfl hkind hx1 (by decide))
    refine callWith_K (h₀ := c.g) X k1 (spliced_more ?_)
    refine Call_ (nameG_K F2 X (topRead_of T) n2 ?_ rfl hkind hx2 (by decide))
    refine callWith_K (h₀ := c.g) X k2 (spliced_more ?_)
    refine wpAny_Name (wpAny_loadName_local hkind hx hn hm ?_) (by decide)
    exact spliced_none ⟨X.keeps F2.keep, z1⟩
  · intro D h' tk' ys hD hl' hF hk
    refine elEAA hl' ?_; (try clear hl'); rintro o e e1 e2
    refine .mk l₁ H₁ _ h' tk' (A.step (as := []) (B := [(D, .lo ys.toList)]) S (fr_ext F hk) (fun b o e _ _ => hk b o e) (fun _ h => nomatch h) (fun p hp => ⟨hp, fun h => nomatch h⟩) (List.pairwise_cons.mp A.lg.ne).2 (fun p hp => ?_) (List.pairwise_singleton _ _)) (hQ D _ (texts_of hs (by simpa using hF)))
    cases List.mem_singleton.mp hp
    exact ⟨⟨(fun q => nomatch q), o, e, e1, e2⟩, .inl hD⟩
theorem c_value_ofS {K : Params → Frag} {V : Program} (HK : KOk K) : C_value_ofS K V := by
  intro v x; k_extra "IN 278"; refine elEEEEAAAA hP ?_; (try clear hP); rintro a d f u rfl I I2 h1 h2; k_extra "go"; exact fin_mk (hk _) .nil
theorem c_find_array {K : Params → Frag} {V : Program} (HK : KOk K) : C_find_array K V := by
  intro st name u v; k_extra "IN 720"; refine elEEEEEAAAA hP ?_; (try clear hP); rintro d f gl gen kvs a b ⟨c1, c2, c3, c4⟩ e hx
  rcases hx with ⟨q1, q2⟩ | ⟨g, dg, fg, q1, I2, I3, q3, q5⟩
  · cases (show v = .none from q2); k_extra "go"; exact fin_mk hk .nil
  · k_extra "go"; exact fin_mk hk .nil
theorem c_code_of {K : Params → Frag} {V : Program} (HK : KOk K) : C_code_of K V := by
  intro st gen par cod p u
  rw [desN_cat]
  k_extra "IN 713"; refine elEEEEAAAAA hP.ex ?_; rintro d f gl kvs a b ⟨c1, c2, c3, c4⟩ e _ hy
  rcases hy p with ⟨q1, q2⟩ | ⟨g, dg, fg, q1, I2, I3, q3⟩
  · rw [show cod p = none from q2] at hk; k_extra "go"; exact fin_mk hk .nil
  · cases hc : cod p with
    | none => rw [hc] at hk q3; k_extra "go"; exact fin_mk hk .nil
    | some a => rw [hc] at hk q3; k_extra "go"; exact fin_mk hk .nil
theorem c_parents_of {K : Params → Frag} {V : Program} (HK : KOk K) : C_parents_of K V := by
  intro st gen par cod p u hp hpo; k_extra "IN 343"; refine elEEEEAAAA hP.ex ?_; rintro d f gl kvs a b ⟨c1, c2, c3, c4⟩ e _
  have hp' : p.length ≤ 40 := hp
  refine elEA (hP.arr p) ?_; rintro va hg hf
  rcases hf with ⟨rfl, hn⟩ | ⟨ar, d, fa, l, vs, rfl, I2, I3, h5, hl, hsc⟩
  · k_extra "go"; exact fin_wk (hk _ [] (hn ▸ .nil)) (.li .rfl) (by k_extra "cut")
  · have hlen : vs.length ≤ 100 := by rw [hsc.length]; have := hpo.len p; omega
    k_extra "go"; exact fin_mk (hk _ _ (by assumption)) (by k_extra "cut")
structure SF where
  pkg : Str
  row : List Str
  idx : Nat
noncomputable def dfRun (par : Str → List Str) : Nat → List Str → List SF → Option (List Str)
  | 0, line, [] => some line
  | 0, _, _ :: _ => none
  | n + 1, line, [] => some line
  | n + 1, line, f :: r => match f.row[f.idx]? with
    | none => dfRun par n line r
    | some q => if q ∈ (f :: r).map (·.pkg) then none else if q ∈ line then dfRun par n line ({ f with idx := f.idx + 1 } :: r) else dfRun par n (line ++ [q]) (⟨q, par q, 0⟩ :: { f with idx := f.idx + 1 } :: r)
theorem dfRun_nil (par : Str → List Str) (n : Nat) (line : List Str) : dfRun par n line [] = some line := by cases n <;> rfl
inductive StkAt (R : LD) : List SF → List Value → List Value → List Value → Prop
  | nil : StkAt R [] [] [] []
  | cons {f r vp vr va l vs u t} : StkAt R r vp vr va → (l, Ds.lo vs) ∈ R → StrsAre vs f.row → f.idx ≤ f.row.length → f.row.length ≤ 2 → (∀ q ∈ f.row, TxtOk q) → StkAt R (f :: r) (vp ++ [.str f.pkg u]) (vr ++ [.ref l]) (va ++ [.int f.idx t])
theorem StkAt.more {R R' : LD} (h : ∀ p ∈ R, p ∈ R') {stk : List SF} {vp vr va : List Value} (S : StkAt R stk vp vr va) : StkAt R' stk vp vr va := by
  induction S with
  | nil => exact .nil
  | cons _ a c d e f ih => exact .cons ih (h _ a) c d e f
theorem StkAt.strs {R : LD} {stk : List SF} {vp vr va : List Value} (S : StkAt R stk vp vr va) : StrsAre vp (stk.map (·.pkg)).reverse := by
  induction S with
  | nil => exact .nil
  | cons _ _ _ _ _ _ ih => rw [List.map_cons, List.reverse_cons]; exact ih.snoc
theorem StkAt.lens {R : LD} {stk : List SF} {vp vr va : List Value} (S : StkAt R stk vp vr va) : vp.length = stk.length ∧ vr.length = stk.length ∧ va.length = stk.length := by
  induction S with
  | nil => exact ⟨rfl, rfl, rfl⟩
  | cons _ _ _ _ _ _ ih => simp [ih]
structure LnInv (par : Str → List Str) (fin : List Str) (line : List Str) (stk : List SF) (vl vp vr va : List Value) (R : LD) (m : Nat) : Prop where
  run : dfRun par m line stk = some fin
  ls : StrsAre vl line
  st : StkAt R stk vp vr va
  z1 : line.length + m ≤ 60
  z2 : stk.length + m ≤ 60
noncomputable def LnJ (par : Str → List Str) (fin : List Str) (a1 a2 a3 a4 : Addr) (lo : List (Str × Value)) (H0 : Heap) (m : Nat) (l : List (Str × Value)) (H : Heap) (ld : LD) : Prop :=
  ∃ line stk vl vp vr va R, LnInv par fin line stk vl vp vr va R m ∧ l = lo ∧ H = H0 ∧ ld = (a4, .li va) :: (a3, .li vr) :: (a2, .li vp) :: (a1, .li vl) :: R
theorem lnMk {par : Str → List Str} {fin line : List Str} {a1 a2 a3 a4 : Addr} {lo l : List (Str × Value)} {H0 : Heap} {m m2 n : Nat} {stk : List SF} {vl vp vr va : List Value} {R ld R2 : LD} (h : LnInv par fin line stk vl vp vr va R m) (hm : m < m2) (e : l.drop n = lo) (q : nodupN l = true) (cu : Cut ld ((a4, .li va) :: (a3, .li vr) :: (a2, .li vp) :: (a1, .li vl) :: R) R2) :
    Stp 17 (∃ m' l' ld' R, m' < m2 ∧ (∀ p ∈ l', lk l p.1 = some p.2) ∧ Cut ld ld' R ∧ LnJ par fin a1 a2 a3 a4 lo H0 m' l' H0 ld') := .mk ⟨m, lo, _, R2, hm, lk_rest n e q, cu, line, stk, vl, vp, vr, va, R, h, rfl, rfl, rfl⟩
theorem line_while {K0 : Params → Frag} {V : Program} {cc : CC} {c : Cf} {dz k : Nat} {lo : List (Str × Value)} {H : Heap} {K : Kt Flow} {test : PySem.Expr} {body : List Stmt} {pos : Pos} {par : Str → List Str} {fin : List Str} {a1 a2 a3 a4 D : Addr} {ys : List Value} {p : Str} {u1 u2 u4 : Tok} {N : Nat} (Z : ZOk K0 V cc c dz) (hrun : dfRun par N [p] [⟨p, par p, 0⟩] = some fin) (hn : N ≤ 50) (hpo : ParOk par) (hS : StrsAre ys (par p))
    (turn : ∀ m line stk vl vp vr va R, LnInv par fin line stk vl vp vr va R m → run cc c (turnW (LnJ par fin a1 a2 a3 a4 lo H) m K) 4000 (.te test) [.whl body] lo H ((a4, .li va) :: (a3, .li vr) :: (a2, .li vp) :: (a1, .li vl) :: R)) :
    Stp k (Sp c lo H [(a4, .li [.int 0 u4]), (a3, .li [.ref D]), (D, .lo ys), (a2, .li [.str p u2]), (a1, .li [.str p u1])] (exec (.While test body [] pos) (envE cc c)) K) := by
  refine e_while 4000 (LnJ par fin a1 a2 a3 a4 lo H) N Z (.cons .head (.cons .head (.cons (.tail .head) (.cons (.tail .head) (.cons .head .nil))))) ⟨[p], [⟨p, par p, 0⟩], [.str p u1], [.str p u2], [.ref D], [.int 0 u4], [(D, .lo ys)], ⟨hrun, .cons .nil, .cons (vp := []) (vr := []) (va := []) (f := ⟨p, par p, 0⟩) .nil (.head _) hS (Nat.zero_le _) (hpo.len p) (hpo.txt p), by show 1 + N ≤ 60; omega, by show 1 + N ≤ 60; omega⟩, rfl, rfl, rfl⟩ ?_
  intro m _ _ _ zI1; refine elEEEEEEEAAA zI1 ?_; (try clear zI1); rintro line stk vl vp vr va R h rfl rfl rfl
  exact turn m line stk vl vp vr va R h
noncomputable def C_line_of_package (K : Params → Frag) (V : Program) : Prop := ∀ (st : Addr) (gen : Int) (par : Str → List Str) (cod : Str → Option Addr) (p : Str) (u : Tok) (N : Nat) (fin : List Str), TxtOk p → ParOk par → N ≤ 50 → dfRun par N [p] [⟨p, par p, 0⟩] = some fin → Tri K V 350 5 [.ref st, .str p u] [] (fun w g => StashD w g st gen par cod) (fun _ k => ∀ D ys, StrsAre ys fin → k (.ref D) [(D, .li ys)])
theorem c_line_of_package {K : Params → Frag} {V : Program} (HK : KOk K) : C_line_of_package K V := by
  intro st gen par cod p u n fin hp hpo hn hrun
  k_extra "IN 350"
  k_extra "go"
  rename StrsAre _ (par p) => hS
  refine line_while Z hrun hn hpo hS ?_
  clear hrun
  intro m line stk vl vp vr va R zI1; obtain ⟨hrun, hls, hst, z1, z2⟩ := zI1
  rcases stk with _ | ⟨f, r⟩
  · cases hst
    rw [dfRun_nil] at hrun
    cases hrun
    k_extra "go"
    k_extra "st"
    exact fin_mk (hk _ _ hls) (by k_extra "cut")
  have hps := hst.strs
  cases hst with
  | @cons _ _ vp vr va l vs up tp hs hm hS hi h2 ht =>
    rcases m with _ | n
    · cases hrun
    have hlen := hS.length
    refine elAA hs.lens ?_; rintro hz1 hz2 hz3
    have hz4 := hls.length
    cases hq : f.row[f.idx]? with
    | none =>
      rw [dfRun, hq] at hrun
      dsimp only at hrun
      have hge : f.row.length ≤ f.idx := List.getElem?_eq_none_iff.mp hq
      have eb : ((f.idx : Int) == (vs.length : Int)) = true := by rw [beq_iff_eq]; omega
      k_extra "go"
      k_extra "st"; exact lnMk (n := 0) ⟨hrun, hls, hs, by omega, by dsimp only [List.length_cons] at z2 ⊢; omega⟩ (Nat.lt_succ_self n) rfl rfl (by k_extra "cut")
    | some q =>
      rw [dfRun, hq] at hrun
      dsimp only at hrun
      have hlt : f.idx < f.row.length := (List.getElem?_eq_some_iff.mp hq).1
      have htq : TxtOk q := ht q (List.mem_of_getElem? hq)
      refine elE (hS.get hq) ?_; rintro uq hvq
      by_cases g1 : q ∈ (f :: r).map (·.pkg)
      · rw [if_pos g1] at hrun; cases hrun
      rw [if_neg g1] at hrun
      have g1' : q ∉ ((f :: r).map (·.pkg)).reverse := by rwa [List.mem_reverse]
      have eb : ((f.idx : Int) == (vs.length : Int)) = false := by rw [beq_eq_false_iff_ne]; omega
      by_cases g2 : q ∈ line
      · rw [if_pos g2] at hrun
        k_extra "go"
        k_extra "st"; exact lnMk (n := 1) ⟨hrun, hls, .cons (f := ⟨f.pkg, f.row, f.idx + 1⟩) hs hm hS hlt h2 ht, by omega, by dsimp only [List.length_cons] at z2 ⊢; omega⟩ (Nat.lt_succ_self n) rfl rfl (by k_extra "cut")
      · rw [if_neg g2] at hrun
        k_extra "go"
        rename StrsAre _ (par q) => hS2
        k_extra "st"; exact lnMk (n := 1) (R := (_, .lo _) :: R) ⟨hrun, hls.snoc, .cons (f := ⟨q, par q, 0⟩) ((StkAt.cons (f := ⟨f.pkg, f.row, f.idx + 1⟩) hs hm hS hlt h2 ht).more fun _ h => .tail _ h) (.head _) hS2 (Nat.zero_le _) (hpo.len q) (hpo.txt q), by rw [List.length_append]; show line.length + 1 + n ≤ 60; omega, by dsimp only [List.length_cons] at z2 ⊢; omega⟩ (Nat.lt_succ_self n) rfl rfl (by k_extra "cut")
theorem forMk {w : World} {J : Nat → List (Str × Value) → Heap → LD → Prop} {i n : Nat} {I : Addr} {io : Obj} {G : Heap} {l lo : List (Str × Value)} {ld ld' R : LD} (e : l.drop n = lo) (q : nodupN l = true) (cu : Cut ld ((I, .ob io) :: ld') R) (hj : ∀ G', Keep G G' → Has w G' R → J (i + 1) lo G' ld') :
    Stp 17 (∃ l' ld' R, (∀ p ∈ l', lk l p.1 = some p.2) ∧ Cut ld ((I, .ob io) :: ld') R ∧ Keep G G ∧ ∀ G', Keep G G' → Has w G' R → J (i + 1) l' G' ld') := .mk ⟨lo, ld', R, lk_rest n e q, cu, Keep.refl _, hj⟩
noncomputable def univ : Str := Str.ofString "UNIVERSAL"
noncomputable def search (cod : Str → Option Addr) (xs : List Str) : Option (Str × Addr) := xs.findSome? fun q => (cod q).map fun c => (q, c)
noncomputable def WlJ (fin : List Str) (a : Addr) (lo : List (Str × Value)) (i : Nat) (l : List (Str × Value)) (_ : Heap) (ld : LD) : Prop := l = lo ∧ ∃ ys, ld = [(a, .li ys)] ∧ StrsAre ys (fin ++ [univ].take i)
noncomputable def SlJ (g : Heap) (cod : Str → Option Addr) (fin : List Str) (lo : List (Str × Value)) (i : Nat) (l : List (Str × Value)) (G : Heap) (ld : LD) : Prop := Keep g G ∧ l = lo ∧ ld = [] ∧ search cod (fin.take i) = none
noncomputable def C_whole_line (K : Params → Frag) (V : Program) : Prop := ∀ (st : Addr) (gen : Int) (par : Str → List Str) (cod : Str → Option Addr) (p : Str) (u : Tok) (N : Nat) (fin : List Str), TxtOk p → ParOk par → N ≤ 50 → dfRun par N [p] [⟨p, par p, 0⟩] = some fin → par univ = [] → univ ∉ fin → fin.length ≤ 60 →
  Tri K V 357 6 [.ref st, .str p u] [] (fun w g => StashD w g st gen par cod) (fun _ k => ∀ D ys, StrsAre ys (fin ++ [univ]) → k (.ref D) [(D, .li ys)])
theorem search_snoc {cod : Str → Option Addr} {xs : List Str} {q : Str} (h : search cod xs = none) (hq : cod q = none) : search cod (xs ++ [q]) = none := by
  unfold search at h ⊢
  rw [List.findSome?_append, h]
  simp [hq]
theorem search_hit {cod : Str → Option Addr} {xs ys : List Str} {q : Str} {c : Addr} (h : search cod xs = none) (hq : cod q = some c) : search cod (xs ++ q :: ys) = some (q, c) := by
  unfold search at h ⊢
  rw [List.findSome?_append, h]
  simp [hq]
theorem split_at {α : Type} {l : List α} {i : Nat} {x : α} (h : l[i]? = some x) : l = l.take i ++ x :: l.drop (i + 1) := by
  refine elE (List.getElem?_eq_some_iff.mp h) ?_; rintro hi e
  rw [← e, List.getElem_cons_drop, List.take_append_drop]
noncomputable def fndT (o : Option (Str × Addr)) (k : Value → LD → Prop) : Prop := match o with
  | none => k .none []
  | some (q, c) => ∀ (t : Addr) (u : Tok), k (.ref t) [(t, .ob (tupOf [.ref c, .str q u]))]
noncomputable def C_search_line (K : Params → Frag) (V : Program) : Prop := ∀ (st : Addr) (gen : Int) (par : Str → List Str) (cod : Str → Option Addr) (l : Addr) (vs : List Value) (fin : List Str) (u : Tok), (∀ q ∈ fin, TxtOk q) → StrsAre vs fin →
  Tri K V 364 2 [.ref st, .ref l, .str (Str.ofString "DESTROY") u] [] (fun w g => StashD w g st gen par cod ∧ FL w g l vs) (fun _ k => fndT (search cod fin) k)
theorem c_whole_line {K : Params → Frag} {V : Program} (HK : KOk K) : C_whole_line K V := by
  intro st gen par cod p u n fin hp hpo hn hrun hpu hnu hlf
  have hrun2 : dfRun par 2 [Str.ofString "UNIVERSAL"] [⟨Str.ofString "UNIVERSAL", par (Str.ofString "UNIVERSAL"), 0⟩] = some [univ] := by
    rw [show par (Str.ofString "UNIVERSAL") = [] from hpu]; rfl
  have hp2 : TxtOk (Str.ofString "UNIVERSAL") := Nat.le_of_ble_eq_true rfl
  k_extra "IN 357"
  k_extra "go"
  rename StrsAre _ [univ] => hSu
  rename StrsAre _ fin => hS
  cases hSu with | cons hSu => ?_
  cases hSu
  have hlen := hS.length
  k_extra "st"
  refine e_forL 4000 (WlJ fin _ _) Z rfl (Cut.cons (Pk.tail Pk.head) Cut.nil) (fun G kG hG => ⟨⟨_, hG _ (.head _), rfl⟩, rfl, _, rfl, by simpa using hS⟩) ?_ ?_
  · intro i v I io _ G _ hv zI1; refine elAEA zI1 ?_; (try clear zI1); rintro rfl ys rfl hT
    rcases i with _ | i
    · cases hv
      rw [List.take_zero, List.append_nil] at hT
      have hl := hT.length
      have hnu' : Str.ofString "UNIVERSAL" ∉ fin := hnu
      k_extra "go"
      k_extra "st"; exact forMk (n := 1) rfl rfl (by k_extra "cut") fun G' _ _ => ⟨rfl, _, rfl, hT.snoc⟩
    · simp at hv
  · intro _ G _ zI1; refine elAEA zI1 ?_; (try clear zI1); rintro rfl ys rfl hT
    k_extra "go"
    exact fin_mk (hk _ _ (by simpa using hT)) (by k_extra "cut")
theorem c_search_line {K : Params → Frag} {V : Program} (HK : KOk K) : C_search_line K V := by
  intro st gen par cod l vs fin u hft hS
  k_extra "IN 364"
  refine elA hP ?_; (try clear hP); rintro hst hl
  k_extra "go"
  k_extra "st"
  refine e_forL (vs := vs) 4000 (SlJ c.g cod fin _) Z rfl Cut.nil (fun G kG hG => ⟨hl.keeps kG, kG, rfl, rfl, rfl⟩) ?_ ?_
  · intro i v I io _ G _ hv zI1; refine elAAA zI1 ?_; (try clear zI1); rintro kG rfl rfl hs
    refine elEEA (hS.at_ hv) ?_; rintro q t hq rfl
    have htq : q.length ≤ 40 := hft q (List.mem_of_getElem? hq)
    have hst' := hst.keeps kG
    refine elEEEEAAAA hst'.ex ?_; rintro ds f gl kvs a b ⟨c1, c2, c3, c4⟩ e0 _
    cases hc : cod q with
    | none =>
      k_extra "go"
      rw [hc]
      k_extra "go"
      k_extra "st"; exact forMk (n := 2) rfl rfl (by k_extra "cut") fun G' k _ => ⟨kG.trans k, rfl, rfl, by rw [List.take_add_one, hq]; exact search_snoc hs hc⟩
    | some a =>
      have e : search cod fin = some (q, a) := by rw [split_at hq]; exact search_hit hs hc
      rw [e] at hk
      k_extra "go"
      rw [hc]
      k_extra "go"
      exact fin_mk (hk _ _) (by k_extra "cut")
  · intro _ G _ zI1; refine elAAA zI1 ?_; (try clear zI1); rintro kG rfl rfl hs
    rw [hS.length, List.take_length] at hs
    rw [hs] at hk
    k_extra "go"
    exact fin_mk hk .nil
structure LinesOk (par ln : Str → List Str) : Prop where
  pok : ParOk par
  univ : par univ = []
  run : ∀ p, p ≠ Mine.univ → ∃ N, N ≤ 50 ∧ dfRun par N [p] [⟨p, par p, 0⟩] = some (ln p)
  nu : ∀ p, p ≠ Mine.univ → Mine.univ ∉ ln p
  len : ∀ p, (ln p).length ≤ 50
  txt : ∀ p, TxtOk p → ∀ q ∈ ln p, TxtOk q
noncomputable def derT (ln : Str → List Str) (t : Th) (k : Str) : Bool := (t.word == k) || (match t.own with | none => false | some o => decide (k ∈ ln o ++ [univ]))
noncomputable def derP (ln : Str → List Str) (x k : Str) : Bool := (x != Str.ofString "") && decide (k ∈ ln x ++ [univ])
structure ThIn (t : Th) : Prop where
  ok : ThOk t
  nu : ∀ o, t.own = some o → o ≠ univ
noncomputable def truP (b : Bool) : Pv := match b with
  | true => .i 1
  | false => .s (Str.ofString "")
noncomputable def ownP (o : Option Str) : Pv := match o with
  | none => .n
  | some x => .s x
theorem IsOwn.isV {o : Option Str} {v : Value} (h : IsOwn o v) : IsV (ownP o) v := by cases h with | none => exact .n | some x u => exact .s
noncomputable def isaP' (b : Bool) (o : Option Str) : Pv := match o with
  | none => .s (Str.ofString "")
  | some _ => truP b
inductive AnyV (w : World) (h : Heap) (ln : Str → List Str) : Value → (Str → Bool) → Option Th → Prop
  | ref {r x dx C f t} : RefAt w h r x → ThAt w h x dx C f t → ThIn t → AnyV w h ln (.ref r) (derT ln t) (some t)
  | plain {v x} : Plain v → textP v = some x → TxtOk x → x ≠ univ → AnyV w h ln v (derP ln x) none
theorem AnyV.keeps {w : World} {h h' : Heap} {ln : Str → List Str} {v : Value} {d : Str → Bool} {o : Option Th} (a : AnyV w h ln v d o) (k : Keep h h') : AnyV w h' ln v d o := by
  cases a with
  | ref a b c => exact .ref (a.keeps k) (b.keeps k) c
  | plain a b c e => exact .plain a b c e
structure RnF (f : Str → Option Value) (st ca : Addr) (lim frs cnt : Value) : Prop where
  stash : f (Str.ofString "stash") = some (.ref st)
  methods : f (Str.ofString "methods") = some (.ref ca)
  limits : f (Str.ofString "limits") = some lim
  frames : f (Str.ofString "frames") = some frs
  counter : f (Str.ofString "counter") = some cnt
structure RunD (w : World) (h : Heap) (rn st ca : Addr) (lim frs cnt : Value) : Prop where
  ex : ∃ d f, OAt w h rn (.ob (instObj 638 d)) ∧ OAt w h d (.di f) ∧ RnF f st ca lim frs cnt
theorem RunD.keeps {w : World} {h h' : Heap} {rn st ca : Addr} {lim frs cnt : Value} (a : RunD w h rn st ca lim frs cnt) (k : Keep h h') : RunD w h' rn st ca lim frs cnt := ⟨let ⟨d, f, a, b, c⟩ := a.ex; ⟨d, f, a.keeps k, b.keeps k, c⟩⟩
noncomputable def C_wholeL (K : Params → Frag) (V : Program) : Prop := ∀ (st : Addr) (gen : Int) (par : Str → List Str) (cod : Str → Option Addr) (p : Str) (u : Tok) (ln : Str → List Str), LinesOk par ln → TxtOk p → p ≠ univ → Tri K V 357 6 [.ref st, .str p u] [] (fun w g => StashD w g st gen par cod) (fun _ k => ∀ D ys, StrsAre ys (ln p ++ [univ]) → k (.ref D) [(D, .li ys)])
noncomputable def C_is_derivedR (K : Params → Frag) (V : Program) : Prop := ∀ (st : Addr) (gen : Int) (par : Str → List Str) (cod : Str → Option Addr) (ln : Str → List Str) (r x dx C : Addr) (f : Str → Option Value) (t : Th) (k : Str) (u : Tok), LinesOk par ln → ThIn t → Tri K V 406 7 [.ref st, .ref r, .str k u] [] (fun w g => StashD w g st gen par cod ∧ RefAt w g r x ∧ ThAt w g x dx C f t) (fun _ q => q (.bool (derT ln t k)) [])
noncomputable def C_is_derivedP (K : Params → Frag) (V : Program) : Prop := ∀ (st : Addr) (gen : Int) (par : Str → List Str) (cod : Str → Option Addr) (ln : Str → List Str) (v : Value) (x k : Str) (u : Tok), LinesOk par ln → Plain v → textP v = some x → TxtOk x → x ≠ univ → Tri K V 406 7 [.ref st, v, .str k u] [] (fun w g => StashD w g st gen par cod) (fun _ q => q (.bool (derP ln x k)) [])
noncomputable def C_is_derived (K : Params → Frag) (V : Program) : Prop := ∀ (st : Addr) (gen : Int) (par : Str → List Str) (cod : Str → Option Addr) (ln : Str → List Str) (v : Value) (d : Str → Bool) (o : Option Th) (k : Str) (u : Tok), LinesOk par ln → Tri K V 406 7 [.ref st, v, .str k u] [] (fun w g => StashD w g st gen par cod ∧ AnyV w g ln v d o) (fun _ q => q (.bool (d k)) [])
noncomputable abbrev isaPre (st rn ca a : Addr) (gen : Int) (par : Str → List Str) (cod : Str → Option Addr) (ln : Str → List Str) (v : Value) (d : Str → Bool) (o : Option Th) (k : Str) (u : Tok) (lim frs cnt : Value) (w : World) (g : Heap) : Prop := StashD w g st gen par cod ∧ AnyV w g ln v d o ∧ RunD w g rn st ca lim frs cnt ∧ FL w g a [v, .str k u]
noncomputable def C_universal_isa (K : Params → Frag) (V : Program) : Prop := ∀ (st rn ca a : Addr) (gen : Int) (par : Str → List Str) (cod : Str → Option Addr) (ln : Str → List Str) (v : Value) (d : Str → Bool) (o : Option Th) (k : Str) (u : Tok) (lim frs cnt want : Value), LinesOk par ln → TxtOk k → Tri K V 413 8 [.ref rn, .ref a, want] [] (isaPre st rn ca a gen par cod ln v d o k u lim frs cnt) (fun _ q => ∀ v, IsV (truP (d k)) v → q v [])
noncomputable def C_isa_func (K : Params → Frag) (V : Program) : Prop := ∀ (st rn ca a : Addr) (gen : Int) (par : Str → List Str) (cod : Str → Option Addr) (ln : Str → List Str) (v : Value) (d : Str → Bool) (o : Option Th) (k : Str) (u : Tok) (lim frs cnt want : Value), LinesOk par ln → TxtOk k → Tri K V 504 8 [.ref rn, .ref a, want] [] (isaPre st rn ca a gen par cod ln v d o k u lim frs cnt) (fun _ q => ∀ v, IsV (isaP' (d k) (o.bind (·.own))) v → q v [])
noncomputable def toldL (o : Option Th) (b : Bool) : List Pv := match o with
  | none => [.s (Str.ofString ""), .n, .n, .n, .s (Str.ofString ""), truP b]
  | some t => [.s (refW t), ownP t.own, .s t.word, .i t.num, isaP' b t.own, truP b]
noncomputable def C_told (K : Params → Frag) (V : Program) : Prop := ∀ (st rn ca : Addr) (gen : Int) (par : Str → List Str) (cod : Str → Option Addr) (ln : Str → List Str) (v : Value) (d : Str → Bool) (o : Option Th) (k : Str) (u : Tok) (lim frs cnt : Value), LinesOk par ln → TxtOk k → Tri K V 782 9 [.ref rn, v, .str k u] []
  (fun w g => StashD w g st gen par cod ∧ AnyV w g ln v d o ∧ RunD w g rn st ca lim frs cnt) (fun _ q => ∀ l vs, AreVs (toldL o (d k)) vs → q (.ref l) [(l, .li vs)])
theorem c_wholeL {K : Params → Frag} {V : Program} (HK : KOk K) : C_wholeL K V := by
  intro st gen par cod p u ln ok hp hpu
  refine elEA (ok.run p hpu) ?_; rintro N hN hr
  exact c_whole_line HK st gen par cod p u N (ln p) hp ok.pok hN hr ok.univ (ok.nu p hpu) (by have := ok.len p; omega)
theorem c_is_derivedR {K : Params → Frag} {V : Program} (HK : KOk K) : C_is_derivedR K V := by
  intro st gen par cod ln r x dx C f t k u ok hok
  k_extra "IN 406"
  refine elAA hP ?_; (try clear hP); rintro hst hr hT
  obtain ⟨dr, fr, r1, r2, r3⟩ := id hr
  obtain ⟨h1, h2, ⟨_, v, h4, h5⟩, hS⟩ := id hT
  have hC := hS.cls
  unfold derT at hk
  rcases ho : t.own with _ | o
  · rw [ho] at h5 hk
    cases h5
    k_extra "go"
    all_goals (simp only [*] at hk; exact fin_mk hk .nil)
  · rw [ho] at h5 hk
    have ho1 := hok.ok.own o ho
    have ho2 := hok.nu o ho
    cases h5
    k_extra "go"
    · simp only [*] at hk; exact fin_mk hk .nil
    · simp only [b9, Bool.false_or] at hk; exact fin_mk hk (by k_extra "cut")
theorem c_is_derivedP {K : Params → Frag} {V : Program} (HK : KOk K) : C_is_derivedP K V := by
  intro st gen par cod ln v x k u ok hpl htx hx hxu
  have hx' : x.length ≤ 40 := hx
  rcases hpl.ways with rfl | ⟨i, t, rfl⟩ | ⟨y, t, rfl⟩
  · cases htx
    k_extra "IN 406"
    k_extra "go"
    exact fin_mk hk .nil
  · k_extra "IN 406"
    unfold derP at hk
    k_extra "go"
    · rw [b9] at hk; exact fin_mk hk (by k_extra "cut")
    · rw [b9] at hk ⊢; exact fin_mk hk .nil
  · cases htx
    k_extra "IN 406"
    unfold derP at hk
    k_extra "go"
    · rw [b9] at hk; exact fin_mk hk (by k_extra "cut")
    · rw [b9] at hk ⊢; exact fin_mk hk .nil
theorem c_is_derived {K : Params → Frag} {V : Program} (HK : KOk K) : C_is_derived K V := by
  intro st gen par cod ln v d o k u ok w mean mg mb A g s q R hC hz hd hu LG zI1; refine elA zI1 ?_; (try clear zI1); rintro hst ha
  cases ha with
  | ref a b c => exact c_is_derivedR HK st gen par cod ln _ _ _ _ _ _ k u ok c w mean mg mb A g s q R hC hz hd hu LG ⟨hst, a, b⟩
  | plain a b c e => exact c_is_derivedP HK st gen par cod ln v _ k u ok a b c e w mean mg mb A g s q R hC hz hd hu LG hst
theorem c_universal_isa {K : Params → Frag} {V : Program} (HK : KOk K) : C_universal_isa K V := by
  intro st rn ca a gen par cod ln v d o k u lim frs cnt want ok hk40
  k_extra "IN 413"
  refine elAAA hP ?_; (try clear hP); rintro hst hv ⟨dr, fr, a1, b1, ⟨h1, h2, h3, h4, h5⟩⟩ hl
  have e2 : (((([v, .str k u] : List Value).length : Nat) : Int) != 2) = false := rfl
  cases id hv with
  | ref r1 r2 r3 => obtain ⟨dr, fr, g1, g2, g3⟩ := id r1; k_extra "go"; all_goals ((generalize derT ln _ k = bb at hk ⊢); cases bb <;> (intro u9; k_extra "go"; exact fin_mk (hk _ (by constructor)) .nil))
  | plain p1 p2 p3 p4 => k_extra "go"; all_goals ((generalize derP ln _ k = bb at hk ⊢); cases bb <;> (intro u9; k_extra "go"; exact fin_mk (hk _ (by constructor)) .nil))
theorem c_isa_func {K : Params → Frag} {V : Program} (HK : KOk K) : C_isa_func K V := by
  intro st rn ca a gen par cod ln v d o k u lim frs cnt want ok hk40
  k_extra "IN 504"
  refine elAAA hP ?_; (try clear hP); rintro hst hv ⟨dr, fr, a1, b1, ⟨h1, h2, h3, h4, h5⟩⟩ hl
  cases id hv with
  | @ref _ _ _ _ _ t r1 r2 r3 =>
    obtain ⟨dr, fr, g1, g2, g3⟩ := id r1
    k_extra "go"
    unfold isaP' at hk
    rw [show ((some t).bind fun x => x.own) = t.own from rfl] at hk
    generalize t.own = oo at hv9 hk
    cases hv9 with
    | none => k_extra "go"; exact fin_mk (hk _ .s) .nil
    | some p u => k_extra "go"; (generalize derT ln t k = bb at hk ⊢); cases bb <;> (intro u9; k_extra "go"; exact fin_mk (hk _ (by constructor)) .nil)
  | plain p1 p2 p3 p4 => k_extra "go"; exact fin_mk (hk _ .s) .nil
theorem c_told {K : Params → Frag} {V : Program} (HK : KOk K) : C_told K V := by
  intro st rn ca gen par cod ln v d o k u lim frs cnt ok hk40
  k_extra "IN 782"
  refine elAA hP ?_; (try clear hP); rintro hst hv hr
  cases id hv with
  | ref r1 r2 r3 => k_extra "go"; refine fin_mk (hk _ _ ?z) (by k_extra "cut"); exact (.cons .s (.cons (IsOwn.isV (by assumption)) (.cons .s (.cons .i (.cons (by assumption) (.cons (by assumption) .nil))))))
  | plain p1 p2 p3 p4 => k_extra "go"; refine fin_mk (hk _ _ ?z2) (by k_extra "cut"); exact (.cons .s (.cons .n (.cons .n (.cons .n (.cons (by assumption) (.cons (by assumption) .nil))))))
structure ParD (w : World) (h : Heap) (pd : Addr) (par : Str → List Str) : Prop where
  ex : ∃ kvs, OAt w h pd (.sd kvs) ∧ ∀ p, (valueAt kvs p = none ∧ par p = []) ∨ ∃ l vs, valueAt kvs p = some (.ref l) ∧ FL w h l vs ∧ StrsAre vs (par p)
theorem ParD.keeps {w : World} {h h' : Heap} {pd : Addr} {par : Str → List Str} (x : ParD w h pd par) (k : Keep h h') : ParD w h' pd par :=
  let ⟨pf, a, c⟩ := x.ex
  ⟨pf, a.keeps k, fun p => (c p).imp id fun ⟨l, vs, q1, q2, q3⟩ => ⟨l, vs, q1, q2.keeps k, q3⟩⟩
noncomputable def aboveF (par : Str → List Str) (n : Nat) (p : Str) : List Str := match n with
  | 0 => [p]
  | n + 1 => (par p).foldl (fun line q => line ++ (aboveF par n q).filter (fun z => !decide (z ∈ line))) [p]
noncomputable def aboveI (par : Str → List Str) (n : Nat) (p : Str) (i : Nat) : List Str := ((par p).take i).foldl (fun line q => line ++ (aboveF par n q).filter (fun z => !decide (z ∈ line))) [p]
noncomputable def Deep (par : Str → List Str) (n : Nat) (p : Str) : Prop := match n with
  | 0 => False
  | n + 1 => ∀ q ∈ par p, Deep par n q
noncomputable def C_above (K : Params → Frag) (V : Program) (n : Nat) : Prop := ∀ (pd : Addr) (par : Str → List Str) (p : Str) (u : Tok), Deep par n p → (∀ m q, (aboveF par m q).length ≤ 100) → (∀ q, (par q).length ≤ 2) → Tri K V 768 n [.ref pd, .str p u] [] (fun w g => ParD w g pd par) (fun _ k => ∀ D ys, StrsAre ys (aboveF par n p) → k (.ref D) [(D, .li ys)])
theorem aboveI_take (par : Str → List Str) (n : Nat) (p q : Str) (i : Nat) (h : (par p)[i]? = some q) : aboveI par n p (i + 1) = aboveI par n p i ++ (aboveF par n q).filter (fun z => !decide (z ∈ aboveI par n p i)) := by
  unfold aboveI
  rw [List.take_add_one, h, List.foldl_append]; rfl
noncomputable def AbJ (g : Heap) (par : Str → List Str) (n : Nat) (p : Str) (lo : List (Str × Value)) (a1 ca : Addr) (i : Nat) (l : List (Str × Value)) (G : Heap) (ld : LD) : Prop :=
  Keep g G ∧ l = lo ∧ ∃ vl, ld = [(a1, .li vl), (ca, .ce (some (.ref a1)))] ∧ StrsAre vl (aboveI par n p i) ∧ vl.length ≤ 1 + 100 * i
noncomputable def C_law_hex (K : Params → Frag) (V : Program) : Prop := ∀ (n : Int) (u : Tok), NumOk n → Tri K V 763 1 [.int n u] [] (fun _ _ => True) (fun _ k => ∀ u, k (.str (hexD n) u) [])
noncomputable def HxJ (n : Int) (u u1 : Tok) (H0 : Heap) (m : Nat) (l : List (Str × Value)) (H : Heap) (ld : LD) : Prop :=
  (m = 1 ∧ l = [(Str.ofString "text", .str (Str.ofString "") u1), (Str.ofString "number", .int n u)] ∧ H = H0 ∧ ld = []) ∨ (m = 0 ∧ (∃ u1 u2, l = [(Str.ofString "number", .int 0 u2), (Str.ofString "text", .str (hexD n) u1)]) ∧ H = H0 ∧ ld = [])
theorem hx_two {v1 v2 v3 v4 : Value} : ∀ p ∈ [(Str.ofString "number", v1), (Str.ofString "text", v2)], lk [(Str.ofString "number", v1), (Str.ofString "text", v2), (Str.ofString "text", v3), (Str.ofString "number", v4)] p.1 = some p.2 := by
  intro p hp
  rcases List.mem_cons.mp hp with rfl | hp
  · rfl
  · cases List.mem_singleton.mp hp; rfl
noncomputable def C_take (K : Params → Frag) (V : Program) : Prop := ∀ (sl sp : Addr) (vs : List Value) (ns : List Int) (n lim : Int) (t tl : Tok), 0 ≤ n → n ≤ 1000 → 1 ≤ lim → lim ≤ 9 → IntsAre vs ns → ns.length ≤ 63 →
  Tri K V 756 2 [.ref sl, .ref sp, .int lim tl] [(sp, .li [.int n t])] (fun w g => FL w g sl vs) (fun _ k => ∀ i u t', 0 ≤ i → i < lim → k (.int i u) [(sp, .li [.int (n + 1) t'])])
theorem fmod_rng (a : Int) {b : Int} (h : 1 ≤ b) : 0 ≤ a.fmod b ∧ a.fmod b < b := ⟨Int.fmod_nonneg_of_pos a (by omega), Int.fmod_lt_of_pos a (by omega)⟩
noncomputable def sortsP : List Str := [Str.ofString "SCALAR", Str.ofString "SCALAR", Str.ofString "ARRAY", Str.ofString "HASH", Str.ofString "CODE", Str.ofString "GLOB"]
noncomputable def C_law_sorts (K : Params → Frag) (V : Program) : Prop := Tri K V 749 1 [] [] (fun _ _ => True) (fun _ k => ∀ D ys, StrsAre ys sortsP → k (.ref D) [(D, .li ys)])
theorem c_above {K : Params → Frag} {V : Program} (HK : KOk K) : ∀ n, n ≤ 40 → C_above K V n
  | 0, _ => fun _ _ _ _ h => h.elim
  | n + 1, hn => by
    have ih : C_above K V n := c_above HK n (by omega)
    intro pd par p u hdp hlen h2
    k_extra "IN 768"
    obtain ⟨kvs, hkv, hp⟩ := hP.ex
    rcases hp p with ⟨hpn, hpe⟩ | ⟨l, vs, hpn, hl, hS⟩
    · k_extra "go"
      k_extra "st"
      refine e_forL (vs := []) 4000 (AbJ c.g par n p _ _ _) Z rfl (Cut.cons (Pk.tail Pk.head) (Cut.cons (Pk.tail Pk.head) Cut.nil)) (fun G kG hG => ⟨⟨_, hG _ (.head _), rfl⟩, kG, rfl, _, rfl, .cons .nil, by simp⟩) ?_ ?_
      · intro i v I io l G ld hv; simp at hv
      · rintro _ G _ ⟨kG, rfl, vl, rfl, hSl, _⟩
        k_extra "go"
        exact fin_mk (hk _ _ (by rw [aboveF, hpe]; exact hSl)) (by k_extra "cut")
    · k_extra "go"
      k_extra "st"
      refine e_forL (vs := vs) 4000 (AbJ c.g par n p _ _ _) Z rfl (Cut.cons (Pk.tail Pk.head) (Cut.cons (Pk.tail Pk.head) Cut.nil)) (fun G kG hG => ⟨hl.keeps kG, kG, rfl, _, rfl, .cons .nil, by simp⟩) ?_ ?_
      · rintro i v I io _ G _ hv ⟨kG, rfl, vl, rfl, hSl, hvl⟩
        obtain ⟨q, t, hq, rfl⟩ := hS.at_ hv
        have hi2 : i < 2 := Nat.lt_of_lt_of_le (List.getElem?_eq_some_iff.mp hq).1 (h2 p)
        have hdq : Deep par n q := hdp q (List.mem_of_getElem? hq)
        have hP' := hP.keeps kG
        k_extra "go"
        k_extra "st"
        refine lc_filter (fun z => !decide (z ∈ aboveI par n p i)) 4000 Z hcl (fun _ => by with_unfolding_all rfl) rfl ?_
        k_extra "go"
        have hl9 := hS9.length
        have hlq := hlen n q
        k_extra "st"
        refine lcMk (by k_extra "hl") hS9 (by omega) (tst_notin rfl rfl (fun _ => rfl) rfl rfl (by k_extra "mm") (by k_extra "hl") hSl) ?_
        intro D ys hys
        have hyl := hys.length
        have hlf := List.length_filter_le (fun z => !decide (z ∈ aboveI par n p i)) (aboveF par n q)
        k_extra "go"
        k_extra "st"; exact forMk (n := 1) rfl rfl (by k_extra "cut") fun G' k _ => ⟨kG.trans k, rfl, _, rfl, by rw [aboveI_take par n p q i hq]; exact hSl.append hys, by rw [List.length_append]; omega⟩
      · rintro _ G _ ⟨kG, rfl, vl, rfl, hSl, _⟩
        k_extra "go"
        have e : aboveF par (n + 1) p = aboveI par n p vs.length := by rw [aboveF, aboveI, hS.length, List.take_length]
        exact fin_mk (hk _ _ (by rw [e]; exact hSl)) (by k_extra "cut")
theorem c_law_hex {K : Params → Frag} {V : Program} (HK : KOk K) : C_law_hex K V := by
  intro n u hn; k_extra "IN 763"
  rcases hn with rfl | rfl | rfl | rfl | rfl | rfl
  all_goals
    k_extra "go"
    k_extra "st"
    refine e_while 4000 (HxJ _ _ _ _) 1 Z Cut.all9 (.inl ⟨rfl, rfl, rfl, rfl⟩) ?_
    rintro m l H ld (⟨rfl, rfl, rfl, rfl⟩ | ⟨rfl, ⟨u1, u2, rfl⟩, rfl, rfl⟩)
    · k_extra "go"
      exact .mk ⟨0, _, [], [], Nat.zero_lt_one, hx_two, Cut.nil, .inr ⟨rfl, ⟨_, _, rfl⟩, rfl, rfl⟩⟩
    · k_extra "go"; exact fin_mk (hk _) .nil
theorem c_law_sorts {K : Params → Frag} {V : Program} (HK : KOk K) : C_law_sorts K V := by
  k_extra "IN 749"; k_extra "go"; exact fin_mk (hk _ _ (.cons (.cons (.cons (.cons (.cons (.cons .nil))))))) (by k_extra "cut")
theorem c_take {K : Params → Frag} {V : Program} (HK : KOk K) : C_take K V := by
  intro sl sp vs ns n lim t tl h0 h1 h2 h3 hI hlen
  k_extra "IN 756"
  have hvl := IntsAre.length hI
  have hl0 : (lim == 0) = false := by rw [beq_eq_false_iff_ne]; omega
  by_cases hlt : n < (vs.length : Int)
  · have hb : decide (n < (vs.length : Int)) = true := decide_eq_true hlt
    obtain ⟨v, hv⟩ : ∃ v, vs[n.toNat]? = some v := ⟨_, List.getElem?_eq_getElem (by omega)⟩
    refine elEEA (IntsAre.at hI _ _ hv) ?_; rintro m u rfl _
    k_extra "go"
    exact fin_mk (hk _ _ _ (fmod_rng _ h2).1 (fmod_rng _ h2).2) (by k_extra "cut")
  · have hb : decide (n < (vs.length : Int)) = false := decide_eq_false hlt
    k_extra "go"
    exact fin_mk (hk _ _ _ (fmod_rng _ h2).1 (fmod_rng _ h2).2) (by k_extra "cut")
structure AboveOk (par ln : Str → List Str) (n : Nat) : Prop where
  deep : ∀ p, Deep par n p
  len : ∀ m q, (aboveF par m q).length ≤ 100
  two : ∀ q, (par q).length ≤ 2
  eq : ∀ p, p ≠ univ → aboveF par n p = ln p
  n40 : n ≤ 40
structure BookP (w : World) (h : Heap) (bk pd : Addr) : Prop where
  ex : ∃ kvs, OAt w h bk (.sd kvs) ∧ valueAt kvs (Str.ofString "parents") = some (.ref pd)
noncomputable def C_plain_same (K : Params → Frag) (V : Program) (n : Nat) : Prop := ∀ (st : Addr) (gen : Int) (par : Str → List Str) (cod : Str → Option Addr) (ln : Str → List Str) (v : Value) (x k : Str) (u : Tok) (rn ca bk pd : Addr) (lim frs cnt : Value), LinesOk par ln → AboveOk par ln n → TxtOk k → k ≠ univ → Plain v → textP v = some x → TxtOk x → x ≠ univ →
  Tri K V 794 (n + 20) [.ref rn, .ref bk, v, .str k u] [] (fun w g => StashD w g st gen par cod ∧ RunD w g rn st ca lim frs cnt ∧ BookP w g bk pd ∧ ParD w g pd par) (fun _ q => q (.bool true) [])
theorem derP_no {ln : Str → List Str} {x k : Str} (h : (x != Str.ofString "") = false) : derP ln x k = false := by unfold derP; rw [h]; rfl
theorem derP_is {ln par : Str → List Str} {n : Nat} {x k : Str} (ab : AboveOk par ln n) (hk : k ≠ univ) (hx : x ≠ univ) (h : (x != Str.ofString "") = true) : derP ln x k = decide (k ∈ aboveF par n x) := by
  unfold derP; rw [h, ab.eq x hx]; simp [hk]
theorem c_plain_same {K : Params → Frag} {V : Program} (HK : KOk K) (n : Nat) (hn : n ≤ 40) : C_plain_same K V n := by
  intro st gen par cod ln v x k u rn ca bk pd lim frs cnt ok ab hk40 hku hpl htx hx hxu
  have c2 : C_above K V n := c_above HK n hn
  k_extra "IN 794"
  refine elAAA hP ?_; (try clear hP); rintro hst hrn ⟨bf, hbm, hb1⟩ hpd
  have hav : AnyV c.w c.g ln v (derP ln x) none := .plain hpl htx hx hxu
  have hdp := ab.deep x
  have hln := ab.len
  have htw := ab.two
  have e0 : ∀ b : Bool, b = derP ln x k → ∀ v, IsV (truP b) v → IsV (truP (derP ln x k)) v := fun b e _ h => e ▸ h
  rcases hpl.ways with rfl | ⟨i, t, rfl⟩ | ⟨y, t, rfl⟩
  · cases htx
    have hd : derP ln (Str.ofString "") k = false := derP_no rfl
    k_extra "go"
    k_extra "eq"
    · exact .cons .s (.cons .n (.cons .n (.cons .n (.cons .s (.cons (e0 _ hd.symm _ .s) .nil)))))
    · exact fin_mk hk .nil
  · have hi : i = 0 ∧ x = Str.ofString "0" := by
      unfold textP at htx
      split at htx
      · rename_i h; cases h
      · rename_i h; cases h; cases htx; exact ⟨rfl, rfl⟩
      · rename_i h; cases h
      · cases htx
    refine elA hi ?_; (try clear hi); rintro rfl rfl
    k_extra "go"
    all_goals
      have hd := derP_is ab hku hxu (k := k) rfl
      k_extra "eq"
      · refine .cons .s (.cons .n (.cons .n (.cons .n (.cons .s (.cons (e0 _ (by rw [hd, b9]) _ ?_) .nil)))))
        constructor
      · exact fin_mk hk .nil
  · cases htx
    cases hy : (x != Str.ofString "") with
    | false =>
      k_extra "go"
      have hd := derP_no (ln := ln) (k := k) hy
      k_extra "eq"
      · exact .cons .s (.cons .n (.cons .n (.cons .n (.cons .s (.cons (e0 _ hd.symm _ .s) .nil)))))
      · exact fin_mk hk .nil
    | true =>
      k_extra "go"
      all_goals
        have hd := derP_is ab hku hxu (k := k) hy
        k_extra "eq"
        · refine .cons .s (.cons .n (.cons .n (.cons .n (.cons .s (.cons (e0 _ (by rw [hd, b9]) _ ?_) .nil)))))
          constructor
        · exact fin_mk hk .nil
noncomputable def Fnd (w : World) (g : Heap) (o : Option (Str × Addr)) (v : Value) : Prop := match o with
  | none => v = .none
  | some (q, c) => ∃ t u, v = .ref t ∧ OAt w g t (.ob (tupOf [.ref c, .str q u]))
theorem Fnd.keeps {w : World} {g g' : Heap} {o : Option (Str × Addr)} {v : Value} (x : Fnd w g o v) (k : Keep g g') : Fnd w g' o v := by
  cases o with
  | none => exact x
  | some p => obtain ⟨t, u, e, y⟩ := x; exact ⟨t, u, e, y.keeps k⟩
noncomputable def GoodX (w : World) (g : Heap) (cod : Str → Option Addr) (xs : CX) : Prop := ∀ x ∈ xs, x.1.1 = Str.ofString "DESTROY" → Fnd w g (search cod x.1.2) x.2.2
theorem Hd.keeps {w : World} {g g' : Heap} {ld : LD} {a : Addr} {d : Ds} (x : Hd w g ld a d) (k : Keep g g') : Hd w g' ld a d := by
  cases x with
  | h x => exact .h (x.keeps k)
  | l x => exact .l x
theorem PrAt.keeps {w : World} {g g' : Heap} {ld : LD} {k : Str × List Str} {a : Addr} (x : PrAt w g ld k a) (q : Keep g g') : PrAt w g' ld k a := let ⟨u, b, vs, y, z, s⟩ := x.ex; ⟨u, b, vs, y.keeps q, z.keeps q, s⟩
theorem Hd.up {w : World} {g : Heap} {ld : LD} {a : Addr} {d : Ds} (x : Hd w g [] a d) : Hd w g ld a d := by
  cases x with
  | h x => exact .h x
  | l x => exact nomatch x
theorem PrAt.up {w : World} {g : Heap} {ld : LD} {k : Str × List Str} {a : Addr} (x : PrAt w g [] k a) : PrAt w g ld k a := let ⟨u, b, vs, y, z, s⟩ := x.ex; ⟨u, b, vs, y.up, z.up, s⟩
theorem pr_mk {w : World} {g : Heap} {ld : LD} {x : Str} {xs : List Str} {t t2 : Addr} {u : Tok} {vs : List Value} (h1 : (t, Ds.ob (tupOf [.str x u, .ref t2])) ∈ ld) (h2 : (t2, Ds.ob (tupOf vs)) ∈ ld) (hS : StrsAre vs xs) : PrAt w g ld (x, xs) t := ⟨_, _, _, .l h1, .l h2, hS⟩
theorem keys_nil {w : World} {g : Heap} {ld : LD} : ∀ x ∈ ([] : CX), PrAt w g ld x.1 x.2.1 := fun _ h => nomatch h
theorem atKey_nil {k : Str × List Str} : atKey ([] : CX) k = none := rfl
noncomputable abbrev Keys (w : World) (g : Heap) (xs : CX) : Prop := ∀ x ∈ xs, PrAt w g [] x.1 x.2.1
theorem PrAt.ups {w : World} {g : Heap} {ld : LD} {xs : CX} (h : Keys w g xs) : ∀ x ∈ xs, PrAt w g ld x.1 x.2.1 := fun x hx => (h x hx).up
theorem Hd.fz {w : World} {g G : Heap} {ld R : LD} {a : Addr} {d : Ds} (x : Hd w g ld a d) (k : Keep g G) (h : ∀ d, (a, d) ∈ ld → OAt w G a d) : Hd w G [] a d := by
  cases x with
  | h x => exact .h (x.keeps k)
  | l x => exact .h (h _ x)
theorem keys_new {w : World} {g : Heap} {ld : LD} {xs : CX} {k : Str × List Str} {t : Addr} {v : Value} (ha : atKey xs k = none) (hk : ∀ x ∈ xs, PrAt w g ld x.1 x.2.1) (hkey : PrAt w g ld k t) : ∀ x ∈ storedH xs k t v, PrAt w g ld x.1 x.2.1 := by
  rw [storedH_new ha]
  intro x hx
  rcases List.mem_append.mp hx with hx | hx
  · exact hk x hx
  · cases List.mem_singleton.mp hx; exact hkey
theorem atKey_new {xs : CX} {k : Str × List Str} {t : Addr} {v : Value} (h : atKey xs k = none) : atKey (storedH xs k t v) k = some (t, v) := by
  rw [storedH_new h]
  unfold atKey at h ⊢
  rw [List.find?_append]
  rw [Option.map_eq_none_iff] at h
  rw [h]; simp
structure CaP (w : World) (g : Heap) (f : Str → Option Value) (tb : Addr) (xs : CX) (gen : Int) (cod : Str → Option Addr) (N : Nat) : Prop where
  gen : ∃ g0 u, f (Str.ofString "generation") = some (.int g0 u) ∧ (g0 = gen → GoodX w g cod xs)
  table : f (Str.ofString "table") = some (.ref tb)
  m1 : f (Str.ofString "find") = none
  keys : Keys w g xs
  len : xs.length ≤ N
theorem CaP.keeps {w : World} {g g' : Heap} {f : Str → Option Value} {tb : Addr} {xs : CX} {gen : Int} {cod : Str → Option Addr} {N : Nat} (x : CaP w g f tb xs gen cod N) (k : Keep g g') : CaP w g' f tb xs gen cod N :=
  ⟨let ⟨a, b, c, d⟩ := x.gen; ⟨a, b, c, fun e y hy q => (d e y hy q).keeps k⟩, x.table, x.m1, fun y hy => (x.keys y hy).keeps k, x.len⟩
noncomputable abbrev CaN (w : World) (f : Str → Option Value) (tb : Addr) (xs : CX) (gen : Int) (cod : Str → Option Addr) (N : Nat) (f' : Str → Option Value) (tb' : Addr) (xs' : CX) (R : LD) : Prop := ∀ G, CaP w G f tb xs gen cod N → Has w G R → CaP w G f' tb' xs' gen cod (N + 1)
theorem CaP.more {w : World} {g : Heap} {f : Str → Option Value} {tb : Addr} {xs : CX} {gen : Int} {cod : Str → Option Addr} {N : Nat} (x : CaP w g f tb xs gen cod N) : CaP w g f tb xs gen cod (N + 1) := ⟨x.gen, x.table, x.m1, x.keys, Nat.le_succ_of_le x.len⟩
noncomputable def FndV (w : World) (f : Str → Option Value) (tb : Addr) (xs : CX) (gen : Int) (cod : Str → Option Addr) (N : Nat) (R : LD) (o : Option (Str × Addr)) (v : Value) : Prop := match o with
  | none => v = .none
  | some (q, c) => ∃ t, v = .ref t ∧ ((∃ u, (t, Ds.ob (tupOf [.ref c, .str q u])) ∈ R) ∨ ∀ G, CaP w G f tb xs gen cod N → ∃ u, OAt w G t (.ob (tupOf [.ref c, .str q u])))
theorem good_new {w : World} {G : Heap} {cod : Str → Option Addr} {xs : CX} {k : Str × List Str} {t : Addr} {v : Value} (ha : atKey xs k = none) (h : GoodX w G cod xs) (h2 : Fnd w G (search cod k.2) v) : GoodX w G cod (storedH xs k t v) := by
  rw [storedH_new ha]
  intro x hx e
  rcases List.mem_append.mp hx with hx | hx
  · exact h x hx e
  · cases List.mem_singleton.mp hx; exact h2
theorem fnd_of {w : World} {f : Str → Option Value} {tb : Addr} {xs : CX} {gen : Int} {cod : Str → Option Addr} {N : Nat} {R : LD} {o : Option (Str × Addr)} {v : Value} {G : Heap} (x : FndV w f tb xs gen cod N R o v) (c : CaP w G f tb xs gen cod N) (h : Has w G R) : Fnd w G o v := by
  cases o with
  | none => exact x
  | some p =>
    refine elEA x ?_; (try clear x); rintro t e y
    rcases y with ⟨u, m⟩ | y
    · exact ⟨t, u, e, h _ m⟩
    · refine elE (y G c) ?_; rintro u y; exact ⟨t, u, e, y⟩
theorem fnd_hit {w : World} {f : Str → Option Value} {tb : Addr} {xs : CX} {gen g0 : Int} {cod : Str → Option Addr} {N : Nat} {g : Heap} {fin : List Str} {p : Addr × Value} {ug : Tok} (hq : atKey xs (Str.ofString "DESTROY", fin) = some p) (hca : CaP w g f tb xs gen cod N) (h1 : f (Str.ofString "generation") = some (.int g0 ug)) (hg : g0 = gen) : FndV w f tb xs gen cod N [] (search cod fin) p.2 := by
  have key : ∀ G, CaP w G f tb xs gen cod N → Fnd w G (search cod fin) p.2 := fun G c => by
    refine elEEA c.gen ?_; rintro g1 u' a b
    rw [h1] at a
    cases a
    unfold atKey at hq
    refine elEA (Option.map_eq_some_iff.mp hq) ?_; rintro x hx rfl
    have e : x.1 = (Str.ofString "DESTROY", fin) := by have := List.find?_some hx; simpa using this
    have := b hg x (List.mem_of_find?_eq_some hx) (by rw [e])
    rwa [e] at this
  have h := key g hca
  cases ho : search cod fin with
  | none => rw [ho] at h; exact h
  | some q =>
    rw [ho] at h
    refine elEEA h ?_; (try clear h); rintro t u e _
    refine ⟨t, e, .inr fun G c => ?_⟩
    have h := key G c
    rw [ho] at h
    refine elEEA h ?_; (try clear h); rintro t' u' e' y
    rw [e] at e'; cases e'
    exact ⟨u', y⟩
theorem pr_fz {w : World} {G : Heap} {R : LD} {x : Str} {xs : List Str} {t t2 : Addr} {u : Tok} {vs : List Value} (h : Has w G R) (h1 : (t, Ds.ob (tupOf [.str x u, .ref t2])) ∈ R) (h2 : (t2, Ds.ob (tupOf vs)) ∈ R) (hS : StrsAre vs xs) : PrAt w G [] (x, xs) t := ⟨_, _, _, .h (h _ h1), .h (h _ h2), hS⟩
theorem caN_same {w : World} {f : Str → Option Value} {tb : Addr} {xs : CX} {gen : Int} {cod : Str → Option Addr} {N : Nat} {R : LD} {k : Str × List Str} {t : Addr} {v : Value} (ha : atKey xs k = none) (hp : ∀ G, Has w G R → PrAt w G [] k t) (hv : FndV w f tb xs gen cod N R (search cod k.2) v) : CaN w f tb xs gen cod N f tb (storedH xs k t v) R := fun G c h =>
  ⟨let ⟨g0, u, a, b⟩ := c.gen; ⟨g0, u, a, fun e => good_new ha (b e) (fnd_of hv c h)⟩, c.table, c.m1, keys_new ha c.keys (hp G h), by rw [storedH_new ha, List.length_append]; have := c.len; simp; omega⟩
theorem caN_new {w : World} {f : Str → Option Value} {tb tb' : Addr} {xs : CX} {gen : Int} {cod : Str → Option Addr} {N : Nat} {R : LD} {k : Str × List Str} {t : Addr} {v : Value} {u : Tok} (hp : ∀ G, Has w G R → PrAt w G [] k t) (hv : FndV w f tb xs gen cod N R (search cod k.2) v) : CaN w f tb xs gen cod N (upd (Str.ofString "table") (.ref tb') (upd (Str.ofString "generation") (.int gen u) f)) tb' (storedH [] k t v) R := fun G c h =>
  ⟨⟨gen, u, rfl, fun _ => good_new rfl (fun _ h => nomatch h) (fnd_of hv c h)⟩, rfl, c.m1, keys_new rfl (fun _ h => nomatch h) (hp G h), by rw [storedH_new rfl]; exact Nat.succ_le_succ (Nat.zero_le _)⟩
noncomputable def C_find (K : Params → Frag) (V : Program) : Prop := ∀ (st ca dc tb l : Addr) (gen : Int) (par : Str → List Str) (cod : Str → Option Addr) (vs : List Value) (fin : List Str) (u : Tok) (N : Nat) (f : Str → Option Value) (xs : CX), (∀ q ∈ fin, TxtOk q) → fin.length ≤ 100 → N ≤ 1000 → StrsAre vs fin →
  Tri K V 385 3 [.ref ca, .ref st, .ref l, .str (Str.ofString "DESTROY") u] [(dc, .di f), (tb, .tb xs)] (fun w g => StashD w g st gen par cod ∧ FL w g l vs ∧ OAt w g ca (.ob (instObj 388 dc)) ∧ CaP w g f tb xs gen cod N)
    (fun w q => ∀ v f' tb' xs' R, CaN w f tb xs gen cod N f' tb' xs' R → FndV w f tb xs gen cod N R (search cod fin) v → q v ((dc, .di f') :: (tb', .tb xs') :: R))
theorem c_find {K : Params → Frag} {V : Program} (HK : KOk K) : C_find K V := by
  intro st ca dc tb l gen par cod vs fin u N f xs hft hfl hN hS
  k_extra "IN 385"
  refine elAAA hP ?_; (try clear hP); rintro hst hl ho hca
  obtain ⟨⟨g0, ug, h1, h1b⟩, h2, h3, hkeys, hlen⟩ := id hca
  refine elEEEEAAAA hst.ex ?_; rintro ds fs gl kvs a b ⟨c1, ⟨us, c2⟩, c3, c4⟩ e _
  have hwt : WantTab := .intro
  have hvl := hS.length
  have hlen2 : xs.length ≤ 10000 := by omega
  by_cases hg : g0 = gen
  · have hb : (g0 != gen) = false := by rw [hg]; simp
    cases hq : atKey xs (Str.ofString "DESTROY", fin) with
    | some p =>
      k_extra "go"
      exact fin_mk (hk _ _ _ _ [] (fun _ h _ => h.more) (fnd_hit hq hca h1 hg)) (by k_extra "cut")
    | none =>
      k_extra "go"
      cases hs : search cod fin with
      | none =>
        k_extra "go"
        have hv : FndV c.w f tb xs gen cod N [(a9, .ob (tupOf [.str (Str.ofString "DESTROY") u, .ref D9])), (D9, .ob (tupOf vs))] (search cod fin) .none := by rw [hs]; rfl
        exact fin_mk (hk _ _ _ _ _ (caN_same hq (fun G h => pr_fz h (.head _) (.tail _ (.head _)) hS) hv) hv) (by k_extra "cut")
      | some q =>
        intro t ut
        k_extra "go"
        have hv : FndV c.w f tb xs gen cod N [(a9, .ob (tupOf [.str (Str.ofString "DESTROY") u, .ref D9])), (D9, .ob (tupOf vs)), (t, .ob (tupOf [.ref q.2, .str q.1 ut]))] (search cod fin) (.ref t) := by rw [hs]; exact ⟨_, rfl, .inl ⟨_, .tail _ (.tail _ (.head _))⟩⟩
        exact fin_mk (hk _ _ _ _ _ (caN_same hq (fun G h => pr_fz h (.head _) (.tail _ (.head _)) hS) hv) hv) (by k_extra "cut")
  · have hb : (g0 != gen) = true := bne_iff_ne.mpr hg
    k_extra "go"
    cases hs : search cod fin with
    | none =>
      k_extra "go"
      have hv : FndV c.w f tb xs gen cod N [(a9, .ob (tupOf [.str (Str.ofString "DESTROY") u, .ref D9])), (D9, .ob (tupOf vs))] (search cod fin) .none := by rw [hs]; rfl
      exact fin_mk (hk _ _ _ _ _ (caN_new (fun G h => pr_fz h (.head _) (.tail _ (.head _)) hS) hv) hv) (by k_extra "cut")
    | some q =>
      intro t ut
      k_extra "go"
      have hv : FndV c.w f tb xs gen cod N [(a9, .ob (tupOf [.str (Str.ofString "DESTROY") u, .ref D9])), (D9, .ob (tupOf vs)), (t, .ob (tupOf [.ref q.2, .str q.1 ut]))] (search cod fin) (.ref t) := by rw [hs]; exact ⟨_, rfl, .inl ⟨_, .tail _ (.tail _ (.head _))⟩⟩
      exact fin_mk (hk _ _ _ _ _ (caN_new (fun G h => pr_fz h (.head _) (.tail _ (.head _)) hS) hv) hv) (by k_extra "cut")
noncomputable def C_find_method (K : Params → Frag) (V : Program) : Prop := ∀ (st ca dc tb : Addr) (gen : Int) (par : Str → List Str) (cod : Str → Option Addr) (ln : Str → List Str) (p : Str) (u u2 : Tok) (N : Nat) (f : Str → Option Value) (xs : CX), LinesOk par ln → TxtOk p → p ≠ univ → N ≤ 1000 →
  Tri K V 399 7 [.ref st, .ref ca, .str p u, .str (Str.ofString "DESTROY") u2] [(dc, .di f), (tb, .tb xs)] (fun w g => StashD w g st gen par cod ∧ OAt w g ca (.ob (instObj 388 dc)) ∧ CaP w g f tb xs gen cod N)
    (fun w q => ∀ f' tb' xs' R, CaN w f tb xs gen cod N f' tb' xs' R → q (codV ((search cod (ln p ++ [univ])).map (·.2))) ((dc, .di f') :: (tb', .tb xs') :: R))
noncomputable def desOf (cod : Str → Option Addr) (ln : Str → List Str) (o : Option Str) : Option Addr := match o with
  | none => none
  | some o => (search cod (ln o ++ [univ])).map (·.2)
noncomputable def C_destroy_code (K : Params → Frag) (V : Program) : Prop := ∀ (st ca dc tb : Addr) (gen : Int) (par : Str → List Str) (cod : Str → Option Addr) (ln : Str → List Str) (x dx C : Addr) (fx : Str → Option Value) (t : Th) (N : Nat) (f : Str → Option Value) (xs : CX), LinesOk par ln → ThIn t → N ≤ 1000 →
  Tri K V 462 8 [.ref st, .ref ca, .ref x] [(dc, .di f), (tb, .tb xs)] (fun w g => StashD w g st gen par cod ∧ OAt w g ca (.ob (instObj 388 dc)) ∧ CaP w g f tb xs gen cod N ∧ ThAt w g x dx C fx t)
    (fun w q => ∀ f' tb' xs' R, CaN w f tb xs gen cod N f' tb' xs' R → q (codV (desOf cod ln t.own)) ((dc, .di f') :: (tb', .tb xs') :: R))
theorem c_find_method {K : Params → Frag} {V : Program} (HK : KOk K) : C_find_method K V := by
  intro st ca dc tb gen par cod ln p u u2 N f xs ok hp hpu hN
  k_extra "IN 399"
  refine elAA hP ?_; (try clear hP); rintro hst ho hca
  have h3 := hca.m1
  have hlen := ok.len p
  have hft : ∀ q ∈ ln p ++ [univ], TxtOk q := fun q hq => (List.mem_append.mp hq).elim (fun h => ok.txt p hp q h) fun h => by cases List.mem_singleton.mp h; exact Nat.le_of_ble_eq_true rfl
  k_extra "go"
  cases hs : search cod (ln p ++ [univ]) with
  | none =>
    rw [hs] at hk hv9
    cases (show v9 = .none from hv9)
    k_extra "go"
    exact fin_mk (hk _ _ _ _ hn9) (by k_extra "cut")
  | some q =>
    rw [hs] at hk hv9
    obtain ⟨t, rfl, ⟨ut, hm⟩ | hm⟩ := (show ∃ t, v9 = .ref t ∧ _ from hv9)
    · k_extra "go"
      exact fin_mk (hk _ _ _ _ hn9) (by k_extra "cut")
    · refine elE (hm _ hca) ?_; rintro ut hm
      k_extra "go"
      exact fin_mk (hk _ _ _ _ hn9) (by k_extra "cut")
theorem c_destroy_code {K : Params → Frag} {V : Program} (HK : KOk K) : C_destroy_code K V := by
  intro st ca dc tb gen par cod ln x dx C fx t N f xs ok hok hN
  k_extra "IN 462"
  refine elAAA hP ?_; (try clear hP); rintro hst ho hca hT
  obtain ⟨h1, h2, ⟨_, v, h4, h5⟩, hS⟩ := id hT
  have hC := hS.cls
  cases hx : t.own with
  | none =>
    rw [hx] at h5 hk
    cases h5
    k_extra "go"
    exact fin_mk (hk _ _ _ [] (fun _ h _ => h.more)) (by k_extra "cut")
  | some o =>
    have ho1 := hok.ok.own o hx
    have ho2 := hok.nu o hx
    rw [hx] at h5 hk
    cases h5
    k_extra "go"
    exact fin_mk (hk _ _ _ _ hn9) (by k_extra "cut")
noncomputable def thF0 (n : Int) (wl : Addr) (u u2 : Tok) : Str → Option Value := upd (Str.ofString "is_freed") (.bool false) (upd (Str.ofString "is_destroyed") (.bool false) (upd (Str.ofString "weak") (.ref wl) (upd (Str.ofString "blessed") .none (upd (Str.ofString "count") (.int 0 u2) (upd (Str.ofString "number") (.int n u) no0)))))
noncomputable def C_init63 (K : Params → Frag) (V : Program) : Prop := ∀ (x dx C : Addr) (n : Int) (u : Tok), hasA thC C = true → Tri K V 63 1 [.ref x, .int n u] [(x, .ob (instObj C dx)), (dx, .dk 0 no0)] (fun _ _ => True) (fun _ k => ∀ wl u2, k .none [(x, .ob (instObj C dx)), (dx, .dk 6 (thF0 n wl u u2)), (wl, .li [])])
noncomputable def C_init180 (K : Params → Frag) (V : Program) : Prop := ∀ (x dx t : Addr), Tri K V 180 1 [.ref x, .ref t] [(x, .ob (instObj 183 dx)), (dx, .dk 0 no0)] (fun _ _ => True) (fun _ k => k .none [(x, .ob (instObj 183 dx)), (dx, .di (upd (Str.ofString "is_weak") (.bool false) (upd (Str.ofString "target") (.ref t) no0)))])
noncomputable def C_init84 (K : Params → Frag) (V : Program) : Prop := ∀ (x dx : Addr) (n : Int) (u : Tok) (v : Value), Tri K V 84 2 [.ref x, .int n u, v] [(x, .ob (instObj 87 dx)), (dx, .dk 0 no0)] (fun _ _ => True) (fun _ k => ∀ wl u2, k .none [(x, .ob (instObj 87 dx)), (dx, .di (upd (Str.ofString "magic") .none (upd (Str.ofString "value") v (thF0 n wl u u2)))), (wl, .li [])])
theorem c_init63 {K : Params → Frag} {V : Program} (HK : KOk K) : C_init63 K V := by
  intro x dx C n u hC
  k_extra "IN 63"
  k_extra "go"
  exact fin_mk (hk _ _) (by k_extra "cut")
theorem c_init180 {K : Params → Frag} {V : Program} (HK : KOk K) : C_init180 K V := by
  intro x dx t
  k_extra "IN 180d"
  k_extra "go"
  exact fin_wk hk (.tl (.dk rfl .rfl)) (by k_extra "cut")
theorem c_init84 {K : Params → Frag} {V : Program} (HK : KOk K) : C_init84 K V := by
  intro x dx n u v
  k_extra "IN 84"
  k_extra "go"
  exact fin_wk (hk _ _) (.tl (.dk rfl .rfl)) (by k_extra "cut")
noncomputable def C_init103 (K : Params → Frag) (V : Program) : Prop := ∀ (x dx : Addr) (n : Int) (u : Tok), Tri K V 103 2 [.ref x, .int n u] [(x, .ob (instObj 106 dx)), (dx, .dk 0 no0)] (fun _ _ => True) (fun _ k => ∀ (wl : Addr) (u2 : Tok) (l1 : Addr), k .none [(x, .ob (instObj 106 dx)), (dx, .di (upd (Str.ofString "tied") .none (upd (Str.ofString "items") (.ref l1) (thF0 n wl u u2)))), (wl, .li []), (l1, .li [])])
noncomputable def C_init122 (K : Params → Frag) (V : Program) : Prop := ∀ (x dx : Addr) (n : Int) (u : Tok), Tri K V 122 2 [.ref x, .int n u] [(x, .ob (instObj 125 dx)), (dx, .dk 0 no0)] (fun _ _ => True) (fun _ k => ∀ (wl : Addr) (u2 : Tok) (l1 : Addr)  (u3 : Tok), k .none [(x, .ob (instObj 125 dx)), (dx, .di (upd (Str.ofString "tied") .none (upd (Str.ofString "at") (.int 0 u3) (upd (Str.ofString "table") (.ref l1) (thF0 n wl u u2))))), (wl, .li []), (l1, .sd [])])
noncomputable def C_init141 (K : Params → Frag) (V : Program) : Prop := ∀ (x dx : Addr) (n : Int) (u : Tok) (sb cp : Value), Tri K V 141 2 [.ref x, .int n u, sb, cp] [(x, .ob (instObj 144 dx)), (dx, .dk 0 no0)] (fun _ _ => True) (fun _ k => ∀ (wl : Addr) (u2 : Tok) (u3 : Tok), k .none [(x, .ob (instObj 144 dx)), (dx, .di (upd (Str.ofString "package") (.str (Str.ofString "main") u3) (upd (Str.ofString "builtin") .none (upd (Str.ofString "captures") cp (upd (Str.ofString "sub") sb (thF0 n wl u u2)))))), (wl, .li [])])
noncomputable def C_init160 (K : Params → Frag) (V : Program) : Prop := ∀ (x dx : Addr) (n : Int) (u : Tok) (nm : Value), Tri K V 160 2 [.ref x, .int n u, nm] [(x, .ob (instObj 163 dx)), (dx, .dk 0 no0)] (fun _ _ => True) (fun _ k => ∀ (wl : Addr) (u2 : Tok), k .none [(x, .ob (instObj 163 dx)), (dx, .di (upd (Str.ofString "code") .none (upd (Str.ofString "hash") .none (upd (Str.ofString "array") .none (upd (Str.ofString "scalar") .none (upd (Str.ofString "name") nm (thF0 n wl u u2))))))), (wl, .li [])])
noncomputable def C_init201 (K : Params → Frag) (V : Program) : Prop := ∀ (x dx : Addr) (lm : Value), Tri K V 201 1 [.ref x, lm] [(x, .ob (instObj 246 dx)), (dx, .dk 0 no0)] (fun _ _ => True) (fun _ k => ∀ (l1 : Addr)  (u3 : Tok), k .none [(x, .ob (instObj 246 dx)), (dx, .di (upd (Str.ofString "zero") (.ref l1) (upd (Str.ofString "last") (.int 0 u3) (upd (Str.ofString "limits") lm no0)))), (l1, .li [])])
noncomputable def C_init378 (K : Params → Frag) (V : Program) : Prop := ∀ (x dx : Addr), Tri K V 378 1 [.ref x] [(x, .ob (instObj 388 dx)), (dx, .dk 0 no0)] (fun _ _ => True) (fun _ k => ∀ (l1 : Addr)  (u3 : Tok), k .none [(x, .ob (instObj 388 dx)), (dx, .di (upd (Str.ofString "table") (.ref l1) (upd (Str.ofString "generation") (.int (-1) u3) no0))), (l1, .tb [])])
noncomputable def C_init518 (K : Params → Frag) (V : Program) : Prop := ∀ (x dx : Addr) (hp ds : Value), Tri K V 518 1 [.ref x, hp, ds] [(x, .ob (instObj 596 dx)), (dx, .dk 0 no0)] (fun _ _ => True) (fun _ k => ∀ (l1 : Addr), k .none [(x, .ob (instObj 596 dx)), (dx, .di (upd (Str.ofString "places") (.ref l1) (upd (Str.ofString "destroy") ds (upd (Str.ofString "heap") hp no0)))), (l1, .nd [])])
noncomputable def C_init614 (K : Params → Frag) (V : Program) : Prop := ∀ (x dx : Addr) (a1 a2 a3 a4 a5 a6 : Value), Tri K V 614 1 [.ref x, a1, a2, a3, a4, a5, a6] [(x, .ob (instObj 617 dx)), (dx, .dk 0 no0)] (fun _ _ => True) (fun _ k => k .none [(x, .ob (instObj 617 dx)), (dx, .di (upd (Str.ofString "line") a6 (upd (Str.ofString "package") a5 (upd (Str.ofString "code") a4 (upd (Str.ofString "want") a3 (upd (Str.ofString "args") a2 (upd (Str.ofString "pad") a1 no0)))))))])
noncomputable def C_init678 (K : Params → Frag) (V : Program) : Prop := ∀ (x dx : Addr) (hp : Value), Tri K V 678 1 [.ref x, hp] [(x, .ob (instObj 723 dx)), (dx, .dk 0 no0)] (fun _ _ => True) (fun _ k => ∀ (l1 : Addr)  (u3 : Tok), k .none [(x, .ob (instObj 723 dx)), (dx, .di (upd (Str.ofString "generation") (.int 0 u3) (upd (Str.ofString "globs") (.ref l1) (upd (Str.ofString "heap") hp no0)))), (l1, .sd [])])
theorem c_init103 {K : Params → Frag} {V : Program} (HK : KOk K) : C_init103 K V := by
  intro x dx n u
  k_extra "IN 103"
  k_extra "go"
  exact fin_wk (hk _ _ _) (.tl (.dk rfl .rfl)) (by k_extra "cut")
theorem c_init122 {K : Params → Frag} {V : Program} (HK : KOk K) : C_init122 K V := by
  intro x dx n u
  k_extra "IN 122"
  k_extra "go"
  exact fin_wk (hk _ _ _ _) (.tl (.dk rfl .rfl)) (by k_extra "cut")
theorem c_init141 {K : Params → Frag} {V : Program} (HK : KOk K) : C_init141 K V := by
  intro x dx n u sb cp
  k_extra "IN 141"
  k_extra "go"
  exact fin_wk (hk _ _ _) (.tl (.dk rfl .rfl)) (by k_extra "cut")
theorem c_init160 {K : Params → Frag} {V : Program} (HK : KOk K) : C_init160 K V := by
  intro x dx n u nm
  k_extra "IN 160"
  k_extra "go"
  exact fin_wk (hk _ _) (.tl (.dk rfl .rfl)) (by k_extra "cut")
theorem c_init201 {K : Params → Frag} {V : Program} (HK : KOk K) : C_init201 K V := by
  intro x dx lm
  k_extra "IN 201"
  k_extra "go"
  exact fin_wk (hk _ _) (.tl (.dk rfl .rfl)) (by k_extra "cut")
theorem c_init378 {K : Params → Frag} {V : Program} (HK : KOk K) : C_init378 K V := by
  intro x dx
  k_extra "IN 378"
  have hw : WantTab := .intro
  k_extra "go"
  exact fin_wk (hk _ _) (.tl (.dk rfl .rfl)) (by k_extra "cut")
theorem c_init518 {K : Params → Frag} {V : Program} (HK : KOk K) : C_init518 K V := by
  intro x dx hp ds
  k_extra "IN 518"
  have hw : WantNd := .intro
  k_extra "go"
  exact fin_wk (hk _) (.tl (.dk rfl .rfl)) (by k_extra "cut")
theorem c_init614 {K : Params → Frag} {V : Program} (HK : KOk K) : C_init614 K V := by
  intro x dx a1 a2 a3 a4 a5 a6
  k_extra "IN 614"
  k_extra "go"
  exact fin_wk (hk) (.tl (.dk rfl .rfl)) (by k_extra "cut")
theorem c_init678 {K : Params → Frag} {V : Program} (HK : KOk K) : C_init678 K V := by
  intro x dx hp
  k_extra "IN 678"
  k_extra "go"
  exact fin_wk (hk _ _) (.tl (.dk rfl .rfl)) (by k_extra "cut")
noncomputable def C_Ref (K : Params → Frag) (V : Program) : Prop := ∀ (t : Addr), Tri K V 183 2 [.ref t] [] (fun _ _ => True) (fun _ k => ∀ r dr, k (.ref r) [(r, .ob (instObj 183 dr)), (dr, .di (upd (Str.ofString "is_weak") (.bool false) (upd (Str.ofString "target") (.ref t) no0)))])
noncomputable def C_Scalar (K : Params → Frag) (V : Program) : Prop := ∀ (n : Int) (u : Tok) (v : Value), Tri K V 87 3 [.int n u, v] [] (fun _ _ => True) (fun _ k => ∀ x dx wl u2, k (.ref x) [(x, .ob (instObj 87 dx)), (dx, .di (upd (Str.ofString "magic") .none (upd (Str.ofString "value") v (thF0 n wl u u2)))), (wl, .li [])])
noncomputable def C_Array (K : Params → Frag) (V : Program) : Prop := ∀ (n : Int) (u : Tok), Tri K V 106 3 [.int n u] [] (fun _ _ => True) (fun _ k => ∀ (x dx : Addr) (wl : Addr) (u2 : Tok) (l1 : Addr), k (.ref x) [(x, .ob (instObj 106 dx)), (dx, .di (upd (Str.ofString "tied") .none (upd (Str.ofString "items") (.ref l1) (thF0 n wl u u2)))), (wl, .li []), (l1, .li [])])
noncomputable def C_Hash (K : Params → Frag) (V : Program) : Prop := ∀ (n : Int) (u : Tok), Tri K V 125 3 [.int n u] [] (fun _ _ => True) (fun _ k => ∀ (x dx : Addr) (wl : Addr) (u2 : Tok) (l1 : Addr)  (u3 : Tok), k (.ref x) [(x, .ob (instObj 125 dx)), (dx, .di (upd (Str.ofString "tied") .none (upd (Str.ofString "at") (.int 0 u3) (upd (Str.ofString "table") (.ref l1) (thF0 n wl u u2))))), (wl, .li []), (l1, .sd [])])
noncomputable def C_Code (K : Params → Frag) (V : Program) : Prop := ∀ (n : Int) (u : Tok) (sb cp : Value), Tri K V 144 3 [.int n u, sb, cp] [] (fun _ _ => True) (fun _ k => ∀ (x dx : Addr) (wl : Addr) (u2 : Tok) (u3 : Tok), k (.ref x) [(x, .ob (instObj 144 dx)), (dx, .di (upd (Str.ofString "package") (.str (Str.ofString "main") u3) (upd (Str.ofString "builtin") .none (upd (Str.ofString "captures") cp (upd (Str.ofString "sub") sb (thF0 n wl u u2)))))), (wl, .li [])])
noncomputable def C_Glob (K : Params → Frag) (V : Program) : Prop := ∀ (n : Int) (u : Tok) (nm : Value), Tri K V 163 3 [.int n u, nm] [] (fun _ _ => True) (fun _ k => ∀ (x dx : Addr) (wl : Addr) (u2 : Tok), k (.ref x) [(x, .ob (instObj 163 dx)), (dx, .di (upd (Str.ofString "code") .none (upd (Str.ofString "hash") .none (upd (Str.ofString "array") .none (upd (Str.ofString "scalar") .none (upd (Str.ofString "name") nm (thF0 n wl u u2))))))), (wl, .li [])])
noncomputable def C_Heap (K : Params → Frag) (V : Program) : Prop := ∀ (lm : Value), Tri K V 246 2 [lm] [] (fun _ _ => True) (fun _ k => ∀ (x dx : Addr) (l1 : Addr)  (u3 : Tok), k (.ref x) [(x, .ob (instObj 246 dx)), (dx, .di (upd (Str.ofString "zero") (.ref l1) (upd (Str.ofString "last") (.int 0 u3) (upd (Str.ofString "limits") lm no0)))), (l1, .li [])])
noncomputable def C_MethodCache (K : Params → Frag) (V : Program) : Prop := Tri K V 388 2 [] [] (fun _ _ => True) (fun _ k => ∀ (x dx : Addr) (l1 : Addr)  (u3 : Tok), k (.ref x) [(x, .ob (instObj 388 dx)), (dx, .di (upd (Str.ofString "table") (.ref l1) (upd (Str.ofString "generation") (.int (-1) u3) no0))), (l1, .tb [])])
noncomputable def C_Counter (K : Params → Frag) (V : Program) : Prop := ∀ (hp ds : Value), Tri K V 596 2 [hp, ds] [] (fun _ _ => True) (fun _ k => ∀ (x dx : Addr) (l1 : Addr), k (.ref x) [(x, .ob (instObj 596 dx)), (dx, .di (upd (Str.ofString "places") (.ref l1) (upd (Str.ofString "destroy") ds (upd (Str.ofString "heap") hp no0)))), (l1, .nd [])])
noncomputable def C_Frame (K : Params → Frag) (V : Program) : Prop := ∀ (a1 a2 a3 a4 a5 a6 : Value), Tri K V 617 2 [a1, a2, a3, a4, a5, a6] [] (fun _ _ => True) (fun _ k => ∀ (x dx : Addr), k (.ref x) [(x, .ob (instObj 617 dx)), (dx, .di (upd (Str.ofString "line") a6 (upd (Str.ofString "package") a5 (upd (Str.ofString "code") a4 (upd (Str.ofString "want") a3 (upd (Str.ofString "args") a2 (upd (Str.ofString "pad") a1 no0)))))))])
noncomputable def C_Stash (K : Params → Frag) (V : Program) : Prop := ∀ (hp : Value), Tri K V 723 2 [hp] [] (fun _ _ => True) (fun _ k => ∀ (x dx : Addr) (l1 : Addr)  (u3 : Tok), k (.ref x) [(x, .ob (instObj 723 dx)), (dx, .di (upd (Str.ofString "generation") (.int 0 u3) (upd (Str.ofString "globs") (.ref l1) (upd (Str.ofString "heap") hp no0)))), (l1, .sd [])])
theorem c_Ref {K : Params → Frag} {V : Program} (HK : KOk K) : C_Ref K V := fun t =>
  cls_tri (fI := 180) HK.toKCl rfl (fun x dx => c_init180 HK x dx t) fun _ _ h x dx => h x dx
theorem c_Scalar {K : Params → Frag} {V : Program} (HK : KOk K) : C_Scalar K V := fun n u v =>
  cls_tri (fI := 84) HK.toKCl rfl (fun x dx => c_init84 HK x dx n u v) fun _ _ h x dx wl u2 => h x dx wl u2
theorem c_Array {K : Params → Frag} {V : Program} (HK : KOk K) : C_Array K V := fun n u =>
  cls_tri (fI := 103) HK.toKCl rfl (fun x dx => c_init103 HK x dx n u) fun _ _ h x dx wl u2 l1 => h x dx wl u2 l1
theorem c_Hash {K : Params → Frag} {V : Program} (HK : KOk K) : C_Hash K V := fun n u =>
  cls_tri (fI := 122) HK.toKCl rfl (fun x dx => c_init122 HK x dx n u) fun _ _ h x dx wl u2 l1 u3 => h x dx wl u2 l1 u3
theorem c_Code {K : Params → Frag} {V : Program} (HK : KOk K) : C_Code K V := fun n u sb cp =>
  cls_tri (fI := 141) HK.toKCl rfl (fun x dx => c_init141 HK x dx n u sb cp) fun _ _ h x dx wl u2 u3 => h x dx wl u2 u3
theorem c_Glob {K : Params → Frag} {V : Program} (HK : KOk K) : C_Glob K V := fun n u nm =>
  cls_tri (fI := 160) HK.toKCl rfl (fun x dx => c_init160 HK x dx n u nm) fun _ _ h x dx wl u2 => h x dx wl u2
theorem c_Heap {K : Params → Frag} {V : Program} (HK : KOk K) : C_Heap K V := fun lm =>
  cls_tri (fI := 201) HK.toKCl rfl (fun x dx => c_init201 HK x dx lm) fun _ _ h x dx l1 u3 => h x dx l1 u3
theorem c_MethodCache {K : Params → Frag} {V : Program} (HK : KOk K) : C_MethodCache K V := 
  cls_tri (fI := 378) HK.toKCl rfl (fun x dx => c_init378 HK x dx) fun _ _ h x dx l1 u3 => h x dx l1 u3
theorem c_Counter {K : Params → Frag} {V : Program} (HK : KOk K) : C_Counter K V := fun hp ds =>
  cls_tri (fI := 518) HK.toKCl rfl (fun x dx => c_init518 HK x dx hp ds) fun _ _ h x dx l1 => h x dx l1
theorem c_Frame {K : Params → Frag} {V : Program} (HK : KOk K) : C_Frame K V := fun a1 a2 a3 a4 a5 a6 =>
  cls_tri (fI := 614) HK.toKCl rfl (fun x dx => c_init614 HK x dx a1 a2 a3 a4 a5 a6) fun _ _ h x dx => h x dx
theorem c_Stash {K : Params → Frag} {V : Program} (HK : KOk K) : C_Stash K V := fun hp =>
  cls_tri (fI := 678) HK.toKCl rfl (fun x dx => c_init678 HK x dx hp) fun _ _ h x dx l1 u3 => h x dx l1 u3
noncomputable def canT (o : Option Addr) (k : Value → LD → Prop) (B : LD) : Prop := match o with
  | none => k .none B
  | some c => ∀ r dr, k (.ref r) ((r, .ob (instObj 183 dr)) :: (dr, .di (upd (Str.ofString "is_weak") (.bool false) (upd (Str.ofString "target") (.ref c) no0))) :: B)
noncomputable def C_universal_can (K : Params → Frag) (V : Program) : Prop := ∀ (st rn ca dc tb a : Addr) (gen : Int) (par : Str → List Str) (cod : Str → Option Addr) (ln : Str → List Str) (r x dx C : Addr) (fx : Str → Option Value) (t : Th) (u : Tok) (lim frs cnt want : Value) (N : Nat) (f : Str → Option Value) (xs : CX), LinesOk par ln → ThIn t → (∀ o, t.own = some o → (o == Str.ofString "") = false) → N ≤ 1000 →
  Tri K V 420 9 [.ref rn, .ref a, want] [(dc, .di f), (tb, .tb xs)] (fun w g => StashD w g st gen par cod ∧ OAt w g ca (.ob (instObj 388 dc)) ∧ CaP w g f tb xs gen cod N ∧ RefT r x dx C fx t w g ∧ RunD w g rn st ca lim frs cnt ∧ FL w g a [.ref r, .str (Str.ofString "DESTROY") u])
    (fun w q => ∀ f' tb' xs' R, CaN w f tb xs gen cod N f' tb' xs' R → canT (desOf cod ln t.own) q ((dc, .di f') :: (tb', .tb xs') :: R))
theorem c_universal_can {K : Params → Frag} {V : Program} (HK : KOk K) : C_universal_can K V := by
  intro st rn ca dc tb a gen par cod ln r x dx C fx t u lim frs cnt want N f xs ok hok hne hN
  k_extra "IN 420"
  refine elAAAAA hP ?_; (try clear hP); rintro hst ho hca ⟨hr, hT⟩ ⟨drn, frn, a1, b1, ⟨h1, h2, h3, h4, h5⟩⟩ hl
  obtain ⟨dr, fr, r1, r2, r3⟩ := id hr
  obtain ⟨t1, t2, ⟨_, v, t4, t5⟩, hS⟩ := id hT
  have hC := hS.cls
  cases hx : t.own with
  | none =>
    rw [hx] at t5 hk
    cases t5
    k_extra "go"
    exact fin_mk (hk _ _ _ [] (fun _ h _ => h.more)) (by k_extra "cut")
  | some o =>
    have ho1 := hok.ok.own o hx
    have ho2 := hok.nu o hx
    have ho3 := hne o hx
    rw [hx] at t5 hk
    cases t5
    have hk2 : ∀ f' tb' xs' R, CaN c.w f tb xs gen cod N f' tb' xs' R → canT ((search cod (ln o ++ [univ])).map (·.2)) k9 ((dc, .di f') :: (tb', .tb xs') :: R) := hk
    clear hk
    k_extra "go"
    cases hq : (search cod (ln o ++ [univ])).map (·.2) with
    | none =>
      rw [hq] at hk2
      rw [show codV none = .none from rfl]
      k_extra "go"
      exact fin_mk (hk2 _ _ _ _ hn9) (by k_extra "cut")
    | some cd =>
      rw [hq] at hk2
      rw [show codV (some cd) = .ref cd from rfl]
      k_extra "go"
      exact fin_mk (hk2 _ _ _ _ hn9 _ _) (by k_extra "cut")
noncomputable def hpU (fh : Str → Option Value) (n : Int) (u : Tok) : Str → Option Value := upd (Str.ofString "last") (.int (n + 1) u) fh
noncomputable def C_next (K : Params → Frag) (V : Program) : Prop := ∀ (hp dhp : Addr) (fh : Str → Option Value) (n : Int) (nu : Tok), fh (Str.ofString "last") = some (.int n nu) → fh (Str.ofString "next_number") = none → Tri K V 208 1 [.ref hp] [(dhp, .di fh)] (fun w g => OAt w g hp (.ob (instObj 246 dhp))) (fun _ k => ∀ u, k (.int (n + 1) u) [(dhp, .di (hpU fh n u))])
noncomputable def C_new_scalar (K : Params → Frag) (V : Program) : Prop := ∀ (hp dhp : Addr) (fh : Str → Option Value) (n : Int) (nu : Tok) (v : Value), fh (Str.ofString "last") = some (.int n nu) → fh (Str.ofString "next_number") = none → Tri K V 215 4 [.ref hp, v] [(dhp, .di fh)] (fun w g => OAt w g hp (.ob (instObj 246 dhp))) (fun _ k => ∀ u x dx wl u2, k (.ref x) [(x, .ob (instObj 87 dx)), (dx, .di (upd (Str.ofString "magic") .none (upd (Str.ofString "value") v (thF0 (n + 1) wl u u2)))), (wl, .li []), (dhp, .di (hpU fh n u))])
noncomputable def C_new_array (K : Params → Frag) (V : Program) : Prop := ∀ (hp dhp : Addr) (fh : Str → Option Value) (n : Int) (nu : Tok), fh (Str.ofString "last") = some (.int n nu) → fh (Str.ofString "next_number") = none → Tri K V 222 4 [.ref hp] [(dhp, .di fh)] (fun w g => OAt w g hp (.ob (instObj 246 dhp))) (fun _ k => ∀ (u : Tok) (x dx : Addr) (wl : Addr) (u2 : Tok) (l1 : Addr), k (.ref x) [(x, .ob (instObj 106 dx)), (dx, .di (upd (Str.ofString "tied") .none (upd (Str.ofString "items") (.ref l1) (thF0 (n + 1) wl u u2)))), (wl, .li []), (l1, .li []), (dhp, .di (hpU fh n u))])
noncomputable def C_new_hash (K : Params → Frag) (V : Program) : Prop := ∀ (hp dhp : Addr) (fh : Str → Option Value) (n : Int) (nu : Tok), fh (Str.ofString "last") = some (.int n nu) → fh (Str.ofString "next_number") = none → Tri K V 229 4 [.ref hp] [(dhp, .di fh)] (fun w g => OAt w g hp (.ob (instObj 246 dhp))) (fun _ k => ∀ (u : Tok) (x dx : Addr) (wl : Addr) (u2 : Tok) (l1 : Addr)  (u3 : Tok), k (.ref x) [(x, .ob (instObj 125 dx)), (dx, .di (upd (Str.ofString "tied") .none (upd (Str.ofString "at") (.int 0 u3) (upd (Str.ofString "table") (.ref l1) (thF0 (n + 1) wl u u2))))), (wl, .li []), (l1, .sd []), (dhp, .di (hpU fh n u))])
noncomputable def C_new_code (K : Params → Frag) (V : Program) : Prop := ∀ (hp dhp : Addr) (fh : Str → Option Value) (n : Int) (nu : Tok) (sb cp : Value), fh (Str.ofString "last") = some (.int n nu) → fh (Str.ofString "next_number") = none → Tri K V 236 4 [.ref hp, sb, cp] [(dhp, .di fh)] (fun w g => OAt w g hp (.ob (instObj 246 dhp))) (fun _ k => ∀ (u : Tok) (x dx : Addr) (wl : Addr) (u2 : Tok) (u3 : Tok), k (.ref x) [(x, .ob (instObj 144 dx)), (dx, .di (upd (Str.ofString "package") (.str (Str.ofString "main") u3) (upd (Str.ofString "builtin") .none (upd (Str.ofString "captures") cp (upd (Str.ofString "sub") sb (thF0 (n + 1) wl u u2)))))), (wl, .li []), (dhp, .di (hpU fh n u))])
noncomputable def C_new_glob (K : Params → Frag) (V : Program) : Prop := ∀ (hp dhp : Addr) (fh : Str → Option Value) (n : Int) (nu : Tok) (nm : Value), fh (Str.ofString "last") = some (.int n nu) → fh (Str.ofString "next_number") = none → Tri K V 243 4 [.ref hp, nm] [(dhp, .di fh)] (fun w g => OAt w g hp (.ob (instObj 246 dhp))) (fun _ k => ∀ (u : Tok) (x dx : Addr) (wl : Addr) (u2 : Tok), k (.ref x) [(x, .ob (instObj 163 dx)), (dx, .di (upd (Str.ofString "code") .none (upd (Str.ofString "hash") .none (upd (Str.ofString "array") .none (upd (Str.ofString "scalar") .none (upd (Str.ofString "name") nm (thF0 (n + 1) wl u u2))))))), (wl, .li []), (dhp, .di (hpU fh n u))])
theorem c_next {K : Params → Frag} {V : Program} (HK : KOk K) : C_next K V := by
  intro hp dhp fh n nu h1 h2
  k_extra "IN 208"
  k_extra "go"
  exact fin_mk (hk _) (by k_extra "cut")
theorem c_new_scalar {K : Params → Frag} {V : Program} (HK : KOk K) : C_new_scalar K V := by
  intro hp dhp fh n nu v h1 h2
  k_extra "IN 215"
  k_extra "go"
  exact fin_mk (hk _ _ _ _ _) (by k_extra "cut")
theorem c_new_array {K : Params → Frag} {V : Program} (HK : KOk K) : C_new_array K V := by
  intro hp dhp fh n nu h1 h2
  k_extra "IN 222"
  k_extra "go"
  exact fin_mk (hk _ _ _ _ _ _) (by k_extra "cut")
theorem c_new_hash {K : Params → Frag} {V : Program} (HK : KOk K) : C_new_hash K V := by
  intro hp dhp fh n nu h1 h2
  k_extra "IN 229"
  k_extra "go"
  exact fin_mk (hk _ _ _ _ _ _ _) (by k_extra "cut")
theorem c_new_code {K : Params → Frag} {V : Program} (HK : KOk K) : C_new_code K V := by
  intro hp dhp fh n nu sb cp h1 h2
  k_extra "IN 236"
  k_extra "go"
  exact fin_mk (hk _ _ _ _ _ _) (by k_extra "cut")
theorem c_new_glob {K : Params → Frag} {V : Program} (HK : KOk K) : C_new_glob K V := by
  intro hp dhp fh n nu nm h1 h2
  k_extra "IN 243"
  k_extra "go"
  exact fin_mk (hk _ _ _ _ _) (by k_extra "cut")
structure CtrAt (w : World) (g : Heap) (ctr hp dhp zl : Addr) (fh : Str → Option Value) : Prop where
  ex : ∃ d f, OAt w g ctr (.ob (instObj 596 d)) ∧ OAt w g d (.di f) ∧ f (Str.ofString "heap") = some (.ref hp) ∧ f (Str.ofString "let_go") = none ∧ f (Str.ofString "hold") = none
  hp : OAt w g hp (.ob (instObj 246 dhp))
  dh : OAt w g dhp (.di fh)
  zl : fh (Str.ofString "zero") = some (.ref zl)
theorem CtrAt.keeps {w : World} {g g' : Heap} {ctr hp dhp zl : Addr} {fh : Str → Option Value} (x : CtrAt w g ctr hp dhp zl fh) (k : Keep g g') : CtrAt w g' ctr hp dhp zl fh :=
  ⟨let ⟨d, f, a, b, c⟩ := x.ex; ⟨d, f, a.keeps k, b.keeps k, c⟩, x.hp.keeps k, x.dh.keeps k, x.zl⟩
noncomputable def cntU (f : Str → Option Value) (n : Int) (u : Tok) : Str → Option Value := upd (Str.ofString "count") (.int n u) f
noncomputable def C_hold (K : Params → Frag) (V : Program) : Prop := ∀ (self : Value) (x dx C : Addr) (f : Str → Option Value) (n : Int) (nu : Tok), hasA thC C = true → f (Str.ofString "count") = some (.int n nu) → Tri K V 525 1 [self, .ref x] [(dx, .di f)] (fun w g => OAt w g x (.ob (instObj C dx))) (fun _ k => ∀ u, k .none [(dx, .di (cntU f (n + 1) u))])
noncomputable def C_let_go (K : Params → Frag) (V : Program) : Prop := ∀ (ctr hp dhp zl x dx C : Addr) (fh f : Str → Option Value) (n : Int) (nu : Tok) (zs : List Value), hasA thC C = true → f (Str.ofString "count") = some (.int n nu) → zs.length ≤ 90 → Tri K V 532 1 [.ref ctr, .ref x] [(dx, .di f), (zl, .li zs)] (fun w g => CtrAt w g ctr hp dhp zl fh ∧ OAt w g x (.ob (instObj C dx))) (fun _ k => ∀ u zs', zs'.length ≤ zs.length + 1 → k .none [(dx, .di (cntU f (n - 1) u)), (zl, .li zs')])
noncomputable def C_takeP (K : Params → Frag) (V : Program) : Prop := ∀ (self v : Value), Plain v → Tri K V 546 2 [self, v] [] (fun _ _ => True) (fun _ k => k v [])
noncomputable def C_put_offP (K : Params → Frag) (V : Program) : Prop := ∀ (self v sc : Value), Plain v → Tri K V 551 2 [self, sc, v] [] (fun _ _ => True) (fun _ k => k .none [])
theorem c_hold {K : Params → Frag} {V : Program} (HK : KOk K) : C_hold K V := by
  intro self x dx C f n nu hC h1
  k_extra "IN 525"
  k_extra "go"
  exact fin_mk (hk _) (by k_extra "cut")
theorem c_let_go {K : Params → Frag} {V : Program} (HK : KOk K) : C_let_go K V := by
  intro ctr hp dhp zl x dx C fh f n nu zs hC h1 hz
  k_extra "IN 532"
  refine elA hP ?_; (try clear hP); rintro ⟨⟨d, fc, a, b, e1, e2, e3⟩, g1, g2, g3⟩ hx
  k_extra "go"
  · refine fin_mk (hk _ _ ?_) (by k_extra "cut")
    simp
  · refine fin_mk (hk _ _ ?_) (by k_extra "cut")
    omega
theorem c_takeP {K : Params → Frag} {V : Program} (HK : KOk K) : C_takeP K V := by
  intro self v hv
  k_extra "IN 546"
  k_extra "go"
  exact fin_mk hk .nil
theorem c_put_offP {K : Params → Frag} {V : Program} (HK : KOk K) : C_put_offP K V := by
  intro self v sc hv
  k_extra "IN 551"
  k_extra "go"
  exact fin_mk hk (by k_extra "cut")
structure CtrH (w : World) (g : Heap) (ctr hp dhp : Addr) : Prop where
  ex : ∃ d f, OAt w g ctr (.ob (instObj 596 d)) ∧ OAt w g d (.di f) ∧ f (Str.ofString "heap") = some (.ref hp) ∧ f (Str.ofString "take") = none
  hp : OAt w g hp (.ob (instObj 246 dhp))
theorem CtrH.keeps {w : World} {g g' : Heap} {ctr hp dhp : Addr} (x : CtrH w g ctr hp dhp) (k : Keep g g') : CtrH w g' ctr hp dhp :=
  ⟨let ⟨d, f, a, b, c⟩ := x.ex; ⟨d, f, a.keeps k, b.keeps k, c⟩, x.hp.keeps k⟩
noncomputable def C_fresh (K : Params → Frag) (V : Program) : Prop := ∀ (ctr hp dhp : Addr) (fh : Str → Option Value) (n : Int) (nu : Tok) (v : Value), fh (Str.ofString "last") = some (.int n nu) → fh (Str.ofString "next_number") = none → fh (Str.ofString "new_scalar") = none → Plain v →
  Tri K V 565 5 [.ref ctr, v] [(dhp, .di fh)] (fun w g => CtrH w g ctr hp dhp) (fun _ k => ∀ u x dx wl u2 u3, k (.ref x) [(x, .ob (instObj 87 dx)), (dx, .di (upd (Str.ofString "count") (.int 1 u3) (upd (Str.ofString "magic") .none (upd (Str.ofString "value") v (thF0 (n + 1) wl u u2))))), (wl, .li []), (dhp, .di (hpU fh n u))])
theorem c_fresh {K : Params → Frag} {V : Program} (HK : KOk K) : C_fresh K V := by
  intro ctr hp dhp fh n nu v h1 h2 h3 hv
  k_extra "IN 565"
  obtain ⟨⟨d, f, a, b, e1, e2⟩, g1⟩ := hP
  k_extra "go"
  exact fin_mk (hk _ _ _ _ _ _) (by k_extra "cut")
theorem valueAt_new {K : Type} [DecidableEq K] {kvs : List (K × Value)} {k : K} {v : Value} : valueAt (stored kvs k v) k = some v := by rw [valueAt_stored, if_pos rfl]
structure StH (w : World) (g : Heap) (st hp dhp gl : Addr) (f : Str → Option Value) : Prop where
  heap : f (Str.ofString "heap") = some (.ref hp)
  globs : f (Str.ofString "globs") = some (.ref gl)
  m1 : f (Str.ofString "glob_of") = none
  hp : OAt w g hp (.ob (instObj 246 dhp))
noncomputable def glF (n : Int) (nm : Value) (wl : Addr) (u u2 : Tok) : Str → Option Value := upd (Str.ofString "code") .none (upd (Str.ofString "hash") .none (upd (Str.ofString "array") .none (upd (Str.ofString "scalar") .none (upd (Str.ofString "name") nm (thF0 n wl u u2)))))
noncomputable def C_glob_ofN (K : Params → Frag) (V : Program) : Prop := ∀ (st ds hp dhp gl : Addr) (f fh : Str → Option Value) (kvs : List (Str × Value)) (nm : Str) (ut : Tok) (n : Int) (nu : Tok), valueAt kvs nm = none → kvs.length ≤ 100 → fh (Str.ofString "last") = some (.int n nu) → fh (Str.ofString "next_number") = none → fh (Str.ofString "new_glob") = none →
  Tri K V 685 5 [.ref st, .str nm ut] [(gl, .sd kvs), (dhp, .di fh)] (fun w g => StH w g st hp dhp gl f ∧ OAt w g st (.ob (instObj 723 ds)) ∧ OAt w g ds (.di f))
    (fun _ k => ∀ u x dx wl u2, k (.ref x) [(x, .ob (instObj 163 dx)), (dx, .di (glF (n + 1) (.str nm ut) wl u u2)), (wl, .li []), (gl, .sd (stored kvs nm (.ref x))), (dhp, .di (hpU fh n u))])
theorem c_glob_ofN {K : Params → Frag} {V : Program} (HK : KOk K) : C_glob_ofN K V := by
  intro st ds hp dhp gl f fh kvs nm ut n nu h0 hz h1 h2 h3
  k_extra "IN 685"
  refine elAA hP ?_; (try clear hP); rintro ⟨a1, a2, a3, a4⟩ b1 b2
  k_extra "go"
  exact fin_mk (hk _ _ _ _ _) (by k_extra "cut")
noncomputable def C_init180w (K : Params → Frag) (V : Program) : Prop := ∀ (x dx t : Addr), Tri K V 180 1 [.ref x, .ref t, .bool true] [(x, .ob (instObj 183 dx)), (dx, .dk 0 no0)] (fun _ _ => True) (fun _ k => k .none [(x, .ob (instObj 183 dx)), (dx, .di (upd (Str.ofString "is_weak") (.bool true) (upd (Str.ofString "target") (.ref t) no0)))])
noncomputable def C_init657 (K : Params → Frag) (V : Program) : Prop := ∀ (x dx : Addr), Tri K V 657 1 [.ref x] [(x, .ob (instObj 660 dx)), (dx, .dk 0 no0)] (fun _ _ => True) (fun _ k => k .none [(x, .ob (instObj 660 dx))])
structure RnN (f : Str → Option Value) (hp ctr st lm : Value) : Prop where
  stash : f (Str.ofString "stash") = some st
  limits : f (Str.ofString "limits") = some lm
  counter : f (Str.ofString "counter") = some ctr
  methods : f (Str.ofString "methods") = some .none
  frames : ∃ v, f (Str.ofString "frames") = some v
noncomputable def C_init635 (K : Params → Frag) (V : Program) : Prop := ∀ (x dx : Addr) (hp ctr st lm : Value), Tri K V 635 1 [.ref x, hp, ctr, st, lm] [(x, .ob (instObj 638 dx)), (dx, .dk 0 no0)] (fun _ _ => True) (fun _ k => ∀ f, RnN f hp ctr st lm → k .none [(x, .ob (instObj 638 dx)), (dx, .di f)])
noncomputable def C_RefW (K : Params → Frag) (V : Program) : Prop := ∀ (t : Addr), Tri K V 183 2 [.ref t, .bool true] [] (fun _ _ => True) (fun _ k => ∀ r dr, k (.ref r) [(r, .ob (instObj 183 dr)), (dr, .di (upd (Str.ofString "is_weak") (.bool true) (upd (Str.ofString "target") (.ref t) no0)))])
noncomputable def C_Limits (K : Params → Frag) (V : Program) : Prop := Tri K V 660 2 [] [] (fun _ _ => True) (fun _ k => ∀ (x dx : Addr), k (.ref x) [(x, .ob (instObj 660 dx))])
noncomputable def C_Run (K : Params → Frag) (V : Program) : Prop := ∀ (hp ctr st lm : Value), Tri K V 638 2 [hp, ctr, st, lm] [] (fun _ _ => True) (fun _ k => ∀ (x dx : Addr) f, RnN f hp ctr st lm → k (.ref x) [(x, .ob (instObj 638 dx)), (dx, .di f)])
theorem c_init180w {K : Params → Frag} {V : Program} (HK : KOk K) : C_init180w K V := by
  intro x dx t
  k_extra "IN 180"
  k_extra "go"
  exact fin_wk hk (.tl (.dk rfl .rfl)) (by k_extra "cut")
theorem c_init657 {K : Params → Frag} {V : Program} (HK : KOk K) : C_init657 K V := by
  intro x dx
  refine' tri_inDx HK.f657 (fun xs => [(Str.ofString "items", xs[4]?.getD .none), (Str.ofString "text", xs[3]?.getD .none), (Str.ofString "steps", xs[2]?.getD .none), (Str.ofString "depth", xs[1]?.getD .none), (Str.ofString "width", xs[0]?.getD .none), (Str.ofString "self", .ref x)]) 4000 ?hb ?hl ?hf ?hn ?_
  case hb => rintro _ ⟨t1, t2, t3, t4, t5, rfl⟩; intros; refine ⟨_, rfl, ?_⟩; exact rfl
  case hl => intro xs; exact rfl
  case hf => exact rfl
  case hn => exact rfl
  intro xs q9 v9 c k9 Z hP hk
  (try dsimp only at hP hk)
  k_extra "go"
  exact fin_mk hk (by k_extra "cut")
theorem c_init635 {K : Params → Frag} {V : Program} (HK : KOk K) : C_init635 K V := by
  intro x dx hp ctr st lm
  k_extra "IN 635"
  k_extra "go"
  exact fin_wk (hk _ ⟨rfl, rfl, rfl, rfl, _, rfl⟩) (.tl (.dk rfl .rfl)) (by k_extra "cut")
theorem c_RefW {K : Params → Frag} {V : Program} (HK : KOk K) : C_RefW K V := fun t =>
  cls_tri (fI := 180) HK.toKCl rfl (fun x dx => c_init180w HK x dx t) fun _ _ h x dx => h x dx
theorem c_Limits {K : Params → Frag} {V : Program} (HK : KOk K) : C_Limits K V :=
  cls_tri (fI := 657) HK.toKCl rfl (fun x dx => c_init657 HK x dx) fun _ _ h x dx => h x dx
theorem c_Run {K : Params → Frag} {V : Program} (HK : KOk K) : C_Run K V := fun hp ctr st lm =>
  cls_tri (fI := 635) HK.toKCl rfl (fun x dx => c_init635 HK x dx hp ctr st lm) fun _ _ h x dx => h x dx
structure StG (f : Str → Option Value) (gl hp : Addr) : Prop where
  globs : f (Str.ofString "globs") = some (.ref gl)
  heap : f (Str.ofString "heap") = some (.ref hp)
  m1 : f (Str.ofString "glob_of") = none
structure HpM (fh : Str → Option Value) (n : Int) : Prop where
  last : ∃ u, fh (Str.ofString "last") = some (.int n u)
  m1 : fh (Str.ofString "next_number") = none
  m2 : fh (Str.ofString "new_glob") = none
  m3 : fh (Str.ofString "new_array") = none
  m4 : fh (Str.ofString "new_scalar") = none
  m5 : fh (Str.ofString "new_hash") = none
  m6 : fh (Str.ofString "new_code") = none
  zero : ∃ zl : Addr, fh (Str.ofString "zero") = some (.ref zl)
noncomputable def C_glob_ofO (K : Params → Frag) (V : Program) : Prop := ∀ (st ds gl hp x : Addr) (f : Str → Option Value) (kvs : List (Str × Value)) (nm : Str) (ut : Tok), StG f gl hp → valueAt kvs nm = some (.ref x) →
  Tri K V 685 5 [.ref st, .str nm ut] [] (fun w g => OAt w g st (.ob (instObj 723 ds)) ∧ OAt w g ds (.di f) ∧ OAt w g gl (.sd kvs)) (fun _ k => k (.ref x) [])
noncomputable def arF (n : Int) (wl l : Addr) (u u2 : Tok) : Str → Option Value := upd (Str.ofString "tied") .none (upd (Str.ofString "items") (.ref l) (thF0 n wl u u2))
noncomputable def C_array_ofN (K : Params → Frag) (V : Program) : Prop := ∀ (st ds hp dhp gl : Addr) (f fh : Str → Option Value) (kvs : List (Str × Value)) (nm : Str) (ut : Tok) (n : Int), valueAt kvs nm = none → kvs.length ≤ 100 → HpM fh n → StG f gl hp →
  Tri K V 699 7 [.ref st, .str nm ut] [(gl, .sd kvs), (dhp, .di fh)] (fun w g => OAt w g hp (.ob (instObj 246 dhp)) ∧ OAt w g st (.ob (instObj 723 ds)) ∧ OAt w g ds (.di f))
    (fun _ k => ∀ x dx wl u u2 ax da wa ub ub2 uc l, k (.ref ax) [(ax, .ob (instObj 106 da)), (da, .di (cntU (arF (n + 1 + 1) wa l ub ub2) 1 uc)), (l, .li []), (x, .ob (instObj 163 dx)), (dx, .di (upd (Str.ofString "array") (.ref ax) (glF (n + 1) (.str nm ut) wl u u2))), (gl, .sd (stored kvs nm (.ref x))), (dhp, .di (hpU (hpU fh n u) (n + 1) ub))])
noncomputable def C_array_ofO (K : Params → Frag) (V : Program) : Prop := ∀ (st ds hp gl x dx ax : Addr) (f fg : Str → Option Value) (kvs : List (Str × Value)) (nm : Str) (ut : Tok), StG f gl hp → valueAt kvs nm = some (.ref x) → fg (Str.ofString "array") = some (.ref ax) →
  Tri K V 699 7 [.ref st, .str nm ut] [] (fun w g => OAt w g st (.ob (instObj 723 ds)) ∧ OAt w g ds (.di f) ∧ OAt w g gl (.sd kvs) ∧ OAt w g x (.ob (instObj 163 dx)) ∧ OAt w g dx (.di fg)) (fun _ k => k (.ref ax) [])
theorem c_glob_ofO {K : Params → Frag} {V : Program} (HK : KOk K) : C_glob_ofO K V := by
  intro st ds gl hp x f kvs nm ut hf hx
  k_extra "IN 685"
  refine elAA hP ?_; (try clear hP); rintro b1 b2 b3
  obtain ⟨a1, a2, a3⟩ := hf
  k_extra "go"
  exact fin_mk hk .nil
theorem c_array_ofN {K : Params → Frag} {V : Program} (HK : KOk K) : C_array_ofN K V := by
  intro st ds hp dhp gl f fh kvs nm ut n h0 hz hm hf
  k_extra "IN 699"
  refine elAA hP ?_; (try clear hP); rintro a4 b1 b2
  obtain ⟨a1, a2, a3⟩ := hf
  obtain ⟨⟨nu, m0⟩, m1, m2, m3, m4, m5, m6, m7⟩ := hm
  have hsh : StH c.w c.g st hp dhp gl f := ⟨a2, a1, a3, a4⟩
  k_extra "go"
  exact fin_mk (hk _ _ _ _ _ _ _ _ _ _ _ _) (by k_extra "cut")
theorem c_array_ofO {K : Params → Frag} {V : Program} (HK : KOk K) : C_array_ofO K V := by
  intro st ds hp gl x dx ax f fg kvs nm ut hf h1 h2
  k_extra "IN 699"
  refine elAAAA hP ?_; (try clear hP); rintro b1 b2 b3 b4 b5
  have hf' := hf
  obtain ⟨a1, a2, a3⟩ := hf
  k_extra "go"
  exact fin_mk hk .nil
structure CtrM (w : World) (g : Heap) (ctr : Addr) : Prop where
  ex : ∃ d f, OAt w g ctr (.ob (instObj 596 d)) ∧ OAt w g d (.di f) ∧ f (Str.ofString "hold") = none
theorem CtrM.keeps {w : World} {g g' : Heap} {ctr : Addr} (x : CtrM w g ctr) (k : Keep g g') : CtrM w g' ctr := ⟨let ⟨d, f, a, b, c⟩ := x.ex; ⟨d, f, a.keeps k, b.keeps k, c⟩⟩
noncomputable def C_swapN (K : Params → Frag) (V : Program) : Prop := ∀ (ctr x dx C : Addr) (f : Str → Option Value) (n : Int) (nu : Tok), hasA thC C = true → f (Str.ofString "count") = some (.int n nu) → Tri K V 734 2 [.ref ctr, .ref x, .none] [(dx, .di f)] (fun w g => CtrM w g ctr ∧ OAt w g x (.ob (instObj C dx))) (fun _ k => ∀ u, k .none [(dx, .di (cntU f (n + 1) u))])
noncomputable def C_swapO (K : Params → Frag) (V : Program) : Prop := ∀ (ctr hp dhp zl x dx C y dy C' : Addr) (fh f fy : Str → Option Value) (n m : Int) (nu mu : Tok) (zs : List Value), hasA thC C = true → hasA thC C' = true → f (Str.ofString "count") = some (.int n nu) → fy (Str.ofString "count") = some (.int m mu) → zs.length ≤ 80 →
  Tri K V 734 2 [.ref ctr, .ref x, .ref y] [(dx, .di f), (dy, .di fy), (zl, .li zs)] (fun w g => CtrAt w g ctr hp dhp zl fh ∧ OAt w g x (.ob (instObj C dx)) ∧ OAt w g y (.ob (instObj C' dy))) (fun _ k => ∀ u u2 zs', zs'.length ≤ zs.length + 1 → k .none [(dx, .di (cntU f (n + 1) u)), (dy, .di (cntU fy (m - 1) u2)), (zl, .li zs')])
noncomputable def genU (f : Str → Option Value) (n : Int) (u : Tok) : Str → Option Value := upd (Str.ofString "generation") (.int (n + 1) u) f
noncomputable def C_set_codeN (K : Params → Frag) (V : Program) : Prop := ∀ (st ds hp dhp gl ctr c dc : Addr) (f fh fc : Str → Option Value) (kvs : List (Str × Value)) (nm : Str) (ut : Tok) (n m gen : Int) (mu gu : Tok), valueAt kvs nm = none → kvs.length ≤ 100 → HpM fh n → StG f gl hp → f (Str.ofString "generation") = some (.int gen gu) → fc (Str.ofString "count") = some (.int m mu) →
  Tri K V 741 7 [.ref st, .ref ctr, .str nm ut, .ref c] [(gl, .sd kvs), (dhp, .di fh), (ds, .di f), (dc, .di fc)] (fun w g => OAt w g hp (.ob (instObj 246 dhp)) ∧ OAt w g st (.ob (instObj 723 ds)) ∧ CtrM w g ctr ∧ OAt w g c (.ob (instObj 144 dc)))
    (fun _ k => ∀ x dx wl u u2 u3 u4, k .none [(x, .ob (instObj 163 dx)), (dx, .di (upd (Str.ofString "code") (.ref c) (glF (n + 1) (.str nm ut) wl u u2))), (gl, .sd (stored kvs nm (.ref x))), (dhp, .di (hpU fh n u)), (ds, .di (genU f gen u3)), (dc, .di (cntU fc (m + 1) u4))])
noncomputable def C_set_codeO (K : Params → Frag) (V : Program) : Prop := ∀ (st ds hp dhp gl zl ctr c dc x dx y dy : Addr) (f fh fc fg fy : Str → Option Value) (kvs : List (Str × Value)) (nm : Str) (ut : Tok) (m k gen : Int) (mu ku gu : Tok) (zs : List Value), valueAt kvs nm = some (.ref x) → fg (Str.ofString "code") = some (.ref y) → StG f gl hp → f (Str.ofString "generation") = some (.int gen gu) → fc (Str.ofString "count") = some (.int m mu) → fy (Str.ofString "count") = some (.int k ku) → zs.length ≤ 80 →
  Tri K V 741 7 [.ref st, .ref ctr, .str nm ut, .ref c] [(ds, .di f), (dc, .di fc), (dx, .di fg), (dy, .di fy), (zl, .li zs)] (fun w g => CtrAt w g ctr hp dhp zl fh ∧ OAt w g st (.ob (instObj 723 ds)) ∧ OAt w g gl (.sd kvs) ∧ OAt w g x (.ob (instObj 163 dx)) ∧ OAt w g c (.ob (instObj 144 dc)) ∧ OAt w g y (.ob (instObj 144 dy)))
    (fun _ q => ∀ u3 u4 u5 zs', zs'.length ≤ zs.length + 1 → q .none [(ds, .di (genU f gen u3)), (dc, .di (cntU fc (m + 1) u4)), (dx, .di (upd (Str.ofString "code") (.ref c) fg)), (dy, .di (cntU fy (k - 1) u5)), (zl, .li zs')])
theorem c_swapN {K : Params → Frag} {V : Program} (HK : KOk K) : C_swapN K V := by
  intro ctr x dx C f n nu hC h1
  k_extra "IN 734"
  refine elA hP ?_; (try clear hP); rintro ⟨d, fc, a, b, e1⟩ hx
  k_extra "go"
  exact fin_mk (hk _) (by k_extra "cut")
theorem c_swapO {K : Params → Frag} {V : Program} (HK : KOk K) : C_swapO K V := by
  intro ctr hp dhp zl x dx C y dy C' fh f fy n m nu mu zs hC hC' h1 h4 hz
  k_extra "IN 734"
  refine elAA hP ?_; (try clear hP); rintro hctr hx hy
  obtain ⟨⟨d, fc, a, b, e1, e2, e3⟩, g1, g2, g3⟩ := id hctr
  k_extra "go"
  exact fin_mk (hk _ _ _ (by assumption)) (by k_extra "cut")
theorem c_set_codeN {K : Params → Frag} {V : Program} (HK : KOk K) : C_set_codeN K V := by
  intro st ds hp dhp gl ctr c dc f fh fc kvs nm ut n m gen mu gu h0 hz hm hf hg hc
  k_extra "IN 741"
  refine elAAA hP ?_; (try clear hP); rintro a4 b1 b2 b3
  obtain ⟨a1, a2, a3⟩ := hf
  obtain ⟨⟨nu, m0⟩, m1, m2, m3, m4, m5, m6, m7⟩ := hm
  k_extra "go"
  exact fin_mk (hk _ _ _ _ _ _ _) (by k_extra "cut")
theorem c_set_codeO {K : Params → Frag} {V : Program} (HK : KOk K) : C_set_codeO K V := by
  intro st ds hp dhp gl zl ctr c dc x dx y dy f fh fc fg fy kvs nm ut m k gen mu ku gu zs h0 h1 hf hg hc hy hz
  k_extra "IN 741"
  refine elAAAAA hP ?_; (try clear hP); rintro hctr b1 b2 b3 b4 b5
  have hf' := hf
  obtain ⟨a1, a2, a3⟩ := hf
  k_extra "go"
  exact fin_mk (hk _ _ _ _ (by assumption)) (by k_extra "cut")
section
variable {c : Cf} {k : Nat} {l : List (Str × Value)} {H : Heap} {ld : LD} {a : Addr} {R : Kt Value} {v : Value} {u : Tok} {kvs : List (Int × Value)} {x : Int}
theorem i_gmP {RM : Kt (Value × List Value)} {pl : Sem Bool} (y : Hd c.w H ld a (.nd kvs)) (z : RM (.builtin "dict.pop", [.ref a]) l H ld) : Stp k (Sp c l H ld (getMethod (.ref a) (Str.ofString "pop") pl) RM) := .mk fun h t A =>
  have m := (y.dict (knd := PySem.intKind PG c.w) rfl (fun _ h => h) A).1.mapOf
  getMethod_builtin m.typeIs PySem.F.plainAttrs_dict PySem.F.slot_dict_pop PySem.F.type_dict_pop m.noDict (.mk l H ld h t A z)
theorem i_popN (y : Hd c.w H ld a (.nd kvs)) (e : valueAt kvs x = none) (z : R v l H ld) : Stp k (Sp c l H ld (call (.builtin "dict.pop") [.ref a, .int x u, v]) R) := .mk fun h t A =>
  have m := y.dict (knd := PySem.intKind PG c.w) rfl (fun _ h => h) A
  call_meetsIn PySem.F.slot_dict_pop m.1.mapOf.typeIs PySem.F.entry_dict_pop (PySem.F.args_dict_pop_3 _ _ _) (meets_dict_pop_default (PySem.intKind PG c.w) a (intKind_is _ _ _ _) m.2 rfl v) ⟨kvs, m.1, e, .mk l H ld h _ A z⟩
end
structure RefN (w : World) (h : Heap) (r x : Addr) : Prop where
  ex : ∃ dr f, OAt w h r (.ob (instObj 183 dr)) ∧ OAt w h dr (.di f) ∧ f (Str.ofString "target") = some (.ref x) ∧ f (Str.ofString "is_weak") = some (.bool false)
theorem RefN.keeps {w : World} {h h' : Heap} {r x : Addr} (a : RefN w h r x) (k : Keep h h') : RefN w h' r x := let ⟨dr, f, b1, b2, b3⟩ := a.ex; ⟨dr, f, b1.keeps k, b2.keeps k, b3⟩
theorem RefN.at_ {w : World} {h : Heap} {r x : Addr} (a : RefN w h r x) : RefAt w h r x := let ⟨dr, f, b1, b2, b3, _⟩ := a.ex; ⟨dr, f, b1, b2, b3⟩
structure CtrS (w : World) (g : Heap) (ctr hp dhp zl : Addr) (fh : Str → Option Value) : Prop where
  ex : ∃ d f pl, OAt w g ctr (.ob (instObj 596 d)) ∧ OAt w g d (.di f) ∧ f (Str.ofString "heap") = some (.ref hp) ∧ f (Str.ofString "let_go") = none ∧ f (Str.ofString "hold") = none ∧ f (Str.ofString "take") = none ∧ f (Str.ofString "put_off") = none ∧ f (Str.ofString "store") = none ∧ f (Str.ofString "places") = some (.ref pl) ∧ OAt w g pl (.nd [])
  hp : OAt w g hp (.ob (instObj 246 dhp))
  dh : OAt w g dhp (.di fh)
  zl : fh (Str.ofString "zero") = some (.ref zl)
theorem CtrS.keeps {w : World} {g g' : Heap} {ctr hp dhp zl : Addr} {fh : Str → Option Value} (x : CtrS w g ctr hp dhp zl fh) (k : Keep g g') : CtrS w g' ctr hp dhp zl fh :=
  ⟨let ⟨d, f, pl, a, b, c1, c2, c3, c4, c5, c6, c7, c8⟩ := x.ex; ⟨d, f, pl, a.keeps k, b.keeps k, c1, c2, c3, c4, c5, c6, c7, c8.keeps k⟩, x.hp.keeps k, x.dh.keeps k, x.zl⟩
theorem CtrS.at_ {w : World} {g : Heap} {ctr hp dhp zl : Addr} {fh : Str → Option Value} (x : CtrS w g ctr hp dhp zl fh) : CtrAt w g ctr hp dhp zl fh := ⟨let ⟨d, f, _, a, b, c1, c2, c3, _⟩ := x.ex; ⟨d, f, a, b, c1, c2, c3⟩, x.hp, x.dh, x.zl⟩
theorem CtrS.m {w : World} {g : Heap} {ctr hp dhp zl : Addr} {fh : Str → Option Value} (x : CtrS w g ctr hp dhp zl fh) : CtrM w g ctr := ⟨let ⟨d, f, _, a, b, _, _, c3, _⟩ := x.ex; ⟨d, f, a, b, c3⟩⟩
noncomputable def C_takeR (K : Params → Frag) (V : Program) : Prop := ∀ (ctr r x dx C : Addr) (f : Str → Option Value) (n : Int) (nu : Tok), hasA thC C = true → f (Str.ofString "count") = some (.int n nu) → Tri K V 546 2 [.ref ctr, .ref r] [(dx, .di f)] (fun w g => CtrM w g ctr ∧ RefN w g r x ∧ OAt w g x (.ob (instObj C dx))) (fun _ k => ∀ u, k (.ref r) [(dx, .di (cntU f (n + 1) u))])
noncomputable def C_put_offR (K : Params → Frag) (V : Program) : Prop := ∀ (sc : Value) (ctr hp dhp zl r x dx C : Addr) (fh f : Str → Option Value) (n : Int) (nu : Tok) (zs : List Value), hasA thC C = true → f (Str.ofString "count") = some (.int n nu) → zs.length ≤ 90 → Tri K V 551 2 [.ref ctr, sc, .ref r] [(dx, .di f), (zl, .li zs)] (fun w g => CtrAt w g ctr hp dhp zl fh ∧ RefN w g r x ∧ OAt w g x (.ob (instObj C dx))) (fun _ k => ∀ u zs', zs'.length ≤ zs.length + 1 → k .none [(dx, .di (cntU f (n - 1) u)), (zl, .li zs')])
theorem c_takeR {K : Params → Frag} {V : Program} (HK : KOk K) : C_takeR K V := by
  intro ctr r x dx C f n nu hC h1
  k_extra "IN 546"
  refine elAA hP ?_; (try clear hP); rintro ⟨d, fc, a, b, e1⟩ ⟨dr, fr, r1, r2, r3, r4⟩ hx
  k_extra "go"
  exact fin_mk (hk _) (by k_extra "cut")
theorem c_put_offR {K : Params → Frag} {V : Program} (HK : KOk K) : C_put_offR K V := by
  intro sc ctr hp dhp zl r x dx C fh f n nu zs hC h1 hz
  k_extra "IN 551"
  refine elAA hP ?_; (try clear hP); rintro hctr ⟨dr, fr, r1, r2, r3, r4⟩ hx
  obtain ⟨⟨d, fc, a, b, e1, e2, e3⟩, g1, g2, g3⟩ := id hctr
  k_extra "go"
  exact fin_mk (hk _ _ (by assumption)) (by k_extra "cut")
structure ScF (f : Str → Option Value) (v : Value) : Prop where
  num : ∃ (n : Int) (u : Tok), f (Str.ofString "number") = some (.int n u)
  magic : f (Str.ofString "magic") = some .none
  val : f (Str.ofString "value") = some v
noncomputable def valU (f : Str → Option Value) (v : Value) : Str → Option Value := upd (Str.ofString "value") v f
noncomputable def C_storePP (K : Params → Frag) (V : Program) : Prop := ∀ (ctr hp dhp zl sc dx : Addr) (fh f : Str → Option Value) (v o : Value), ScF f o → Plain o → Plain v →
  Tri K V 558 3 [.ref ctr, .ref sc, v] [(dx, .di f)] (fun w g => CtrS w g ctr hp dhp zl fh ∧ OAt w g sc (.ob (instObj 87 dx))) (fun _ k => k .none [(dx, .di (valU f v))])
noncomputable def C_storePR (K : Params → Frag) (V : Program) : Prop := ∀ (ctr hp dhp zl sc dx r y dy C : Addr) (fh f fy : Str → Option Value) (v : Value) (n : Int) (nu : Tok) (zs : List Value), ScF f (.ref r) → Plain v → hasA thC C = true → fy (Str.ofString "count") = some (.int n nu) → zs.length ≤ 90 →
  Tri K V 558 3 [.ref ctr, .ref sc, v] [(dx, .di f), (dy, .di fy), (zl, .li zs)] (fun w g => CtrS w g ctr hp dhp zl fh ∧ OAt w g sc (.ob (instObj 87 dx)) ∧ RefN w g r y ∧ OAt w g y (.ob (instObj C dy))) (fun _ k => ∀ u zs', zs'.length ≤ zs.length + 1 → k .none [(dx, .di (valU f v)), (dy, .di (cntU fy (n - 1) u)), (zl, .li zs')])
noncomputable def C_storeRP (K : Params → Frag) (V : Program) : Prop := ∀ (ctr hp dhp zl sc dx r y dy C : Addr) (fh f fy : Str → Option Value) (o : Value) (n : Int) (nu : Tok), ScF f o → Plain o → hasA thC C = true → fy (Str.ofString "count") = some (.int n nu) →
  Tri K V 558 3 [.ref ctr, .ref sc, .ref r] [(dx, .di f), (dy, .di fy)] (fun w g => CtrS w g ctr hp dhp zl fh ∧ OAt w g sc (.ob (instObj 87 dx)) ∧ RefN w g r y ∧ OAt w g y (.ob (instObj C dy))) (fun _ k => ∀ u, k .none [(dx, .di (valU f (.ref r))), (dy, .di (cntU fy (n + 1) u))])
noncomputable def C_storeRR (K : Params → Frag) (V : Program) : Prop := ∀ (ctr hp dhp zl sc dx r y dy C r2 y2 dy2 C2 : Addr) (fh f fy fy2 : Str → Option Value) (n m : Int) (nu mu : Tok) (zs : List Value), ScF f (.ref r2) → hasA thC C = true → hasA thC C2 = true → fy (Str.ofString "count") = some (.int n nu) → fy2 (Str.ofString "count") = some (.int m mu) → zs.length ≤ 90 →
  Tri K V 558 3 [.ref ctr, .ref sc, .ref r] [(dx, .di f), (dy, .di fy), (dy2, .di fy2), (zl, .li zs)] (fun w g => CtrS w g ctr hp dhp zl fh ∧ OAt w g sc (.ob (instObj 87 dx)) ∧ (RefN w g r y ∧ OAt w g y (.ob (instObj C dy))) ∧ RefN w g r2 y2 ∧ OAt w g y2 (.ob (instObj C2 dy2)))
    (fun _ k => ∀ u u2 zs', zs'.length ≤ zs.length + 1 → k .none [(dx, .di (valU f (.ref r))), (dy, .di (cntU fy (n + 1) u)), (dy2, .di (cntU fy2 (m - 1) u2)), (zl, .li zs')])
noncomputable def C_storeRS (K : Params → Frag) (V : Program) : Prop := ∀ (ctr hp dhp zl sc dx r y dy C r2 : Addr) (fh f fy : Str → Option Value) (n : Int) (nu : Tok) (zs : List Value), ScF f (.ref r2) → hasA thC C = true → fy (Str.ofString "count") = some (.int n nu) → zs.length ≤ 90 →
  Tri K V 558 3 [.ref ctr, .ref sc, .ref r] [(dx, .di f), (dy, .di fy), (zl, .li zs)] (fun w g => CtrS w g ctr hp dhp zl fh ∧ OAt w g sc (.ob (instObj 87 dx)) ∧ (RefN w g r y ∧ OAt w g y (.ob (instObj C dy))) ∧ RefN w g r2 y)
    (fun _ k => ∀ u u2 zs', zs'.length ≤ zs.length + 1 → k .none [(dx, .di (valU f (.ref r))), (dy, .di (cntU (cntU fy (n + 1) u) (n + 1 - 1) u2)), (zl, .li zs')])
theorem c_storePP {K : Params → Frag} {V : Program} (HK : KOk K) : C_storePP K V := by
  intro ctr hp dhp zl sc dx fh f v o hf ho hv
  k_extra "IN 558"
  refine elA hP ?_; (try clear hP); rintro hct hx
  refine elEEEAAAAAAAAA hct.ex ?_; rintro d fc pl a b e1 e2 e3 e4 e5 e6 e7 e8
  obtain ⟨⟨n, u, q1⟩, q2, q3⟩ := hf
  k_extra "go"
  exact fin_mk hk (by k_extra "cut")
theorem c_storePR {K : Params → Frag} {V : Program} (HK : KOk K) : C_storePR K V := by
  intro ctr hp dhp zl sc dx r y dy C fh f fy v n nu zs hf hv hC hn hz
  k_extra "IN 558"
  refine elAAA hP ?_; (try clear hP); rintro hct hx hr hy
  refine elEEEAAAAAAAAA hct.ex ?_; rintro d fc pl a b e1 e2 e3 e4 e5 e6 e7 e8
  obtain ⟨⟨n, u, q1⟩, q2, q3⟩ := hf
  have hca := hct.at_
  k_extra "go"
  exact fin_mk (hk _ _ (by assumption)) (by k_extra "cut")
theorem c_storeRP {K : Params → Frag} {V : Program} (HK : KOk K) : C_storeRP K V := by
  intro ctr hp dhp zl sc dx r y dy C fh f fy o n nu hf ho hC hn
  k_extra "IN 558"
  refine elAAA hP ?_; (try clear hP); rintro hct hx hr hy
  refine elEEEAAAAAAAAA hct.ex ?_; rintro d fc pl a b e1 e2 e3 e4 e5 e6 e7 e8
  obtain ⟨⟨n, u, q1⟩, q2, q3⟩ := hf
  have hca := hct.m
  k_extra "go"
  exact fin_mk (hk _) (by k_extra "cut")
theorem c_storeRR {K : Params → Frag} {V : Program} (HK : KOk K) : C_storeRR K V := by
  intro ctr hp dhp zl sc dx r y dy C r2 y2 dy2 C2 fh f fy fy2 n m nu mu zs hf hC hC2 hn hm hz
  k_extra "IN 558"
  refine elAAAA hP ?_; (try clear hP); rintro hct hx ⟨hr, hy⟩ hr2 hy2
  refine elEEEAAAAAAAAA hct.ex ?_; rintro d fc pl a b e1 e2 e3 e4 e5 e6 e7 e8
  obtain ⟨⟨n, u, q1⟩, q2, q3⟩ := hf
  have hca := hct.m
  have hcb := hct.at_
  k_extra "go"
  exact fin_mk (hk _ _ _ (by assumption)) (by k_extra "cut")
theorem c_storeRS {K : Params → Frag} {V : Program} (HK : KOk K) : C_storeRS K V := by
  intro ctr hp dhp zl sc dx r y dy C r2 fh f fy n nu zs hf hC hn hz
  k_extra "IN 558"
  refine elAAA hP ?_; (try clear hP); rintro hct hx ⟨hr, hy⟩ hr2
  refine elEEEAAAAAAAAA hct.ex ?_; rintro d fc pl a b e1 e2 e3 e4 e5 e6 e7 e8
  obtain ⟨⟨n, u, q1⟩, q2, q3⟩ := hf
  have hca := hct.m
  have hcb := hct.at_
  k_extra "go"
  exact fin_mk (hk _ _ _ (by assumption)) (by k_extra "cut")
noncomputable def blessedAs (x : Str) : Str := cond (x == Str.ofString "") (Str.ofString "main") x
noncomputable def blU (f : Str → Option Value) (x : Str) (u : Tok) : Str → Option Value := upd (Str.ofString "blessed") (.str x u) f
structure FrmD (w : World) (h : Heap) (frs : Value) (pk : Value) : Prop where
  ex : ∃ fl fr df ff, frs = .ref fl ∧ FL w h fl ([] ++ [.ref fr]) ∧ OAt w h fr (.ob (instObj 617 df)) ∧ OAt w h df (.di ff) ∧ ff (Str.ofString "package") = some pk
theorem FrmD.keeps {w : World} {h h' : Heap} {frs pk : Value} (a : FrmD w h frs pk) (k : Keep h h') : FrmD w h' frs pk := ⟨let ⟨fl, fr, df, ff, a, b, c, d, e⟩ := a.ex; ⟨fl, fr, df, ff, a, b.keeps k, c.keeps k, d.keeps k, e⟩⟩
noncomputable def C_bless_value (K : Params → Frag) (V : Program) : Prop := ∀ (r tx dx C : Addr) (f : Str → Option Value) (bv pk : Value) (x : Str), Plain pk → textP pk = some x → hasA thC C = true → f (Str.ofString "blessed") = some bv → Tri K V 427 5 [.ref r, pk] [(dx, .di f)]
  (fun w g => RefAt w g r tx ∧ OAt w g tx (.ob (instObj C dx))) (fun _ k => ∀ u, k (.ref r) [(dx, .di (blU f (blessedAs x) u))])
noncomputable abbrev BlP (rn st ca a r tx dx C : Addr) (lim frs cnt pk0 : Value) (rest : List Value) (w : World) (g : Heap) : Prop := RunD w g rn st ca lim frs cnt ∧ FrmD w g frs pk0 ∧ FL w g a (.ref r :: rest) ∧ RefAt w g r tx ∧ OAt w g tx (.ob (instObj C dx))
noncomputable def C_bless_func (K : Params → Frag) (V : Program) : Prop := ∀ (r tx dx C rn st ca a : Addr) (lim frs cnt want pk0 pk : Value) (rest : List Value) (f : Str → Option Value) (bv : Value) (x : Str), Plain pk → textP pk = some x → hasA thC C = true → f (Str.ofString "blessed") = some bv → Plain pk0 → (rest = [] ∧ pk = pk0 ∨ rest = [pk]) → Tri K V 469 7 [.ref rn, .ref a, want] [(dx, .di f)]
  (BlP rn st ca a r tx dx C lim frs cnt pk0 rest) (fun _ k => ∀ u, k (.ref r) [(dx, .di (blU f (blessedAs x) u))])
noncomputable def C_lbless (K : Params → Frag) (V : Program) : Prop := ∀ (r tx dx C rn st ca a : Addr) (lim frs cnt pk0 pk : Value) (rest : List Value) (f : Str → Option Value) (bv : Value) (x : Str), Plain pk → textP pk = some x → hasA thC C = true → f (Str.ofString "blessed") = some bv → Plain pk0 → (rest = [] ∧ pk = pk0 ∨ rest = [pk]) → Tri K V 775 9 [.ref rn, .ref a] [(dx, .di f)]
  (BlP rn st ca a r tx dx C lim frs cnt pk0 rest) (fun _ k => ∀ u, k (.ref r) [(dx, .di (blU f (blessedAs x) u))])
theorem c_bless_value {K : Params → Frag} {V : Program} (HK : KOk K) : C_bless_value K V := by
  intro r tx dx C f bv pk x hpl htx hC hb
  k_extra "IN 427"
  refine elA hP ?_; (try clear hP); rintro hr ht
  obtain ⟨dr, fr, r1, r2, r3⟩ := id hr
  unfold blessedAs at hk
  k_extra "go"
  all_goals (rw [b9] at hk; exact fin_mk (hk _) (by k_extra "cut"))
theorem c_bless_func {K : Params → Frag} {V : Program} (HK : KOk K) : C_bless_func K V := by
  intro r tx dx C rn st ca a lim frs cnt want pk0 pk rest f bv x hpl htx hC hb hpl0 hrest
  k_extra "IN 469"
  refine elAAAA hP ?_; (try clear hP); rintro ⟨drn, frn, a1, b1, ⟨h1, h2, h3, h4, h5⟩⟩ ⟨fl, fr, df, ff, rfl, e1, e2, e3, e4⟩ hl hr ht
  have hh := hpl0.handed
  rcases hrest with ⟨rfl, rfl⟩ | rfl
  · k_extra "go"
    exact fin_mk (hk _) (by k_extra "cut")
  · k_extra "go"
    exact fin_mk (hk _) (by k_extra "cut")
theorem c_lbless {K : Params → Frag} {V : Program} (HK : KOk K) : C_lbless K V := by
  intro r tx dx C rn st ca a lim frs cnt pk0 pk rest f bv x hpl htx hC hb hpl0 hrest
  k_extra "IN 775"
  refine elAAAA hP ?_; (try clear hP); rintro p1 p2 p3 p4 p5
  k_extra "go"
  k_extra "st"
  refine e_try 4000 Z ?_
  intro E' Z'
  k_extra "go"
  exact fin_mk (hk _) (by k_extra "cut")
noncomputable def C_init313 (K : Params → Frag) (V : Program) : Prop := ∀ (e t0 : Addr) (v : Value), Tri K V 313 1 [.ref e, v] [(e, .ob (dieObj 336 t0))] (fun _ _ => True) (fun _ k => ∀ d t1, k .none [(e, .ob (dieAt d t1)), (d, .dk 1 (upd (Str.ofString "text") v no0))])
noncomputable def C_init333 (K : Params → Frag) (V : Program) : Prop := ∀ (e t0 : Addr) (x : Str) (u : Tok), Tri K V 333 2 [.ref e, .str x u] [(e, .ob (dieObj 336 t0))] (fun _ _ => True) (fun _ k => ∀ d t1 f, f (Str.ofString "value") = some (.str x u) → k .none [(e, .ob (dieAt d t1)), (d, .di f)])
noncomputable def C_Die (K : Params → Frag) (V : Program) : Prop := ∀ (x : Str) (u : Tok), Tri K V 336 3 [.str x u] [] (fun _ _ => True) (fun _ k => ∀ e d t1 f, f (Str.ofString "value") = some (.str x u) → k (.ref e) [(e, .ob (dieAt d t1)), (d, .di f)])
noncomputable def msg1 : Str := Str.ofString "Can't bless non-reference value"
noncomputable def msg2 : Str := Str.ofString "Attempt to bless into a reference"
inductive SubV (w : World) (h : Heap) : Value → Prop
  | plain {v} : Plain v → SubV w h v
  | ref {r x} : RefAt w h r x → SubV w h (.ref r)
theorem SubV.keeps {w : World} {h h' : Heap} {v : Value} (a : SubV w h v) (k : Keep h h') : SubV w h' v := by
  cases a with
  | plain a => exact .plain a
  | ref a => exact .ref (a.keeps k)
noncomputable def C_value_ofV (K : Params → Frag) (V : Program) : Prop := ∀ (v : Value), Tri K V 278 1 [v] [] (fun w h => SubV w h v) (fun _ k => k v [])

inductive Bad (w : World) (g : Heap) : Value → Value → Str → Prop
  | one {v pk : Value} : Plain v → SubV w g pk → Bad w g v pk msg1
  | two {r x r2 x2 : Addr} : RefAt w g r x → RefAt w g r2 x2 → Bad w g (.ref r) (.ref r2) msg2
theorem Bad.keeps {w : World} {h h' : Heap} {v pk : Value} {m : Str} (a : Bad w h v pk m) (k : Keep h h') : Bad w h' v pk m := by
  cases a with
  | one a b => exact .one a (b.keeps k)
  | two a b => exact .two (a.keeps k) (b.keeps k)
theorem Bad.sub {w : World} {h : Heap} {v pk : Value} {m : Str} (a : Bad w h v pk m) : SubV w h v ∧ SubV w h pk := by
  cases a with
  | one a b => exact ⟨.plain a, b⟩
  | two a b => exact ⟨.ref a, .ref b⟩
noncomputable def C_blessE (K : Params → Frag) (V : Program) : Prop := ∀ (v pk : Value) (m : Str), TriE K V 427 5 [v, pk] (fun w g => Bad w g v pk m) m
noncomputable abbrev BaP (rn st ca a : Addr) (lim frs cnt pk0 v pk : Value) (m : Str) (w : World) (g : Heap) : Prop := RunD w g rn st ca lim frs cnt ∧ FrmD w g frs pk0 ∧ FL w g a [v, pk] ∧ Bad w g v pk m
noncomputable def C_blessFE (K : Params → Frag) (V : Program) : Prop := ∀ (rn st ca a : Addr) (lim frs cnt want pk0 v pk : Value) (m : Str), Plain pk0 → TriE K V 469 7 [.ref rn, .ref a, want] (BaP rn st ca a lim frs cnt pk0 v pk m) m
noncomputable def C_lblessE (K : Params → Frag) (V : Program) : Prop := ∀ (rn st ca a : Addr) (lim frs cnt pk0 v pk : Value) (m : Str), Plain pk0 → TriC K V 775 9 [.ref rn, .ref a] (BaP rn st ca a lim frs cnt pk0 v pk m) m
theorem c_init313 {K : Params → Frag} {V : Program} (HK : KOk K) : C_init313 K V := by
  intro e t0 v
  k_extra "IN 313"
  k_extra "go"
  exact fin_mk (hk _ _) (by k_extra "cut")
theorem c_init333 {K : Params → Frag} {V : Program} (HK : KOk K) : C_init333 K V := by
  intro e t0 x u
  k_extra "IN 333"
  k_extra "go"
  exact fin_wk (hk _ _ _ rfl) (.tl (.dk rfl .rfl)) (by k_extra "cut")
theorem c_Die {K : Params → Frag} {V : Program} (HK : KOk K) : C_Die K V := fun x u =>
  die_tri HK (fun e t0 => c_init333 HK e t0 x u) fun _ _ h e d t1 f hf => h e d t1 f hf
theorem c_value_ofV {K : Params → Frag} {V : Program} (HK : KOk K) : C_value_ofV K V := by
  intro v w mean mg mb A g s k R hC hz hd hu LG hP
  cases hP with
  | plain a => exact c_value_ofP HK v a w mean mg mb A g s k R hC hz hd hu LG trivial
  | ref a => exact c_value_ofR HK _ _ w mean mg mb A g s k R hC hz hd hu LG a
theorem c_blessE {K : Params → Frag} {V : Program} (HK : KOk K) : C_blessE K V := by
  intro v pk m
  k_extra "IE 427"
  cases hP with
  | one hv hpk =>
    k_extra "go"
    k_extra "st"
    refine e_raise 4000 HK Z hfl ?_
    k_extra "go"
    exact .mk ⟨_, _, _, _, _, rfl, .head _, .tail _ (.head _), hf9⟩
  | two hr hr2 =>
    obtain ⟨dr, fr, r1, r2, r3⟩ := id hr
    obtain ⟨dr', fr', r1', r2', r3'⟩ := id hr2
    k_extra "go"
    k_extra "st"
    refine e_raise 4000 HK Z hfl ?_
    k_extra "go"
    exact .mk ⟨_, _, _, _, _, rfl, .head _, .tail _ (.head _), hf9⟩
theorem c_blessFE {K : Params → Frag} {V : Program} (HK : KOk K) : C_blessFE K V := by
  intro rn st ca a lim frs cnt want pk0 v pk m hpl0
  k_extra "IE 469"
  refine elAAA hP ?_; (try clear hP); rintro ⟨drn, frn, a1, b1, ⟨h1, h2, h3, h4, h5⟩⟩ ⟨fl, fr, df, ff, rfl, e1, e2, e3, e4⟩ hl hbad
  refine elA hbad.sub ?_; rintro sv1 sv2
  have hh := hpl0.handed
  k_extra "go"
  k_extra "st"
  exact e_triE (c_blessE HK v pk m) Z (by decide) EB9 (fun g k h => hbad.keeps k) hps
theorem c_lblessE {K : Params → Frag} {V : Program} (HK : KOk K) : C_lblessE K V := by
  intro rn st ca a lim frs cnt pk0 v pk m hpl0
  refine tri_inC775 HK 4000 ?_
  intro q9 v9 c base9 outer9 Z EB9 hP hps
  k_extra "go"
  k_extra "st"
  exact e_triE (c_blessFE HK rn st ca a lim frs cnt _ pk0 v pk m hpl0) Z (by decide) EB9 (fun g k h => ⟨hP.1.keeps k, hP.2.1.keeps k, hP.2.2.1.keeps k, hP.2.2.2.keeps k⟩) hps
section
variable {K0 : Params → Frag} {V : Program} {cc : CC} {c : Cf} {dz k : Nat} {l : List (Str × Value)} {H : Heap} {ld : LD}
theorem tst_inK {x z key : Str} {ca bk ed : Addr} {sc : Scope} {p1 p2 p3 pc : Pos} {a : Nat} {b : Pos} {kvs en : List (Str × Value)} {xs : List Str} (hx : sc.names.lookup x = some .local) (hkind : sc.kind = .function)
    (hz : ∀ C, (compEnvC sc [(z, ca)] C (envE cc c)).kindOf z = some .cell) (hd1 : (x == ("__debug__" : Str)) = false) (hd2 : (z == ("__debug__" : Str)) = false)
    (hm : (ca, Ds.ce (some (.ref bk))) ∈ ld) (hb : Hd c.w H ld bk (.sd kvs)) (he : valueAt kvs key = some (.ref ed)) (hen : Hd c.w H ld ed (.sd en)) :
    TstF cc c sc [(z, ca)] x (.Compare (.Name x p1) [.In] [.Subscript (.Name z p2) (.Constant (.str key) a b) p3] pc) (fun y => (valueAt en y).isSome) xs l H ld := by
  intro y u C oC m₂ h t E' Q' _ A hC hN hm2 hq
  refine wpAny_isTrue_Compare1 (wpAny_Name (wpAny_loadName_local (s := ⟨h, c.G, c.D, t, c.O⟩) (show (compEnvC sc [(z, ca)] C (envE cc c)).scope.kind = .function from hkind) (lookup_relabel_local hx) (hN.ns hC) hm2 ?_) hd1)
  obtain ⟨_, o, e, s⟩ := A.oat hm
  have d1 := hb.dict (knd := PySem.strKind PG c.w) rfl (fun _ h => h) A
  have d2 := hen.dict (knd := PySem.strKind PG c.w) rfl (fun _ h => h) A
  refine Subscript_ (wpAny_Name (wpAny_loadName_cell (show (compEnvC sc [(z, ca)] C (envE cc c)).scope.kind = .function from hkind) (hz C) (show List.lookup z [(z, ca)] = some ca by simp) ⟨o, e, s⟩ ?_) hd2)
  refine wpAny_Constant_str ?_
  refine tail_any d1.1.mapOf.typeIs slot_dict_getitem.lookup (wpAny_getItem_of (strKind_is _ _ _ _) d1.1.mapOf he ?_) (by with_unfolding_all rfl)
  refine wpAny_in_of (strKind_is _ _ _ _) d2.2 d2.1.mapOf ?_
  exact wpAny_truthy_bool (hq _)
theorem lcMkA {sc : Scope} {cl : List (Str × Addr)} {x y : Str} {ct : PySem.Expr} {p : Str → Bool} {KF : Kt Flow} {a : Addr} {vs : List Value} {xs : List Str}
    (hl : HL c.w H ld a vs) (hs : StrsAre vs xs) (hz : vs.length ≤ 1000) (t : TstF cc c sc cl x ct p xs l H ld) (h : ∀ D ys, StrsAre ys (xs.filter p) → KF .next ((y, .ref D) :: l) H ((D, .li ys) :: ld)) :
    Stp 18 (∃ a' vs xs, Flow.ret (.ref a) = .ret (.ref a') ∧ HL c.w H ld a' vs ∧ StrsAre vs xs ∧ vs.length ≤ 1000 ∧ TstF cc c sc cl x ct p xs l H ld ∧ ∀ D ys, StrsAre ys (xs.filter p) → KF .next ((y, .ref D) :: l) H ((D, .li ys) :: ld)) := .mk ⟨a, vs, xs, rfl, hl, hs, hz, t, h⟩
theorem i_getV {R : Kt Value} {a : Addr} {kvs : List (Int × Value)} {x : Int} {u : Tok} {v : Value} (y : Hd c.w H ld a (.nd kvs)) (e : (valueAt kvs x).getD .none = v) (z : R v l H ld) : Stp k (Sp c l H ld (call (.builtin "dict.get") [.ref a, .int x u]) R) := i_get1 y rfl (e ▸ z)
end
structure BookS (w : World) (h : Heap) (bk od hd pd ed : Addr) (ow ho : List (Int × Value)) (en : List (Str × Value)) : Prop where
  ex : ∃ kvs, OAt w h bk (.sd kvs) ∧ valueAt kvs (Str.ofString "own") = some (.ref od) ∧ valueAt kvs (Str.ofString "holds") = some (.ref hd) ∧ valueAt kvs (Str.ofString "parents") = some (.ref pd) ∧ valueAt kvs (Str.ofString "ends") = some (.ref ed)
  own : OAt w h od (.nd ow)
  holds : OAt w h hd (.nd ho)
  ends : OAt w h ed (.sd en)
theorem BookS.keeps {w : World} {h h' : Heap} {bk od hd pd ed : Addr} {ow ho : List (Int × Value)} {en : List (Str × Value)} (b : BookS w h bk od hd pd ed ow ho en) (k : Keep h h') : BookS w h' bk od hd pd ed ow ho en :=
  ⟨let ⟨kvs, a, r⟩ := b.ex; ⟨kvs, a.keeps k, r⟩, b.own.keeps k, b.holds.keeps k, b.ends.keeps k⟩
structure BookOk (t : Th) (k : Int) (ow ho : List (Int × Value)) : Prop where
  lo : 0 ≤ k
  hi : k < 6
  own : IsOwn t.own ((valueAt ow k).getD .none)
  word : (∃ v, valueAt ho k = some v ∧ t.word = Str.ofString "REF") ∨ (valueAt ho k = none ∧ sortsP[k.toNat]? = some t.word)
  oe : ∀ o, t.own = some o → (o == Str.ofString "") = false
noncomputable def EndsOk (w : World) (h : Heap) (cod : Str → Option Addr) (en : List (Str × Value)) : Prop := ∀ p, (cod p = none ∧ valueAt en p = none) ∨ ∃ c dc f n u u', cod p = some c ∧ OAt w h c (.ob (instObj 144 dc)) ∧ OAt w h dc (.di f) ∧ f (Str.ofString "number") = some (.int n u') ∧ valueAt en p = some (.int n u)
theorem EndsOk.keeps {w : World} {h h' : Heap} {cod : Str → Option Addr} {en : List (Str × Value)} (x : EndsOk w h cod en) (k : Keep h h') : EndsOk w h' cod en := fun p => (x p).imp id fun ⟨c, dc, f, n, u, u', a, b, d, e⟩ => ⟨c, dc, f, n, u, u', a, b.keeps k, d.keeps k, e⟩
noncomputable def lineX (par : Str → List Str) (n : Nat) (t : Th) : List Str := match t.own with
  | none => []
  | some p => aboveF par n p
theorem first_none {w : World} {h : Heap} {cod : Str → Option Addr} {en : List (Str × Value)} (hen : EndsOk w h cod en) : ∀ {xs : List Str}, search cod (xs ++ [univ]) = none → xs.filter (fun y => (valueAt en y).isSome) = []
  | [], _ => rfl
  | x :: xs, hs => by
    unfold search at hs
    rw [List.cons_append, List.findSome?_cons] at hs
    rcases hen x with ⟨a, b⟩ | ⟨c, _, _, _, _, _, a, _⟩
    · rw [a] at hs
      rw [List.filter_cons, b]
      exact first_none hen hs
    · rw [a] at hs; cases hs
theorem first_some {w : World} {h : Heap} {cod : Str → Option Addr} {en : List (Str × Value)} (hen : EndsOk w h cod en) (hcu : cod univ = none) {q : Str} {c : Addr} : ∀ {xs : List Str}, search cod (xs ++ [univ]) = some (q, c) → ∃ r, xs.filter (fun y => (valueAt en y).isSome) = q :: r ∧ cod q = some c
  | [], hs => by
    unfold search at hs
    rw [List.nil_append, List.findSome?_cons, hcu] at hs
    cases hs
  | x :: xs, hs => by
    unfold search at hs
    rw [List.cons_append, List.findSome?_cons] at hs
    rcases hen x with ⟨a, b⟩ | ⟨c', dc, f, n, u, u', a, _, _, _, b⟩
    · rw [a] at hs
      rw [List.filter_cons, b]
      exact first_some hen hcu hs
    · rw [a] at hs
      cases hs
      rw [List.filter_cons, b]
      exact ⟨_, rfl, a⟩
theorem des_none {w : World} {h : Heap} {cod : Str → Option Addr} {en : List (Str × Value)} {par ln : Str → List Str} {n : Nat} {t : Th} (ab : AboveOk par ln n) (nu : ∀ o, t.own = some o → o ≠ univ) (hen : EndsOk w h cod en) (hd : desOf cod ln t.own = none) : (lineX par n t).filter (fun y => (valueAt en y).isSome) = [] := by
  unfold lineX
  unfold desOf at hd
  cases ho : t.own with
  | none => rfl
  | some p =>
    rw [ho] at hd
    refine first_none hen ?_
    show search cod (aboveF par n p ++ [univ]) = none
    rw [ab.eq p (nu p ho)]; exact Option.map_eq_none_iff.mp hd
theorem des_some {w : World} {h : Heap} {cod : Str → Option Addr} {en : List (Str × Value)} {par ln : Str → List Str} {n : Nat} {t : Th} {c : Addr} (ab : AboveOk par ln n) (nu : ∀ o, t.own = some o → o ≠ univ) (hen : EndsOk w h cod en) (hcu : cod univ = none) (hd : desOf cod ln t.own = some c) : ∃ q r, (lineX par n t).filter (fun y => (valueAt en y).isSome) = q :: r ∧ cod q = some c := by
  unfold lineX
  unfold desOf at hd
  cases ho : t.own with
  | none => rw [ho] at hd; cases hd
  | some p =>
    rw [ho] at hd
    refine elEA (Option.map_eq_some_iff.mp hd) ?_; rintro ⟨q, c'⟩ hs e
    cases e
    refine ⟨q, first_some hen hcu ?_⟩
    show search cod (aboveF par n p ++ [univ]) = some (q, c')
    rw [ab.eq p (nu p ho)]; exact hs
theorem der_line {par ln : Str → List Str} {n : Nat} {t : Th} {pk : Str} (ab : AboveOk par ln n) (nu : ∀ o, t.own = some o → o ≠ univ) (hpk : pk ≠ univ) : derT ln t pk = (decide (pk ∈ lineX par n t) || (pk == t.word)) := by
  unfold derT lineX
  cases ho : t.own with
  | none => simp [BEq.comm]
  | some p =>
    show (t.word == pk || decide (pk ∈ ln p ++ [univ])) = (decide (pk ∈ aboveF par n p) || (pk == t.word))
    simp only [ab.eq p (nu p ho)]; simp [BEq.comm, hpk, Bool.or_comm]
structure SamP (w : World) (g : Heap) (st ca dc rn bk od hd pd ed x dx C : Addr) (gen : Int) (par : Str → List Str) (cod : Str → Option Addr) (lim frs cnt : Value) (ow ho : List (Int × Value)) (en : List (Str × Value)) (t : Th) (fx : Str → Option Value) : Prop where
  stash : StashD w g st gen par cod
  cache : OAt w g ca (.ob (instObj 388 dc))
  run : RunD w g rn st ca lim frs cnt
  thing : ThAt w g x dx C fx t
  book : BookS w g bk od hd pd ed ow ho en
  par : ParD w g pd par
  ends : EndsOk w g cod en
structure SamO (par ln : Str → List Str) (n : Nat) (t : Th) (k : Int) (ow ho : List (Int × Value)) (cod : Str → Option Addr) (pk : Str) : Prop where
  ok : LinesOk par ln
  ab : AboveOk par ln n
  thi : ThIn t
  bok : BookOk t k ow ho
  cu : cod univ = none
  txt : TxtOk pk
  nu : pk ≠ univ
noncomputable abbrev CaM (w : World) (f : Str → Option Value) (tb : Addr) (xs : CX) (gen : Int) (cod : Str → Option Addr) (N M : Nat) (f' : Str → Option Value) (tb' : Addr) (xs' : CX) (R : LD) : Prop := ∀ G, CaP w G f tb xs gen cod N → Has w G R → CaP w G f' tb' xs' gen cod M
noncomputable def C_same (K : Params → Frag) (V : Program) (n : Nat) : Prop := ∀ (st ca dc tb rn bk od hd pd ed x dx C : Addr) (gen : Int) (par : Str → List Str) (cod : Str → Option Addr) (ln : Str → List Str) (lim frs cnt : Value) (ow ho : List (Int × Value)) (en : List (Str × Value)) (k : Int) (tk : Tok) (t : Th) (fx : Str → Option Value) (pk : Str) (pu : Tok) (N : Nat) (f : Str → Option Value) (xs : CX),
  SamO par ln n t k ow ho cod pk → handedIn lim = true → N ≤ 900 → Tri K V 787 (n + 25) [.ref rn, .ref bk, .int k tk, .ref x, .str pk pu] [(dc, .di f), (tb, .tb xs)]
  (fun w g => SamP w g st ca dc rn bk od hd pd ed x dx C gen par cod lim frs cnt ow ho en t fx ∧ CaP w g f tb xs gen cod N) (fun w q => ∀ f' tb' xs' R, CaM w f tb xs gen cod N (N + 2) f' tb' xs' R → q (.bool true) ((dc, .di f') :: (tb', .tb xs') :: R))
theorem isOwn_of {o : Option Str} {v : Value} (x : IsOwn o v) : (o = Option.none ∧ v = .none) ∨ ∃ p u, o = Option.some p ∧ v = .str p u := by
  cases x with
  | none => exact .inl ⟨rfl, rfl⟩
  | some p u => exact .inr ⟨p, u, rfl, rfl⟩
theorem refText_none {t : Th} (h : t.own = none) : refText t = baseText t := by unfold refText; rw [h]
theorem refText_some {t : Th} {p : Str} (h : t.own = some p) : refText t = p ++ Str.ofString "=" ++ baseText t := by unfold refText; rw [h]
theorem toldL_none {t : Th} {b : Bool} (h : t.own = none) : toldL (some t) b = [.s t.word, .n, .s t.word, .i t.num, .s (Str.ofString ""), truP b] := by
  obtain ⟨wd, nu, ow⟩ := t; cases (show ow = none from h); rfl
theorem toldL_some {t : Th} {b : Bool} {p : Str} (h : t.own = some p) : toldL (some t) b = [.s p, .s p, .s t.word, .i t.num, truP b, truP b] := by
  obtain ⟨wd, nu, ow⟩ := t; cases (show ow = some p from h); rfl
noncomputable def refF (x : Addr) : Str → Option Value := upd (Str.ofString "is_weak") (.bool false) (upd (Str.ofString "target") (.ref x) no0)
theorem c_desF {K : Params → Frag} {V : Program} (HK : KOk K) {w0 : World} {g0 : Heap} {ca dc : Addr} (_ : OAt w0 g0 ca (.ob (instObj 388 dc))) : ∀ (st tb : Addr) (gen : Int) (par : Str → List Str) (cod : Str → Option Addr) (ln : Str → List Str) (x dx C : Addr) (fx : Str → Option Value) (t : Th) (N : Nat) (f : Str → Option Value) (xs : CX), LinesOk par ln → ThIn t → N ≤ 1000 →
  Tri K V 462 8 [.ref st, .ref ca, .ref x] [(dc, .di f), (tb, .tb xs)] (fun w g => StashD w g st gen par cod ∧ OAt w g ca (.ob (instObj 388 dc)) ∧ CaP w g f tb xs gen cod N ∧ ThAt w g x dx C fx t)
    (fun w q => ∀ f' tb' xs' R, CaN w f tb xs gen cod N f' tb' xs' R → q (codV (desOf cod ln t.own)) ((dc, .di f') :: (tb', .tb xs') :: R)) := fun st tb => c_destroy_code HK st ca dc tb
theorem c_canF {K : Params → Frag} {V : Program} (HK : KOk K) {w0 : World} {g0 : Heap} {ca dc : Addr} (_ : OAt w0 g0 ca (.ob (instObj 388 dc))) : ∀ (st rn tb a : Addr) (gen : Int) (par : Str → List Str) (cod : Str → Option Addr) (ln : Str → List Str) (r x dx C : Addr) (fx : Str → Option Value) (t : Th) (u : Tok) (lim frs cnt want : Value) (N : Nat) (f : Str → Option Value) (xs : CX), LinesOk par ln → ThIn t → (∀ o, t.own = some o → (o == Str.ofString "") = false) → N ≤ 1000 →
  Tri K V 420 9 [.ref rn, .ref a, want] [(dc, .di f), (tb, .tb xs)] (fun w g => FL w g a [.ref r, .str (Str.ofString "DESTROY") u] ∧ StashD w g st gen par cod ∧ OAt w g ca (.ob (instObj 388 dc)) ∧ CaP w g f tb xs gen cod N ∧ RefT r x dx C fx t w g ∧ RunD w g rn st ca lim frs cnt)
    (fun w q => ∀ f' tb' xs' R, CaN w f tb xs gen cod N f' tb' xs' R → canT (desOf cod ln t.own) q ((dc, .di f') :: (tb', .tb xs') :: R)) :=
  fun st rn tb a gen par cod ln r x dx C fx t u lim frs cnt want N f xs ok hok hne hN w mean mg mb A g s k R hC hz hd hu LG hP => c_universal_can HK st rn ca dc tb a gen par cod ln r x dx C fx t u lim frs cnt want N f xs ok hok hne hN w mean mg mb A g s k R hC hz hd hu LG ⟨hP.2.1, hP.2.2.1, hP.2.2.2.1, hP.2.2.2.2.1, hP.2.2.2.2.2, hP.1⟩
theorem c_same {K : Params → Frag} {V : Program} (HK : KOk K) (n : Nat) (hn : n ≤ 40) : C_same K V n := by
  intro st ca dc tb rn bk od hd pd ed x dx C gen par cod ln lim frs cnt ow ho en k tk t fx pk pu N f xs hO hlim hN
  have c2 : C_above K V n := c_above HK n hn
  obtain ⟨ok, ab, hti, hbo, hcu, htk, hpu⟩ := hO
  k_extra "IS 787"
  refine elA hP ?_; (try clear hP); rintro ⟨hst, hca, hrn, hT, hbk, hpd, hen⟩ hcap
  obtain ⟨drn, frn, a1, b1, ⟨h1, h2, h3, h4, h5⟩⟩ := id hrn.ex
  refine elEAAAA hbk.ex ?_; rintro kvs hkv k1 k2 k3 k4
  have k5 := hbk.own
  have k6 := hbk.holds
  have k7 := hbk.ends
  obtain ⟨t1, t2, ⟨⟨un, t3⟩, v, t4, t5⟩, hS⟩ := id hT
  have hC := hS.cls
  have hdl := der_line (pk := pk) ab hti.nu hpu
  have hlx : (lineX par n t).length ≤ 100 := by unfold lineX; split; exact Nat.zero_le _; exact ab.len n _
  have hthok := hti.ok
  have hnum := hthok.num
  have hoe := hbo.oe
  have st5 : ∀ (xt : Str) (tx : Tok) (r dr ll dd : Addr) (vl ds : List Value), refText t = xt → StrsAre vl (lineX par n t) → AreVs (toldL (some t) (derT ln t pk)) ds →
    Sp c [(Str.ofString "due", .ref dd), (Str.ofString "text", .str xt tx), (Str.ofString "line", .ref ll), (Str.ofString "value", .ref r), (Str.ofString "run", .ref rn), (Str.ofString "thing", .ref x), (Str.ofString "package", .str pk pu)] c.g
      [(dd, .li ds), (ll, .li vl), (r, .ob (instObj 183 dr)), (dr, .di (refF x)), (ca9, .ce (some (.ref bk))), (dc, .di f), (tb, .tb xs)] (execs ((fnBody S787).drop 8) (envE (ccF S787 787 t787 q9 v9) c)) (finT k9) := by
    intro xt tx r dr ll dd vl ds hxt hvl hds
    subst hxt
    have hxx : (refText t != refText t) = false := by simp
    have hnn : (t.num != t.num) = false := by simp
    have hvll := hvl.length
    refine sp_run Z.toEOk 4000 ?_
    k_extra "go"
    k_extra "st"
    refine lc_filterA (fun y => (valueAt en y).isSome) 4000 Z hcl rfl (fun _ => by with_unfolding_all rfl) (fun _ => by with_unfolding_all rfl) rfl ?_
    k_extra "go"
    k_extra "st"
    refine lcMkA (by k_extra "hl") hvl (by omega) (tst_inK rfl rfl (fun _ => rfl) rfl rfl (by k_extra "mm") (.h hkv) k4 (.h k7)) ?_
    intro D ys hys
    have hyl := hys.length
    k_extra "go"
    have hcomb : CaM c.w f tb xs gen cod N (N + 2) f8 tb8 xs8 (R9 ++ R8) := fun G a b => hn8 G (hn9 G a fun p hp => b p (List.mem_append_left _ hp)) fun p hp => b p (List.mem_append_right _ hp)
    cases hde : desOf cod ln t.own with
    | none =>
      rw [des_none ab hti.nu hen hde] at hys
      cases hys
      refine useR_mk (Cut.cons .head (Cut.cons .head .nil)) (pre_of ?_)
      dsimp only [List.cons_append, codV]
      k_extra "go"
      k_extra "st"
      refine e_eqL (ps := []) Z (by k_extra "hl") (by k_extra "hl") .nil .nil ?_
      k_extra "go"
      exact fin_mk (hk _ _ _ _ hcomb) (by k_extra "cut")
    | some cd =>
      refine elEEA (des_some ab hti.nu hen hcu hde) ?_; rintro q rq hfq hcq
      rw [hfq] at hys
      refine elEEEEEEAAAA ((hen q).resolve_left (fun e => by rw [e.1] at hcq; cases hcq)) ?_; rintro c' dcc fc nc uc uc' hcq' o1 o2 o3 henq
      rw [hcq] at hcq'
      cases hcq'
      have hcc : (nc == nc) = true := by simp
      intro r2 dr2
      refine useR_mk (Cut.cons .head (Cut.cons .head (Cut.cons .head (Cut.cons .head .nil)))) (pre_of ?_)
      dsimp only [List.cons_append, codV]
      cases hys with
      | @cons _ uq ys' _ hys' =>
      k_extra "go"
      k_extra "st"
      refine e_eqLen Z (by k_extra "hl") (by k_extra "hl") (by simp) ?_
      k_extra "go"
      rw [hcc]
      exact fin_mk (hk _ _ _ _ hcomb) (by k_extra "cut")
  have hwl : t.word.length ≤ 40 := hthok.word
  have hhl := hexD_len t.num
  have st4 : ∀ (su : Tok) (ov iv : Value) (r dr ll : Addr) (vl : List Value), IsOwn t.own ov → IsV (truP (derT ln t pk)) iv → StrsAre vl (lineX par n t) →
    Sp c [(Str.ofString "is_of", iv), (Str.ofString "line", .ref ll), (Str.ofString "own", ov), (Str.ofString "sort", .str t.word su), (Str.ofString "value", .ref r), (Str.ofString "run", .ref rn), (Str.ofString "thing", .ref x), (Str.ofString "package", .str pk pu)] c.g
      [(ll, .li vl), (r, .ob (instObj 183 dr)), (dr, .di (refF x)), (ca9, .ce (some (.ref bk))), (dc, .di f), (tb, .tb xs)] (execs ((fnBody S787).drop 5) (envE (ccF S787 787 t787 q9 v9) c)) (finT k9) := by
    intro su ov iv r dr ll vl hov hiv hvl
    refine sp_seq 3 (sp_run Z.toEOk 4000 ?_)
    rcases isOwn_of hov with ⟨ho, rfl⟩ | ⟨p, u, ho, rfl⟩
    · k_extra "go"
      exact sp_sub (by k_extra "ls") (by k_extra "cut") (st5 _ _ _ _ _ _ _ _ (refText_none ho) hvl (by rw [toldL_none ho]; exact .cons .s (.cons .n (.cons .s (.cons .i (.cons .s (.cons hiv .nil)))))))
    · have hpl : p.length ≤ 40 := hthok.own p ho
      k_extra "go"
      exact sp_sub (by k_extra "ls") (by k_extra "cut") (st5 _ _ _ _ _ _ _ _ (refText_some ho) hvl (by rw [toldL_some ho]; exact .cons .s (.cons .s (.cons .s (.cons .i (.cons hiv (.cons hiv .nil)))))))
  clear st5
  have st3 : ∀ (su : Tok) (ov : Value) (r dr ll : Addr) (vl : List Value), IsOwn t.own ov → StrsAre vl (lineX par n t) →
    Sp c [(Str.ofString "line", .ref ll), (Str.ofString "own", ov), (Str.ofString "sort", .str t.word su), (Str.ofString "value", .ref r), (Str.ofString "run", .ref rn), (Str.ofString "thing", .ref x), (Str.ofString "package", .str pk pu)] c.g
      [(ll, .li vl), (r, .ob (instObj 183 dr)), (dr, .di (refF x)), (ca9, .ce (some (.ref bk))), (dc, .di f), (tb, .tb xs)] (execs ((fnBody S787).drop 4) (envE (ccF S787 787 t787 q9 v9) c)) (finT k9) := by
    intro su ov r dr ll vl hov hvl
    refine sp_seq 1 (sp_run Z.toEOk 4000 ?_)
    have hb : ∀ b : Bool, (decide (pk ∈ lineX par n t) || (pk == t.word)) = b → ∀ v, IsV (truP b) v → IsV (truP (derT ln t pk)) v := fun b e v h => by rw [hdl, e]; exact h
    k_extra "go"
    · exact st4 _ _ _ _ _ _ _ hov (hb true (by rw [b9]; rfl) _ .i) hvl
    · rename (decide _ = false) => hb1
      exact st4 _ _ _ _ _ _ _ hov (hb true (by rw [hb1, b9]; rfl) _ .i) hvl
    · rename (decide _ = false) => hb1
      exact st4 _ _ _ _ _ _ _ hov (hb false (by rw [hb1, b9]; rfl) _ .s) hvl
  clear st4
  have st2 : ∀ (su : Tok) (r dr : Addr), Sp c [(Str.ofString "sort", .str t.word su), (Str.ofString "value", .ref r), (Str.ofString "run", .ref rn), (Str.ofString "k", .int k tk), (Str.ofString "thing", .ref x), (Str.ofString "package", .str pk pu)] c.g
      [(r, .ob (instObj 183 dr)), (dr, .di (refF x)), (ca9, .ce (some (.ref bk))), (dc, .di f), (tb, .tb xs)] (execs ((fnBody S787).drop 2) (envE (ccF S787 787 t787 q9 v9) c)) (finT k9) := by
    intro su r dr
    refine sp_seq 2 (sp_run Z.toEOk 4000 ?_)
    have hov := hbo.own
    generalize he : (valueAt ow k).getD .none = ov at hov
    have hln := ab.len
    have htw := ab.two
    rcases isOwn_of hov with ⟨ho, rfl⟩ | ⟨p, u, ho, rfl⟩
    · k_extra "go"
      exact sp_sub (by k_extra "ls") (by k_extra "cut") (st3 _ _ _ _ _ [] hov (by unfold lineX; rw [ho]; exact .nil))
    · have hdp := ab.deep p
      k_extra "go"
      exact sp_sub (by k_extra "ls") (by k_extra "cut") (st3 _ _ _ _ _ _ hov (by unfold lineX; rw [ho]; exact hS9))
  clear st3
  refine sp_seq 2 (sp_run Z.toEOk 4000 ?_)
  have hlo := hbo.lo
  have hhi := hbo.hi
  rcases hbo.word with ⟨v, hv, hw⟩ | ⟨hv, hw⟩
  · k_extra "go"
    exact sp_sub (by k_extra "ls") (by k_extra "cut") (hw ▸ st2 _ _ _)
  · k_extra "go"
    exact sp_sub (by k_extra "ls") (by k_extra "cut") (st2 _ _ _)
section
variable {K0 : Params → Frag} {V : Program} {cc : CC} {c : Cf} {dz k : Nat} {l : List (Str × Value)} {H : Heap} {ld ld' : LD} {a b D : Addr} {K : Kt Value} {vs us : List Value} {n : Nat} {u : Tok}
theorem sp_frz {α : Type} {Ad R : LD} {tr : Sem α} {KA : Kt α} (cu : Cut ld Ad R) (h : ∀ G, Keep H G → Has c.w G R → Sp c l G Ad tr KA) : Sp c l H ld tr KA := Stp.get (sp_freeze (k := 0) cu h)
noncomputable abbrev Se (c : Cf) (l : List (Str × Value)) (H : Heap) (ld : LD) (b : List Stmt) (env : Env) (KF : Kt Flow) : Prop := Stp 30 (Sp c l H ld (execs b env) KF)
noncomputable def seqE (c : Cf) (env : Env) (b : List Stmt) (fin : Kt Flow) : Kt Flow := fun f l H ld => match f with
  | .next => Se c l H ld b env fin
  | f => fin f l H ld
theorem se_run {fin : Kt Flow} {b : List Stmt} (Z : ZOk K0 V cc c dz) (n : Nat) (h : run cc c fin n (.ss b) [] l H ld) : Se c l H ld b (envE cc c) fin := .mk (sp_run Z.toEOk n h)
theorem se_seq {fin : Kt Flow} {env : Env} {b : List Stmt} (i : Nat) (h : Se c l H ld (b.take i) env (seqE c env (b.drop i) fin)) : Se c l H ld b env fin := .mk (sp_seq i fun h' t A => wpAny_mono (Stp.get h h' t A) (fun f s x => by
  obtain ⟨l, H, ld, h, t, A, x⟩ := x
  cases f with
  | next => exact .mk l H ld h t A (Stp.get (show Se _ _ _ _ _ _ _ from x))
  | _ => exact .mk l H ld h t A x) fun _ _ e => e)
theorem se_go {fin : Kt Flow} {env : Env} {b : List Stmt} {R : LD} (l' : List (Str × Value)) (Ad : LD) (a : ∀ p ∈ l', lk l p.1 = some p.2) (cu : Cut ld Ad R) (x : ∀ G, Keep H G → Has c.w G R → Se c l' G Ad b env fin) : Se c l H ld b env fin := .mk (sp_sub a Cut.all (sp_frz cu fun G k h => Stp.get (x G k h)))
noncomputable def sliceO (n : Int) (u : Tok) : Obj := { cls := .type "slice", data := .fields #[.none, .int n u, .none] }
theorem e_Slice {n : Int} {x : Nat} {p1 p : Pos} {env : Env} (z : ∀ (a : Addr) u, K (.ref a) l H ((a, .ob (sliceO n u)) :: ld)) : Stp k (Sp c l H ld (eval (.Slice none (some (.Constant (.int n) x p1)) none p) env) K) := .mk fun h t A => by
  refine wpAny_Slice (wpAny_evalPart_none (wpAny_evalPart_some (wpAny_Constant_int (k := x) (pos := p1) (wpAny_evalPart_none ?_))))
  exact .mk l H _ _ _ (A.push (d := .ob (sliceO n t)) (sliceO n t) (Eq.refl _)) (z _ _)
theorem e_sliceL {value : PySem.Expr} {slice : PySem.Expr} (hl : HL c.w H ld a vs) {i : Int} (hs : (b, Ds.ob (sliceO i u)) ∈ ld) (hi : i = (n : Nat)) (hz : vs.length ≤ 1000) (z : ∀ D : Addr, K (.ref D) l H ((D, .li (vs.take n)) :: ld))
    (h1 : ∀ b : Addr, subscripted slice false (.ref a) (.ref b) = operate [.ref b, .ref a] (getItem (.ref a) (.ref b))) (ht : ∀ r, letTemporaryGo value (.ref a) r = pure ()) : Stp k (Sp c l H ld (subscriptTail value slice (.ref a) (.ref b)) K) := .mk fun h t A => by
  obtain ⟨_, o, e, rfl⟩ := A.oat hs
  subst hi
  have q1 := hl.at_ A
  have q2 : h.IsSliceOf b .none (.int n u) .none := ⟨_, e, rfl, rfl⟩
  have q3 : vs.toArray.size ≤ sizeLine := by rw [List.size_toArray, sizeLine_eq]; omega
  have q4 : wpAny (model PG c.w) c.A (getItem (.ref a) (.ref b)) (Bk c K) c.E ⟨h, c.G, c.D, t, c.O⟩ := by
    refine wpAny_getItem_list_slice (s := ⟨h, c.G, c.D, t, c.O⟩) q1 q2 .none (.int _ _) .none (fun h => nomatch h) ?_ q3
    rw [slicePick_upto']
    exact .mk l H _ _ t (A.push (d := .li (vs.take n)) _ ⟨0, rfl⟩) (z _)
  exact subscriptTail_ops (Heap.IsList.typeIs (s := ⟨h, c.G, c.D, t, c.O⟩) q1) list_getitem_lookup q4 (h1 b) ht
theorem e_addL (ha : HL c.w H ld a vs) (hb : HL c.w H ld b us) (hz : vs.length + us.length ≤ 1000) (z : ∀ D : Addr, K (.ref D) l H ((D, .li (vs ++ us)) :: ld)) : Stp k (Sp c l H ld (binaryOp .Add (.ref a) (.ref b)) K) := .mk fun h t A => by
  obtain ⟨⟨cls, dd, data, sl⟩, ho, hc, n, hd⟩ := ha.at_ A
  obtain ⟨⟨cls2, dd2, data2, sl2⟩, ho2, hc2, n2, hd2⟩ := hb.at_ A
  simp only at hc hd hc2 hd2
  subst hc hd hc2 hd2
  have q3 : vs.toArray.size + us.toArray.size ≤ sizeLine := by rw [sizeLine_eq, List.size_toArray, List.size_toArray]; omega
  refine concat_meets (s := ⟨h, c.G, c.D, t, c.O⟩) ⟨_, ho, rfl⟩ ⟨_, ho2, rfl⟩ noFill_list_add seq_list_add PySem.F.slot_list_add PySem.F.entry_list_add (PySem.F.args_list_add_2 _ _) (list_addW a b vs.toArray us.toArray n n2 dd dd2 sl sl2 q3) ⟨ho, ho2, ?_⟩
  exact .mk l H _ _ t (A.push (d := .li (vs ++ us)) _ ⟨0, by simp [W.listOf]⟩) (z _)
theorem e_dictW {h : Heap} {t : Nat} {d : Ds} {env : Env} {pos : Pos} {Q : Value → Shared → Prop} (hs : Sat c.w d emptyD) (A : At c l H ld h) (z : ∀ a h', At c l H ((a, d) :: ld) h' → Q (.ref a) ⟨h', c.G, c.D, t, c.O⟩) : wpAny (model PG c.w) c.A (eval (.Dict [] [] pos) env) Q c.E ⟨h, c.G, c.D, t, c.O⟩ :=
  wpAny_Dict_empty (z _ _ (A.push emptyD hs))
noncomputable def bookL (o h p e : Addr) : List (Str × Value) := [(Str.ofString "own", .ref o), (Str.ofString "holds", .ref h), (Str.ofString "parents", .ref p), (Str.ofString "ends", .ref e)]
theorem e_book {p1 p2 p3 p4 q1 q2 q3 q4 pos : Pos} {x1 x2 x3 x4 : Nat} {env : Env} (z : ∀ b o h p e : Addr, K (.ref b) l H ((e, .sd []) :: (p, .sd []) :: (h, .nd []) :: (o, .nd []) :: (b, .sd (bookL o h p e)) :: ld)) :
    Stp k (Sp c l H ld (eval (.Dict [some (.Constant (.str (Str.ofString "own")) x1 p1), some (.Constant (.str (Str.ofString "holds")) x2 p2), some (.Constant (.str (Str.ofString "parents")) x3 p3), some (.Constant (.str (Str.ofString "ends")) x4 p4)] [.Dict [] [] q1, .Dict [] [] q2, .Dict [] [] q3, .Dict [] [] q4] pos) env) K) := .mk fun h t A => by
  have A0 := A.push (d := .sd []) emptyD emptyD_dic
  unfold emptyD at A0
  refine' wpAny_Dict_walk (knd := PySem.strKind PG c.w) ?h1 ?h2 ?h3 ?h4 ?h5
  case h1 => rfl
  case h2 => rfl
  case h3 => exact List.cons_ne_nil _ _
  case h4 => exact Nat.le_of_ble_eq_true rfl
  dsimp only
  generalize h.push { cls := .type "dict", data := .dict #[] } = h0 at A0 ⊢
  generalize h.objs.size = b at A0 ⊢
  refine pairTrees_cons_walk (wpAny_Constant_str (e_dictW (d := .nd []) emptyD_dic A0 fun a1 h1 A1 => ?_))
  refine pairTrees_cons_walk (wpAny_Constant_str (e_dictW (d := .nd []) emptyD_dic A1 fun a2 h2 A2 => ?_))
  refine pairTrees_cons_walk (wpAny_Constant_str (e_dictW (d := .sd []) emptyD_dic A2 fun a3 h3 A3 => ?_))
  refine pairTrees_cons_walk (wpAny_Constant_str (e_dictW (d := .sd []) emptyD_dic A3 fun a4 h4 A4 => ?_))
  refine pairTrees_nil_walk ⟨bookL a1 a2 a3 a4, ⟨strKind_is _ _ _ _, rfl, strKind_is _ _ _ _, rfl, strKind_is _ _ _ _, rfl, strKind_is _ _ _ _, rfl, trivial⟩, ?_, fun h' hD hs => ?_⟩
  · obtain ⟨_, o, e, s⟩ := A4.oat (.tail _ (.tail _ (.tail _ (.tail _ (.head _)))))
    exact DicO.at_ s e
  · obtain ⟨o', ho', hT'⟩ := DicO.of hD
    obtain ⟨m, S, F⟩ := A4.ex
    have mb : (b, Ds.sd []) ∈ (a4, .sd []) :: (a3, .sd []) :: (a2, .nd []) :: (a1, .nd []) :: (b, .sd []) :: ld := .tail _ (.tail _ (.tail _ (.tail _ (.head _))))
    exact .mk l H _ h' _ (A4.chg (d' := .sd (bookL a1 a2 a3 a4)) (.tail (.tail (.tail (.tail .head)))) (fun h => h) S (F.change hs (A4.offL mb) (A4.offg (.tail _ mb))) (fun b o e n _ => (hs.2 b n).trans e) ⟨o', ho', hT'⟩) (z _ _ _ _ _)
end
theorem c28_dummy : True := trivial
inductive Reach (par : Str → List Str) : Str → Str → Prop
  | refl (p) : Reach par p p
  | step {p r q} : r ∈ par p → Reach par r q → Reach par p q
theorem Reach.trans {par : Str → List Str} {a b c : Str} (x : Reach par a b) (y : Reach par b c) : Reach par a c := by
  induction x with
  | refl => exact y
  | step h _ ih => exact .step h (ih y)
theorem deep_reach {par : Str → List Str} {p q : Str} (x : Reach par p q) : ∀ {n}, Deep par n p → ∃ m, m ≤ n ∧ Deep par m q := by
  induction x with
  | refl => intro n h; exact ⟨n, Nat.le_refl _, h⟩
  | step h _ ih =>
    intro n hd
    cases n with
    | zero => exact hd.elim
    | succ n =>
      refine elEA (ih (hd _ h)) ?_; rintro m hm hq
      exact ⟨m, Nat.le_succ_of_le hm, hq⟩
theorem acyc {par : Str → List Str} {p r : Str} (hr : r ∈ par p) (hc : Reach par r p) : ∀ n, ¬ Deep par n p := by
  intro n
  induction n using Nat.strongRecOn with
  | ind n ih =>
    intro hd
    cases n with
    | zero => exact hd
    | succ n =>
      refine elEA (deep_reach hc (hd r hr)) ?_; rintro m hm hq
      exact ih m (Nat.lt_succ_of_le hm) hq
noncomputable def dfs (par : Str → List Str) : Nat → Str → List Str → List Str
  | 0, p, line => line ++ [p]
  | n + 1, p, line => (par p).foldl (fun l q => if q ∈ l then l else dfs par n q l) (line ++ [p])
theorem above_mem {par : Str → List Str} : ∀ {n p}, Deep par n p → ∀ x, x ∈ aboveF par n p ↔ Reach par p x := by
  intro n
  induction n with
  | zero => intro p h; exact h.elim
  | succ n ih =>
    intro p hd x
    have key : ∀ (ps : List Str) (l : List Str), (∀ q ∈ ps, Deep par n q) → (x ∈ ps.foldl (fun line q => line ++ (aboveF par n q).filter (fun z => !decide (z ∈ line))) l ↔ x ∈ l ∨ ∃ q ∈ ps, Reach par q x) := by
      intro ps
      induction ps with
      | nil => intro l _; simp
      | cons a ps ihp =>
        intro l h
        rw [List.foldl_cons, ihp _ (fun q hq => h q (.tail _ hq))]
        simp only [List.mem_append, List.mem_filter, ih (h a (.head _)), List.mem_cons, exists_eq_or_imp]
        constructor
        · rintro ((h1 | ⟨h1, _⟩) | h1)
          · exact .inl h1
          · exact .inr (.inl h1)
          · exact .inr (.inr h1)
        · rintro (h1 | h1 | h1)
          · exact .inl (.inl h1)
          · by_cases hx : x ∈ l
            · exact .inl (.inl hx)
            · exact .inl (.inr ⟨h1, by simp [hx]⟩)
          · exact .inr h1
    show x ∈ (par p).foldl _ [p] ↔ _
    rw [key _ _ hd]
    constructor
    · rintro (h | ⟨q, hq, h⟩)
      · rw [List.mem_singleton.mp h]; exact .refl p
      · exact .step hq h
    · intro h
      cases h with
      | refl => exact .inl (.head _)
      | step h1 h2 => exact .inr ⟨_, h1, h2⟩
noncomputable def Whole (par : Str → List Str) (V : List Str) (p : Str) : Prop := ∀ v ∈ V, Reach par p v → ∀ x, Reach par v x → x ∈ V
theorem dfs_above {par : Str → List Str} : ∀ {n p}, Deep par n p → ∀ V, p ∉ V → Whole par V p → dfs par n p V = V ++ (aboveF par n p).filter (fun z => !decide (z ∈ V)) := by
  intro n
  induction n with
  | zero => intro p h; exact h.elim
  | succ n ih =>
    intro p hd V hp hw
    have key : ∀ (ps l : List Str), (∀ q ∈ ps, q ∈ par p) → p ∈ l → (∀ x ∈ l, Reach par p x) → (∀ v ∈ l, v ≠ p → ∀ x, Reach par v x → x ∈ l) →
        ps.foldl (fun l q => if q ∈ l then l else dfs par n q l) (V ++ l.filter (fun z => !decide (z ∈ V))) = V ++ (ps.foldl (fun line q => line ++ (aboveF par n q).filter (fun z => !decide (z ∈ line))) l).filter (fun z => !decide (z ∈ V)) := by
      intro ps
      induction ps with
      | nil => intro l _ _ _ _; rfl
      | cons a ps ihp =>
        intro l hps hpl hlr hlw
        have ha := hps a (.head _)
        have hda : Deep par n a := hd a ha
        have hnp : ∀ x, Reach par a x → x ≠ p := fun x hx e => acyc ha (e ▸ hx) _ hd
        have inU : ∀ x, x ∈ V ++ l.filter (fun z => !decide (z ∈ V)) ↔ x ∈ V ∨ x ∈ l := by
          intro x
          simp only [List.mem_append, List.mem_filter]
          constructor
          · rintro (h | ⟨h, _⟩)
            · exact .inl h
            · exact .inr h
          · rintro (h | h)
            · exact .inl h
            · by_cases hx : x ∈ V
              · exact .inl hx
              · exact .inr ⟨h, by simp [hx]⟩
        rw [List.foldl_cons, List.foldl_cons]
        have next : (if a ∈ V ++ l.filter (fun z => !decide (z ∈ V)) then V ++ l.filter (fun z => !decide (z ∈ V)) else dfs par n a (V ++ l.filter (fun z => !decide (z ∈ V)))) = V ++ (l ++ (aboveF par n a).filter (fun z => !decide (z ∈ l))).filter (fun z => !decide (z ∈ V)) := by
          have whole : ∀ v, (v ∈ V ∨ v ∈ l) → Reach par a v → ∀ x, Reach par v x → x ∈ V ∨ x ∈ l := by
            rintro v (hv | hv) hav x hx
            · exact .inl (hw v hv (.step ha hav) x hx)
            · exact .inr (hlw v hv (hnp v hav) x hx)
          by_cases hin : a ∈ V ++ l.filter (fun z => !decide (z ∈ V))
          · rw [if_pos hin]
            have hall : ∀ x ∈ aboveF par n a, x ∈ V ∨ x ∈ l := fun x hx => whole a ((inU a).mp hin) (.refl a) x ((above_mem hda x).mp hx)
            have : ((aboveF par n a).filter (fun z => !decide (z ∈ l))).filter (fun z => !decide (z ∈ V)) = [] := by
              rw [List.filter_filter, List.filter_eq_nil_iff]
              intro x hx
              rcases hall x hx with h | h <;> simp [h]
            rw [List.filter_append, this, List.append_nil]
          · rw [if_neg hin, ih hda _ hin (fun v hv hav x hx => (inU x).mpr (whole v ((inU v).mp hv) hav x hx))]
            rw [List.filter_append, List.filter_filter, List.append_assoc]
            congr 2
            refine List.filter_congr fun x _ => ?_
            have := inU x
            by_cases h1 : x ∈ V <;> by_cases h2 : x ∈ l <;> simp [h1, h2]
        rw [next]
        refine ihp _ (fun q hq => hps q (.tail _ hq)) (List.mem_append_left _ hpl) ?_ ?_
        · intro x hx
          rcases List.mem_append.mp hx with h | h
          · exact hlr x h
          · exact .step ha ((above_mem hda x).mp (List.mem_filter.mp h).1)
        · intro v hv hvp x hx
          rcases List.mem_append.mp hv with h | h
          · exact List.mem_append_left _ (hlw v h hvp x hx)
          · have hax : Reach par a x := ((above_mem hda v).mp (List.mem_filter.mp h).1).trans hx
            by_cases hxl : x ∈ l
            · exact List.mem_append_left _ hxl
            · exact List.mem_append_right _ (List.mem_filter.mpr ⟨(above_mem hda x).mpr hax, by simp [hxl]⟩)
    have := key (par p) [p] (fun q hq => hq) (.head _) (fun x hx => by rw [List.mem_singleton.mp hx]; exact .refl p) (fun v hv hvp => absurd (List.mem_singleton.mp hv) hvp)
    have hf : [p].filter (fun z => !decide (z ∈ V)) = [p] := by simp [hp]
    rw [hf] at this
    exact this
theorem dfRun_dfs {par : Str → List Str} (h2 : ∀ q, (par q).length ≤ 2) : ∀ {n p}, Deep par n p → ∀ line r, (∀ x, Reach par p x → x ∉ r.map SF.pkg) →
    ∃ s, s + 3 * line.length ≤ 3 * (dfs par n p line).length ∧ ∀ N, dfRun par (N + s) (line ++ [p]) (⟨p, par p, 0⟩ :: r) = dfRun par N (dfs par n p line) r := by
  intro n
  induction n with
  | zero => intro p h; exact h.elim
  | succ n ih =>
    intro p hd line r hr
    have key : ∀ (k i : Nat) (l : List Str), i + k = (par p).length → ∃ s, s + 3 * l.length ≤ 3 * (((par p).drop i).foldl (fun l q => if q ∈ l then l else dfs par n q l) l).length + (k + 1) ∧
        ∀ N, dfRun par (N + s) l (⟨p, par p, i⟩ :: r) = dfRun par N (((par p).drop i).foldl (fun l q => if q ∈ l then l else dfs par n q l) l) r := by
      intro k
      induction k with
      | zero =>
        intro i l hi
        have hdr : (par p).drop i = [] := List.drop_eq_nil_of_le (by omega)
        have hno : (par p)[i]? = none := List.getElem?_eq_none (by omega)
        refine ⟨1, by rw [hdr]; simp; omega, fun N => ?_⟩
        rw [hdr]
        simp only [dfRun, hno, List.foldl_nil]
      | succ k ihk =>
        intro i l hi
        have hlt : i < (par p).length := by omega
        obtain ⟨q, hq⟩ : ∃ q, (par p)[i]? = some q := ⟨_, List.getElem?_eq_getElem hlt⟩
        have hqm : q ∈ par p := List.mem_of_getElem? hq
        have hdr : (par p).drop i = q :: (par p).drop (i + 1) := by
          refine elE (List.getElem?_eq_some_iff.mp hq) ?_; rintro h1 rfl
          exact (List.drop_eq_getElem_cons h1)
        have hqp : q ∉ ((⟨p, par p, i⟩ : SF) :: r).map SF.pkg := by
          intro hm
          rcases List.mem_cons.mp hm with e | hm
          · have e : q = p := e
            exact acyc (e ▸ hqm : p ∈ par p) (.refl _) _ hd
          · exact hr q (.step hqm (.refl q)) hm
        rw [hdr, List.foldl_cons]
        by_cases hin : q ∈ l
        · refine elEA (ihk (i + 1) l (by omega)) ?_; rintro s hs hrun
          rw [if_pos hin]
          refine ⟨s + 1, by omega, fun N => ?_⟩
          rw [← hrun N, ← Nat.add_assoc]
          simp only [dfRun, hq, if_neg hqp, if_pos hin]
        · obtain ⟨s1, hs1, hrun1⟩ := ih (hd q hqm) l (⟨p, par p, i + 1⟩ :: r) (fun x hx hm => by
            rcases List.mem_cons.mp hm with e | hm
            · have e : x = p := e
              exact acyc hqm (e ▸ hx) _ hd
            · exact hr x (.step hqm hx) hm)
          refine elEA (ihk (i + 1) (dfs par n q l) (by omega)) ?_; rintro s2 hs2 hrun2
          rw [if_neg hin]
          refine ⟨s2 + s1 + 1, by omega, fun N => ?_⟩
          rw [← hrun2 N, ← hrun1 (N + s2), show N + (s2 + s1 + 1) = (N + s2 + s1) + 1 by omega]
          simp only [dfRun, hq, if_neg hqp, if_neg hin]
    refine elEA (key (par p).length 0 (line ++ [p]) (by omega)) ?_; rintro s hs hrun
    have := h2 p
    refine ⟨s, ?_, hrun⟩
    simp only [List.drop_zero, List.length_append, List.length_cons, List.length_nil] at hs
    show s + 3 * line.length ≤ 3 * ((par p).foldl _ (line ++ [p])).length
    omega
theorem nodup_len : ∀ {l K : List Str}, l.Nodup → (∀ x ∈ l, x ∈ K) → l.length ≤ K.length
  | [], _, _, _ => Nat.zero_le _
  | a :: l, K, hn, hs => by
    have ha := hs a (.head _)
    obtain ⟨h1, h2⟩ := List.nodup_cons.mp hn
    have := nodup_len (K := K.erase a) h2 (fun x hx => (List.mem_erase_of_ne (fun e : x = a => h1 (by rw [← e]; exact hx))).mpr (hs x (.tail _ hx)))
    rw [List.length_erase_of_mem ha] at this
    have : 0 < K.length := List.length_pos_of_mem ha
    simp only [List.length_cons]; omega
theorem above_nodup (par : Str → List Str) : ∀ n p, (aboveF par n p).Nodup := by
  intro n
  induction n with
  | zero => intro p; exact List.nodup_cons.mpr ⟨List.not_mem_nil, List.nodup_nil⟩
  | succ n ih =>
    intro p
    have key : ∀ (ps l : List Str), l.Nodup → (ps.foldl (fun line q => line ++ (aboveF par n q).filter (fun z => !decide (z ∈ line))) l).Nodup := by
      intro ps
      induction ps with
      | nil => intro l h; exact h
      | cons a ps ihp =>
        intro l h
        rw [List.foldl_cons]
        refine ihp _ (List.nodup_append.mpr ⟨h, (ih a).filter _, ?_⟩)
        intro x hx y hy e
        subst e
        have := (List.mem_filter.mp hy).2
        simp [hx] at this
    exact key _ _ (List.nodup_cons.mpr ⟨List.not_mem_nil, List.nodup_nil⟩)
theorem above_sub {par : Str → List Str} {K : List Str} (hK : ∀ p, ∀ q ∈ par p, q ∈ K) : ∀ n p, ∀ x ∈ aboveF par n p, x = p ∨ x ∈ K := by
  intro n
  induction n with
  | zero => intro p x hx; exact .inl (List.mem_singleton.mp hx)
  | succ n ih =>
    intro p x hx
    have key : ∀ (ps l : List Str), (∀ q ∈ ps, q ∈ K) → (∀ y ∈ l, y = p ∨ y ∈ K) → ∀ y ∈ ps.foldl (fun line q => line ++ (aboveF par n q).filter (fun z => !decide (z ∈ line))) l, y = p ∨ y ∈ K := by
      intro ps
      induction ps with
      | nil => intro l _ h; exact h
      | cons a ps ihp =>
        intro l h1 h
        rw [List.foldl_cons]
        refine ihp _ (fun q hq => h1 q (.tail _ hq)) ?_
        intro y hy
        rcases List.mem_append.mp hy with hy | hy
        · exact h y hy
        · rcases ih a y (List.mem_filter.mp hy).1 with e | e
          · exact .inr (e ▸ h1 a (.head _))
          · exact .inr e
    exact key (par p) [p] (hK p) (fun y hy => .inl (List.mem_singleton.mp hy)) x hx
noncomputable def pkL : List Str := [Str.ofString "A", Str.ofString "B", Str.ofString "C::D", Str.ofString "main", Str.ofString "HASH"]
structure Drawn (par : Str → List Str) : Prop where
  two : ∀ p, (par p).length ≤ 2
  low : ∀ p, ∀ q ∈ par p, ∃ i j : Nat, j < i ∧ pkL[i]? = some p ∧ pkL[j]? = some q
theorem Drawn.mem {par : Str → List Str} (D : Drawn par) : ∀ p, ∀ q ∈ par p, q ∈ pkL := fun p q hq => by
  obtain ⟨i, j, _, _, h⟩ := D.low p q hq
  exact List.mem_of_getElem? h
theorem pkL_inj {i j : Nat} {p : Str} (h1 : pkL[i]? = some p) (h2 : pkL[j]? = some p) : i = j := by
  have hn : ∀ i, i < 5 → ∀ j, j < 5 → pkL[i]? = pkL[j]? → i = j := by decide
  exact hn i (List.getElem?_eq_some_iff.mp h1).1 j (List.getElem?_eq_some_iff.mp h2).1 (h1.trans h2.symm)
theorem Deep.mono {par : Str → List Str} : ∀ {n p}, Deep par n p → ∀ {m}, n ≤ m → Deep par m p := by
  intro n
  induction n with
  | zero => intro p h; exact h.elim
  | succ n ih =>
    intro p h m hm
    cases m with
    | zero => omega
    | succ m => exact fun q hq => ih (h q hq) (by omega)
theorem Drawn.deepI {par : Str → List Str} (D : Drawn par) : ∀ i p, pkL[i]? = some p → Deep par (i + 1) p := by
  intro i
  induction i using Nat.strongRecOn with
  | ind i ih =>
    intro p hp q hq
    refine elEEAA (D.low p q hq) ?_; rintro i' j hlt h1 h2
    cases pkL_inj h1 hp
    exact (ih j hlt q h2).mono hlt
theorem Drawn.deep {par : Str → List Str} (D : Drawn par) (p : Str) : Deep par 6 p := by
  intro q hq
  refine elEEAA (D.low p q hq) ?_; rintro i j hlt h1 h2
  have : j < 5 := (List.getElem?_eq_some_iff.mp h2).1
  exact (D.deepI j q h2).mono (m := 5) (by omega)
theorem pkL_txt : ∀ q ∈ pkL, TxtOk q := by unfold TxtOk pkL; decide
theorem pkL_univ : univ ∉ pkL := by decide
theorem Drawn.lines {par : Str → List Str} (D : Drawn par) : LinesOk par (aboveF par 6) := by
  have hlen : ∀ p, (aboveF par 6 p).length ≤ 6 := fun p => nodup_len (K := p :: pkL) (above_nodup par 6 p) fun x hx => (above_sub D.mem 6 p x hx).elim (fun e => e ▸ .head _) fun h => .tail _ h
  have hdf : ∀ p, dfs par 6 p [] = aboveF par 6 p := fun p => by
    have := dfs_above (D.deep p) [] List.not_mem_nil (fun v hv => absurd hv List.not_mem_nil)
    rw [this]; simp
  refine ⟨⟨D.two, fun p q hq => pkL_txt q (D.mem p q hq)⟩, ?_, fun p hp => ?_, fun p hp hm => ?_, fun p => Nat.le_trans (hlen p) (by decide), fun p hp q hq => ?_⟩
  · cases h : par univ with
    | nil => rfl
    | cons q r =>
      refine elEEAA (D.low univ q (by rw [h]; exact .head _)) ?_; rintro i j _ h1 _
      exact absurd (List.mem_of_getElem? h1) pkL_univ
  · refine elEA (dfRun_dfs D.two (D.deep p) [] [] (fun x _ => List.not_mem_nil)) ?_; rintro s hs hrun
    have h0 := hrun 0
    rw [hdf] at hs h0
    rw [Nat.zero_add, dfRun_nil] at h0
    have := hlen p
    simp only [List.length_nil] at hs
    exact ⟨s, by omega, h0⟩
  · rcases above_sub D.mem 6 p univ hm with e | e
    · exact hp e.symm
    · exact pkL_univ e
  · rcases above_sub D.mem 6 p q hq with e | e
    · rw [e]; exact hp
    · exact pkL_txt q e
theorem Drawn.above {par : Str → List Str} (D : Drawn par) : AboveOk par (aboveF par 6) 6 :=
  ⟨D.deep, fun m q => Nat.le_trans (nodup_len (K := q :: pkL) (above_nodup par m q) fun x hx => (above_sub D.mem m q x hx).elim (fun e => e ▸ .head _) fun h => .tail _ h) (show 6 ≤ 100 by decide), D.two, fun _ _ => rfl, by decide⟩
theorem c29_dummy : True := trivial
structure TF0 (f : Str → Option Value) (n : Int) : Prop where
  num : ∃ u, f (Str.ofString "number") = some (.int n u)
  own : f (Str.ofString "blessed") = some .none
  cnt : ∃ m u, f (Str.ofString "count") = some (.int m u)
theorem law_A {K : Params → Frag} {V : Program} (HK : KOk K) {q : Str} {v : Value} {c : Cf} {dz : Nat} {ca : Addr} {fin : Kt Flow} {sl : Addr} {vs : List Value} {cv : Option Value} (Z : ZOk K V (ccF S799 799 t799 q v) c dz) (hd : 30 ≤ dz) (hs : FL c.w c.g sl vs) (hz : vs.length ≤ 63)
    (k : ∀ (sp hp dhp zl sl' lm : Addr) (u1 u2 : Tok) (G : Heap), Keep c.g G → OAt c.w G hp (.ob (instObj 246 dhp)) → FL c.w G sl' (vs.take 48) →
      Se c [(Str.ofString "heap", .ref hp), (Str.ofString "limits", .ref lm), (Str.ofString "spot", .ref sp), (Str.ofString "script", .ref sl')] G [(dhp, .di (upd (Str.ofString "zero") (.ref zl) (upd (Str.ofString "last") (.int 0 u2) (upd (Str.ofString "limits") (.ref lm) no0)))), (zl, .li []), (sp, .li [.int 0 u1]), (ca, .ce cv)] ((fnBody S799).drop 4) (envE (ccF S799 799 t799 q v) c) fin) :
    Se c [(Str.ofString "script", .ref sl)] c.g [(ca, .ce cv)] (fnBody S799) (envE (ccF S799 799 t799 q v) c) fin := by
  refine se_seq 4 (se_run Z 4000 ?_)
  k_extra "go"
  exact se_go _ _ (by k_extra "ls") (by k_extra "cut") (fun G kG hG => k _ _ _ _ _ _ _ _ G kG (hG _ (by k_extra "mm")) ⟨_, hG (_, .li _) (by k_extra "mm"), rfl⟩)
theorem law_B1 {K : Params → Frag} {V : Program} (HK : KOk K) {q : Str} {v : Value} {c : Cf} {dz : Nat} {fin : Kt Flow} {H : Heap} {Y : LD} {hp lm sl sp : Addr} (Z : ZOk K V (ccF S799 799 t799 q v) c dz) (hd : 30 ≤ dz)
    (k : ∀ (rn drn st dst gl ctr dctr pl : Addr) (u : Tok) (f : Str → Option Value) (G : Heap), Keep H G → RnN f (.ref hp) (.ref ctr) (.ref st) (.ref lm) → OAt c.w G ctr (.ob (instObj 596 dctr)) → OAt c.w G dctr (.di (upd (Str.ofString "places") (.ref pl) (upd (Str.ofString "destroy") .none (upd (Str.ofString "heap") (.ref hp) no0)))) → OAt c.w G pl (.nd []) → OAt c.w G st (.ob (instObj 723 dst)) →
      Se c [(Str.ofString "run", .ref rn), (Str.ofString "heap", .ref hp), (Str.ofString "limits", .ref lm), (Str.ofString "spot", .ref sp), (Str.ofString "script", .ref sl)] G ((rn, .ob (instObj 638 drn)) :: (drn, .di f) :: (dst, .di (upd (Str.ofString "generation") (.int 0 u) (upd (Str.ofString "globs") (.ref gl) (upd (Str.ofString "heap") (.ref hp) no0)))) :: (gl, .sd []) :: Y) ((fnBody S799).drop 5) (envE (ccF S799 799 t799 q v) c) fin) :
    Se c [(Str.ofString "heap", .ref hp), (Str.ofString "limits", .ref lm), (Str.ofString "spot", .ref sp), (Str.ofString "script", .ref sl)] H Y ((fnBody S799).drop 4) (envE (ccF S799 799 t799 q v) c) fin := by
  refine se_seq 1 (se_run Z 4000 ?_)
  k_extra "go"
  exact se_go _ _ (by k_extra "ls") (by k_extra "cut") (fun G kG hG => k _ _ _ _ _ _ _ _ _ _ G kG hr9 (hG (_, Ds.ob (instObj 596 _)) (by k_extra "mm")) (hG (_, .di _) (by k_extra "mm")) (hG (_, .nd _) (by k_extra "mm")) (hG (_, Ds.ob (instObj 723 _)) (by k_extra "mm")))
theorem law_B2 {K : Params → Frag} {V : Program} (HK : KOk K) {q : Str} {v : Value} {c : Cf} {dz : Nat} {fin : Kt Flow} {H : Heap} {Y : LD} {hp lm sl sp rn drn : Addr} {f : Str → Option Value} {ctr st : Addr} (hr : RnN f (.ref hp) (.ref ctr) (.ref st) (.ref lm)) (Z : ZOk K V (ccF S799 799 t799 q v) c dz) (hd : 30 ≤ dz)
    (k : ∀ (ca dca tb fr : Addr) (u u2 : Tok) (G : Heap), Keep H G → RunD c.w G rn st ca (.ref lm) (.ref fr) (.ref ctr) → FrmD c.w G (.ref fr) (.str (Str.ofString "C::D") u) → OAt c.w G ca (.ob (instObj 388 dca)) →
      Se c [(Str.ofString "run", .ref rn), (Str.ofString "heap", .ref hp), (Str.ofString "limits", .ref lm), (Str.ofString "spot", .ref sp), (Str.ofString "script", .ref sl)] G ((dca, .di (upd (Str.ofString "table") (.ref tb) (upd (Str.ofString "generation") (.int (-1) u2) no0))) :: (tb, .tb []) :: Y) ((fnBody S799).drop 7) (envE (ccF S799 799 t799 q v) c) fin) :
    Se c [(Str.ofString "run", .ref rn), (Str.ofString "heap", .ref hp), (Str.ofString "limits", .ref lm), (Str.ofString "spot", .ref sp), (Str.ofString "script", .ref sl)] H ((rn, .ob (instObj 638 drn)) :: (drn, .di f) :: Y) ((fnBody S799).drop 5) (envE (ccF S799 799 t799 q v) c) fin := by
  obtain ⟨r1, r2, r3, r4, vf, r5⟩ := hr
  refine se_seq 2 (se_run Z 4000 ?_)
  k_extra "go"
  exact se_go _ _ (by k_extra "ls") (by k_extra "cut") (fun G kG hG => k _ _ _ _ _ _ G kG ⟨_, upd (Str.ofString "frames") _ (upd (Str.ofString "methods") _ f), hG (_, Ds.ob (instObj 638 _)) (by k_extra "mm"), hG (drn, .di _) (by k_extra "mm"), r1, rfl, r2, rfl, r3⟩ ⟨_, _, _, _, rfl, ⟨_, hG (_, Ds.li [_]) (by k_extra "mm"), rfl⟩, hG (_, Ds.ob (instObj 617 _)) (by k_extra "mm"), hG (_, .di _) (by k_extra "mm"), rfl⟩ (hG (_, Ds.ob (instObj 388 _)) (by k_extra "mm")))
theorem law_C1 {K : Params → Frag} {V : Program} (HK : KOk K) {q : Str} {v : Value} {c : Cf} {dz : Nat} {fin : Kt Flow} {H : Heap} {Y : LD} {hp lm sl sp rn dhp zl : Addr} {fh : Str → Option Value} (Z : ZOk K V (ccF S799 799 t799 q v) c dz) (hd : 30 ≤ dz) (hhp : OAt c.w H hp (.ob (instObj 246 dhp))) (hm : HpM fh 0) (hz : fh (Str.ofString "zero") = some (.ref zl))
    (k : ∀ (tl x0 x1 x2 x3 x4 x5 d0 d1 d2 d3 d4 d5 : Addr) (fh' f0 f1 f2 f3 f4 f5 : Str → Option Value) (v0 : Value) (G : Heap), Keep H G → FL c.w G tl [.ref x0, .ref x1, .ref x2, .ref x3, .ref x4, .ref x5] →
      OAt c.w G x0 (.ob (instObj 87 d0)) → OAt c.w G x1 (.ob (instObj 87 d1)) → OAt c.w G x2 (.ob (instObj 106 d2)) → OAt c.w G x3 (.ob (instObj 125 d3)) → OAt c.w G x4 (.ob (instObj 144 d4)) → OAt c.w G x5 (.ob (instObj 163 d5)) →
      TF0 f0 1 → TF0 f1 2 → TF0 f2 3 → TF0 f3 4 → TF0 f4 5 → TF0 f5 6 → ScF f0 v0 → Plain v0 → ScF f1 .none → HpM fh' 6 → fh' (Str.ofString "zero") = some (.ref zl) →
      Se c [(Str.ofString "things", .ref tl), (Str.ofString "run", .ref rn), (Str.ofString "heap", .ref hp), (Str.ofString "limits", .ref lm), (Str.ofString "spot", .ref sp), (Str.ofString "script", .ref sl)] G ((dhp, .di fh') :: (d0, .di f0) :: (d1, .di f1) :: (d2, .di f2) :: (d3, .di f3) :: (d4, .di f4) :: (d5, .di f5) :: Y) ((fnBody S799).drop 8) (envE (ccF S799 799 t799 q v) c) fin) :
    Se c [(Str.ofString "run", .ref rn), (Str.ofString "heap", .ref hp), (Str.ofString "limits", .ref lm), (Str.ofString "spot", .ref sp), (Str.ofString "script", .ref sl)] H ((dhp, .di fh) :: Y) ((fnBody S799).drop 7) (envE (ccF S799 799 t799 q v) c) fin := by
  obtain ⟨⟨nu, m0⟩, m1, m2, m3, m4, m5, m6, m7⟩ := hm
  refine se_seq 1 (se_run Z 4000 ?_)
  k_extra "go"
  rename_i _ _ x0 d0 _ _ _ x1 d1 _ _ _ x2 d2 _ _ _ _ x3 d3 _ _ _ _ _ x4 d4 _ _ _
  refine' se_go [(Str.ofString "things", .ref a9), (Str.ofString "run", .ref rn), (Str.ofString "heap", .ref hp), (Str.ofString "limits", .ref lm), (Str.ofString "spot", .ref sp), (Str.ofString "script", .ref sl)] ((dhp, .di _) :: (d0, .di _) :: (d1, .di _) :: (d2, .di _) :: (d3, .di _) :: (d4, .di _) :: (dx9, .di _) :: Y) ?la9 ?cu9 fun G kG hG => ?_
  case la9 => k_extra "ls"
  case cu9 => k_extra "cut"
  exact (k a9 x0 x1 x2 x3 x4 x9 d0 d1 d2 d3 d4 dx9 _ _ _ _ _ _ _ _ G kG ⟨_, hG (_, Ds.li _) (by k_extra "mm"), rfl⟩
    (hG (_, Ds.ob _) (by k_extra "mm")) (hG (_, Ds.ob _) (by k_extra "mm")) (hG (_, Ds.ob _) (by k_extra "mm")) (hG (_, Ds.ob _) (by k_extra "mm")) (hG (_, Ds.ob _) (by k_extra "mm")) (hG (_, Ds.ob _) (by k_extra "mm"))
    ⟨⟨_, rfl⟩, rfl, _, _, rfl⟩ ⟨⟨_, rfl⟩, rfl, _, _, rfl⟩ ⟨⟨_, rfl⟩, rfl, _, _, rfl⟩ ⟨⟨_, rfl⟩, rfl, _, _, rfl⟩ ⟨⟨_, rfl⟩, rfl, _, _, rfl⟩ ⟨⟨_, rfl⟩, rfl, _, _, rfl⟩ ⟨⟨_, _, rfl⟩, rfl, rfl⟩ rfl ⟨⟨_, _, rfl⟩, rfl, rfl⟩ ⟨⟨_, rfl⟩, m1, m2, m3, m4, m5, m6, m7⟩ hz)
theorem se_fz {c : Cf} {l : List (Str × Value)} {H : Heap} {ld R : LD} {fin : Kt Flow} {env : Env} {b : List Stmt} (Ad : LD) (cu : Cut ld Ad R) (x : ∀ G, Keep H G → Has c.w G R → Se c l G Ad b env fin) : Se c l H ld b env fin := .mk (sp_frz cu fun G k h => Stp.get (x G k h))
structure LA where
  sl : Addr
  sp : Addr
  rn : Addr
  st : Addr
  dst : Addr
  gl : Addr
  ca : Addr
  dca : Addr
  ctr : Addr
  hp : Addr
  dhp : Addr
  zl : Addr
  tl : Addr
  bk : Addr
  ow : Addr
  ho : Addr
  pd : Addr
  ed : Addr
  cell : Addr
  fr : Addr
  lm : Addr
  x0 : Addr
  x1 : Addr
  x2 : Addr
  x3 : Addr
  x4 : Addr
  x5 : Addr
  d0 : Addr
  d1 : Addr
  d2 : Addr
  d3 : Addr
  d4 : Addr
  d5 : Addr
noncomputable def ctrF (pl hp : Addr) : Str → Option Value := upd (Str.ofString "places") (.ref pl) (upd (Str.ofString "destroy") .none (upd (Str.ofString "heap") (.ref hp) no0))
structure CtrB (w : World) (g : Heap) (ctr hp : Addr) : Prop where
  ex : ∃ d pl, OAt w g ctr (.ob (instObj 596 d)) ∧ OAt w g d (.di (ctrF pl hp)) ∧ OAt w g pl (.nd [])
theorem CtrB.keeps {w : World} {g g' : Heap} {ctr hp : Addr} (x : CtrB w g ctr hp) (k : Keep g g') : CtrB w g' ctr hp := ⟨let ⟨d, pl, a, b, e⟩ := x.ex; ⟨d, pl, a.keeps k, b.keeps k, e.keeps k⟩⟩
theorem CtrB.m {w : World} {g : Heap} {ctr hp : Addr} (x : CtrB w g ctr hp) : CtrM w g ctr := ⟨let ⟨d, pl, a, b, e⟩ := x.ex; ⟨d, _, a, b, rfl⟩⟩
theorem CtrB.h {w : World} {g : Heap} {ctr hp dhp : Addr} (x : CtrB w g ctr hp) (h : OAt w g hp (.ob (instObj 246 dhp))) : CtrH w g ctr hp dhp := ⟨let ⟨d, pl, a, b, e⟩ := x.ex; ⟨d, _, a, b, rfl, rfl⟩, h⟩
theorem CtrB.s {w : World} {g : Heap} {ctr hp dhp zl : Addr} {fh : Str → Option Value} (x : CtrB w g ctr hp) (h : OAt w g hp (.ob (instObj 246 dhp))) (dh : OAt w g dhp (.di fh)) (z : fh (Str.ofString "zero") = some (.ref zl)) : CtrS w g ctr hp dhp zl fh := ⟨let ⟨d, pl, a, b, e⟩ := x.ex; ⟨d, _, pl, a, b, rfl, rfl, rfl, rfl, rfl, rfl, rfl, e⟩, h, dh, z⟩
structure LwG (w : World) (a : LA) (G : Heap) : Prop where
  script : ∃ vs ns, FL w G a.sl vs ∧ IntsAre vs ns ∧ ns.length ≤ 63
  heap : OAt w G a.hp (.ob (instObj 246 a.dhp))
  run : RunD w G a.rn a.st a.ca (.ref a.lm) (.ref a.fr) (.ref a.ctr)
  frm : ∃ u, FrmD w G (.ref a.fr) (.str (Str.ofString "C::D") u)
  ctr : CtrB w G a.ctr a.hp
  st : OAt w G a.st (.ob (instObj 723 a.dst))
  ca : OAt w G a.ca (.ob (instObj 388 a.dca))
  things : FL w G a.tl [.ref a.x0, .ref a.x1, .ref a.x2, .ref a.x3, .ref a.x4, .ref a.x5]
  o0 : OAt w G a.x0 (.ob (instObj 87 a.d0))
  o1 : OAt w G a.x1 (.ob (instObj 87 a.d1))
  o2 : OAt w G a.x2 (.ob (instObj 106 a.d2))
  o3 : OAt w G a.x3 (.ob (instObj 125 a.d3))
  o4 : OAt w G a.x4 (.ob (instObj 144 a.d4))
  o5 : OAt w G a.x5 (.ob (instObj 163 a.d5))
theorem LwG.keeps {w : World} {a : LA} {G G' : Heap} (x : LwG w a G) (k : Keep G G') : LwG w a G' :=
  ⟨let ⟨vs, ns, p, q⟩ := x.script; ⟨vs, ns, p.keeps k, q⟩, x.heap.keeps k, x.run.keeps k, let ⟨u, p⟩ := x.frm; ⟨u, p.keeps k⟩, x.ctr.keeps k, x.st.keeps k, x.ca.keeps k, x.things.keeps k, x.o0.keeps k, x.o1.keeps k, x.o2.keeps k, x.o3.keeps k, x.o4.keeps k, x.o5.keeps k⟩
noncomputable abbrev lawL (a : LA) : List (Str × Value) := [(Str.ofString "book", .ref a.bk), (Str.ofString "things", .ref a.tl), (Str.ofString "run", .ref a.rn), (Str.ofString "heap", .ref a.hp), (Str.ofString "limits", .ref a.lm), (Str.ofString "spot", .ref a.sp), (Str.ofString "script", .ref a.sl)]
noncomputable abbrev thL (a : LA) (f : Nat → Str → Option Value) (Y : LD) : LD := (a.d0, .di (f 0)) :: (a.d1, .di (f 1)) :: (a.d2, .di (f 2)) :: (a.d3, .di (f 3)) :: (a.d4, .di (f 4)) :: (a.d5, .di (f 5)) :: Y
noncomputable def mk6 {α : Type} (x0 x1 x2 x3 x4 x5 : α) (i : Nat) : α := match i with
  | 0 => x0
  | 1 => x1
  | 2 => x2
  | 3 => x3
  | 4 => x4
  | _ => x5
structure Ths0 (f : Nat → Str → Option Value) : Prop where
  t : ∀ i, i < 6 → TF0 (f i) (i + 1)
  s0 : ∃ v, ScF (f 0) v ∧ Plain v
  s1 : ∃ v, ScF (f 1) v ∧ Plain v
theorem ths0_mk {f0 f1 f2 f3 f4 f5 : Str → Option Value} {v0 : Value} (t0 : TF0 f0 1) (t1 : TF0 f1 2) (t2 : TF0 f2 3) (t3 : TF0 f3 4) (t4 : TF0 f4 5) (t5 : TF0 f5 6) (s0 : ScF f0 v0) (p0 : Plain v0) (s1 : ScF f1 .none) : Ths0 (mk6 f0 f1 f2 f3 f4 f5) :=
  ⟨fun i hi => by
    rcases i with _ | _ | _ | _ | _ | _ | i
    · exact t0
    · exact t1
    · exact t2
    · exact t3
    · exact t4
    · exact t5
    · omega, ⟨v0, s0, p0⟩, ⟨.none, s1, rfl⟩⟩
noncomputable abbrev lawE (c : Cf) (q : Str) (v : Value) : Env := envE (ccF S799 799 t799 q v) c
noncomputable abbrev lawB (n : Nat) : List Stmt := (fnBody S799).drop n
noncomputable def stF0 (u : Tok) (gl hp : Addr) : Str → Option Value := upd (Str.ofString "generation") (.int 0 u) (upd (Str.ofString "globs") (.ref gl) (upd (Str.ofString "heap") (.ref hp) no0))
noncomputable def caF0 (tb : Addr) (u : Tok) : Str → Option Value := upd (Str.ofString "table") (.ref tb) (upd (Str.ofString "generation") (.int (-1) u) no0)
noncomputable abbrev setLD (a : LA) (f : Nat → Str → Option Value) (fh : Str → Option Value) (u1 u2 u3 : Tok) (tb : Addr) : LD :=
  (a.sp, .li [.int 0 u3]) :: (a.dhp, .di fh) :: (a.gl, .sd []) :: (a.pd, .sd []) :: (a.bk, .sd (bookL a.ow a.ho a.pd a.ed)) :: (a.dst, .di (stF0 u1 a.gl a.hp)) :: (a.ed, .sd []) :: (a.zl, .li []) :: (a.ow, .nd []) :: (a.ho, .nd []) :: (a.dca, .di (caF0 tb u2)) :: (tb, .tb []) :: thL a f []
theorem law_C2 {K : Params → Frag} {V : Program} (HK : KOk K) {q : Str} {v : Value} {c : Cf} {dz : Nat} {fin : Kt Flow} {H : Heap} {Y : LD} {hp lm sl sp rn tl : Addr} (Z : ZOk K V (ccF S799 799 t799 q v) c dz)
    (k : ∀ (bk ow ho pd ed : Addr), Se c [(Str.ofString "book", .ref bk), (Str.ofString "things", .ref tl), (Str.ofString "run", .ref rn), (Str.ofString "heap", .ref hp), (Str.ofString "limits", .ref lm), (Str.ofString "spot", .ref sp), (Str.ofString "script", .ref sl)] H ((ed, .sd []) :: (pd, .sd []) :: (ho, .nd []) :: (ow, .nd []) :: (bk, .sd (bookL ow ho pd ed)) :: Y) (lawB 9) (lawE c q v) fin) :
    Se c [(Str.ofString "things", .ref tl), (Str.ofString "run", .ref rn), (Str.ofString "heap", .ref hp), (Str.ofString "limits", .ref lm), (Str.ofString "spot", .ref sp), (Str.ofString "script", .ref sl)] H Y (lawB 8) (lawE c q v) fin := by
  refine se_seq 1 (se_run Z 4000 ?_)
  k_extra "go"
  exact k _ _ _ _ _
theorem law_set {K : Params → Frag} {V : Program} (HK : KOk K) {q : Str} {v : Value} {c : Cf} {dz : Nat} {ca : Addr} {fin : Kt Flow} {sl : Addr} {vs : List Value} {ns : List Int} {cv : Option Value} (Z : ZOk K V (ccF S799 799 t799 q v) c dz) (hd : 30 ≤ dz) (hs : FL c.w c.g sl vs) (hI : IntsAre vs ns) (hz : ns.length ≤ 63)
    (k : ∀ (a : LA) (f : Nat → Str → Option Value) (fh : Str → Option Value) (u1 u2 u3 : Tok) (tb : Addr) (G : Heap), a.cell = ca → Keep c.g G → LwG c.w a G → Ths0 f → HpM fh 6 → fh (Str.ofString "zero") = some (.ref a.zl) →
      Se c (lawL a) G ((a.cell, .ce cv) :: setLD a f fh u1 u2 u3 tb) (lawB 9) (lawE c q v) fin) :
    Se c [(Str.ofString "script", .ref sl)] c.g [(ca, .ce cv)] (fnBody S799) (lawE c q v) fin := by
  have hvl := IntsAre.length hI
  refine law_A HK Z hd hs (by omega) fun sp hp dhp zl sl' lm u1 u2 G1 k1 hhp hsl => ?_
  refine law_B1 HK Z hd fun rn drn st dst gl ctr dctr pl u3 fr1 G2 k2 hrn c1 c2 c3 hst => ?_
  refine se_fz ((rn, .ob (instObj 638 drn)) :: (drn, .di fr1) :: (dhp, .di _) :: (dst, .di _) :: (gl, .sd []) :: (zl, .li []) :: (sp, .li _) :: (ca, .ce cv) :: []) (by k_extra "cut") fun G3 k3 _ => ?_
  refine law_B2 HK hrn Z hd fun cha dca tb fr u4 u5 G4 k4 hR hF hca => ?_
  refine se_fz ((dhp, .di _) :: (dca, .di _) :: (tb, .tb []) :: (dst, .di _) :: (gl, .sd []) :: (zl, .li []) :: (sp, .li _) :: (ca, .ce cv) :: []) (by k_extra "cut") fun G5 k5 _ => ?_
  refine law_C1 HK Z hd (hhp.keeps (k2.trans (k3.trans (k4.trans k5)))) ⟨⟨_, rfl⟩, rfl, rfl, rfl, rfl, rfl, rfl, _, rfl⟩ rfl fun tl x0 x1 x2 x3 x4 x5 d0 d1 d2 d3 d4 d5 fh' f0 f1 f2 f3 f4 f5 v0 G6 k6 htl o0 o1 o2 o3 o4 o5 t0 t1 t2 t3 t4 t5 s0 p0 s1 hm hz => ?_
  refine law_C2 HK Z fun bk ow ho pd ed => ?_
  let a : LA := ⟨sl', sp, rn, st, dst, gl, cha, dca, ctr, hp, dhp, zl, tl, bk, ow, ho, pd, ed, ca, fr, lm, x0, x1, x2, x3, x4, x5, d0, d1, d2, d3, d4, d5⟩
  have k56 := k5.trans k6
  have k46 := k4.trans k56
  have k36 := k3.trans k46
  have k26 := k2.trans k36
  refine se_fz (R := []) ((a.cell, .ce cv) :: setLD a (mk6 f0 f1 f2 f3 f4 f5) fh' u3 u5 u1 tb) (by k_extra "cut") fun G7 k7 _ => k a (mk6 f0 f1 f2 f3 f4 f5) fh' u3 u5 u1 tb G7 rfl (k1.trans (k26.trans k7)) (LwG.keeps ⟨⟨_, _, hsl.keeps k26, hI.take 48, by rw [List.length_take]; omega⟩, hhp.keeps k26, hR.keeps k56, ⟨_, hF.keeps k56⟩, ⟨_, _, c1.keeps k36, c2.keeps k36, c3.keeps k36⟩, hst.keeps k36, hca.keeps k56, htl, o0, o1, o2, o3, o4, o5⟩ k7) (ths0_mk t0 t1 t2 t3 t4 t5 s0 p0 s1) hm hz
section
variable {c : Cf} {k : Nat} {l : List (Str × Value)} {H : Heap} {ld : LD} {K : Kt Value} {vs : List Value} {t : Tok} {i : Int} {value slice : PySem.Expr}
theorem e_pk (hl : FL c.w H 742 vs) (hs : StrsAre vs pkL) (h0 : 0 ≤ i) (h1 : i < 5) (z : ∀ P u, pkL[i.toNat]? = some P → K (.str P u) l H ld) (hx : subscripted slice false (.ref 742) (.int i t) = operate [.ref 742, .int i t] (getItem (.ref 742) (.int i t))) : Stp k (Sp c l H ld (subscriptTail value slice (.ref 742) (.int i t)) K) := by
  have hP : pkL[i.toNat]? = some (pkL[i.toNat]'(by show i.toNat < 5; omega)) := List.getElem?_eq_getElem _
  refine elE (hs.get hP) ?_; rintro u e
  exact e_item hl.hl h0 (by omega) e (z _ _ hP) hx
theorem e_pkK {P : Str} (hl : FL c.w H 742 vs) (hs : StrsAre vs pkL) (hP : pkL[i.toNat]? = some P) (z : ∀ u, K (.str P u) l H ld) (hx : subscripted slice false (.ref 742) (.int i t) = operate [.ref 742, .int i t] (getItem (.ref 742) (.int i t))) (h0 : 0 ≤ i := by omega) : Stp k (Sp c l H ld (subscriptTail value slice (.ref 742) (.int i t)) K) := by
  refine elE (hs.get hP) ?_; rintro u e
  have : i.toNat < 5 := (List.getElem?_eq_some_iff.mp hP).1
  exact e_item hl.hl h0 (by omega) e (z _) hx
theorem s_getS {a : Addr} {kvs : List (Str × Value)} {x : Str} {u : Tok} {dflt v : Value} (y : Hd c.w H ld a (.sd kvs)) (e : valueAt kvs x = some v) (z : K v l H ld) : Stp k (Sp c l H ld (call (.builtin "dict.get") [.ref a, .str x u, dflt]) K) := s_get2 y e z
theorem s_getN {a : Addr} {kvs : List (Str × Value)} {x : Str} {u : Tok} {dflt : Value} (y : Hd c.w H ld a (.sd kvs)) (e : valueAt kvs x = none) (z : K dflt l H ld) : Stp k (Sp c l H ld (call (.builtin "dict.get") [.ref a, .str x u, dflt]) K) := s_get2 y e z
end
theorem app_inj {p q x : Str} (h : p ++ x = q ++ x) : p = q := by
  have h2 : p.cps ++ x.cps = q.cps ++ x.cps := congrArg Str.cps h
  have h3 := congrArg Array.toList h2
  rw [Array.toList_append, Array.toList_append] at h3
  cases p; cases q
  exact congrArg Str.mk (Array.toList_inj.mp (List.append_cancel_right h3))
theorem isaN_inj {p q : Str} (h : isaN p = isaN q) : p = q := app_inj h
theorem desN_inj {p q : Str} (h : desN p = desN q) : p = q := app_inj h
theorem isa_des {p q : Str} : isaN p ≠ desN q := fun h => by
  have h2 : p.cps ++ (Str.ofString "::ISA").cps = q.cps ++ (Str.ofString "::DESTROY").cps := congrArg Str.cps h
  have h3 := congrArg Array.toList h2
  rw [Array.toList_append, Array.toList_append] at h3
  have h4 := congrArg List.getLast? h3
  have a : (Str.ofString "::ISA").cps.toList.getLast? = some 65 := by decide +kernel
  have b : (Str.ofString "::DESTROY").cps.toList.getLast? = some 89 := by decide +kernel
  rw [List.getLast?_append, List.getLast?_append, a, b] at h4
  exact absurd (Option.some.inj h4) (by decide)
theorem GlobAt.keeps {w : World} {h h' : Heap} {o : Option Value} {xs : List Str} (x : GlobAt w h o (isaP w h xs)) (k : Keep h h') : GlobAt w h' o (isaP w h' xs) := x.imp k (isaP.keeps k)
noncomputable def ParAt (w : World) (G : Heap) (v : Option Value) (xs : List Str) : Prop := (v = none ∧ xs = []) ∨ ∃ l vs, v = some (.ref l) ∧ FL w G l vs ∧ StrsAre vs xs
theorem ParAt.keeps {w : World} {G G' : Heap} {v : Option Value} {xs : List Str} (x : ParAt w G v xs) (k : Keep G G') : ParAt w G' v xs := x.imp id fun ⟨l, vs, a, b, e⟩ => ⟨l, vs, a, b.keeps k, e⟩
theorem s_getP {c : Cf} {k : Nat} {l : List (Str × Value)} {H : Heap} {ld : LD} {K : Kt Value} {a b : Addr} {kvs : List (Str × Value)} {x : Str} {u : Tok} {xs : List Str} (y : Hd c.w H ld a (.sd kvs)) (hp : ParAt c.w H (valueAt kvs x) xs) (he : (b, Ds.li []) ∈ ld) (z : ∀ l' vs, (∀ ld', (b, Ds.li []) ∈ ld' → HL c.w H ld' l' vs) → StrsAre vs xs → vs.length = xs.length → K (.ref l') l H ld) : Stp k (Sp c l H ld (call (.builtin "dict.get") [.ref a, .str x u, .ref b]) K) := by
  rcases hp with ⟨e, rfl⟩ | ⟨l', vs, e, f, s⟩
  · exact s_getN y e (z _ _ (fun _ h => .l h) .nil rfl)
  · exact s_getS y e (z _ _ (fun _ _ => f.hl) s s.length)
noncomputable def addP (par : Str → List Str) (P2 P : Str) : Str → List Str := fun p => if p = P2 then par P2 ++ [P] else par p
theorem addP_self (par : Str → List Str) (P2 P : Str) : addP par P2 P P2 = par P2 ++ [P] := if_pos rfl
theorem addP_ne {par : Str → List Str} {P2 P p : Str} (h : p ≠ P2) : addP par P2 P p = par p := if_neg h
noncomputable def Low (par : Str → List Str) : Prop := ∀ p, ∀ q ∈ par p, ∃ i j : Nat, j < i ∧ pkL[i]? = some p ∧ pkL[j]? = some q
theorem Low.add {par : Str → List Str} {P2 P : Str} (x : Low par) {i j : Nat} (h : j < i) (h1 : pkL[i]? = some P2) (h2 : pkL[j]? = some P) : Low (addP par P2 P) := fun p q hq => by
  by_cases e : p = P2
  · subst e
    rw [addP_self] at hq
    rcases List.mem_append.mp hq with hq | hq
    · exact x _ _ hq
    · cases List.mem_singleton.mp hq; exact ⟨i, j, h, h1, h2⟩
  · rw [addP_ne e] at hq; exact x _ _ hq
structure IsaC (w : World) (G : Heap) (kk : Nat) (P2 : Str) (kvs pkv : List (Str × Value)) (par : Str → List Str) : Prop where
  low : Low par
  arr : ∀ p, p ≠ P2 → GlobAt w G (valueAt kvs (isaN p)) (isaP w G (par p))
  des : ∀ p, valueAt kvs (desN p) = none
  nxt : ∀ i p, kk < i → pkL[i]? = some p → valueAt kvs (isaN p) = none ∧ par p = []
  pks : ∀ p, ParAt w G (valueAt pkv p) (par p)
  two : ∀ p, (par p).length ≤ 2
theorem IsaC.keeps {w : World} {G G' : Heap} {kk : Nat} {P2 : Str} {kvs pkv : List (Str × Value)} {par : Str → List Str} (x : IsaC w G kk P2 kvs pkv par) (k : Keep G G') : IsaC w G' kk P2 kvs pkv par :=
  ⟨x.low, fun p h => (x.arr p h).keeps k, x.des, x.nxt, fun p => (x.pks p).keeps k, x.two⟩
theorem IsaC.step {w : World} {G : Heap} {kk : Nat} {P2 P : Str} {kvs kvs' pkv : List (Str × Value)} {par : Str → List Str} {D : Addr} {vs : List Value} {j : Nat} (x : IsaC w G kk P2 kvs pkv par) (h2 : pkL[kk]? = some P2) (hj : j < kk) (hP : pkL[j]? = some P) (hz : (par P2).length ≤ 1)
    (hk : ∀ n, n ≠ isaN P2 → valueAt kvs' n = valueAt kvs n) (hF : FL w G D vs) (hS : StrsAre vs (par P2 ++ [P])) : IsaC w G kk P2 kvs' (stored pkv P2 (.ref D)) (addP par P2 P) where
  low := x.low.add hj h2 hP
  arr p h := by rw [hk _ fun e => h (isaN_inj e), addP_ne h]; exact x.arr p h
  des p := by rw [hk _ fun e => isa_des e.symm]; exact x.des p
  nxt i p hi hp := by
    have ne : p ≠ P2 := fun e => by subst e; have := pkL_inj hp h2; omega
    rw [hk _ fun e => ne (isaN_inj e), addP_ne ne]; exact x.nxt i p hi hp
  pks p := by
    rw [valueAt_stored]
    by_cases e : p = P2
    · subst e; rw [if_pos rfl, addP_self]; exact .inr ⟨D, vs, rfl, hF, hS⟩
    · rw [if_neg e, addP_ne e]; exact x.pks p
  two p := by
    by_cases e : p = P2
    · subst e; rw [addP_self, List.length_append]; exact Nat.succ_le_succ hz
    · rw [addP_ne e]; exact x.two p
noncomputable def OldI (w : World) (G : Heap) (kvs : List (Str × Value)) (xs : List Str) (P2 : Str) (l : Addr) (vs : List Value) : Prop := ∃ x dx fg ax da fa, valueAt kvs (isaN P2) = some (.ref x) ∧ OAt w G x (.ob (instObj 163 dx)) ∧ OAt w G dx (.di fg) ∧ fg (Str.ofString "array") = some (.ref ax) ∧ OAt w G ax (.ob (instObj 106 da)) ∧ OAt w G da (.di fa) ∧ fa (Str.ofString "items") = some (.ref l) ∧ Scalars w G vs xs
theorem Scalars.snoc {w : World} {G : Heap} {vs : List Value} {xs : List Str} {v : Value} {x : Str} (h : Scalars w G vs xs) (k : ScalarOf w G v x) : Scalars w G (vs ++ [v]) (xs ++ [x]) := by
  induction h with
  | nil => exact .cons k .nil
  | cons a _ ih => exact .cons a ih
theorem oldI_new {w : World} {G : Heap} {kvs : List (Str × Value)} {P2 : Str} {x dx ax da l wa : Addr} {f1 : Str → Option Value} {vs : List Value} {xs : List Str} {n k : Int} {ub uc ud : Tok} (hs : Scalars w G vs xs) (h1 : OAt w G x (.ob (instObj 163 dx))) (h2 : OAt w G dx (.di (upd (Str.ofString "array") (.ref ax) f1))) (h3 : OAt w G ax (.ob (instObj 106 da))) (h4 : OAt w G da (.di (cntU (arF n wa l ub uc) k ud))) : OldI w G (stored kvs (isaN P2) (.ref x)) xs P2 l vs :=
  ⟨x, dx, _, ax, da, _, valueAt_self, h1, h2, rfl, h3, h4, rfl, hs⟩
theorem scalarOf_new {w : World} {G : Heap} {x dx : Addr} {c : Value} {P : Str} {u : Tok} {f : Str → Option Value} (h1 : OAt w G x (.ob (instObj 87 dx))) (h2 : OAt w G dx (.di (upd (Str.ofString "count") c (upd (Str.ofString "magic") .none (upd (Str.ofString "value") (.str P u) f))))) : ScalarOf w G (.ref x) P := ⟨x, dx, _, u, rfl, h1, h2, rfl, rfl⟩
theorem OldI.more {w : World} {G G' : Heap} {kvs : List (Str × Value)} {xs ys : List Str} {P2 : Str} {l : Addr} {vs us : List Value} (h : OldI w G kvs xs P2 l vs) (k : Keep G G') (hs : Scalars w G vs xs → Scalars w G' us ys) : OldI w G' kvs ys P2 l us :=
  let ⟨x, dx, fg, ax, da, fa, e1, e2, e3, e4, e5, e6, e7, e8⟩ := h; ⟨x, dx, fg, ax, da, fa, e1, e2.keeps k, e3.keeps k, e4, e5.keeps k, e6.keeps k, e7, hs e8⟩
theorem HpM.up {fh : Str → Option Value} {n : Int} {u : Tok} (h : HpM fh n) : HpM (hpU fh n u) (n + 1) := ⟨⟨_, rfl⟩, h.m1, h.m2, h.m3, h.m4, h.m5, h.m6, h.zero⟩
theorem stored_len {K : Type} [DecidableEq K] {kvs : List (K × Value)} {k : K} {v : Value} : (stored kvs k v).length ≤ kvs.length + 1 := by
  unfold stored
  split
  · rw [List.length_map]; exact Nat.le_succ _
  · rw [List.length_append]; exact Nat.le_refl _
noncomputable abbrev inL (a : LA) (n : Int) (t : Tok) (fh : Str → Option Value) (kvs pkv : List (Str × Value)) (kk : Nat) (uk : Tok) (fs : Str → Option Value) (Y : LD) : LD :=
  (a.sp, .li [.int n t]) :: (a.dhp, .di fh) :: (a.gl, .sd kvs) :: (a.pd, .sd pkv) :: (a.cell, .ce (some (.int kk uk))) :: (a.bk, .sd (bookL a.ow a.ho a.pd a.ed)) :: (a.dst, .di fs) :: Y
noncomputable def InJ (w : World) (a : LA) (H0 : Heap) (kk : Nat) (P2 : Str) (n0 : Int) (uk : Tok) (fs : Str → Option Value) (Y : LD) (lo : List (Str × Value)) (j : Nat) (l : List (Str × Value)) (G : Heap) (ld : LD) : Prop :=
  Keep H0 G ∧ l = lo ∧ ∃ n t fh m kvs pkv par, 0 ≤ n ∧ n ≤ n0 + j ∧ HpM fh m ∧ fh (Str.ofString "zero") = some (.ref a.zl) ∧ kvs.length ≤ 2 * kk + j ∧ pkv.length ≤ 2 * kk + j ∧ IsaC w G kk P2 kvs pkv par ∧ (par P2).length ≤ j ∧
    ((valueAt kvs (isaN P2) = none ∧ par P2 = [] ∧ ld = inL a n t fh kvs pkv kk uk fs Y) ∨ ∃ l vs, OldI w G kvs (par P2) P2 l vs ∧ ld = (l, .li vs) :: inL a n t fh kvs pkv kk uk fs Y)
noncomputable abbrev inBody : List Stmt := fnBody (nth (fnBody (nth (fnBody S799) 9)) 0)
theorem isa_turn {K : Params → Frag} {V : Program} (HK : KOk K) {q : Str} {v : Value} {c : Cf} {dz : Nat} {a : LA} {H0 : Heap} {kk : Nat} {P2 : Str} {n0 : Int} {uk : Tok} {fs : Str → Option Value} {Y : LD} {lo : List (Str × Value)} {KF : Kt Flow} {pv : List Value} (Z : ZOk K V (ccF S799 799 t799 q v) c dz) (hd : 30 ≤ dz) (hcc : c.cl.lookup (Str.ofString "k") = some a.cell)
    (hL : LwG c.w a H0) (hpl : FL c.w c.g 742 pv) (hps : StrsAre pv pkL) (hcg : Keep c.g H0) (hfs : StG fs a.gl a.hp) (hfa : fs (Str.ofString "array_of") = none) (hkk : 1 ≤ kk ∧ kk ≤ 4) (h2 : pkL[kk]? = some P2) (hn9 : n0 ≤ 900) (hlo : lo = lawL a ∨ ∃ pa, lo = (Str.ofString "parent", pa) :: lawL a)
    (i : Nat) (u : Tok) (I : Addr) (io : Obj) (l : List (Str × Value)) (G : Heap) (ld : LD) (hi : i < 2) (hJ : InJ c.w a H0 kk P2 n0 uk fs Y (lawL a) i l G ld) :
    run (ccF S799 799 t799 q v) c (turnF c.w (InJ c.w a H0 kk P2 n0 uk fs Y (lawL a)) i I io G KF) 4000 (.ss inBody) [] ((Str.ofString "_", .int (0 + (i : Nat)) u) :: l) G ((I, .ob io) :: ld) := by
  refine elAAEEEEEEEAAAAAAAA hJ ?_; (try clear hJ); rintro kG rfl n t fh m kvs pkv par hn0 hn1 hm hz hkl hpkl hC hpz hcase
  obtain ⟨⟨svs, sns, hsl, hI, hlen⟩, hhp, hrn, hfm, hct, hst, _⟩ := hL.keeps kG
  obtain ⟨drn, frn, r1, r2, ⟨h1, _, _, _, h5⟩⟩ := id hrn.ex
  have hch := hct.h hhp
  refine elEEAA (id hct.ex) ?_; rintro cd cpl c1 c2 c3
  have hpl := hpl.keeps (hcg.trans kG)
  have hk2 : pkL[((kk : Nat) : Int).toNat]? = some P2 := by simpa using h2
  have hPl : P2.length ≤ 40 := pkL_txt P2 (List.mem_of_getElem? h2)
  obtain ⟨⟨nu, m0⟩, m1, m2, m3, m4, m5, m6, m7⟩ := id hm
  have hin : ∀ G', Keep G G' → (par P2).length ≤ 1 → ∀ (P9 : Str) (i9 : Int) kvs' D vs, pkL[i9.toNat]? = some P9 → 0 ≤ i9 → i9 < kk → (∀ n, n ≠ isaN P2 → valueAt kvs' n = valueAt kvs n) → FL c.w G' D vs → StrsAre vs (par P2 ++ [P9]) → IsaC c.w G' kk P2 kvs' (stored pkv P2 (.ref D)) (addP par P2 P9) :=
    fun G' k hz P9 i9 kvs' D vs h a b e f g => (hC.keeps k).step h2 (by omega) h hz e f g
  have hp1 : (par P2).length ≤ 1 := by omega
  have hpl2 : ∀ P9, (addP par P2 P9 P2).length ≤ i + 1 := fun P9 => by rw [addP_self, List.length_append]; exact Nat.succ_le_succ hpz
  have hkv' : ∀ v, (stored kvs (isaN P2) v).length ≤ 2 * kk + (i + 1) := fun v => Nat.le_trans stored_len (Nat.succ_le_succ hkl)
  have hpv' : ∀ v, (stored pkv P2 v).length ≤ 2 * kk + (i + 1) := fun v => Nat.le_trans stored_len (Nat.succ_le_succ hpkl)
  have hn' : n + 1 ≤ n0 + ((i + 1 : Nat) : Int) := by omega
  have hpa := hC.pks P2
  rcases hcase with ⟨hnew, hpe, rfl⟩ | ⟨li, lvs, hold, rfl⟩
  · k_extra "go"
    k_extra "st"
    exact forMk (n := 2) (ld' := (l9, .li ([] ++ [.ref x9])) :: inL a (n + 1) t9 _ _ (stored pkv P2 (.ref D9)) kk uk fs Y) rfl rfl (by k_extra "cut") fun G' kG' hG' => ⟨kG.trans kG', rfl, _, t9, _, _, _, _, addP par P2 P9, by omega, hn', hm.up.up.up, hz, hkv' _, hpv' _,
      hin G' kG' hp1 P9 i9 _ D9 _ hP9 hi9 hj9 (fun n h => valueAt_ne h) ⟨_, hG' (D9, .li _) (by k_extra "mm"), rfl⟩ hs8.snoc, hpl2 _,
      .inr ⟨l9, _, oldI_new (by rw [addP_self, hpe]; exact .cons (scalarOf_new (hG' (_, Ds.ob (instObj 87 _)) (by k_extra "mm")) (hG' (_, .di (upd (Str.ofString "count") _ (upd (Str.ofString "magic") _ _))) (by k_extra "mm"))) .nil) (hG' (_, Ds.ob (instObj 163 _)) (by k_extra "mm")) (hG' (_, .di (upd (Str.ofString "array") _ _)) (by k_extra "mm")) (hG' (_, Ds.ob (instObj 106 _)) (by k_extra "mm")) (hG' (_, .di (cntU (arF _ _ _ _ _) _ _)) (by k_extra "mm")), rfl⟩⟩
  · refine elEEEEEEAAAAAAA (id hold) ?_; rintro x dx fg ax da fa e1 e2 e3 e4 e5 e6 e7 e8
    have hll := e8.length
    k_extra "go"
    k_extra "st"
    exact forMk (n := 2) (ld' := (li, .li (lvs ++ [.ref x9])) :: inL a (n + 1) t9 _ _ (stored pkv P2 (.ref D9)) kk uk fs Y) rfl rfl (by k_extra "cut") fun G' kG' hG' => ⟨kG.trans kG', rfl, _, t9, _, _, _, _, addP par P2 P9, by omega, hn', hm.up, hz, by omega, hpv' _,
      hin G' kG' hp1 P9 i9 _ D9 _ hP9 hi9 hj9 (fun n h => rfl) ⟨_, hG' (D9, .li _) (by k_extra "mm"), rfl⟩ hs8.snoc, hpl2 _,
      .inr ⟨li, _, hold.more kG' (fun h => by rw [addP_self]; exact (h.keeps kG').snoc (scalarOf_new (hG' (_, Ds.ob (instObj 87 _)) (by k_extra "mm")) (hG' (_, .di (upd (Str.ofString "count") _ (upd (Str.ofString "magic") _ _))) (by k_extra "mm")))), rfl⟩⟩
structure IsaA (w : World) (G : Heap) (i : Nat) (kvs pkv : List (Str × Value)) (par : Str → List Str) : Prop where
  low : Low par
  arr : ∀ p, GlobAt w G (valueAt kvs (isaN p)) (isaP w G (par p))
  des : ∀ p, valueAt kvs (desN p) = none
  nxt : ∀ j p, i < j → pkL[j]? = some p → valueAt kvs (isaN p) = none ∧ par p = []
  pks : ∀ p, ParAt w G (valueAt pkv p) (par p)
  two : ∀ p, (par p).length ≤ 2
theorem IsaA.keeps {w : World} {G G' : Heap} {i : Nat} {kvs pkv : List (Str × Value)} {par : Str → List Str} (x : IsaA w G i kvs pkv par) (k : Keep G G') : IsaA w G' i kvs pkv par :=
  ⟨x.low, fun p => (x.arr p).keeps k, x.des, x.nxt, fun p => (x.pks p).keeps k, x.two⟩
theorem IsaA.start {w : World} {G : Heap} {i : Nat} {P2 : Str} {kvs pkv : List (Str × Value)} {par : Str → List Str} (x : IsaA w G i kvs pkv par) (h : pkL[i + 1]? = some P2) : IsaC w G (i + 1) P2 kvs pkv par ∧ valueAt kvs (isaN P2) = none ∧ par P2 = [] :=
  ⟨⟨x.low, fun p _ => x.arr p, x.des, fun j p hj => x.nxt j p (by omega), x.pks, x.two⟩, x.nxt (i + 1) P2 (by omega) h⟩
theorem IsaC.stop {w : World} {G : Heap} {i : Nat} {P2 : Str} {kvs pkv : List (Str × Value)} {par : Str → List Str} (x : IsaC w G i P2 kvs pkv par) (h : GlobAt w G (valueAt kvs (isaN P2)) (isaP w G (par P2))) : IsaA w G i kvs pkv par :=
  ⟨x.low, fun p => by
    by_cases e : p = P2
    · subst e; exact h
    · exact x.arr p e, x.des, x.nxt, x.pks, x.two⟩
theorem OldI.glob {w : World} {G : Heap} {kvs : List (Str × Value)} {xs : List Str} {P2 : Str} {l : Addr} {vs : List Value} (h : OldI w G kvs xs P2 l vs) (f : FL w G l vs) : GlobAt w G (valueAt kvs (isaN P2)) (isaP w G xs) :=
  let ⟨x, dx, fg, ax, da, fa, e1, e2, e3, e4, e5, e6, e7, e8⟩ := h; .inr ⟨x, dx, fg, e1, e2, e3, .ref ax, e4, .inr ⟨ax, da, fa, l, vs, rfl, e5, e6, e7, f, e8⟩, rfl⟩
noncomputable abbrev ouL (a : LA) (n : Int) (t : Tok) (fh : Str → Option Value) (kvs pkv : List (Str × Value)) (fs : Str → Option Value) (Y : LD) : LD :=
  (a.sp, .li [.int n t]) :: (a.dhp, .di fh) :: (a.gl, .sd kvs) :: (a.pd, .sd pkv) :: (a.bk, .sd (bookL a.ow a.ho a.pd a.ed)) :: (a.dst, .di fs) :: Y
noncomputable def OuJ (w : World) (a : LA) (H0 : Heap) (fs : Str → Option Value) (Y : LD) (i : Nat) (l : List (Str × Value)) (G : Heap) (ld : LD) : Prop :=
  Keep H0 G ∧ l = lawL a ∧ ∃ (n : Int) (t : Tok) (fh : Str → Option Value) (m : Int) (kvs pkv : List (Str × Value)) (par : Str → List Str), 0 ≤ n ∧ n ≤ 3 * (i : Int) ∧ HpM fh m ∧ fh (Str.ofString "zero") = some (.ref a.zl) ∧ kvs.length ≤ 2 * (i + 1) ∧ pkv.length ≤ 2 * (i + 1) ∧ IsaA w G i kvs pkv par ∧ ld = ouL a n t fh kvs pkv fs Y
theorem forMkH {w : World} {J : Nat → List (Str × Value) → Heap → LD → Prop} {i n : Nat} {I : Addr} {io : Obj} {G H : Heap} {l lo : List (Str × Value)} {ld ld' R : LD} (kG : Keep G H) (e : l.drop n = lo) (q : nodupN l = true) (cu : Cut ld ((I, .ob io) :: ld') R) (hj : ∀ G', Keep H G' → Has w G' R → J (i + 1) lo G' ld') :
    Stp 17 (∃ l' ld' R, (∀ p ∈ l', lk l p.1 = some p.2) ∧ Cut ld ((I, .ob io) :: ld') R ∧ Keep G H ∧ ∀ G', Keep H G' → Has w G' R → J (i + 1) l' G' ld') := .mk ⟨lo, ld', R, lk_rest n e q, cu, kG, hj⟩
theorem isa_out {K : Params → Frag} {V : Program} (HK : KOk K) {q : Str} {v : Value} {c : Cf} {dz : Nat} {a : LA} {H0 : Heap} {fs : Str → Option Value} {Y : LD} {KF : Kt Flow} {pv : List Value} (Z : ZOk K V (ccF S799 799 t799 q v) c dz) (hd : 30 ≤ dz) (hcc : c.cl.lookup (Str.ofString "k") = some a.cell)
    (hL : LwG c.w a H0) (hpl : FL c.w c.g 742 pv) (hps : StrsAre pv pkL) (hcg : Keep c.g H0) (hfs : StG fs a.gl a.hp) (hfa : fs (Str.ofString "array_of") = none)
    (i : Nat) (u : Tok) (I : Addr) (io : Obj) (l : List (Str × Value)) (G : Heap) (ld : LD) (hi : i < 4) (hJ : OuJ c.w a H0 fs Y i l G ld) :
    run (ccF S799 799 t799 q v) c (turnF c.w (fun i l G ld => ∃ v ld1, ld = (a.cell, .ce v) :: ld1 ∧ OuJ c.w a H0 fs Y i l G ld1) i I io G KF) 4000 (.ss (fnBody (nth (fnBody S799) 9))) [] l G ((I, .ob io) :: (a.cell, .ce (some (.int (1 + (i : Nat)) u))) :: ld) := by
  refine elAAEEEEEEEAAAAAAA hJ ?_; (try clear hJ); rintro kG rfl n t fh m kvs pkv par hn0 hn1 hm hz hkl hpkl hA rfl
  obtain ⟨⟨svs, sns, hsl, hI, hlen⟩, hhp, hrn, hfm, hct, hst, _⟩ := hL.keeps kG
  have hL' := hL.keeps kG
  have hcg' := hcg.trans kG
  rw [show (1 + (i : Int)) = ((i + 1 : Nat) : Int) by omega]
  obtain ⟨P2, h2⟩ : ∃ P2, pkL[i + 1]? = some P2 := ⟨_, List.getElem?_eq_getElem (by show i + 1 < 5; omega)⟩
  refine elAA (hA.start h2) ?_; rintro hC hnew hpe
  k_extra "go"
  k_extra "st"
  refine e_forR (n := i9.toNat) 4000 (InJ c.w a G (i + 1) P2 (n + 1) u fs ((I, .ob io) :: Y) (lawL a)) Z rfl (by k_extra "mm") (by omega) (by decide) (by omega) (ld0 := inL a (n + 1) _ fh kvs pkv (i + 1) u fs ((I, .ob io) :: Y)) (by k_extra "cut") (fun G1 k1 _ => ⟨k1, rfl, _, _, fh, m, kvs, pkv, par, by omega, by omega, hm, hz, hkl, hpkl, hC.keeps k1, by rw [hpe]; exact Nat.zero_le _, .inl ⟨hnew, hpe, rfl⟩⟩) ?_ ?_
  · intro j uj Ij oj l G1 ld hj hJ
    exact isa_turn HK Z hd hcc hL' hpl hps hcg' hfs hfa (by omega) h2 (by omega) (.inl rfl) j uj Ij oj l G1 ld (by omega) hJ
  · intro _ G1 _ zI1; refine elAAEEEEEEEAAAAAAAA zI1 ?_; (try clear zI1); rintro kG1 rfl n' t' fh' m' kvs' pkv' par' hn0' hn1' hm' hz' hkl' hpkl' hC' hpz' hcase
    rcases hcase with ⟨hnew', hpe', rfl⟩ | ⟨li, lvs, hold, rfl⟩
    · k_extra "go"
      k_extra "st"
      exact forMkH (J := fun i l G ld => ∃ v ld1, ld = (a.cell, .ce v) :: ld1 ∧ OuJ c.w a H0 fs Y i l G ld1) (n := 0) (lo := lawL a) (ld' := (a.cell, .ce (some (.int ((i + 1 : Nat) : Int) u))) :: ouL a n' t' fh' kvs' pkv' fs Y) kG1 rfl rfl (by k_extra "cut") fun G' kG' hG' => ⟨_, _, rfl, kG.trans (kG1.trans kG'), rfl, _, _, _, m', _, _, par', hn0', by omega, hm', hz', by omega, by omega, (hC'.stop (.inl ⟨hnew', hpe'⟩)).keeps kG', rfl⟩
    · k_extra "go"
      k_extra "st"
      exact forMkH (J := fun i l G ld => ∃ v ld1, ld = (a.cell, .ce v) :: ld1 ∧ OuJ c.w a H0 fs Y i l G ld1) (n := 0) (lo := lawL a) (ld' := (a.cell, .ce (some (.int ((i + 1 : Nat) : Int) u))) :: ouL a n' t' fh' kvs' pkv' fs Y) kG1 rfl rfl (by k_extra "cut") fun G' kG' hG' => ⟨_, _, rfl, kG.trans (kG1.trans kG'), rfl, _, _, _, m', _, _, par', hn0', by omega, hm', hz', by omega, by omega, (hC'.keeps kG').stop ((hold.more kG' fun h => h.keeps kG').glob ⟨_, hG' (li, .li lvs) (by k_extra "mm"), rfl⟩), rfl⟩
theorem law_isa {K : Params → Frag} {V : Program} (HK : KOk K) {q : Str} {v : Value} {c : Cf} {dz : Nat} {a : LA} {H0 : Heap} {fs fh : Str → Option Value} {Y : LD} {fin : Kt Flow} {pv : List Value} {u : Tok} {cv : Option Value} {m : Int} (Z : ZOk K V (ccF S799 799 t799 q v) c dz) (hd : 30 ≤ dz) (hcc : c.cl.lookup (Str.ofString "k") = some a.cell)
    (hL : LwG c.w a H0) (hpl : FL c.w c.g 742 pv) (hps : StrsAre pv pkL) (hcg : Keep c.g H0) (hfs : StG fs a.gl a.hp) (hfa : fs (Str.ofString "array_of") = none) (hm : HpM fh m) (hz : fh (Str.ofString "zero") = some (.ref a.zl))
    (k : ∀ n t fh m kvs pkv par cv G, Keep H0 G → 0 ≤ n → n ≤ 12 → HpM fh m → fh (Str.ofString "zero") = some (.ref a.zl) → kvs.length ≤ 10 → IsaA c.w G 4 kvs pkv par → Se c (lawL a) G ((a.cell, .ce cv) :: ouL a n t fh kvs pkv fs Y) (lawB 10) (lawE c q v) fin) :
    Se c (lawL a) H0 ((a.cell, .ce cv) :: ouL a 0 u fh [] [] fs Y) (lawB 9) (lawE c q v) fin := by
  refine se_seq 1 (se_run Z 4000 ?_)
  k_extra "go"
  k_extra "st"
  refine e_forC (n := 4) 4000 (OuJ c.w a H0 fs Y) Z rfl hcc (by k_extra "mm") (by decide) (by decide) (by decide) (ld0 := (a.cell, .ce cv) :: ouL a 0 u fh [] [] fs Y) (by k_extra "cut") (fun G kG hG => ⟨_, _, rfl, kG, rfl, 0, u, fh, m, [], [], fun _ => [], by decide, by decide, hm, hz, Nat.zero_le _, Nat.zero_le _, ⟨fun _ _ h => (nomatch h), fun _ => .inl ⟨rfl, rfl⟩, fun _ => rfl, fun _ _ _ _ => ⟨rfl, rfl⟩, fun _ => .inl ⟨rfl, rfl⟩, fun _ => Nat.zero_le _⟩, rfl⟩) ?_ ?_
  · intro i u I io l G ld hi hJ
    exact isa_out HK Z hd hcc hL hpl hps hcg hfs hfa i u I io l G ld hi hJ
  · intro _ G cv' _ zI1; refine elAAEEEEEEEAAAAAAA zI1 ?_; (try clear zI1); rintro kG rfl n t fh' m' kvs pkv par hn0 hn1 hm' hz' hkl hpkl hA rfl
    exact k _ _ _ _ _ _ _ _ G kG hn0 (by omega) hm' hz' (by omega) hA
structure StC (fs : Str → Option Value) (gl hp : Addr) : Prop where
  g : StG fs gl hp
  gen : ∃ gen u, fs (Str.ofString "generation") = some (.int gen u)
  m1 : fs (Str.ofString "find_array") = none
  m2 : fs (Str.ofString "code_of") = none
theorem StC.up {fs : Str → Option Value} {gl hp : Addr} {n : Int} {u : Tok} (h : StC fs gl hp) : StC (genU fs n u) gl hp := ⟨⟨h.g.globs, h.g.heap, h.g.m1⟩, ⟨_, _, rfl⟩, h.m1, h.m2⟩
structure DesO (w : World) (G : Heap) (kvs : List (Str × Value)) (cod : Str → Option Addr) (en : List (Str × Value)) : Prop where
  des : ∀ p, GlobAt w G (valueAt kvs (desN p)) (desP (cod p))
  ends : EndsOk w G cod en
  cu : cod univ = none
structure Des1 (w : World) (G : Heap) (kvs en : List (Str × Value)) (P : Str) (g dg c dc : Addr) (fg fc : Str → Option Value) : Prop where
  nu : P ≠ univ
  at_ : valueAt kvs (desN P) = some (.ref g)
  no : ∀ p, p ≠ P → valueAt kvs (desN p) = none
  g : OAt w G g (.ob (instObj 163 dg))
  code : fg (Str.ofString "code") = some (.ref c)
  c : OAt w G c (.ob (instObj 144 dc))
  cnt : ∃ n u, fc (Str.ofString "count") = some (.int n u)
  num : ∃ n u u', fc (Str.ofString "number") = some (.int n u') ∧ valueAt en P = some (.int n u)
  en : ∀ p, p ≠ P → valueAt en p = none
noncomputable abbrev deL (a : LA) (n : Int) (t : Tok) (fh : Str → Option Value) (kvs en : List (Str × Value)) (fs : Str → Option Value) (zs : List Value) (Y : LD) : LD :=
  (a.sp, .li [.int n t]) :: (a.dhp, .di fh) :: (a.gl, .sd kvs) :: (a.dst, .di fs) :: (a.ed, .sd en) :: (a.zl, .li zs) :: (a.bk, .sd (bookL a.ow a.ho a.pd a.ed)) :: Y
noncomputable def DeJ (w : World) (a : LA) (H0 : Heap) (par : Str → List Str) (Y : LD) (i : Nat) (l : List (Str × Value)) (G : Heap) (ld : LD) : Prop :=
  Keep H0 G ∧ l = lawL a ∧ ∃ (n : Int) (t : Tok) (fh : Str → Option Value) (m : Int) (kvs en : List (Str × Value)) (fs : Str → Option Value) (zs : List Value), 0 ≤ n ∧ n ≤ 13 + (i : Int) ∧ HpM fh m ∧ fh (Str.ofString "zero") = some (.ref a.zl) ∧ kvs.length ≤ 10 + i ∧ en.length ≤ i ∧ zs.length ≤ i ∧ StC fs a.gl a.hp ∧ (∀ p, GlobAt w G (valueAt kvs (isaN p)) (isaP w G (par p))) ∧
    ((i = 0 ∧ en = [] ∧ (∀ p, valueAt kvs (desN p) = none) ∧ ld = deL a n t fh kvs en fs zs Y) ∨
     (i = 1 ∧ ∃ P g dg c dc fg fc, Des1 w G kvs en P g dg c dc fg fc ∧ ld = (dg, .di fg) :: (dc, .di fc) :: deL a n t fh kvs en fs zs Y) ∨
     (i = 2 ∧ (∃ cod, DesO w G kvs cod en) ∧ ld = deL a n t fh kvs en fs zs Y))
theorem c_set_codeNF {K : Params → Frag} {V : Program} (HK : KOk K) {w0 : World} {g0 : Heap} {hp dhp st ds : Addr} (_ : OAt w0 g0 hp (.ob (instObj 246 dhp))) (_ : OAt w0 g0 st (.ob (instObj 723 ds))) : ∀ (gl ctr c dc : Addr) (f fh fc : Str → Option Value) (kvs : List (Str × Value)) (nm : Str) (ut : Tok) (n m gen : Int) (mu gu : Tok), valueAt kvs nm = none → kvs.length ≤ 100 → HpM fh n → StG f gl hp → f (Str.ofString "generation") = some (.int gen gu) → fc (Str.ofString "count") = some (.int m mu) →
  Tri K V 741 7 [.ref st, .ref ctr, .str nm ut, .ref c] [(gl, .sd kvs), (dhp, .di fh), (ds, .di f), (dc, .di fc)] (fun w g => OAt w g hp (.ob (instObj 246 dhp)) ∧ OAt w g st (.ob (instObj 723 ds)) ∧ CtrM w g ctr ∧ OAt w g c (.ob (instObj 144 dc)))
    (fun _ k => ∀ x dx wl u u2 u3 u4, k .none [(x, .ob (instObj 163 dx)), (dx, .di (upd (Str.ofString "code") (.ref c) (glF (n + 1) (.str nm ut) wl u u2))), (gl, .sd (stored kvs nm (.ref x))), (dhp, .di (hpU fh n u)), (ds, .di (genU f gen u3)), (dc, .di (cntU fc (m + 1) u4))]) := fun gl ctr c dc => c_set_codeN HK st ds hp dhp gl ctr c dc
theorem c_set_codeOF {K : Params → Frag} {V : Program} (HK : KOk K) {w0 : World} {g0 : Heap} {st ds zl : Addr} {f0 : Str → Option Value} (_ : OAt w0 g0 st (.ob (instObj 723 ds))) (_ : f0 (Str.ofString "zero") = some (.ref zl)) : ∀ (hp dhp gl ctr c dc x dx y dy : Addr) (f fh fc fg fy : Str → Option Value) (kvs : List (Str × Value)) (nm : Str) (ut : Tok) (m k gen : Int) (mu ku gu : Tok) (zs : List Value), valueAt kvs nm = some (.ref x) → fg (Str.ofString "code") = some (.ref y) → StG f gl hp → f (Str.ofString "generation") = some (.int gen gu) → fc (Str.ofString "count") = some (.int m mu) → fy (Str.ofString "count") = some (.int k ku) → zs.length ≤ 80 →
  Tri K V 741 7 [.ref st, .ref ctr, .str nm ut, .ref c] [(ds, .di f), (dc, .di fc), (dx, .di fg), (dy, .di fy), (zl, .li zs)] (fun w g => CtrAt w g ctr hp dhp zl fh ∧ OAt w g st (.ob (instObj 723 ds)) ∧ OAt w g gl (.sd kvs) ∧ OAt w g x (.ob (instObj 163 dx)) ∧ OAt w g c (.ob (instObj 144 dc)) ∧ OAt w g y (.ob (instObj 144 dy)))
    (fun _ q => ∀ u3 u4 u5 zs', zs'.length ≤ zs.length + 1 → q .none [(ds, .di (genU f gen u3)), (dc, .di (cntU fc (m + 1) u4)), (dx, .di (upd (Str.ofString "code") (.ref c) fg)), (dy, .di (cntU fy (k - 1) u5)), (zl, .li zs')]) := fun hp dhp gl => c_set_codeO HK st ds hp dhp gl zl
theorem desO_add {w : World} {G : Heap} {kvs en : List (Str × Value)} {cod : Str → Option Addr} {P : Str} {x dx cx cdx : Addr} {fg fc : Str → Option Value} {n : Int} {u u' : Tok} (nu : P ≠ univ) (hcu : cod univ = none)
    (h : ∀ p, p ≠ P → GlobAt w G (valueAt kvs (desN p)) (desP (cod p))) (hat : valueAt kvs (desN P) = some (.ref x))
    (he : ∀ p, p ≠ P → (cod p = none ∧ valueAt en p = none) ∨ ∃ c dc f n u u', cod p = some c ∧ OAt w G c (.ob (instObj 144 dc)) ∧ OAt w G dc (.di f) ∧ f (Str.ofString "number") = some (.int n u') ∧ valueAt en p = some (.int n u))
    (h1 : OAt w G x (.ob (instObj 163 dx))) (h2 : OAt w G dx (.di fg)) (h3 : fg (Str.ofString "code") = some (.ref cx)) (h4 : OAt w G cx (.ob (instObj 144 cdx))) (h5 : OAt w G cdx (.di fc)) (h6 : fc (Str.ofString "number") = some (.int n u')) :
    DesO w G kvs (fun p => if p = P then some cx else cod p) (stored en P (.int n u)) where
  des p := by
    by_cases e : p = P
    · rw [e, if_pos rfl, hat]; exact .inr ⟨x, dx, fg, rfl, h1, h2, h3⟩
    · rw [if_neg e]; exact h p e
  ends p := by
    by_cases e : p = P
    · dsimp only; rw [e, if_pos rfl, valueAt_self]; exact .inr ⟨cx, cdx, fc, n, u, u', rfl, h4, h5, h6, rfl⟩
    · dsimp only; rw [if_neg e, valueAt_ne e]; exact he p e
  cu := by rw [if_neg (Ne.symm nu)]; exact hcu
theorem desN_ne {p P : Str} (h : p ≠ P) : desN p ≠ desN P := fun e => h (desN_inj e)
theorem Des1.add {w : World} {G : Heap} {kvs en : List (Str × Value)} {P P9 : Str} {g dg c dc : Addr} {fg fc : Str → Option Value} {x dx cx cdx : Addr} {fg2 fc2 : Str → Option Value} {n : Int} {u u' : Tok} (D : Des1 w G kvs en P g dg c dc fg fc) (ne : P9 ≠ P) (nu : P9 ≠ univ)
    (hg : OAt w G dg (.di fg)) (hc : OAt w G dc (.di fc))
    (h1 : OAt w G x (.ob (instObj 163 dx))) (h2 : OAt w G dx (.di fg2)) (h3 : fg2 (Str.ofString "code") = some (.ref cx)) (h4 : OAt w G cx (.ob (instObj 144 cdx))) (h5 : OAt w G cdx (.di fc2)) (h6 : fc2 (Str.ofString "number") = some (.int n u')) :
    ∃ cod, DesO w G (stored kvs (desN P9) (.ref x)) cod (stored en P9 (.int n u)) := by
  refine ⟨_, desO_add (cod := fun p => if p = P then some c else none) nu (if_neg (Ne.symm D.nu)) (fun p h => ?_) valueAt_self (fun p h => ?_) h1 h2 h3 h4 h5 h6⟩
  · rw [valueAt_ne (desN_ne h)]
    by_cases e : p = P
    · rw [e, if_pos rfl, D.at_]; exact .inr ⟨g, dg, fg, rfl, D.g, hg, D.code⟩
    · rw [if_neg e, D.no p e]; exact .inl ⟨rfl, rfl⟩
  · by_cases e : p = P
    · refine elEEEA D.num ?_; rintro n u u' e1 e2
      rw [e, if_pos rfl, e2]; exact .inr ⟨c, dc, fc, n, u, u', rfl, D.c, hc, e1, rfl⟩
    · rw [if_neg e, D.en p e]; exact .inl ⟨rfl, rfl⟩
theorem Des1.set {w : World} {G : Heap} {kvs en : List (Str × Value)} {P P9 : Str} {g dg c dc : Addr} {fg fc : Str → Option Value} {cx cdx : Addr} {fg2 fc2 : Str → Option Value} {n : Int} {u u' : Tok} (D : Des1 w G kvs en P g dg c dc fg fc) (e : P9 = P)
    (h2 : OAt w G dg (.di fg2)) (h3 : fg2 (Str.ofString "code") = some (.ref cx)) (h4 : OAt w G cx (.ob (instObj 144 cdx))) (h5 : OAt w G cdx (.di fc2)) (h6 : fc2 (Str.ofString "number") = some (.int n u')) :
    ∃ cod, DesO w G kvs cod (stored en P9 (.int n u)) := by
  subst e
  refine ⟨_, desO_add (cod := fun _ => none) D.nu rfl (fun p h => ?_) D.at_ (fun p h => ?_) D.g h2 h3 h4 h5 h6⟩
  · rw [D.no p h]; exact .inl ⟨rfl, rfl⟩
  · rw [D.en p h]; exact .inl ⟨rfl, rfl⟩
theorem des1_new {w : World} {G : Heap} {kvs : List (Str × Value)} {P : Str} {x dx cx cdx : Addr} {fg fc : Str → Option Value} {n m : Int} {u u' v : Tok} (nu : P ≠ univ) (hno : ∀ p, valueAt kvs (desN p) = none)
    (h1 : OAt w G x (.ob (instObj 163 dx))) (h3 : fg (Str.ofString "code") = some (.ref cx)) (h4 : OAt w G cx (.ob (instObj 144 cdx))) (h5 : fc (Str.ofString "count") = some (.int m v)) (h6 : fc (Str.ofString "number") = some (.int n u')) :
    Des1 w G (stored kvs (desN P) (.ref x)) (stored [] P (.int n u)) P x dx cx cdx fg fc :=
  ⟨nu, valueAt_self, fun p h => by rw [valueAt_ne (desN_ne h)]; exact hno p, h1, h3, h4, ⟨m, v, h5⟩, ⟨n, u, u', h6, valueAt_self⟩, fun p h => by rw [valueAt_ne h]; rfl⟩
theorem isas_des {w : World} {G G' : Heap} {kvs : List (Str × Value)} {par : Str → List Str} {P : Str} {v : Value} (k : Keep G G') (h : ∀ p, GlobAt w G (valueAt kvs (isaN p)) (isaP w G (par p))) : ∀ p, GlobAt w G' (valueAt (stored kvs (desN P) v) (isaN p)) (isaP w G' (par p)) := fun p => by rw [valueAt_ne isa_des]; exact (h p).keeps k
theorem Des1.keeps {w : World} {G G' : Heap} {kvs en : List (Str × Value)} {P : Str} {g dg c dc : Addr} {fg fc : Str → Option Value} (x : Des1 w G kvs en P g dg c dc fg fc) (k : Keep G G') : Des1 w G' kvs en P g dg c dc fg fc :=
  ⟨x.nu, x.at_, x.no, x.g.keeps k, x.code, x.c.keeps k, x.cnt, x.num, x.en⟩
theorem des_turn {K : Params → Frag} {V : Program} (HK : KOk K) {q : Str} {v : Value} {c : Cf} {dz : Nat} {a : LA} {H0 : Heap} {Y : LD} {KF : Kt Flow} {pv : List Value} {par : Str → List Str} (Z : ZOk K V (ccF S799 799 t799 q v) c dz) (hd : 30 ≤ dz)
    (hL : LwG c.w a H0) (hpl : FL c.w c.g 742 pv) (hps : StrsAre pv pkL) (hcg : Keep c.g H0)
    (i : Nat) (u : Tok) (I : Addr) (io : Obj) (l : List (Str × Value)) (G : Heap) (ld : LD) (hi : i < 2) (hJ : DeJ c.w a H0 par Y i l G ld) :
    run (ccF S799 799 t799 q v) c (turnF c.w (DeJ c.w a H0 par Y) i I io G KF) 4000 (.ss (fnBody (nth (fnBody S799) 10))) [] ((Str.ofString "turn", .int (0 + (i : Nat)) u) :: l) G ((I, .ob io) :: ld) := by
  refine elAAEEEEEEEEAAAAAAAAA hJ ?_; (try clear hJ); rintro kG rfl n t fh m kvs en fs zs hn0 hn1 hm hz hkl hel hzl hfs harr hcase
  obtain ⟨⟨svs, sns, hsl, hI, hlen⟩, hhp, hrn, hfm, hct, hst, _⟩ := hL.keeps kG
  obtain ⟨drn, frn, r1, r2, ⟨h1, _, _, _, h5⟩⟩ := id hrn.ex
  have hcm := hct.m
  have hctA : ∀ g' fh, Keep G g' → fh (Str.ofString "zero") = some (.ref a.zl) → OAt c.w g' a.dhp (.di fh) → CtrAt c.w g' a.ctr a.hp a.dhp a.zl fh := fun g' fh k hz o => ((hct.keeps k).s (hhp.keeps k) o hz).at_
  have hpl := hpl.keeps (hcg.trans kG)
  obtain ⟨⟨nu, m0⟩, m1, m2, m3, m4, m5, m6, m7⟩ := id hm
  have hsg := hfs.g
  refine elEE hfs.gen ?_; rintro gen gu hgen
  have hkv' : ∀ v P, (stored kvs (desN P) v).length ≤ 10 + (i + 1) := fun v P => Nat.le_trans stored_len (Nat.succ_le_succ hkl)
  have hen' : ∀ v P, (stored en P v).length ≤ i + 1 := fun v P => Nat.le_trans stored_len (Nat.succ_le_succ hel)
  have hn' : n + 1 ≤ 13 + ((i + 1 : Nat) : Int) := by omega
  rcases hcase with ⟨rfl, rfl, hno, rfl⟩ | ⟨rfl, P, g, dg, cd, dc, fg, fc, hD, rfl⟩ | ⟨rfl, _⟩
  · k_extra "go"
    have hPl : P9.length ≤ 40 := pkL_txt P9 (List.mem_of_getElem? hP9)
    have hvn : valueAt kvs (P9 ++ Str.ofString "::DESTROY") = none := hno P9
    k_extra "go"
    have nu9 : P9 ≠ univ := fun e => pkL_univ (e ▸ List.mem_of_getElem? hP9)
    rename_i cx cdx cwl v8 v7 v2 v1 v0
    k_extra "st"
    exact forMk (n := 3) (ld' := (dx9, .di _) :: (cdx, .di _) :: deL a (n + 1) t9 _ (stored kvs (desN P9) (.ref x9)) _ _ zs Y) rfl rfl (by k_extra "cut") fun G' kG' hG' => ⟨kG.trans kG', rfl, _, t9, _, _, _, _, _, _, by omega, hn', hm.up.up, hz, hkv' _ _, hen' _ _, by omega, hfs.up, isas_des kG' harr,
      .inr (.inl ⟨rfl, P9, x9, dx9, cx, cdx, _, _, des1_new nu9 hno (hG' (x9, .ob _) (by k_extra "mm")) rfl (hG' (cx, .ob _) (by k_extra "mm")) rfl rfl, rfl⟩)⟩
  · obtain ⟨e1, e2, e3, e4, e5, e6, ⟨e7, e7u, e7e⟩, ⟨e8, e8u, e8v, e8e, e8f⟩, e9⟩ := id hD
    k_extra "go"
    have hPl : P9.length ≤ 40 := pkL_txt P9 (List.mem_of_getElem? hP9)
    by_cases hPP : P9 = P
    · have hvn : valueAt kvs (P9 ++ Str.ofString "::DESTROY") = some (.ref g) := by rw [hPP]; exact e2
      k_extra "go"
      rename_i v8 v7 v2 v1 v0
      k_extra "st"
      exact forMk (n := 3) (ld' := deL a (n + 1) t9 _ kvs _ _ zs9 Y) rfl rfl (by k_extra "cut") fun G' kG' hG' => ⟨kG.trans kG', rfl, _, t9, _, _, _, _, _, _, by omega, hn', hm.up, hz, by omega, hen' _ _, by omega, hfs.up, fun p => (harr p).keeps kG',
        .inr (.inr ⟨rfl, ((hD.keeps kG').set hPP (hG' (dg, .di _) (by k_extra "mm")) rfl (hG' (x9, .ob _) (by k_extra "mm")) (hG' (dx9, .di _) (by k_extra "mm")) rfl), rfl⟩)⟩
    · have hvn : valueAt kvs (P9 ++ Str.ofString "::DESTROY") = none := e3 P9 hPP
      k_extra "go"
      have nu9 : P9 ≠ univ := fun e => pkL_univ (e ▸ List.mem_of_getElem? hP9)
      rename_i cx cdx cwl v8 v7 v2 v1 v0
      k_extra "st"
      exact forMk (n := 3) (ld' := deL a (n + 1) t9 _ (stored kvs (desN P9) (.ref x9)) _ _ zs Y) rfl rfl (by k_extra "cut") fun G' kG' hG' => ⟨kG.trans kG', rfl, _, t9, _, _, _, _, _, _, by omega, hn', hm.up.up, hz, hkv' _ _, hen' _ _, by omega, hfs.up, isas_des kG' harr,
        .inr (.inr ⟨rfl, ((hD.keeps kG').add hPP nu9 (hG' (dg, .di _) (by k_extra "mm")) (hG' (dc, .di _) (by k_extra "mm")) (hG' (x9, .ob _) (by k_extra "mm")) (hG' (dx9, .di _) (by k_extra "mm")) rfl (hG' (cx, .ob _) (by k_extra "mm")) (hG' (cdx, .di _) (by k_extra "mm")) rfl), rfl⟩)⟩
  · omega
theorem Des1.all {w : World} {G : Heap} {kvs en : List (Str × Value)} {P : Str} {g dg c dc : Addr} {fg fc : Str → Option Value} (D : Des1 w G kvs en P g dg c dc fg fc) (hg : OAt w G dg (.di fg)) (hc : OAt w G dc (.di fc)) : ∃ cod, DesO w G kvs cod en := by
  refine elEEEA D.num ?_; rintro n u u' e1 e2
  refine ⟨fun p => if p = P then some c else none, fun p => ?_, fun p => ?_, if_neg (Ne.symm D.nu)⟩
  · by_cases e : p = P
    · rw [e, if_pos rfl, D.at_]; exact .inr ⟨g, dg, fg, rfl, D.g, hg, D.code⟩
    · rw [if_neg e, D.no p e]; exact .inl ⟨rfl, rfl⟩
  · by_cases e : p = P
    · subst e; exact .inr ⟨c, dc, fc, n, u, u', if_pos rfl, D.c, hc, e1, e2⟩
    · exact .inl ⟨if_neg e, D.en p e⟩
theorem DesO.keeps {w : World} {G G' : Heap} {kvs en : List (Str × Value)} {cod : Str → Option Addr} (x : DesO w G kvs cod en) (k : Keep G G') : DesO w G' kvs cod en :=
  ⟨fun p => (x.des p).imp k fun _ h => h, x.ends.keeps k, x.cu⟩
theorem desO_nil {w : World} {G : Heap} {kvs : List (Str × Value)} (h : ∀ p, valueAt kvs (desN p) = none) : ∃ cod, DesO w G kvs cod [] := ⟨fun _ => none, fun p => .inl ⟨h p, rfl⟩, fun _ => .inl ⟨rfl, rfl⟩, rfl⟩
theorem law_des {K : Params → Frag} {V : Program} (HK : KOk K) {q : Str} {v : Value} {c : Cf} {dz : Nat} {a : LA} {H0 : Heap} {fs fh : Str → Option Value} {Y : LD} {fin : Kt Flow} {pv : List Value} {t : Tok} {n m : Int} {kvs : List (Str × Value)} {par : Str → List Str} (Z : ZOk K V (ccF S799 799 t799 q v) c dz) (hd : 30 ≤ dz)
    (hL : LwG c.w a H0) (hpl : FL c.w c.g 742 pv) (hps : StrsAre pv pkL) (hcg : Keep c.g H0) (hfs : StC fs a.gl a.hp) (hm : HpM fh m) (hz : fh (Str.ofString "zero") = some (.ref a.zl)) (hn0 : 0 ≤ n) (hn : n ≤ 12) (hkl : kvs.length ≤ 10)
    (harr : ∀ p, GlobAt c.w H0 (valueAt kvs (isaN p)) (isaP c.w H0 (par p))) (hno : ∀ p, valueAt kvs (desN p) = none)
    (k : ∀ n t fh kvs en fs zs cod G, Keep H0 G → 0 ≤ n → n ≤ 15 → fh (Str.ofString "zero") = some (.ref a.zl) → zs.length ≤ 2 → StC fs a.gl a.hp → (∀ p, GlobAt c.w G (valueAt kvs (isaN p)) (isaP c.w G (par p))) → DesO c.w G kvs cod en → Se c (lawL a) G (deL a n t fh kvs en fs zs Y) (lawB 11) (lawE c q v) fin) :
    Se c (lawL a) H0 (deL a n t fh kvs [] fs [] Y) (lawB 10) (lawE c q v) fin := by
  obtain ⟨⟨svs, sns, hsl, hI, hlen⟩, _⟩ := id hL
  refine se_seq 1 (se_run Z 4000 ?_)
  k_extra "go"
  k_extra "st"
  refine e_forR (n := i9.toNat) 4000 (DeJ c.w a H0 par Y) Z rfl (by k_extra "mm") (by omega) (by decide) (by omega) (ld0 := deL a (n + 1) _ fh kvs [] fs [] Y) (by k_extra "cut") (fun G kG _ => ⟨kG, rfl, _, _, fh, m, kvs, [], fs, [], by omega, by omega, hm, hz, hkl, Nat.le_refl _, Nat.le_refl _, hfs, fun p => (harr p).keeps kG, .inl ⟨rfl, rfl, hno, rfl⟩⟩) ?_ ?_
  · intro i u I io l G ld hi hJ
    exact des_turn HK Z hd hL hpl hps hcg i u I io l G ld (by omega) hJ
  · intro _ G1 _ zI1; refine elAAEEEEEEEEAAAAAAAAA zI1 ?_; (try clear zI1); rintro kG1 rfl n' t' fh' m' kvs' en' fs' zs' hn0' hn1' hm' hz' hkl' hel' hzl' hfs' harr' hcase
    rcases hcase with ⟨hi, rfl, hno', rfl⟩ | ⟨hi, P, g, dg, cd, dc, fg, fc, hD, rfl⟩ | ⟨hi, ⟨cod, hD⟩, rfl⟩
    · refine elE (desO_nil (w := c.w) (G := G1) hno') ?_; rintro cod hD
      exact k _ _ _ _ _ _ _ cod G1 kG1 hn0' (by omega) hz' (by omega) hfs' harr' hD
    · show Se c (lawL a) G1 _ (lawB 11) (lawE c q v) fin
      refine se_fz (deL a n' t' fh' kvs' en' fs' zs' Y) (R := [(dg, .di fg), (dc, .di fc)]) (by k_extra "cut") fun G2 k2 h2 => ?_
      refine elE ((hD.keeps k2).all (h2 (dg, .di fg) (.head _)) (h2 (dc, .di fc) (.tail _ (.head _)))) ?_; rintro cod hD2
      exact k _ _ _ _ _ _ _ cod G2 (kG1.trans k2) hn0' (by omega) hz' (by omega) hfs' (fun p => (harr' p).keeps k2) hD2
    · exact k _ _ _ _ _ _ _ cod G1 kG1 hn0' (by omega) hz' (by omega) hfs' harr' hD
noncomputable def aX (a : LA) : Nat → Addr := mk6 a.x0 a.x1 a.x2 a.x3 a.x4 a.x5
noncomputable def aD (a : LA) : Nat → Addr := mk6 a.d0 a.d1 a.d2 a.d3 a.d4 a.d5
noncomputable def aC : Nat → Addr := mk6 87 87 106 125 144 163
theorem six_cases {P : Nat → Prop} (h0 : P 0) (h1 : P 1) (h2 : P 2) (h3 : P 3) (h4 : P 4) (h5 : P 5) {i : Nat} (hi : i < 6) : P i := by
  rcases i with _ | _ | _ | _ | _ | _ | i
  · exact h0
  · exact h1
  · exact h2
  · exact h3
  · exact h4
  · exact h5
  · omega
theorem aX_get {a : LA} {i : Nat} (hi : i < 6) : [Value.ref a.x0, .ref a.x1, .ref a.x2, .ref a.x3, .ref a.x4, .ref a.x5][i]? = some (.ref (aX a i)) := six_cases (P := fun i => [Value.ref a.x0, .ref a.x1, .ref a.x2, .ref a.x3, .ref a.x4, .ref a.x5][i]? = some (.ref (aX a i))) rfl rfl rfl rfl rfl rfl hi
theorem aX_at {w : World} {a : LA} {G : Heap} (L : LwG w a G) {i : Nat} (hi : i < 6) : OAt w G (aX a i) (.ob (instObj (aC i) (aD a i))) := six_cases (P := fun i => OAt w G (aX a i) (.ob (instObj (aC i) (aD a i)))) L.o0 L.o1 L.o2 L.o3 L.o4 L.o5 hi
theorem aC_th {i : Nat} (hi : i < 6) : hasA thC (aC i) = true := six_cases (P := fun i => hasA thC (aC i) = true) rfl rfl rfl rfl rfl rfl hi
theorem aC_sc {i : Nat} (hi : i < 2) : aC i = 87 := by
  rcases i with _ | _ | i
  · rfl
  · rfl
  · omega
noncomputable abbrev thM (a : LA) (f : Nat → Str → Option Value) (ks : List Nat) : LD := ks.map fun i => (aD a i, .di (f i))
noncomputable def six : List Nat := [0, 1, 2, 3, 4, 5]
theorem six_mem {i : Nat} (h : i < 6) : i ∈ six := six_cases (P := fun i => i ∈ six) (by decide) (by decide) (by decide) (by decide) (by decide) (by decide) h
theorem six_nd : six.Nodup := by decide
noncomputable def upN (f : Nat → Str → Option Value) (k : Nat) (g : Str → Option Value) : Nat → Str → Option Value := fun i => if i = k then g else f i
theorem upN_at {f : Nat → Str → Option Value} {k : Nat} {g : Str → Option Value} : upN f k g k = g := if_pos rfl
theorem upN_ne {f : Nat → Str → Option Value} {k i : Nat} {g : Str → Option Value} (h : i ≠ k) : upN f k g i = f i := if_neg h
theorem pk_thM {a : LA} {f : Nat → Str → Option Value} {k : Nat} : ∀ {ks : List Nat}, k ∈ ks → Pk (aD a k, .di (f k)) (thM a f ks) (thM a f (ks.erase k))
  | j :: ks, h => by
    by_cases e : j = k
    · subst e; rw [List.erase_cons_head]; exact .head
    · rw [List.erase_cons_tail (by simpa using e)]
      exact .tail (pk_thM ((List.mem_cons.mp h).resolve_left fun q => e q.symm))
theorem Pk.put {p : Addr × Ds} {r r' : LD} (x : Pk p r r') : Cut (p :: r') r [] := by
  induction x with
  | head => exact Cut.all
  | tail _ ih => exact .cons (.tail .head) ih
theorem thM_up {a : LA} {f : Nat → Str → Option Value} {k : Nat} {g : Str → Option Value} {ks : List Nat} (h : k ∉ ks) : thM a (upN f k g) ks = thM a f ks := List.map_congr_left fun i hi => by
  have e : i ≠ k := fun e => h (e ▸ hi)
  show (aD a i, Ds.di (upN f k g i)) = (aD a i, Ds.di (f i))
  rw [upN_ne e]
theorem cut_th {a : LA} {f : Nat → Str → Option Value} {k : Nat} {ks : List Nat} (h : k ∈ ks) : Cut (thM a f ks) ((aD a k, .di (f k)) :: thM a f (ks.erase k)) [] := .cons (pk_thM h) Cut.all
theorem put_th {a : LA} {f : Nat → Str → Option Value} {k : Nat} {g : Str → Option Value} {ks : List Nat} (nd : ks.Nodup) (h : k ∈ ks) : Cut ((aD a k, .di g) :: thM a f (ks.erase k)) (thM a (upN f k g) ks) [] := by
  have x : Pk (aD a k, .di (upN f k g k)) (thM a (upN f k g) ks) (thM a (upN f k g) (ks.erase k)) := pk_thM h
  rw [upN_at, thM_up (fun q => (List.Nodup.mem_erase_iff nd).mp q |>.1 rfl)] at x
  exact x.put
theorem Cut.under {p : Addr × Ds} {r A R : LD} (x : Cut r A R) : Cut (p :: r) (p :: A) R := .cons .head x
structure TOk (w : World) (G : Heap) (a : LA) (i : Nat) (f : Str → Option Value) (ow ho : List (Int × Value)) (t : Th) : Prop where
  num : t.num = (i : Int) + 1
  ok : ThF f t
  sort : SortW w G (aC i) f t.word
  book : BookOk t i ow ho
  thi : ThIn t
  cnt : ∃ n u, f (Str.ofString "count") = some (.int n u)
  val : i < 2 → ∃ v, ScF f v ∧ ((Plain v ∧ t.word = Str.ofString "SCALAR") ∨ ∃ r j, v = .ref r ∧ RefN w G r (aX a j) ∧ 2 ≤ j ∧ j < 6)
theorem TOk.keeps {w : World} {G G' : Heap} {a : LA} {i : Nat} {f : Str → Option Value} {ow ho : List (Int × Value)} {t : Th} (x : TOk w G a i f ow ho t) (k : Keep G G') : TOk w G' a i f ow ho t :=
  ⟨x.num, x.ok, x.sort.keeps k, x.book, x.thi, x.cnt, fun h => let ⟨v, a, b⟩ := x.val h; ⟨v, a, b.imp id fun ⟨r, j, e, f, g⟩ => ⟨r, j, e, f.keeps k, g⟩⟩⟩
theorem TOk.th {w : World} {G : Heap} {a : LA} {i : Nat} {f : Str → Option Value} {ow ho : List (Int × Value)} {t : Th} (x : TOk w G a i f ow ho t) (hi : i < 6) (L : LwG w a G) (hd : OAt w G (aD a i) (.di f)) : ThAt w G (aX a i) (aD a i) (aC i) f t := ⟨aX_at L hi, hd, x.ok, x.sort⟩
theorem TOk.bk {w : World} {G : Heap} {a : LA} {i : Nat} {f : Str → Option Value} {ow ho ow' ho' : List (Int × Value)} {t : Th} (x : TOk w G a i f ow ho t) (h1 : valueAt ow' (i : Int) = valueAt ow (i : Int)) (h2 : (valueAt ho' (i : Int)).isSome = (valueAt ho (i : Int)).isSome) : TOk w G a i f ow' ho' t :=
  ⟨x.num, x.ok, x.sort, ⟨x.book.lo, x.book.hi, by rw [h1]; exact x.book.own, (by
    rcases x.book.word with ⟨v, e, g⟩ | ⟨e, g⟩
    · rw [e] at h2
      cases q : valueAt ho' (i : Int) with
      | none => rw [q] at h2; cases h2
      | some v => exact .inl ⟨v, rfl, g⟩
    · rw [e] at h2
      cases q : valueAt ho' (i : Int) with
      | none => exact .inr ⟨rfl, g⟩
      | some v => rw [q] at h2; cases h2), x.book.oe⟩, x.thi, x.cnt, x.val⟩
structure PkOk (p : Str) : Prop where
  ne : (p == Str.ofString "") = false
  txt : TxtOk p
  nu : p ≠ univ
theorem pkL_ok : ∀ p ∈ pkL, PkOk p := fun p h => ⟨(show ∀ p ∈ pkL, (p == Str.ofString "") = false by decide) p h, pkL_txt p h, fun e => pkL_univ (e ▸ h)⟩
theorem PkOk.as {p : Str} (h : PkOk p) : blessedAs p = p := by unfold blessedAs; rw [h.ne]; rfl
theorem TOk.bless {w : World} {G : Heap} {a : LA} {i : Nat} {f : Str → Option Value} {ow ho : List (Int × Value)} {t : Th} {p : Str} {u u' : Tok} (x : TOk w G a i f ow ho t) (hp : PkOk p) : TOk w G a i (blU f p u) (stored ow (i : Int) (.str p u')) ho ⟨t.word, t.num, some p⟩ :=
  ⟨x.num, ⟨x.ok.num, _, rfl, .some _ _⟩, by
      generalize e : aC i = C
      have s := x.sort
      rw [e] at s
      cases s with
      | array _ e => exact .array _ e
      | hash _ e => exact .hash _ e
      | code _ e => exact .code _ e
      | glob _ e => exact .glob _ e
      | scalar _ v a b e => exact .scalar _ v a b e
      | ref _ r y a b e => exact .ref _ r y a b e,
   ⟨x.book.lo, x.book.hi, by rw [valueAt_self]; exact .some _ _, x.book.word, fun o h => by cases h; exact hp.ne⟩,
   ⟨⟨x.thi.ok.num, x.thi.ok.word, fun o h => by cases h; exact hp.txt⟩, fun o h => by cases h; exact hp.nu⟩, x.cnt, fun h => let ⟨v, a, b⟩ := x.val h; ⟨v, ⟨a.num, a.magic, a.val⟩, b⟩⟩
theorem TOk.count {w : World} {G : Heap} {a : LA} {i : Nat} {f : Str → Option Value} {ow ho : List (Int × Value)} {t : Th} {n : Int} {u : Tok} (x : TOk w G a i f ow ho t) : TOk w G a i (cntU f n u) ow ho t :=
  ⟨x.num, ⟨x.ok.num, x.ok.own⟩, by
      generalize e : aC i = C
      have s := x.sort
      rw [e] at s
      cases s with
      | array _ e => exact .array _ e
      | hash _ e => exact .hash _ e
      | code _ e => exact .code _ e
      | glob _ e => exact .glob _ e
      | scalar _ v a b e => exact .scalar _ v a b e
      | ref _ r y a b e => exact .ref _ r y a b e,
   x.book, x.thi, ⟨_, _, rfl⟩, fun h => let ⟨v, a, b⟩ := x.val h; ⟨v, ⟨a.num, a.magic, a.val⟩, b⟩⟩
theorem sc_sort {i : Nat} (h : i < 2) : sortsP[(i : Int).toNat]? = some (Str.ofString "SCALAR") := by
  rcases i with _ | _ | i
  · rfl
  · rfl
  · omega
theorem TOk.putP {w : World} {G : Heap} {a : LA} {i : Nat} {f : Str → Option Value} {ow ho ho' : List (Int × Value)} {t : Th} {v : Value} (x : TOk w G a i f ow ho t) (hi : i < 2) (hv : Plain v) (hh : valueAt ho' (i : Int) = none) : TOk w G a i (valU f v) ow ho' ⟨Str.ofString "SCALAR", t.num, t.own⟩ := by
  refine elEA (x.val hi) ?_; rintro v0 s _
  exact ⟨x.num, ⟨x.ok.num, x.ok.own⟩, by rw [aC_sc hi]; exact .scalar _ v rfl hv rfl, ⟨x.book.lo, x.book.hi, x.book.own, .inr ⟨hh, sc_sort hi⟩, x.book.oe⟩, ⟨⟨x.thi.ok.num, by show TxtOk (Str.ofString "SCALAR"); unfold TxtOk; decide, x.thi.ok.own⟩, x.thi.nu⟩, x.cnt, fun _ => ⟨v, ⟨s.num, s.magic, rfl⟩, .inl ⟨hv, rfl⟩⟩⟩
theorem TOk.putR {w : World} {G : Heap} {a : LA} {i j : Nat} {f : Str → Option Value} {ow ho : List (Int × Value)} {t : Th} {r : Addr} {vt : Value} (x : TOk w G a i f ow ho t) (hi : i < 2) (hr : RefN w G r (aX a j)) (h2 : 2 ≤ j) (h6 : j < 6) : TOk w G a i (valU f (.ref r)) ow (stored ho (i : Int) vt) ⟨Str.ofString "REF", t.num, t.own⟩ := by
  refine elEA (x.val hi) ?_; rintro v0 s _
  exact ⟨x.num, ⟨x.ok.num, x.ok.own⟩, by rw [aC_sc hi]; exact .ref _ r _ rfl hr.at_ rfl, ⟨x.book.lo, x.book.hi, x.book.own, .inl ⟨_, valueAt_self, rfl⟩, x.book.oe⟩, ⟨⟨x.thi.ok.num, by show TxtOk (Str.ofString "REF"); unfold TxtOk; decide, x.thi.ok.own⟩, x.thi.nu⟩, x.cnt, fun _ => ⟨_, ⟨s.num, s.magic, rfl⟩, .inr ⟨r, j, rfl, hr, h2, h6⟩⟩⟩
theorem tok_start {w : World} {G : Heap} {a : LA} {f : Nat → Str → Option Value} (T : Ths0 f) (i : Nat) (hi : i < 6) : ∃ t, TOk w G a i (f i) [] [] t := by
  obtain ⟨h1, h2, h3⟩ := T.t i hi
  have hn : NumOk ((i : Int) + 1) := by unfold NumOk; omega
  have go : ∀ wd, TxtOk wd → SortW w G (aC i) (f i) wd → sortsP[(i : Int).toNat]? = some wd → (i < 2 → ∃ v, ScF (f i) v ∧ Plain v ∧ wd = Str.ofString "SCALAR") → ∃ t, TOk w G a i (f i) [] [] t := fun wd q1 q2 q3 q4 =>
    ⟨⟨wd, i + 1, none⟩, rfl, ⟨h1, _, h2, .none⟩, q2, ⟨by omega, by omega, .none, .inr ⟨rfl, q3⟩, fun _ h => (nomatch h)⟩, ⟨⟨hn, q1, fun _ h => (nomatch h)⟩, fun _ h => (nomatch h)⟩, h3, fun h => let ⟨v, a, b, e⟩ := q4 h; ⟨v, a, .inl ⟨b, e⟩⟩⟩
  refine elEA T.s0 ?_; rintro v0 s0 p0
  refine elEA T.s1 ?_; rintro v1 s1 p1
  rcases i with _ | _ | _ | _ | _ | _ | i
  · exact go _ (by unfold TxtOk; decide) (.scalar _ v0 s0.val p0 rfl) rfl fun _ => ⟨v0, s0, p0, rfl⟩
  · exact go _ (by unfold TxtOk; decide) (.scalar _ v1 s1.val p1 rfl) rfl fun _ => ⟨v1, s1, p1, rfl⟩
  · exact go (Str.ofString "ARRAY") (by unfold TxtOk; decide) (.array _ rfl) rfl fun h => by omega
  · exact go (Str.ofString "HASH") (by unfold TxtOk; decide) (.hash _ rfl) rfl fun h => by omega
  · exact go (Str.ofString "CODE") (by unfold TxtOk; decide) (.code _ rfl) rfl fun h => by omega
  · exact go (Str.ofString "GLOB") (by unfold TxtOk; decide) (.glob _ rfl) rfl fun h => by omega
  · omega
theorem c36_dummy : True := trivial
section
variable {K0 : Params → Frag} {V : Program} {cc : CC} {c : Cf} {dz k : Nat} {l : List (Str × Value)} {H : Heap} {ld ld0 R : LD} {a : Addr}
theorem e_forS {b : Int} {a0 : Int} {n : Nat} {t0 u0 v0 : Tok} {x : Str} {px : Pos} {body : List Stmt} {K : Kt Flow} (J : Nat → List (Str × Value) → Heap → LD → Prop) (Z : ZOk K0 V cc c dz) (hx : hasS cc.loc x = true) (hm : (a, Ds.ob (rgObj a0 b t0 u0 v0)) ∈ ld) (hb : b = a0 + n) (r0 : 0 ≤ a0) (r1 : a0 + n ≤ 1000) (cu : Cut ld ld0 R) (h0 : ∀ G, Keep H G → Has c.w G R → J 0 l G ld0)
    (turn : ∀ i u I io l G ld, i < n → J i l G ld → Se c ((x, .int (a0 + (i : Nat)) u) :: l) G ((I, .ob io) :: ld) body (envE cc c) (turnF c.w J i I io G K))
    (done : ∀ l G ld, J n l G ld → K .next l G ld) : Stp k (Fo cc c l H ld (.Name x px) body (.ref a) K) :=
  e_forRg J Z hm hb r0 r1 cu h0 (fun _ _ => rfl) (fun i u I io l H ld hi hj => asg_loc Z hx ⟨rfl, .head _, Stp.get (turn i u I io l H ld hi hj)⟩) done
end
theorem se_sub {c : Cf} {l : List (Str × Value)} {H : Heap} {ld ld' R : LD} {fin : Kt Flow} {env : Env} {b : List Stmt} (l' : List (Str × Value)) (ld2 : LD) (a : ∀ p ∈ l', lk l p.1 = some p.2) (e : ld2 = ld') (cu : Cut ld ld' R) (x : Se c l' H ld2 b env fin) : Se c l H ld b env fin := by
  subst e; exact .mk (sp_sub a cu (Stp.get x))
theorem se_cut {c : Cf} {l : List (Str × Value)} {H : Heap} {ld ld' R : LD} {fin : Kt Flow} {env : Env} {b : List Stmt} (cu : Cut ld ld' R) (x : Se c l H ld' b env fin) : Se c l H ld b env fin := .mk (sp_cut cu (Stp.get x))
structure Fix (w : World) (a : LA) (G : Heap) (gen : Int) (par : Str → List Str) (cod : Str → Option Addr) (en : List (Str × Value)) (fh : Str → Option Value) : Prop where
  law : LwG w a G
  stash : StashD w G a.st gen par cod
  pard : ParD w G a.pd par
  ends : EndsOk w G cod en
  ed : OAt w G a.ed (.sd en)
  dhp : OAt w G a.dhp (.di fh)
  zero : fh (Str.ofString "zero") = some (.ref a.zl)
  cu : cod univ = none
  dr : Drawn par
theorem Fix.keeps {w : World} {a : LA} {G G' : Heap} {gen : Int} {par : Str → List Str} {cod : Str → Option Addr} {en : List (Str × Value)} {fh : Str → Option Value} (x : Fix w a G gen par cod en fh) (k : Keep G G') : Fix w a G' gen par cod en fh :=
  ⟨x.law.keeps k, x.stash.keeps k, x.pard.keeps k, x.ends.keeps k, x.ed.keeps k, x.dhp.keeps k, x.zero, x.cu, x.dr⟩
theorem Fix.ctr {w : World} {a : LA} {G : Heap} {gen : Int} {par : Str → List Str} {cod : Str → Option Addr} {en : List (Str × Value)} {fh : Str → Option Value} (x : Fix w a G gen par cod en fh) : CtrS w G a.ctr a.hp a.dhp a.zl fh := x.law.ctr.s x.law.heap x.dhp x.zero
noncomputable abbrev maL (a : LA) (I : Addr) (io : Obj) (cv : Option Value) (n : Int) (t : Tok) (zs : List Value) (hb : Addr) (ow ho : List (Int × Value)) (f : Str → Option Value) (tb : Addr) (xs : CX) (Y : LD) : LD :=
  (a.sp, .li [.int n t]) :: (a.zl, .li zs) :: (a.bk, .sd (bookL a.ow hb a.pd a.ed)) :: (a.ow, .nd ow) :: (hb, .nd ho) :: (a.dca, .di f) :: (tb, .tb xs) :: (a.cell, .ce cv) :: (I, .ob io) :: Y
noncomputable abbrev tuB (n : Nat) : List Stmt := (fnBody (nth (fnBody S799) 11)).drop n
noncomputable abbrev tuL (a : LA) (i : Nat) (u uw up : Tok) (wy : Int) (P : Str) : List (Str × Value) := (Str.ofString "package", .str P up) :: (Str.ofString "way", .int wy uw) :: (Str.ofString "turn", .int (i : Int) u) :: lawL a
noncomputable abbrev tuA (a : LA) (i : Nat) (u uw up : Tok) (wy : Int) (P : Str) (r : Addr) : List (Str × Value) := (Str.ofString "answer", .ref r) :: (Str.ofString "value", .ref r) :: tuL a i u uw up wy P
section
variable {c : Cf} {k : Nat} {l : List (Str × Value)} {H : Heap} {ld : LD} {K : Kt Value} {u : Tok} {x : Int} {b : Addr} {vs : List Value}
theorem e_thing {value slice : PySem.Expr} {a : LA} {j : Nat} (hl : FL c.w H a.tl [.ref a.x0, .ref a.x1, .ref a.x2, .ref a.x3, .ref a.x4, .ref a.x5]) (hx : x = (j : Int)) (hj : j < 6) (z : K (.ref (aX a j)) l H ld) (hs : subscripted slice false (.ref a.tl) (.int x u) = operate [.ref a.tl, .int x u] (getItem (.ref a.tl) (.int x u))) : Stp k (Sp c l H ld (subscriptTail value slice (.ref a.tl) (.int x u)) K) := by
  subst hx
  exact e_item hl.hl (by omega) (by omega) (aX_get hj) z hs
theorem e_itemM {value slice : PySem.Expr} (hl : HL c.w H ld b vs) (h0 : 0 ≤ x) (h1 : x < (vs.length : Int)) (hz : vs.length ≤ 100) (z : ∀ v, v ∈ vs → K v l H ld) (hs : subscripted slice false (.ref b) (.int x u) = operate [.ref b, .int x u] (getItem (.ref b) (.int x u))) : Stp k (Sp c l H ld (subscriptTail value slice (.ref b) (.int x u)) K) := by
  have hlt : x.toNat < vs.length := by omega
  exact e_item hl h0 (by omega) (List.getElem?_eq_getElem hlt) (z _ (List.getElem_mem hlt)) hs
end
theorem tu_A {K : Params → Frag} {V : Program} (HK : KOk K) {q : Str} {v : Value} {c : Cf} {dz : Nat} {a : LA} {G : Heap} {Y : LD} {fin : Kt Flow} {pv : List Value} {I : Addr} {io : Obj} {u t : Tok} {i : Nat} {n : Int} {zs : List Value} {hb tb : Addr} {ow ho : List (Int × Value)} {f : Str → Option Value} {xs : CX} {cv : Option Value} (Z : ZOk K V (ccF S799 799 t799 q v) c dz) (hd : 30 ≤ dz) (hcc : c.cl.lookup (Str.ofString "k") = some a.cell)
    (hpl : FL c.w G 742 pv) (hps : StrsAre pv pkL) (hL : LwG c.w a G) (hn0 : 0 ≤ n) (hn : n ≤ 900)
    (k : ∀ (kk : Nat) (wy : Int) (P : Str) (t' uk uw up : Tok), kk < 6 → 0 ≤ wy → wy < 9 → P ∈ pkL → Se c (tuL a i u uw up wy P) G (maL a I io (some (.int (kk : Int) uk)) (n + 1 + 1 + 1) t' zs hb ow ho f tb xs Y) (tuB 3) (lawE c q v) fin) :
    Se c ((Str.ofString "turn", .int (i : Int) u) :: lawL a) G (maL a I io cv n t zs hb ow ho f tb xs Y) (tuB 0) (lawE c q v) fin := by
  obtain ⟨⟨svs, sns, hsl, hI, hlen⟩, hhp, hrn, hfm, hct, hst, _⟩ := id hL
  refine se_seq 3 (se_run Z 4000 ?_)
  k_extra "go"
  k_extra "st"
  rename_i _ k1 uk t1 hk0 hk1 _ wy uw t2 hw0 hw1 _ _
  obtain ⟨kk, rfl⟩ : ∃ kk : Nat, k1 = (kk : Int) := ⟨k1.toNat, by omega⟩
  exact k kk wy P9 t9 uk uw u9 (by omega) hw0 hw1 (List.mem_of_getElem? hP9)
theorem tu_B {K : Params → Frag} {V : Program} (HK : KOk K) {q : Str} {v : Value} {c : Cf} {dz : Nat} {a : LA} {G : Heap} {Y : LD} {fin : Kt Flow} {I : Addr} {io : Obj} {u uk uw up t : Tok} {i kk : Nat} {n wy : Int} {P : Str} {zs : List Value} {hb tb : Addr} {ow ho : List (Int × Value)} {f : Str → Option Value} {xs : CX} (Z : ZOk K V (ccF S799 799 t799 q v) c dz) (hd : 30 ≤ dz) (hcc : c.cl.lookup (Str.ofString "k") = some a.cell)
    (hL : LwG c.w a G) (hk : kk < 6)
    (k : ∀ (r : Addr) G', Keep G G' → RefN c.w G' r (aX a kk) → Se c (tuA a i u uw up wy P r) G' (maL a I io (some (.int (kk : Int) uk)) n t zs hb ow ho f tb xs Y) (tuB 5) (lawE c q v) fin) :
    Se c (tuL a i u uw up wy P) G (maL a I io (some (.int (kk : Int) uk)) n t zs hb ow ho f tb xs Y) (tuB 3) (lawE c q v) fin := by
  have hkx := aX_get (a := a) hk
  have htl := hL.things
  refine se_seq 2 (se_run Z 4000 ?_)
  k_extra "go"
  k_extra "st"
  k_extra "go"
  refine se_fz (maL a I io (some (.int (kk : Int) uk)) n t zs hb ow ho f tb xs Y) (R := [(r9, .ob (instObj 183 dr9)), (dr9, .di _)]) (by k_extra "cut") fun G' k' h' => k r9 G' k' ⟨dr9, _, h' (r9, .ob _) (by k_extra "mm"), h' (dr9, .di _) (by k_extra "mm"), rfl, rfl⟩
theorem tu_C1 {K : Params → Frag} {V : Program} (HK : KOk K) {q : Str} {v : Value} {c : Cf} {dz : Nat} {a : LA} {G : Heap} {fin : Kt Flow} {I : Addr} {io : Obj} {u uk uw up t : Tok} {i kk : Nat} {n wy : Int} {P : Str} {zs : List Value} {hb tb r : Addr} {ow ho : List (Int × Value)} {f : Str → Option Value} {xs : CX} {Y : LD} {gen : Int} {par : Str → List Str} {cod : Str → Option Addr} {en : List (Str × Value)} {fh : Str → Option Value} (Z : ZOk K V (ccF S799 799 t799 q v) c dz) (hd : 40 ≤ dz) (hcc : c.cl.lookup (Str.ofString "k") = some a.cell) (F : Fix c.w a G gen par cod en fh) (hk : kk < 6) (hr : RefN c.w G r (aX a kk)) {g : Str → Option Value} {t0 : Th} (T : TOk c.w G a kk g ow ho t0) (how : ow.length ≤ 90) (hP : P ∈ pkL) (hw : wy < 4)
    (k : ∀ u1 u2, Se c (tuA a i u uw up wy P r) G (maL a I io (some (.int (kk : Int) uk)) n t zs hb (stored ow (kk : Int) (.str P u2)) ho f tb xs ((aD a kk, .di (blU g (blessedAs P) u1)) :: Y)) (tuB 6) (lawE c q v) fin) : Se c (tuA a i u uw up wy P r) G (maL a I io (some (.int (kk : Int) uk)) n t zs hb ow ho f tb xs ((aD a kk, .di g) :: Y)) (tuB 5) (lawE c q v) fin := by
  obtain ⟨⟨svs, sns, hsl, hI, hlen⟩, hhp, hrn, ⟨uf, hfm⟩, hct, hst, _⟩ := id F.law
  refine elEA T.ok.own ?_; rintro bv hbv _
  have hx := aX_at F.law hk
  have hth := aC_th hk
  have hra := hr.at_
  have hw1 : decide (wy < 4) = true := decide_eq_true hw
  refine se_seq 1 (se_run Z 4000 ?_)
  k_extra "go"
  k_extra "st"
  refine' tri_use (c_lbless HK r (aX a kk) (aD a kk) (aC kk) a.rn a.st a.ca a9 (.ref a.lm) (.ref a.fr) (.ref a.ctr) (.str (Str.ofString "C::D") uf) (.str P up) [.str P up] g bv P ?h1 ?h2 hth hbv ?h5 ?h6) Z ?jd ?jc ?jp ?_
  case jd => omega
  case jc => k_extra "cut"
  case jp => k_extra "pr0"
  case h6 => exact .inr rfl
  case h1 => k_extra "pl"
  case h5 => k_extra "pl"
  case h2 => exact rfl
  intro u9
  k_extra "go"
  k_extra "st"
  exact se_sub (tuA a i u uw up wy P r) _ (by k_extra "ls") rfl (by k_extra "cut") (k _ _)
theorem tu_C2 {K : Params → Frag} {V : Program} (HK : KOk K) {q : Str} {v : Value} {c : Cf} {dz : Nat} {a : LA} {G : Heap} {fin : Kt Flow} {I : Addr} {io : Obj} {u uk uw up t : Tok} {i kk : Nat} {n wy : Int} {P : Str} {zs : List Value} {hb tb r : Addr} {ow ho : List (Int × Value)} {f : Str → Option Value} {xs : CX} {Y : LD} {gen : Int} {par : Str → List Str} {cod : Str → Option Addr} {en : List (Str × Value)} {fh : Str → Option Value} (Z : ZOk K V (ccF S799 799 t799 q v) c dz) (hd : 40 ≤ dz) (hcc : c.cl.lookup (Str.ofString "k") = some a.cell) (F : Fix c.w a G gen par cod en fh) (hk : kk < 6) (hr : RefN c.w G r (aX a kk)) {g : Str → Option Value} {t0 : Th} (T : TOk c.w G a kk g ow ho t0) (how : ow.length ≤ 90) (hw : wy = 4)
    (k : ∀ u1 u2, Se c (tuA a i u uw up wy P r) G (maL a I io (some (.int (kk : Int) uk)) n t zs hb (stored ow (kk : Int) (.str (Str.ofString "C::D") u2)) ho f tb xs ((aD a kk, .di (blU g (blessedAs (Str.ofString "C::D")) u1)) :: Y)) (tuB 6) (lawE c q v) fin) : Se c (tuA a i u uw up wy P r) G (maL a I io (some (.int (kk : Int) uk)) n t zs hb ow ho f tb xs ((aD a kk, .di g) :: Y)) (tuB 5) (lawE c q v) fin := by
  obtain ⟨⟨svs, sns, hsl, hI, hlen⟩, hhp, hrn, ⟨uf, hfm⟩, hct, hst, _⟩ := id F.law
  refine elEA T.ok.own ?_; rintro bv hbv _
  have hx := aX_at F.law hk
  have hth := aC_th hk
  have hra := hr.at_
  have hw1 : decide (wy < 4) = false := decide_eq_false (by omega)
  have hw2 : (wy == 4) = true := beq_iff_eq.mpr hw
  refine se_seq 1 (se_run Z 4000 ?_)
  k_extra "go"
  k_extra "st"
  refine' tri_use (c_lbless HK r (aX a kk) (aD a kk) (aC kk) a.rn a.st a.ca a9 (.ref a.lm) (.ref a.fr) (.ref a.ctr) (.str (Str.ofString "C::D") uf) (.str (Str.ofString "C::D") uf) [] g bv (Str.ofString "C::D") ?h1 ?h2 hth hbv ?h5 ?h6) Z ?jd ?jc ?jp ?_
  case jd => omega
  case jc => k_extra "cut"
  case jp => k_extra "pr0"
  case h6 => exact .inl ⟨rfl, rfl⟩
  case h1 => k_extra "pl"
  case h5 => k_extra "pl"
  case h2 => exact rfl
  intro u9
  k_extra "go"
  k_extra "st"
  exact se_sub (tuA a i u uw up wy P r) _ (by k_extra "ls") rfl (by k_extra "cut") (k _ _)
theorem tu_C3 {K : Params → Frag} {V : Program} (HK : KOk K) {q : Str} {v : Value} {c : Cf} {dz : Nat} {a : LA} {G : Heap} {fin : Kt Flow} {I : Addr} {io : Obj} {u uk uw up t : Tok} {i kk : Nat} {n wy : Int} {P : Str} {zs : List Value} {hb tb r : Addr} {ow ho : List (Int × Value)} {f : Str → Option Value} {xs : CX} {Y : LD} {gen : Int} {par : Str → List Str} {cod : Str → Option Addr} {en : List (Str × Value)} {fh : Str → Option Value} (Z : ZOk K V (ccF S799 799 t799 q v) c dz) (hd : 40 ≤ dz) (hcc : c.cl.lookup (Str.ofString "k") = some a.cell) (F : Fix c.w a G gen par cod en fh) (hk : kk < 6) (hr : RefN c.w G r (aX a kk)) {g : Str → Option Value} {t0 : Th} (T : TOk c.w G a kk g ow ho t0) (how : ow.length ≤ 90) (hw : wy = 5)
    (k : ∀ u1 u2, Se c (tuA a i u uw up wy P r) G (maL a I io (some (.int (kk : Int) uk)) n t zs hb (stored ow (kk : Int) (.str (Str.ofString "main") u2)) ho f tb xs ((aD a kk, .di (blU g (blessedAs (Str.ofString "")) u1)) :: Y)) (tuB 6) (lawE c q v) fin) : Se c (tuA a i u uw up wy P r) G (maL a I io (some (.int (kk : Int) uk)) n t zs hb ow ho f tb xs ((aD a kk, .di g) :: Y)) (tuB 5) (lawE c q v) fin := by
  obtain ⟨⟨svs, sns, hsl, hI, hlen⟩, hhp, hrn, ⟨uf, hfm⟩, hct, hst, _⟩ := id F.law
  refine elEA T.ok.own ?_; rintro bv hbv _
  have hx := aX_at F.law hk
  have hth := aC_th hk
  have hra := hr.at_
  have hw1 : decide (wy < 4) = false := decide_eq_false (by omega)
  have hw2 : (wy == 4) = false := beq_eq_false_iff_ne.mpr (by omega)
  have hw3 : (wy == 5) = true := beq_iff_eq.mpr hw
  refine se_seq 1 (se_run Z 4000 ?_)
  k_extra "go"
  have hp9 : Plain v9 ∧ textP v9 = some (Str.ofString "") := by
    rcases List.mem_cons.mp hv9 with rfl | hv9
    · exact ⟨rfl, rfl⟩
    · cases List.mem_singleton.mp hv9; exact ⟨rfl, rfl⟩
  refine elA hp9 ?_; (try clear hp9); rintro hp1 hp2
  k_extra "st"
  refine' tri_use (c_lbless HK r (aX a kk) (aD a kk) (aC kk) a.rn a.st a.ca a9 (.ref a.lm) (.ref a.fr) (.ref a.ctr) (.str (Str.ofString "C::D") uf) v9 [v9] g bv (Str.ofString "") hp1 hp2 hth hbv ?h5 ?h6) Z ?jd ?jc ?jp ?_
  case jd => omega
  case jc => k_extra "cut"
  case jp => k_extra "pr0"
  case h6 => exact .inr rfl
  case h5 => k_extra "pl"
  intro u9
  k_extra "go"
  k_extra "st"
  exact se_sub (tuA a i u uw up wy P r) _ (by k_extra "ls") rfl (by k_extra "cut") (k _ _)
section
variable {K0 : Params → Frag} {V : Program} {cc : CC} {c : Cf} {dz k : Nat} {l : List (Str × Value)} {H : Heap} {ld : LD} {base : Heap}
theorem e_cau {K : Kt Value} {a : Addr} {args : List Value} {d : Nat} {P : World → Heap → Prop} {msg : Str} (cn : TriC K0 V a d args P msg) (Z : ZOk K0 V cc c dz) (hd : d ≤ dz) (B : EB K0 V c base [envE cc c]) (pr : ∀ g, Keep H g → Has c.w g ld → P c.w g) (z : ∀ u, K (.str msg u) l H ld) : Stp k (Sp c l H ld (call (.ref a) args) K) := .mk fun h t A => by
  obtain ⟨m, S, F⟩ := A.ex
  refine wpAny_call (cn c.w c.mean c.mg c.mb c.A base [envE cc c] _ _ (B.B F) B.X B.T Z.q (zhd Z hd) (zhu Z hd) (pr _ A.lg.keep fun p hp => A.oat hp) fun u h' tk' k1 us => ?_)
  have kb : ∀ b o, h.get? b = some o → b ≠ c.L → h'.get? b = some o := fun b o e n => k1 b o e fun q => n (List.mem_singleton.mp (show b ∈ [c.L] from q))
  have nL : ∀ {b o}, c.g.get? b = some o → b ≠ c.L := fun q z => by rw [z] at q; exact absurd (Nat.lt_of_lt_of_le (Heap.lt_size q) F.above) (Nat.lt_irrefl _)
  exact .mk l H ld h' tk' (A.loc S ⟨us.ns F.ns, fun b o e => kb b o (F.keep b o e) (nL e), F.above⟩ kb) (z u)
end
theorem tu_C6 {K : Params → Frag} {V : Program} (HK : KOk K) {q : Str} {v : Value} {c : Cf} {dz : Nat} {a : LA} {G : Heap} {fin : Kt Flow} {I : Addr} {io : Obj} {u uk uw up t : Tok} {i kk : Nat} {n wy : Int} {P : Str} {zs : List Value} {hb tb r : Addr} {ow ho : List (Int × Value)} {f : Str → Option Value} {xs : CX} {Y : LD} {gen : Int} {par : Str → List Str} {cod : Str → Option Addr} {en : List (Str × Value)} {fh : Str → Option Value} (Z : ZOk K V (ccF S799 799 t799 q v) c dz) (hd : 40 ≤ dz) (hcc : c.cl.lookup (Str.ofString "k") = some a.cell) (F : Fix c.w a G gen par cod en fh) (hk : kk < 6) (hr : RefN c.w G r (aX a kk)) {base : Heap} (B : EB K V c base [lawE c q v]) (hP : P ∈ pkL) (hw : wy = 8)
    (k : Se c (tuA a i u uw up wy P r) G (maL a I io (some (.int (kk : Int) uk)) n t zs hb ow ho f tb xs Y) (tuB 6) (lawE c q v) fin) : Se c (tuA a i u uw up wy P r) G (maL a I io (some (.int (kk : Int) uk)) n t zs hb ow ho f tb xs Y) (tuB 5) (lawE c q v) fin := by
  obtain ⟨⟨svs, sns, hsl, hI, hlen⟩, hhp, hrn, ⟨uf, hfm⟩, hct, hst, _, htl, _⟩ := id F.law
  have hra := hr.at_
  have h36 : 3 < 6 := by decide
  have hw1 : decide (wy < 4) = false := decide_eq_false (by omega)
  have hw2 : (wy == 4) = false := beq_eq_false_iff_ne.mpr (by omega)
  have hw3 : (wy == 5) = false := beq_eq_false_iff_ne.mpr (by omega)
  have hw4 : (wy == 6) = false := beq_eq_false_iff_ne.mpr (by omega)
  have hw5 : (wy == 7) = false := beq_eq_false_iff_ne.mpr (by omega)
  have hw6 : (wy == 8) = true := beq_iff_eq.mpr hw
  refine se_seq 1 (se_run Z 4000 ?_)
  k_extra "go"
  have hp1 : Plain v9 := by
    rcases List.mem_cons.mp hv9 with rfl | hv9
    · exact rfl
    rcases List.mem_cons.mp hv9 with rfl | hv9
    · exact rfl
    rcases List.mem_cons.mp hv9 with rfl | hv9
    · exact rfl
    · cases List.mem_singleton.mp hv9; exact rfl
  k_extra "st"
  refine' e_cau (c_lblessE HK a.rn a.st a.ca a9 (.ref a.lm) (.ref a.fr) (.ref a.ctr) (.str (Str.ofString "C::D") uf) v9 (.str P up) msg1 rfl) Z ?jd B ?jp ?_
  case jd => omega
  case jp => exact fun G' k' h' => ⟨hrn.keeps k', hfm.keeps k', ⟨_, h' (a9, .li _) (by k_extra "mm"), rfl⟩, .one hp1 (.plain rfl)⟩
  intro u8
  k_extra "go"
  k_extra "st"
  refine' e_cau (c_lblessE HK a.rn a.st a.ca a9 (.ref a.lm) (.ref a.fr) (.ref a.ctr) (.str (Str.ofString "C::D") uf) (.ref r) (.ref r9) msg2 rfl) Z ?jd B ?jp ?_
  case jd => omega
  case jp => exact fun G' k' h' => ⟨hrn.keeps k', hfm.keeps k', ⟨_, h' (a9, .li _) (by k_extra "mm"), rfl⟩, .two (hra.keeps k') ⟨dr9, _, h' (r9, .ob _) (by k_extra "mm"), h' (dr9, .di _) (by k_extra "mm"), rfl⟩⟩
  intro u8
  k_extra "go"
  k_extra "st"
  exact se_sub (tuA a i u uw up wy P r) _ (by k_extra "ls") rfl (by k_extra "cut") k

theorem tu_C76 {K : Params → Frag} {V : Program} (HK : KOk K) {q : Str} {v : Value} {c : Cf} {dz : Nat} {a : LA} {G : Heap} {fin : Kt Flow} {I : Addr} {io : Obj} {u uk uw up t : Tok} {i kk : Nat} {n wy : Int} {P : Str} {zs : List Value} {hb tb r : Addr} {ow ho : List (Int × Value)} {f : Str → Option Value} {xs : CX} {Y : LD} {gen : Int} {par : Str → List Str} {cod : Str → Option Addr} {en : List (Str × Value)} {fh : Str → Option Value} (Z : ZOk K V (ccF S799 799 t799 q v) c dz) (hd : 40 ≤ dz) (hcc : c.cl.lookup (Str.ofString "k") = some a.cell) (F : Fix c.w a G gen par cod en fh) (hk : kk < 6) (hr : RefN c.w G r (aX a kk)) (hw : wy = 6) (h2 : 2 ≤ kk)
    (k : Se c (tuA a i u uw up wy P r) G (maL a I io (some (.int (kk : Int) uk)) n t zs hb ow ho f tb xs Y) (tuB 6) (lawE c q v) fin) : Se c (tuA a i u uw up wy P r) G (maL a I io (some (.int (kk : Int) uk)) n t zs hb ow ho f tb xs Y) (tuB 5) (lawE c q v) fin := by
  obtain ⟨⟨svs, sns, hsl, hI, hlen⟩, hhp, hrn, ⟨uf, hfm⟩, hct, hst, _, htl, _⟩ := id F.law
  obtain ⟨drn, frn, rn1, rn2, ⟨h1, _, _, _, h5⟩⟩ := id hrn.ex
  have hcs := F.ctr
  refine elEEAA (id hct.ex) ?_; rintro cd cpl c1 c2 c3
  have hw1 : decide (wy < 4) = false := decide_eq_false (by omega)
  have hw2 : (wy == 4) = false := beq_eq_false_iff_ne.mpr (by omega)
  have hw3 : (wy == 5) = false := beq_eq_false_iff_ne.mpr (by omega)
  have hw4 : (wy == 6) = true := beq_iff_eq.mpr hw
  have hk2 : decide ((kk : Int) < 2) = false := decide_eq_false (by omega)
  have hw5 : (wy == 7) = false := beq_eq_false_iff_ne.mpr (by omega)
  have hw9 : (wy == 8) = false := beq_eq_false_iff_ne.mpr (by omega)
  refine se_seq 1 (se_run Z 4000 ?_)
  k_extra "go"
  k_extra "st"
  exact se_sub (tuA a i u uw up wy P r) _ (by k_extra "ls") rfl (by k_extra "cut") k
theorem tu_C77 {K : Params → Frag} {V : Program} (HK : KOk K) {q : Str} {v : Value} {c : Cf} {dz : Nat} {a : LA} {G : Heap} {fin : Kt Flow} {I : Addr} {io : Obj} {u uk uw up t : Tok} {i kk : Nat} {n wy : Int} {P : Str} {zs : List Value} {hb tb r : Addr} {ow ho : List (Int × Value)} {f : Str → Option Value} {xs : CX} {Y : LD} {gen : Int} {par : Str → List Str} {cod : Str → Option Addr} {en : List (Str × Value)} {fh : Str → Option Value} (Z : ZOk K V (ccF S799 799 t799 q v) c dz) (hd : 40 ≤ dz) (hcc : c.cl.lookup (Str.ofString "k") = some a.cell) (F : Fix c.w a G gen par cod en fh) (hk : kk < 6) (hr : RefN c.w G r (aX a kk)) (hw : wy = 7) (h2 : 2 ≤ kk)
    (k : Se c (tuA a i u uw up wy P r) G (maL a I io (some (.int (kk : Int) uk)) n t zs hb ow ho f tb xs Y) (tuB 6) (lawE c q v) fin) : Se c (tuA a i u uw up wy P r) G (maL a I io (some (.int (kk : Int) uk)) n t zs hb ow ho f tb xs Y) (tuB 5) (lawE c q v) fin := by
  obtain ⟨⟨svs, sns, hsl, hI, hlen⟩, hhp, hrn, ⟨uf, hfm⟩, hct, hst, _, htl, _⟩ := id F.law
  obtain ⟨drn, frn, rn1, rn2, ⟨h1, _, _, _, h5⟩⟩ := id hrn.ex
  have hcs := F.ctr
  refine elEEAA (id hct.ex) ?_; rintro cd cpl c1 c2 c3
  have hw1 : decide (wy < 4) = false := decide_eq_false (by omega)
  have hw2 : (wy == 4) = false := beq_eq_false_iff_ne.mpr (by omega)
  have hw3 : (wy == 5) = false := beq_eq_false_iff_ne.mpr (by omega)
  have hw4 : (wy == 6) = false := beq_eq_false_iff_ne.mpr (by omega)
  have hw5 : (wy == 7) = true := beq_iff_eq.mpr hw
  have hk2 : decide ((kk : Int) < 2) = false := decide_eq_false (by omega)
  have hw9 : (wy == 8) = false := beq_eq_false_iff_ne.mpr (by omega)
  refine se_seq 1 (se_run Z 4000 ?_)
  k_extra "go"
  k_extra "st"
  exact se_sub (tuA a i u uw up wy P r) _ (by k_extra "ls") rfl (by k_extra "cut") k
theorem tu_C4a {K : Params → Frag} {V : Program} (HK : KOk K) {q : Str} {v : Value} {c : Cf} {dz : Nat} {a : LA} {G : Heap} {fin : Kt Flow} {I : Addr} {io : Obj} {u uk uw up t : Tok} {i kk : Nat} {n wy : Int} {P : Str} {zs : List Value} {hb tb r : Addr} {ow ho : List (Int × Value)} {f : Str → Option Value} {xs : CX} {Y : LD} {gen : Int} {par : Str → List Str} {cod : Str → Option Addr} {en : List (Str × Value)} {fh : Str → Option Value} (Z : ZOk K V (ccF S799 799 t799 q v) c dz) (hd : 40 ≤ dz) (hcc : c.cl.lookup (Str.ofString "k") = some a.cell) (F : Fix c.w a G gen par cod en fh) (hk : kk < 6) (hr : RefN c.w G r (aX a kk)) (hw : wy = 6) (h2 : kk < 2) {j : Nat} (hj : 2 + Int.fmod (i : Int) 4 = (j : Int)) (hj6 : j < 6) {g gj : Str → Option Value} {m : Int} {mu : Tok} (hm : gj (Str.ofString "count") = some (.int m mu)) (hol : ho.length ≤ 90) {o : Value} (hs : ScF g o) (hpo : Plain o)
    (k : ∀ (r' : Addr) (u1 : Tok) G', Keep G G' → RefN c.w G' r' (aX a j) → Se c (tuA a i u uw up wy P r) G' (maL a I io (some (.int (kk : Int) uk)) n t zs hb ow (stored ho (kk : Int) (.bool true)) f tb xs ((aD a kk, .di (valU g (.ref r'))) :: (aD a j, .di (cntU gj (m + 1) u1)) :: Y)) (tuB 6) (lawE c q v) fin) : Se c (tuA a i u uw up wy P r) G (maL a I io (some (.int (kk : Int) uk)) n t zs hb ow ho f tb xs ((aD a kk, .di g) :: (aD a j, .di gj) :: Y)) (tuB 5) (lawE c q v) fin := by
  obtain ⟨⟨svs, sns, hsl, hI, hlen⟩, hhp, hrn, ⟨uf, hfm⟩, hct, hst, _, htl, _⟩ := id F.law
  obtain ⟨drn, frn, rn1, rn2, ⟨h1, _, _, _, h5⟩⟩ := id hrn.ex
  have hcs := F.ctr
  refine elEEAA (id hct.ex) ?_; rintro cd cpl c1 c2 c3
  have hw1 : decide (wy < 4) = false := decide_eq_false (by omega)
  have hw2 : (wy == 4) = false := beq_eq_false_iff_ne.mpr (by omega)
  have hw3 : (wy == 5) = false := beq_eq_false_iff_ne.mpr (by omega)
  have hw4 : (wy == 6) = true := beq_iff_eq.mpr hw
  have hk2 : decide ((kk : Int) < 2) = true := decide_eq_true (by omega)
  have hsc : OAt c.w G (aX a kk) (.ob (instObj 87 (aD a kk))) := aC_sc h2 ▸ aX_at F.law hk
  have hyj := aX_at F.law hj6
  have htj := aC_th hj6
  refine se_seq 1 (se_run Z 4000 ?_)
  k_extra "go"
  k_extra "st"
  refine' tri_use (c_storeRP HK a.ctr a.hp a.dhp a.zl (aX a kk) (aD a kk) r9 (aX a j) (aD a j) (aC j) fh g gj o m mu hs hpo htj hm) Z ?jd ?jc ?jp ?_
  case jd => omega
  case jc => k_extra "cut"
  case jp => exact fun G' k' h' => ⟨hcs.keeps k', hsc.keeps k', ⟨dr9, _, h' (r9, .ob _) (by k_extra "mm"), h' (dr9, .di _) (by k_extra "mm"), rfl, rfl⟩, hyj.keeps k'⟩
  intro u9
  k_extra "go"
  k_extra "st"
  refine se_fz (maL a I io (some (.int (kk : Int) uk)) n t zs hb ow (stored ho (kk : Int) (.bool true)) f tb xs ((aD a kk, .di _) :: (aD a j, .di _) :: Y)) (R := [(r9, .ob (instObj 183 dr9)), (dr9, .di _)]) (by k_extra "cut") fun G' k' h' => ?_
  exact se_sub (tuA a i u uw up wy P r) _ (by k_extra "ls") rfl Cut.all (k r9 _ G' k' ⟨dr9, _, h' (r9, .ob _) (by k_extra "mm"), h' (dr9, .di _) (by k_extra "mm"), rfl, rfl⟩)
theorem tu_C4b {K : Params → Frag} {V : Program} (HK : KOk K) {q : Str} {v : Value} {c : Cf} {dz : Nat} {a : LA} {G : Heap} {fin : Kt Flow} {I : Addr} {io : Obj} {u uk uw up t : Tok} {i kk : Nat} {n wy : Int} {P : Str} {zs : List Value} {hb tb r : Addr} {ow ho : List (Int × Value)} {f : Str → Option Value} {xs : CX} {Y : LD} {gen : Int} {par : Str → List Str} {cod : Str → Option Addr} {en : List (Str × Value)} {fh : Str → Option Value} (Z : ZOk K V (ccF S799 799 t799 q v) c dz) (hd : 40 ≤ dz) (hcc : c.cl.lookup (Str.ofString "k") = some a.cell) (F : Fix c.w a G gen par cod en fh) (hk : kk < 6) (hr : RefN c.w G r (aX a kk)) (hw : wy = 6) (h2 : kk < 2) {j : Nat} (hj : 2 + Int.fmod (i : Int) 4 = (j : Int)) (hj6 : j < 6) {g gj : Str → Option Value} {m : Int} {mu : Tok} (hm : gj (Str.ofString "count") = some (.int m mu)) (hol : ho.length ≤ 90) (hzl : zs.length ≤ 80) {r2 : Addr} (hs : ScF g (.ref r2)) (hr2 : RefN c.w G r2 (aX a j))
    (k : ∀ (r' : Addr) (u1 u2 : Tok) (zs2 : List Value) G', Keep G G' → RefN c.w G' r' (aX a j) → zs2.length ≤ zs.length + 1 → Se c (tuA a i u uw up wy P r) G' (maL a I io (some (.int (kk : Int) uk)) n t zs2 hb ow (stored ho (kk : Int) (.bool true)) f tb xs ((aD a kk, .di (valU g (.ref r'))) :: (aD a j, .di (cntU (cntU gj (m + 1) u1) (m + 1 - 1) u2)) :: Y)) (tuB 6) (lawE c q v) fin) : Se c (tuA a i u uw up wy P r) G (maL a I io (some (.int (kk : Int) uk)) n t zs hb ow ho f tb xs ((aD a kk, .di g) :: (aD a j, .di gj) :: Y)) (tuB 5) (lawE c q v) fin := by
  obtain ⟨⟨svs, sns, hsl, hI, hlen⟩, hhp, hrn, ⟨uf, hfm⟩, hct, hst, _, htl, _⟩ := id F.law
  obtain ⟨drn, frn, rn1, rn2, ⟨h1, _, _, _, h5⟩⟩ := id hrn.ex
  have hcs := F.ctr
  refine elEEAA (id hct.ex) ?_; rintro cd cpl c1 c2 c3
  have hw1 : decide (wy < 4) = false := decide_eq_false (by omega)
  have hw2 : (wy == 4) = false := beq_eq_false_iff_ne.mpr (by omega)
  have hw3 : (wy == 5) = false := beq_eq_false_iff_ne.mpr (by omega)
  have hw4 : (wy == 6) = true := beq_iff_eq.mpr hw
  have hk2 : decide ((kk : Int) < 2) = true := decide_eq_true (by omega)
  have hsc : OAt c.w G (aX a kk) (.ob (instObj 87 (aD a kk))) := aC_sc h2 ▸ aX_at F.law hk
  have hyj := aX_at F.law hj6
  have htj := aC_th hj6
  refine se_seq 1 (se_run Z 4000 ?_)
  k_extra "go"
  k_extra "st"
  refine' tri_use (c_storeRS HK a.ctr a.hp a.dhp a.zl (aX a kk) (aD a kk) r9 (aX a j) (aD a j) (aC j) r2 fh g gj m mu zs hs htj hm (by omega)) Z ?jd ?jc ?jp ?_
  case jd => omega
  case jc => k_extra "cut"
  case jp => exact fun G' k' h' => ⟨hcs.keeps k', hsc.keeps k', ⟨⟨dr9, _, h' (r9, .ob _) (by k_extra "mm"), h' (dr9, .di _) (by k_extra "mm"), rfl, rfl⟩, hyj.keeps k'⟩, hr2.keeps k'⟩
  intro u9 u8 zs9 hz9
  k_extra "go"
  k_extra "st"
  refine se_fz (maL a I io (some (.int (kk : Int) uk)) n t zs9 hb ow (stored ho (kk : Int) (.bool true)) f tb xs ((aD a kk, .di _) :: (aD a j, .di _) :: Y)) (R := [(r9, .ob (instObj 183 dr9)), (dr9, .di _)]) (by k_extra "cut") fun G' k' h' => ?_
  exact se_sub (tuA a i u uw up wy P r) _ (by k_extra "ls") rfl Cut.all (k r9 _ _ _ G' k' ⟨dr9, _, h' (r9, .ob _) (by k_extra "mm"), h' (dr9, .di _) (by k_extra "mm"), rfl, rfl⟩ hz9)
theorem tu_C4c {K : Params → Frag} {V : Program} (HK : KOk K) {q : Str} {v : Value} {c : Cf} {dz : Nat} {a : LA} {G : Heap} {fin : Kt Flow} {I : Addr} {io : Obj} {u uk uw up t : Tok} {i kk : Nat} {n wy : Int} {P : Str} {zs : List Value} {hb tb r : Addr} {ow ho : List (Int × Value)} {f : Str → Option Value} {xs : CX} {Y : LD} {gen : Int} {par : Str → List Str} {cod : Str → Option Addr} {en : List (Str × Value)} {fh : Str → Option Value} (Z : ZOk K V (ccF S799 799 t799 q v) c dz) (hd : 40 ≤ dz) (hcc : c.cl.lookup (Str.ofString "k") = some a.cell) (F : Fix c.w a G gen par cod en fh) (hk : kk < 6) (hr : RefN c.w G r (aX a kk)) (hw : wy = 6) (h2 : kk < 2) {j : Nat} (hj : 2 + Int.fmod (i : Int) 4 = (j : Int)) (hj6 : j < 6) {g gj : Str → Option Value} {m : Int} {mu : Tok} (hm : gj (Str.ofString "count") = some (.int m mu)) (hol : ho.length ≤ 90) (hzl : zs.length ≤ 80) {r2 : Addr} {j2 : Nat} (hj26 : j2 < 6) {gj2 : Str → Option Value} {m2 : Int} {mu2 : Tok} (hm2 : gj2 (Str.ofString "count") = some (.int m2 mu2)) (hs : ScF g (.ref r2)) (hr2 : RefN c.w G r2 (aX a j2))
    (k : ∀ (r' : Addr) (u1 u2 : Tok) (zs2 : List Value) G', Keep G G' → RefN c.w G' r' (aX a j) → zs2.length ≤ zs.length + 1 → Se c (tuA a i u uw up wy P r) G' (maL a I io (some (.int (kk : Int) uk)) n t zs2 hb ow (stored ho (kk : Int) (.bool true)) f tb xs ((aD a kk, .di (valU g (.ref r'))) :: (aD a j, .di (cntU gj (m + 1) u1)) :: (aD a j2, .di (cntU gj2 (m2 - 1) u2)) :: Y)) (tuB 6) (lawE c q v) fin) : Se c (tuA a i u uw up wy P r) G (maL a I io (some (.int (kk : Int) uk)) n t zs hb ow ho f tb xs ((aD a kk, .di g) :: (aD a j, .di gj) :: (aD a j2, .di gj2) :: Y)) (tuB 5) (lawE c q v) fin := by
  obtain ⟨⟨svs, sns, hsl, hI, hlen⟩, hhp, hrn, ⟨uf, hfm⟩, hct, hst, _, htl, _⟩ := id F.law
  obtain ⟨drn, frn, rn1, rn2, ⟨h1, _, _, _, h5⟩⟩ := id hrn.ex
  have hcs := F.ctr
  refine elEEAA (id hct.ex) ?_; rintro cd cpl c1 c2 c3
  have hw1 : decide (wy < 4) = false := decide_eq_false (by omega)
  have hw2 : (wy == 4) = false := beq_eq_false_iff_ne.mpr (by omega)
  have hw3 : (wy == 5) = false := beq_eq_false_iff_ne.mpr (by omega)
  have hw4 : (wy == 6) = true := beq_iff_eq.mpr hw
  have hk2 : decide ((kk : Int) < 2) = true := decide_eq_true (by omega)
  have hsc : OAt c.w G (aX a kk) (.ob (instObj 87 (aD a kk))) := aC_sc h2 ▸ aX_at F.law hk
  have hyj := aX_at F.law hj6
  have htj := aC_th hj6
  have hyj2 := aX_at F.law hj26
  have htj2 := aC_th hj26
  refine se_seq 1 (se_run Z 4000 ?_)
  k_extra "go"
  k_extra "st"
  refine' tri_use (c_storeRR HK a.ctr a.hp a.dhp a.zl (aX a kk) (aD a kk) r9 (aX a j) (aD a j) (aC j) r2 (aX a j2) (aD a j2) (aC j2) fh g gj gj2 m m2 mu mu2 zs hs htj htj2 hm hm2 (by omega)) Z ?jd ?jc ?jp ?_
  case jd => omega
  case jc => k_extra "cut"
  case jp => exact fun G' k' h' => ⟨hcs.keeps k', hsc.keeps k', ⟨⟨dr9, _, h' (r9, .ob _) (by k_extra "mm"), h' (dr9, .di _) (by k_extra "mm"), rfl, rfl⟩, hyj.keeps k'⟩, hr2.keeps k', hyj2.keeps k'⟩
  intro u9 u8 zs9 hz9
  k_extra "go"
  k_extra "st"
  refine se_fz (maL a I io (some (.int (kk : Int) uk)) n t zs9 hb ow (stored ho (kk : Int) (.bool true)) f tb xs ((aD a kk, .di _) :: (aD a j, .di _) :: (aD a j2, .di _) :: Y)) (R := [(r9, .ob (instObj 183 dr9)), (dr9, .di _)]) (by k_extra "cut") fun G' k' h' => ?_
  exact se_sub (tuA a i u uw up wy P r) _ (by k_extra "ls") rfl Cut.all (k r9 _ _ _ G' k' ⟨dr9, _, h' (r9, .ob _) (by k_extra "mm"), h' (dr9, .di _) (by k_extra "mm"), rfl, rfl⟩ hz9)
theorem int_isD {w : World} {k : Int} {v : Value} (h : (PySem.intKind PG w).is k v = true) : ∃ t, v = .int k t := by
  cases v <;> simp [PySem.intKind, Value.isInt] at h
  exact ⟨_, by rw [h]⟩
theorem valueAt_snoc {K : Type} [DecidableEq K] {kvs : List (K × Value)} : ∀ {k : K}, valueAt kvs k = (kvs.find? fun p => decide (p.1 = k)).map (·.2) := rfl
open Classical in
theorem dcomp_pairs {w : World} {i : Int} {l : List Value} {kvs : List (Int × Value)} (h : StoredAll (fun v k => ∃ t, v = .int k t) (fun _ y => y = .bool true) l kvs) : ∀ j, valueAt kvs j = if ∃ t, Value.int j t ∈ l then some (Value.bool true) else none := by
  induction h with
  | nil => intro j; simp [valueAt]
  | @snoc l kvs v k y _ hk hy ih =>
    refine elE hk ?_; (try clear hk); rintro t rfl
    subst hy
    intro j
    rw [valueAt_stored, ih]
    by_cases e : j = k
    · subst e
      rw [if_pos rfl, if_pos ⟨t, List.mem_append.mpr (.inr (.head _))⟩]
    · rw [if_neg e]
      congr 1
      refine propext ⟨fun ⟨t, h⟩ => ⟨t, List.mem_append.mpr (.inl h)⟩, fun ⟨t', h⟩ => ?_⟩
      rcases List.mem_append.mp h with h | h
      · exact ⟨t', h⟩
      · cases List.mem_singleton.mp h; exact absurd rfl e
theorem valueAt_isSome {kvs : List (Int × Value)} {j : Int} : (valueAt kvs j).isSome = true ↔ ∃ (n : Nat) (v : Value), kvs[n]? = some (j, v) := by
  unfold valueAt
  rw [Option.isSome_map, List.find?_isSome]
  constructor
  · intro zI1; refine elEA zI1 ?_; (try clear zI1); rintro p hp e
    refine elE (List.getElem?_of_mem hp) ?_; rintro n hn
    exact ⟨n, p.2, by rw [hn, ← of_decide_eq_true e]⟩
  · intro zI1; refine elEE zI1 ?_; (try clear zI1); rintro n v hn
    exact ⟨_, List.mem_of_getElem? hn, by simp⟩
theorem dcomp_ne {w : World} {A : Around} {E : Value → Shared → Prop} {s : Shared} {env : Env} {scope : Scope} {cl : List (Str × Addr)} {c : Addr} {i : Int} {ti : Tok} {iter : PySem.Expr} {p1 p2 px p3 p4 p5 pos : Pos} {x y : Str} {Q : Value → Shared → Prop}
    (hh : A.handled = none) (hclos : closureFor scope env = pure cl) (hcell : ∀ z ∈ scope.names, z.2 ≠ .cell) (hkind : scope.kind = .function)
    (hnames : ∀ z ∈ scope.names, z.2 = .local → scope.names.lookup z.1 = some .local) (hx : scope.names.lookup x = some .local)
    (hy : ∀ C, (compEnvC scope cl C env).kindOf y = some .cell) (hcl : cl.lookup y = some c) (dx : (x == ("__debug__" : Str)) = false) (dy : (y == ("__debug__" : Str)) = false)
    (h : wpAny (model PG w) A (eval iter env) (fun xv s₁ => (∃ ho kvs, xv = .ref ho ∧ (ho == sysModules) = false ∧ s₁.heap.DictOf (PySem.intKind PG w) ho kvs ∧ kvs.length ≤ 10000 ∧ s₁.heap.IsCell c (some (.int i ti)) ∧ sysModules < s₁.heap.objs.size ∧
      ∀ D h' tk kvs', s₁.heap.get? D = none → (D == sysModules) = false → h'.DictOf (PySem.intKind PG w) D kvs' → kvs'.length ≤ kvs.length → (∀ j, (valueAt kvs' j).isSome = (decide (j ≠ i) && (valueAt kvs j).isSome)) → Keep s₁.heap h' → Q (.ref D) { s₁ with heap := h', toks := tk })) E s)
    (hs : ∀ x, foldedSetIterable iter env x = pure x := by intro _; rfl) :
    wpAny (model PG w) A (eval (.DictComp (.Name x p1) (.Constant (.bool true) 0 p2) [⟨.Name x px, iter, [.Compare (.Name x p3) [.NotEq] [.Name y p4] p5], 0⟩] scope pos) env) Q E s := by
  rw [arm_eval_DictComp]
  refine wpAny_comprehension_free (use := none) rfl hs hclos hkind hnames (wpAny_mono h (fun xv s₁ h₁ => ?_) fun _ _ e => e)
  refine elEEAAAAAA h₁ ?_; (try clear h₁); rintro ho kvs rfl hd hl hlen hc hbig hQ
  refine elE hl.dictAt ?_; rintro ep hat
  refine wpAny_pyIter_dict hd hat ?_
  have hne : ho ≠ s₁.heap.objs.size := Nat.ne_of_lt hat.lt_size
  have old : ∀ {h' : Heap}, (∀ b o, b ∉ [s₁.heap.objs.size] → (s₁.heap.push { cls := .type "dict_keyiterator", data := .fields #[.ref ho, .int 0 0, .int kvs.length 0, .int ep 0] }).get? b = some o → h'.get? b = some o) → Keep s₁.heap h' := fun hk b o e => hk b o (fun hm => Nat.lt_irrefl _ ((List.mem_singleton.mp hm) ▸ Heap.lt_size e)) (Heap.get?_push_of_some _ e)
  have hk2 : ∀ C, (compEnvC scope cl C env).scope.kind = .function := fun C => hkind
  have hl2 : ∀ C, (compEnvC scope cl C env).kindOf x = some .local := fun C => lookup_relabel_local hx
  have key := comp_block_walkCD (A := A) (E := E) (knd := PySem.intKind PG w) (kx := .Name x p1) (vx := .Constant (.bool true) 0 p2) (x := x) (px := px) (iter := iter) (ifs := [.Compare (.Name x p3) [.NotEq] [.Name y p4] p5]) (scope := scope) (cl := cl) (env := env) (pos := pos) (s₂ := { s₁ with heap := s₁.heap.push { cls := .type "dict_keyiterator", data := .fields #[.ref ho, .int 0 0, .int kvs.length 0, .int ep 0] } })
    (Walks.dictKeys (prog := PG) (w := w) (knd := PySem.intKind PG w) hh _ ho hne kvs ep) (by rw [sizeLine_eq]; omega) (fun v => match v with | .int j _ => j != i | _ => false) (fun v k => ∃ t, v = .int k t) (fun _ y => y = .bool true)
    (RR := fun acc C r s' => (∀ D, acc = .ref D → (D == sysModules) = false) → compPost (model PG w) A E none Q acc C r s') hcell hkind hx ⟨⟨_, Heap.get?_push_size _ rfl, rfl, rfl⟩, hat.push _⟩ ?_ ⟨?_, ?_, ?_⟩ ?_
  · intro Γ p hΓ
    refine wpAny_newObj_type (Q := fun acc s₃ => wpAny (model PG w) A (newFunctionEnv scope env.globals cl [] env.qual none .none (some env)) (fun cenv s₄ => codeAny (model PG w) A (.compStart _ 0 _ acc { cenv with scope := relabel scope env }) (compPost (model PG w) A E none Q acc cenv.locals) s₄) E s₃) ?_ (by size_fits) Γ p hΓ
    refine wpAny_mono (show wpAny (model PG w) A (newFunctionEnv scope env.globals cl [] env.qual none .none (some env)) _ E _ from key Γ p hΓ) (fun cenv s₄ h₄ => codeAny_mono h₄ fun r s' hr => hr fun D e => ?_) fun _ _ e => e
    cases e
    refine beq_eq_false_iff_ne.mpr (Nat.ne_of_gt (Nat.lt_trans hbig ?_))
    show _ < (s₁.heap.push _).objs.size
    rw [Heap.size_push]; exact Nat.lt_succ_self _
  · intro b hb
    show b < (s₁.heap.push _).objs.size
    rw [Heap.size_push]
    rcases List.mem_cons.mp hb with rfl | hb
    · exact Nat.lt_succ_self _
    · rw [List.mem_singleton.mp hb]; exact Nat.lt_succ_of_lt hat.lt_size
  · intro C i' v s₃ m₃ E' zI1 hn hm hk; refine elEEA zI1 ?_; (try clear zI1); rintro k xv hkv hkey
    refine elE (int_isD hkey) ?_; rintro t rfl
    refine wpAny_tests_one ?_
    refine wpAny_isTrue_Compare1 (wpAny_Name (wpAny_loadName_local (hk2 C) (hl2 C) hn hm ?_) dx)
    refine wpAny_Name (wpAny_loadName_cell (hk2 C) (hy C) hcl (hc.keeps (old hk)) ?_) dy
    refine ne_int ?_
    exact wpAny_truthy_bool ⟨rfl, _, _, rfl, fun _ _ e => e⟩
  · intro C i' v s₃ m₃ E' zI1 hp hn hm hk; refine elEEA zI1 ?_; (try clear zI1); rintro k xv hkv hkey
    refine elE (int_isD hkey) ?_; rintro t rfl
    exact wpAny_Name (wpAny_loadName_local (hk2 C) (hl2 C) hn hm ⟨⟨k, hkey, t, rfl⟩, _, _, rfl, fun _ _ e => e⟩) dx
  · intro C i' v s₃ m₃ E' _ hp hn hm hk
    exact wpAny_Constant_bool ⟨rfl, _, _, rfl, fun _ _ e => e⟩
  · intro D C h' tk m' kvs' vs hD hC hDC hnC hl' hlen' hP hF hk hsm
    refine ⟨m', hnC, fun h'' hs'' => hQ D h'' tk kvs' ?_ (hsm D rfl) (hl'.extBut hs''.extBut hDC) ?_ ?_ (fun b o e => hs''.extBut b o (by rintro rfl; rw [Heap.get?_push_of_some _ e] at hC; cases hC) (old hk b o e))⟩
    · cases e : s₁.heap.get? D with
      | none => rfl
      | some o => rw [Heap.get?_push_of_some _ e] at hD; cases hD
    · exact Nat.le_trans (Nat.le_trans hF.length_le (List.length_filter_le _ _)) (Nat.le_of_eq hlen')
    · intro j
      rw [dcomp_pairs (w := w) (i := i) hF]
      by_cases q : ∃ t, Value.int j t ∈ vs.filter (fun v => match v with | .int j _ => j != i | _ => false)
      · rw [if_pos q]
        refine elE q ?_; (try clear q); rintro t q
        refine elA (List.mem_filter.mp q) ?_; rintro q1 q2
        refine elE (List.getElem?_of_mem q1) ?_; rintro n hn
        refine elEEA (hP _ _ hn) ?_; rintro k xv hkv hkey
        refine elE (int_isD hkey) ?_; rintro t' e
        cases e
        have : (valueAt kvs j).isSome = true := valueAt_isSome.mpr ⟨_, _, hkv⟩
        rw [this]
        simpa using q2
      · rw [if_neg q]
        symm
        by_cases e : j = i
        · subst e; simp
        · cases e2 : valueAt kvs j with
          | none => simp
          | some v =>
            exfalso
            refine elEE (valueAt_isSome.mp (by rw [e2]; rfl : (valueAt kvs j).isSome = true)) ?_; rintro n v' hn
            have hn2 : n < vs.length := by rw [hlen']; exact (List.getElem?_eq_some_iff.mp hn).1
            refine elEEA (hP n _ (List.getElem?_eq_getElem hn2)) ?_; rintro k xv hkv hkey
            rw [hn] at hkv; cases hkv
            refine elE (int_isD hkey) ?_; rintro t' e3
            exact q ⟨t', List.mem_filter.mpr ⟨e3 ▸ List.getElem_mem hn2, by simpa using e⟩⟩
section
variable {K0 : Params → Frag} {V : Program} {cc : CC} {c : Cf} {dz k : Nat} {l : List (Str × Value)} {H : Heap} {ld : LD}
noncomputable def dcK (cc : CC) (c : Cf) (ca : Addr) (i : Int) (ti : Tok) (KF : Kt Flow) (n2 : Nat) (tgt : PySem.Expr) : Kt Flow := fun fl l' H' ld' => Stp 18 (∃ ho kvs, fl = .ret (.ref ho) ∧ (ho, Ds.nd kvs) ∈ ld' ∧ kvs.length ≤ 1000 ∧ (ca, Ds.ce (some (.int i ti))) ∈ ld' ∧ ∀ D kvs', kvs'.length ≤ kvs.length → (∀ j, (valueAt kvs' j).isSome = (decide (j ≠ i) && (valueAt kvs j).isSome)) → run cc c KF n2 (.va (.ref D)) [.asg tgt] l' H' ((D, .nd kvs') :: ld'))
theorem dcMk {cc : CC} {c : Cf} {ca : Addr} {i : Int} {ti : Tok} {KF : Kt Flow} {n2 : Nat} {tgt : PySem.Expr} {l : List (Str × Value)} {H : Heap} {ld : LD} {ho : Addr} {kvs : List (Int × Value)} (m1 : (ho, Ds.nd kvs) ∈ ld) (hz : kvs.length ≤ 1000) (m2 : (ca, Ds.ce (some (.int i ti))) ∈ ld) (h : ∀ D kvs', kvs'.length ≤ kvs.length → (∀ j, (valueAt kvs' j).isSome = (decide (j ≠ i) && (valueAt kvs j).isSome)) → run cc c KF n2 (.va (.ref D)) [.asg tgt] l H ((D, .nd kvs') :: ld)) :
    Stp 18 (∃ ho' kvs, Flow.ret (.ref ho) = .ret (.ref ho') ∧ (ho', Ds.nd kvs) ∈ ld ∧ kvs.length ≤ 1000 ∧ (ca, Ds.ce (some (.int i ti))) ∈ ld ∧ ∀ D kvs', kvs'.length ≤ kvs.length → (∀ j, (valueAt kvs' j).isSome = (decide (j ≠ i) && (valueAt kvs j).isSome)) → run cc c KF n2 (.va (.ref D)) [.asg tgt] l H ((D, .nd kvs') :: ld)) := .mk ⟨ho, kvs, rfl, m1, hz, m2, h⟩
theorem e_asDC {KF : Kt Flow} {x z : Str} {ca : Addr} {i : Int} {ti : Tok} {sc : Scope} {iter ob ix : PySem.Expr} {p1 p2 px p3 p4 p5 pos pa spos : Pos} (n n2 : Nat) (Z : ZOk K0 V cc c dz) (hcl : c.cl = [(z, ca)])
    (hsw : ∀ L, swapsWith (.DictComp (.Name x p1) (.Constant (.bool true) 0 p2) [⟨.Name x px, iter, [.Compare (.Name x p3) [.NotEq] [.Name z p4] p5], 0⟩] sc pos) (some (.Subscript ob ix pa)) spos.line (envX cc.qual cc.scope L cc.fa cc.cdv [(z, ca)]) = pure false)
    (hclos : ∀ L, closureFor sc (envX cc.qual cc.scope L cc.fa cc.cdv [(z, ca)]) = pure [(z, ca)])
    (hfs : ∀ L x, foldedSetIterable iter (envX cc.qual cc.scope L cc.fa cc.cdv [(z, ca)]) x = pure x)
    (hcell : ∀ y ∈ sc.names, y.2 ≠ .cell) (hkind : sc.kind = .function) (hnames : ∀ y ∈ sc.names, y.2 = .local → sc.names.lookup y.1 = some .local) (hx : sc.names.lookup x = some .local)
    (hz : ∀ C, (compEnvC sc [(z, ca)] C (envE cc c)).kindOf z = some .cell) (dx : (x == ("__debug__" : Str)) = false) (dy : (z == ("__debug__" : Str)) = false)
    (hm : (ca, Ds.ce (some (.int i ti))) ∈ ld)
    (hit : run cc c (dcK cc c ca i ti KF n2 (.Subscript ob ix pa)) n (.ev iter) [.ret] l H ld) :
    Stp k (Sp c l H ld (exec (.Assign [.Subscript ob ix pa] (.DictComp (.Name x p1) (.Constant (.bool true) 0 p2) [⟨.Name x px, iter, [.Compare (.Name x p3) [.NotEq] [.Name z p4] p5], 0⟩] sc pos) spos) (envE cc c)) KF) := .mk fun h t A => by
  have hsw' := hsw c.L
  have hclos' := hclos c.L
  have hfs' := hfs c.L
  rw [← hcl] at hsw' hclos' hfs'
  refine wpAny_Assign_Subscript ?_ hsw'
  refine dcomp_ne (cl := [(z, ca)]) (c := ca) (i := i) (ti := ti) Z.q (hclos'.trans (by rw [hcl])) hcell hkind hnames hx hz (by simp) dx dy ?_ hfs'
  refine wpAny_mono (run_snd Z.toEOk n (.ev iter) [.ret] l H ld hit h t A) (fun xv s₁ hb => ?_) fun _ _ e => e
  obtain ⟨l₁, H₁, ld₁, h₁, t₁, A₁, q⟩ := (show Bk c (dcK cc c ca i ti KF n2 (.Subscript ob ix pa)) (.ret xv) s₁ from hb)
  obtain ⟨ho, kvs, e, m1, hlz, m2, hgo⟩ := Stp.get q
  cases e
  have d1 := Hd.dict (knd := PySem.intKind PG c.w) (.l m1) rfl (fun _ h => h) A₁
  obtain ⟨_, oc, ec, sc9⟩ := A₁.oat m2
  refine ⟨ho, kvs, rfl, d1.2, d1.1, by omega, ⟨oc, ec, sc9⟩, A₁.size, fun D h' tk kvs' hD hms hDD hle hv k9 => ?_⟩
  obtain ⟨m, S, F⟩ := A₁.ex
  obtain ⟨oD, hoD, hDi⟩ := DicO.of hDD
  have A' : At c l₁ H₁ ((D, .nd kvs') :: ld₁) h' := A₁.step (as := []) (B := [(D, .nd kvs')]) (R := ld₁) S (fr_ext F k9) (fun b o e _ _ => k9 b o e) (fun _ h => nomatch h) (fun p hp => ⟨hp, fun h => nomatch h⟩) (List.pairwise_cons.mp A₁.lg.ne).2 (fun p hp => by
    cases List.mem_singleton.mp hp
    exact ⟨⟨fun _ => hms, oD, hoD, hDi⟩, .inl hD⟩) (List.pairwise_singleton _ _)
  exact run_snd Z.toEOk n2 (.va (.ref D)) [.asg (.Subscript ob ix pa)] l₁ H₁ _ (hgo D kvs' hle hv) h' tk A'
end
theorem c41_dummy : True := trivial
theorem bk_set {o h p e D : Addr} : stored (bookL o h p e) (Str.ofString "holds") (.ref D) = bookL o D p e := by with_unfolding_all rfl
theorem tu_C5a {K : Params → Frag} {V : Program} (HK : KOk K) {q : Str} {v : Value} {c : Cf} {dz : Nat} {a : LA} {G : Heap} {fin : Kt Flow} {I : Addr} {io : Obj} {u uk uw up t : Tok} {i kk : Nat} {n wy : Int} {P : Str} {zs : List Value} {hb tb r : Addr} {ow ho : List (Int × Value)} {f : Str → Option Value} {xs : CX} {Y : LD} {gen : Int} {par : Str → List Str} {cod : Str → Option Addr} {en : List (Str × Value)} {fh : Str → Option Value} (Z : ZOk K V (ccF S799 799 t799 q v) c dz) (hd : 40 ≤ dz) (hcc : c.cl.lookup (Str.ofString "k") = some a.cell) (F : Fix c.w a G gen par cod en fh) (hk : kk < 6) (hr : RefN c.w G r (aX a kk)) (hcl : c.cl = [(Str.ofString "k", a.cell)]) (hw : wy = 7) (h2 : kk < 2) {g : Str → Option Value} (hol : ho.length ≤ 90) {o : Value} (hs : ScF g o) (hpo : Plain o)
    (k : ∀ (vp : Value) (hb2 : Addr) (ho2 : List (Int × Value)), Plain vp → ho2.length ≤ ho.length → (∀ j, (valueAt ho2 j).isSome = (decide (j ≠ (kk : Int)) && (valueAt ho j).isSome)) → Se c (tuA a i u uw up wy P r) G (maL a I io (some (.int (kk : Int) uk)) n t zs hb2 ow ho2 f tb xs ((aD a kk, .di (valU g vp)) :: Y)) (tuB 6) (lawE c q v) fin) : Se c (tuA a i u uw up wy P r) G (maL a I io (some (.int (kk : Int) uk)) n t zs hb ow ho f tb xs ((aD a kk, .di g) :: Y)) (tuB 5) (lawE c q v) fin := by
  obtain ⟨⟨svs, sns, hsl, hI, hlen⟩, hhp, hrn, ⟨uf, hfm⟩, hct, hst, _, htl, _⟩ := id F.law
  obtain ⟨drn, frn, rn1, rn2, ⟨h1, _, _, _, h5⟩⟩ := id hrn.ex
  have hcs := F.ctr
  refine elEEAA (id hct.ex) ?_; rintro cd cpl c1 c2 c3
  have hw1 : decide (wy < 4) = false := decide_eq_false (by omega)
  have hw2 : (wy == 4) = false := beq_eq_false_iff_ne.mpr (by omega)
  have hw3 : (wy == 5) = false := beq_eq_false_iff_ne.mpr (by omega)
  have hw4 : (wy == 6) = false := beq_eq_false_iff_ne.mpr (by omega)
  have hw5 : (wy == 7) = true := beq_iff_eq.mpr hw
  have hk2 : decide ((kk : Int) < 2) = true := decide_eq_true (by omega)
  have hsc : OAt c.w G (aX a kk) (.ob (instObj 87 (aD a kk))) := aC_sc h2 ▸ aX_at F.law hk
  refine se_seq 1 (se_run Z 4000 ?_)
  k_extra "go"
  have hp9 : Plain v9 := by
    rcases List.mem_cons.mp hv9 with rfl | hv9
    · exact rfl
    rcases List.mem_cons.mp hv9 with rfl | hv9
    · exact rfl
    · cases List.mem_singleton.mp hv9; exact rfl
  k_extra "st"
  refine' tri_use (c_storePP HK a.ctr a.hp a.dhp a.zl (aX a kk) (aD a kk) fh g v9 o hs hpo hp9) Z ?jd ?jc ?jp ?_
  case jd => omega
  case jc => k_extra "cut"
  case jp => exact fun G' k' h' => ⟨hcs.keeps k', hsc.keeps k'⟩
  k_extra "go"
  k_extra "st"
  refine' e_asDC 4000 4000 Z hcl ?hsw ?hclos ?hfs ?hcell ?hkind ?hnames ?hx ?hz ?dx ?dy (ca := a.cell) (i := (kk : Int)) (ti := uk) ?hm ?_
  case hsw => exact fun _ => by with_unfolding_all rfl
  case hclos => exact fun _ => by with_unfolding_all rfl
  case hfs => exact fun _ _ => rfl
  case hcell => decide
  case hkind => rfl
  case hnames => decide
  case hx => rfl
  case hz => exact fun _ => rfl
  case dx => rfl
  case dy => rfl
  case hm => k_extra "mm"
  k_extra "go"
  refine' dcMk (ho := hb) (kvs := ho) ?m1 ?mz ?m2 fun D9 kvs9 hl9 hv9 => ?_
  case m1 => k_extra "mm"
  case m2 => k_extra "mm"
  case mz => omega
  k_extra "go"
  k_extra "st"
  rw [bk_set]
  refine' se_sub (tuA a i u uw up wy P r) _ ?a1 rfl ?a3 (k v9 D9 kvs9 hp9 hl9 hv9)
  case a1 => k_extra "ls"
  case a3 => k_extra "cut"
theorem tu_C5b {K : Params → Frag} {V : Program} (HK : KOk K) {q : Str} {v : Value} {c : Cf} {dz : Nat} {a : LA} {G : Heap} {fin : Kt Flow} {I : Addr} {io : Obj} {u uk uw up t : Tok} {i kk : Nat} {n wy : Int} {P : Str} {zs : List Value} {hb tb r : Addr} {ow ho : List (Int × Value)} {f : Str → Option Value} {xs : CX} {Y : LD} {gen : Int} {par : Str → List Str} {cod : Str → Option Addr} {en : List (Str × Value)} {fh : Str → Option Value} (Z : ZOk K V (ccF S799 799 t799 q v) c dz) (hd : 40 ≤ dz) (hcc : c.cl.lookup (Str.ofString "k") = some a.cell) (F : Fix c.w a G gen par cod en fh) (hk : kk < 6) (hr : RefN c.w G r (aX a kk)) (hcl : c.cl = [(Str.ofString "k", a.cell)]) (hw : wy = 7) (h2 : kk < 2) {g : Str → Option Value} (hol : ho.length ≤ 90) {ro : Addr} {j : Nat} (hj6 : j < 6) {gj : Str → Option Value} {m : Int} {mu : Tok} (hm : gj (Str.ofString "count") = some (.int m mu)) (hzl : zs.length ≤ 80) (hs : ScF g (.ref ro)) (hro : RefN c.w G ro (aX a j))
    (k : ∀ (vp : Value) (hb2 : Addr) (ho2 : List (Int × Value)) (u1 : Tok) (zs2 : List Value), zs2.length ≤ zs.length + 1 → Plain vp → ho2.length ≤ ho.length → (∀ j, (valueAt ho2 j).isSome = (decide (j ≠ (kk : Int)) && (valueAt ho j).isSome)) → Se c (tuA a i u uw up wy P r) G (maL a I io (some (.int (kk : Int) uk)) n t zs2 hb2 ow ho2 f tb xs ((aD a kk, .di (valU g vp)) :: (aD a j, .di (cntU gj (m - 1) u1)) :: Y)) (tuB 6) (lawE c q v) fin) : Se c (tuA a i u uw up wy P r) G (maL a I io (some (.int (kk : Int) uk)) n t zs hb ow ho f tb xs ((aD a kk, .di g) :: (aD a j, .di gj) :: Y)) (tuB 5) (lawE c q v) fin := by
  obtain ⟨⟨svs, sns, hsl, hI, hlen⟩, hhp, hrn, ⟨uf, hfm⟩, hct, hst, _, htl, _⟩ := id F.law
  obtain ⟨drn, frn, rn1, rn2, ⟨h1, _, _, _, h5⟩⟩ := id hrn.ex
  have hcs := F.ctr
  refine elEEAA (id hct.ex) ?_; rintro cd cpl c1 c2 c3
  have hw1 : decide (wy < 4) = false := decide_eq_false (by omega)
  have hw2 : (wy == 4) = false := beq_eq_false_iff_ne.mpr (by omega)
  have hw3 : (wy == 5) = false := beq_eq_false_iff_ne.mpr (by omega)
  have hw4 : (wy == 6) = false := beq_eq_false_iff_ne.mpr (by omega)
  have hw5 : (wy == 7) = true := beq_iff_eq.mpr hw
  have hk2 : decide ((kk : Int) < 2) = true := decide_eq_true (by omega)
  have hsc : OAt c.w G (aX a kk) (.ob (instObj 87 (aD a kk))) := aC_sc h2 ▸ aX_at F.law hk
  have hyj := aX_at F.law hj6
  have htj := aC_th hj6
  refine se_seq 1 (se_run Z 4000 ?_)
  k_extra "go"
  have hp9 : Plain v9 := by
    rcases List.mem_cons.mp hv9 with rfl | hv9
    · exact rfl
    rcases List.mem_cons.mp hv9 with rfl | hv9
    · exact rfl
    · cases List.mem_singleton.mp hv9; exact rfl
  k_extra "st"
  refine' tri_use (c_storePR HK a.ctr a.hp a.dhp a.zl (aX a kk) (aD a kk) ro (aX a j) (aD a j) (aC j) fh g gj v9 m mu zs hs hp9 htj hm (by omega)) Z ?jd ?jc ?jp ?_
  case jd => omega
  case jc => k_extra "cut"
  case jp => exact fun G' k' h' => ⟨hcs.keeps k', hsc.keeps k', hro.keeps k', hyj.keeps k'⟩
  intro u9 zs9 hz9
  k_extra "go"
  k_extra "st"
  refine' e_asDC 4000 4000 Z hcl ?hsw ?hclos ?hfs ?hcell ?hkind ?hnames ?hx ?hz ?dx ?dy (ca := a.cell) (i := (kk : Int)) (ti := uk) ?hm ?_
  case hsw => exact fun _ => by with_unfolding_all rfl
  case hclos => exact fun _ => by with_unfolding_all rfl
  case hfs => exact fun _ _ => rfl
  case hcell => decide
  case hkind => rfl
  case hnames => decide
  case hx => rfl
  case hz => exact fun _ => rfl
  case dx => rfl
  case dy => rfl
  case hm => k_extra "mm"
  k_extra "go"
  refine' dcMk (ho := hb) (kvs := ho) ?m1 ?mz ?m2 fun D9 kvs9 hl9 hv9 => ?_
  case m1 => k_extra "mm"
  case m2 => k_extra "mm"
  case mz => omega
  k_extra "go"
  k_extra "st"
  rw [bk_set]
  refine' se_sub (tuA a i u uw up wy P r) (maL a I io (some (.int (kk : Int) uk)) n t zs9 D9 ow kvs9 f tb xs ((aD a kk, .di _) :: (aD a j, .di _) :: Y)) ?a1 rfl ?a3 ?k9
  case a1 => k_extra "ls"
  case a3 => k_extra "cut"
  case k9 => exact k v9 D9 kvs9 _ zs9 hz9 hp9 hl9 hv9
theorem ma_cut {a : LA} {I : Addr} {io : Obj} {cv : Option Value} {n : Int} {t : Tok} {zs : List Value} {hb : Addr} {ow ho : List (Int × Value)} {f : Str → Option Value} {tb : Addr} {xs : CX} {Y Y' : LD} (x : Cut Y Y' []) : Cut (maL a I io cv n t zs hb ow ho f tb xs Y) (maL a I io cv n t zs hb ow ho f tb xs Y') [] :=
  .under (.under (.under (.under (.under (.under (.under (.under (.under x))))))))
noncomputable abbrev ThS (w : World) (G : Heap) (a : LA) (fT : Nat → Str → Option Value) (ow ho : List (Int × Value)) : Prop := ∀ j, j < 6 → ∃ t, TOk w G a j (fT j) ow ho t
theorem ThS.keeps {w : World} {G G' : Heap} {a : LA} {fT : Nat → Str → Option Value} {ow ho : List (Int × Value)} (x : ThS w G a fT ow ho) (k : Keep G G') : ThS w G' a fT ow ho := fun j h => let ⟨t, y⟩ := x j h; ⟨t, y.keeps k⟩
theorem ThS.up {w : World} {G : Heap} {a : LA} {fT : Nat → Str → Option Value} {ow ho ow' ho' : List (Int × Value)} {kk : Nat} {g : Str → Option Value} (x : ThS w G a fT ow ho) (y : ∃ t, TOk w G a kk g ow' ho' t) (h1 : ∀ j : Nat, j ≠ kk → valueAt ow' (j : Int) = valueAt ow (j : Int)) (h2 : ∀ j : Nat, j ≠ kk → (valueAt ho' (j : Int)).isSome = (valueAt ho (j : Int)).isSome) : ThS w G a (upN fT kk g) ow' ho' := fun j hj => by
  by_cases e : j = kk
  · subst e; rw [upN_at]; exact y
  · rw [upN_ne e]
    obtain ⟨t, z⟩ := x j hj
    exact ⟨t, z.bk (h1 j e) (h2 j e)⟩
theorem cast_ne {j kk : Nat} (h : j ≠ kk) : (j : Int) ≠ (kk : Int) := fun e => h (by omega)
theorem ThS.bless {w : World} {G : Heap} {a : LA} {fT : Nat → Str → Option Value} {ow ho : List (Int × Value)} {kk : Nat} {p : Str} {u u' : Tok} (x : ThS w G a fT ow ho) (hk : kk < 6) (hp : PkOk p) : ThS w G a (upN fT kk (blU (fT kk) p u)) (stored ow (kk : Int) (.str p u')) ho :=
  x.up (let ⟨_, y⟩ := x kk hk; ⟨_, y.bless hp⟩) (fun _ h => valueAt_ne (cast_ne h)) fun _ _ => rfl
theorem ThS.count {w : World} {G : Heap} {a : LA} {fT : Nat → Str → Option Value} {ow ho : List (Int × Value)} {j : Nat} {g : Str → Option Value} (x : ThS w G a fT ow ho) (y : ∃ t, TOk w G a j g ow ho t) : ThS w G a (upN fT j g) ow ho := x.up y (fun _ _ => rfl) fun _ _ => rfl
theorem stored_some {kvs : List (Int × Value)} {j kk : Nat} {v : Value} (h : j ≠ kk) : (valueAt (stored kvs (kk : Int) v) (j : Int)).isSome = (valueAt kvs (j : Int)).isSome := by rw [valueAt_ne (cast_ne h)]
theorem tu_D1 {K : Params → Frag} {V : Program} (HK : KOk K) {q : Str} {v : Value} {c : Cf} {dz : Nat} {a : LA} {G : Heap} {fin : Kt Flow} {I : Addr} {io : Obj} {u uk uw up t : Tok} {i kk : Nat} {n wy : Int} {P : Str} {zs : List Value} {hb tb r : Addr} {ow ho : List (Int × Value)} {f : Str → Option Value} {xs : CX} {gen : Int} {par : Str → List Str} {cod : Str → Option Addr} {en : List (Str × Value)} {fh : Str → Option Value} (Z : ZOk K V (ccF S799 799 t799 q v) c dz) (hd : 40 ≤ dz) (hcc : c.cl.lookup (Str.ofString "k") = some a.cell) (F : Fix c.w a G gen par cod en fh) (hk : kk < 6) (hr : RefN c.w G r (aX a kk)) {fT : Nat → Str → Option Value} (hT : ThS c.w G a fT ow ho) (how : ow.length ≤ 80) (hol : ho.length ≤ 80) (hzl : zs.length ≤ 80) (hP : P ∈ pkL) (hw : wy < 4)
    (k : ∀ zs' hb' ow' ho' fT' G', Keep G G' → zs'.length ≤ zs.length + 1 → ow'.length ≤ ow.length + 1 → ho'.length ≤ ho.length + 1 → ThS c.w G' a fT' ow' ho' → Se c (tuA a i u uw up wy P r) G' (maL a I io (some (.int (kk : Int) uk)) n t zs' hb' ow' ho' f tb xs (thM a fT' six)) (tuB 6) (lawE c q v) fin) : Se c (tuA a i u uw up wy P r) G (maL a I io (some (.int (kk : Int) uk)) n t zs hb ow ho f tb xs (thM a fT six)) (tuB 5) (lawE c q v) fin := by
  refine elE (hT kk hk) ?_; rintro t0 T
  refine se_cut (ma_cut (cut_th (six_mem hk))) (tu_C1 HK Z hd hcc F hk hr T (by omega) hP hw fun u1 u2 => ?_)
  refine se_cut (ma_cut (put_th six_nd (six_mem hk))) (k _ _ _ _ _ G (Keep.refl _) (by omega) stored_len (by omega) ?_)
  rw [(pkL_ok P hP).as]
  exact hT.bless hk (pkL_ok _ hP)
theorem tu_D2 {K : Params → Frag} {V : Program} (HK : KOk K) {q : Str} {v : Value} {c : Cf} {dz : Nat} {a : LA} {G : Heap} {fin : Kt Flow} {I : Addr} {io : Obj} {u uk uw up t : Tok} {i kk : Nat} {n wy : Int} {P : Str} {zs : List Value} {hb tb r : Addr} {ow ho : List (Int × Value)} {f : Str → Option Value} {xs : CX} {gen : Int} {par : Str → List Str} {cod : Str → Option Addr} {en : List (Str × Value)} {fh : Str → Option Value} (Z : ZOk K V (ccF S799 799 t799 q v) c dz) (hd : 40 ≤ dz) (hcc : c.cl.lookup (Str.ofString "k") = some a.cell) (F : Fix c.w a G gen par cod en fh) (hk : kk < 6) (hr : RefN c.w G r (aX a kk)) {fT : Nat → Str → Option Value} (hT : ThS c.w G a fT ow ho) (how : ow.length ≤ 80) (hol : ho.length ≤ 80) (hzl : zs.length ≤ 80) (hw : wy = 4)
    (k : ∀ zs' hb' ow' ho' fT' G', Keep G G' → zs'.length ≤ zs.length + 1 → ow'.length ≤ ow.length + 1 → ho'.length ≤ ho.length + 1 → ThS c.w G' a fT' ow' ho' → Se c (tuA a i u uw up wy P r) G' (maL a I io (some (.int (kk : Int) uk)) n t zs' hb' ow' ho' f tb xs (thM a fT' six)) (tuB 6) (lawE c q v) fin) : Se c (tuA a i u uw up wy P r) G (maL a I io (some (.int (kk : Int) uk)) n t zs hb ow ho f tb xs (thM a fT six)) (tuB 5) (lawE c q v) fin := by
  refine elE (hT kk hk) ?_; rintro t0 T
  refine se_cut (ma_cut (cut_th (six_mem hk))) (tu_C2 HK Z hd hcc F hk hr T (by omega) hw fun u1 u2 => ?_)
  refine se_cut (ma_cut (put_th six_nd (six_mem hk))) (k _ _ _ _ _ G (Keep.refl _) (by omega) stored_len (by omega) ?_)
  rw [show blessedAs (Str.ofString "C::D") = Str.ofString "C::D" from rfl]
  exact hT.bless hk (pkL_ok _ (by decide))
theorem tu_D3 {K : Params → Frag} {V : Program} (HK : KOk K) {q : Str} {v : Value} {c : Cf} {dz : Nat} {a : LA} {G : Heap} {fin : Kt Flow} {I : Addr} {io : Obj} {u uk uw up t : Tok} {i kk : Nat} {n wy : Int} {P : Str} {zs : List Value} {hb tb r : Addr} {ow ho : List (Int × Value)} {f : Str → Option Value} {xs : CX} {gen : Int} {par : Str → List Str} {cod : Str → Option Addr} {en : List (Str × Value)} {fh : Str → Option Value} (Z : ZOk K V (ccF S799 799 t799 q v) c dz) (hd : 40 ≤ dz) (hcc : c.cl.lookup (Str.ofString "k") = some a.cell) (F : Fix c.w a G gen par cod en fh) (hk : kk < 6) (hr : RefN c.w G r (aX a kk)) {fT : Nat → Str → Option Value} (hT : ThS c.w G a fT ow ho) (how : ow.length ≤ 80) (hol : ho.length ≤ 80) (hzl : zs.length ≤ 80) (hw : wy = 5)
    (k : ∀ zs' hb' ow' ho' fT' G', Keep G G' → zs'.length ≤ zs.length + 1 → ow'.length ≤ ow.length + 1 → ho'.length ≤ ho.length + 1 → ThS c.w G' a fT' ow' ho' → Se c (tuA a i u uw up wy P r) G' (maL a I io (some (.int (kk : Int) uk)) n t zs' hb' ow' ho' f tb xs (thM a fT' six)) (tuB 6) (lawE c q v) fin) : Se c (tuA a i u uw up wy P r) G (maL a I io (some (.int (kk : Int) uk)) n t zs hb ow ho f tb xs (thM a fT six)) (tuB 5) (lawE c q v) fin := by
  refine elE (hT kk hk) ?_; rintro t0 T
  refine se_cut (ma_cut (cut_th (six_mem hk))) (tu_C3 HK Z hd hcc F hk hr T (by omega) hw fun u1 u2 => ?_)
  refine se_cut (ma_cut (put_th six_nd (six_mem hk))) (k _ _ _ _ _ G (Keep.refl _) (by omega) stored_len (by omega) ?_)
  rw [show blessedAs (Str.ofString "") = Str.ofString "main" from rfl]
  exact hT.bless hk (pkL_ok _ (by decide))
theorem tu_D4 {K : Params → Frag} {V : Program} (HK : KOk K) {q : Str} {v : Value} {c : Cf} {dz : Nat} {a : LA} {G : Heap} {fin : Kt Flow} {I : Addr} {io : Obj} {u uk uw up t : Tok} {i kk : Nat} {n wy : Int} {P : Str} {zs : List Value} {hb tb r : Addr} {ow ho : List (Int × Value)} {f : Str → Option Value} {xs : CX} {gen : Int} {par : Str → List Str} {cod : Str → Option Addr} {en : List (Str × Value)} {fh : Str → Option Value} (Z : ZOk K V (ccF S799 799 t799 q v) c dz) (hd : 40 ≤ dz) (hcc : c.cl.lookup (Str.ofString "k") = some a.cell) (F : Fix c.w a G gen par cod en fh) (hk : kk < 6) (hr : RefN c.w G r (aX a kk)) {fT : Nat → Str → Option Value} (hT : ThS c.w G a fT ow ho) (how : ow.length ≤ 80) (hol : ho.length ≤ 80) (hzl : zs.length ≤ 80) (hw : wy = 6)
    (k : ∀ zs' hb' ow' ho' fT' G', Keep G G' → zs'.length ≤ zs.length + 1 → ow'.length ≤ ow.length + 1 → ho'.length ≤ ho.length + 1 → ThS c.w G' a fT' ow' ho' → Se c (tuA a i u uw up wy P r) G' (maL a I io (some (.int (kk : Int) uk)) n t zs' hb' ow' ho' f tb xs (thM a fT' six)) (tuB 6) (lawE c q v) fin) : Se c (tuA a i u uw up wy P r) G (maL a I io (some (.int (kk : Int) uk)) n t zs hb ow ho f tb xs (thM a fT six)) (tuB 5) (lawE c q v) fin := by
  by_cases h2 : kk < 2
  · refine elE (hT kk hk) ?_; rintro t0 T
    have hq := fmod_rng (i : Int) (b := 4) (by decide)
    obtain ⟨j, hj⟩ : ∃ j : Nat, 2 + Int.fmod (i : Int) 4 = (j : Int) := ⟨(2 + Int.fmod (i : Int) 4).toNat, by omega⟩
    have hj2 : 2 ≤ j := by omega
    have hj6 : j < 6 := by omega
    have hjk : j ≠ kk := by omega
    refine elE (hT j hj6) ?_; rintro tj Tj
    refine elEE Tj.cnt ?_; rintro m mu hm
    refine elEA (T.val h2) ?_; rintro v0 hs hv
    have mk := six_mem hk
    have mj : j ∈ six.erase kk := (List.mem_erase_of_ne hjk).mpr (six_mem hj6)
    have nd2 : (six.erase kk).Nodup := six_nd.erase kk
    rcases hv with ⟨hpl, _⟩ | ⟨r2, j2, rfl, hr2, hj22, hj26⟩
    · refine se_cut (ma_cut (cut_th mk)) (se_cut (ma_cut (.under (cut_th mj))) (tu_C4a HK Z hd hcc F hk hr hw h2 hj hj6 hm (by omega) hs hpl fun r' u1 G' k1 hr' => ?_))
      refine se_cut (ma_cut (.under (put_th nd2 mj))) (se_cut (ma_cut (put_th six_nd mk)) (k _ _ _ _ _ G' k1 (by omega) (by omega) stored_len ?_))
      exact ((hT.keeps k1).count ⟨_, (Tj.keeps k1).count⟩).up ⟨_, (T.keeps k1).putR h2 hr' hj2 hj6⟩ (fun _ _ => rfl) fun _ h => stored_some h
    · by_cases hjj : j2 = j
      · subst hjj
        refine se_cut (ma_cut (cut_th mk)) (se_cut (ma_cut (.under (cut_th mj))) (tu_C4b HK Z hd hcc F hk hr hw h2 hj hj6 hm (by omega) hzl hs hr2 fun r' u1 u2 zs2 G' k1 hr' hz2 => ?_))
        refine se_cut (ma_cut (.under (put_th nd2 mj))) (se_cut (ma_cut (put_th six_nd mk)) (k _ _ _ _ _ G' k1 hz2 (by omega) stored_len ?_))
        exact ((hT.keeps k1).count ⟨_, (Tj.keeps k1).count.count⟩).up ⟨_, (T.keeps k1).putR h2 hr' hj2 hj6⟩ (fun _ _ => rfl) fun _ h => stored_some h
      · have hj2k : j2 ≠ kk := by omega
        refine elE (hT j2 hj26) ?_; rintro tj2 Tj2
        refine elEE Tj2.cnt ?_; rintro m2 mu2 hm2
        have mj2 : j2 ∈ (six.erase kk).erase j := (List.mem_erase_of_ne hjj).mpr ((List.mem_erase_of_ne hj2k).mpr (six_mem hj26))
        have nd3 : ((six.erase kk).erase j).Nodup := nd2.erase j
        refine se_cut (ma_cut (cut_th mk)) (se_cut (ma_cut (.under (cut_th mj))) (se_cut (ma_cut (.under (.under (cut_th mj2)))) (tu_C4c HK Z hd hcc F hk hr hw h2 hj hj6 hm (by omega) hzl hj26 hm2 hs hr2 fun r' u1 u2 zs2 G' k1 hr' hz2 => ?_)))
        refine se_cut (ma_cut (.under (.under (put_th nd3 mj2)))) (se_cut (ma_cut (.under (put_th nd2 mj))) (se_cut (ma_cut (put_th six_nd mk)) (k _ _ _ _ _ G' k1 hz2 (by omega) stored_len ?_)))
        exact (((hT.keeps k1).count ⟨_, (Tj2.keeps k1).count⟩).count ⟨_, (Tj.keeps k1).count⟩).up ⟨_, (T.keeps k1).putR h2 hr' hj2 hj6⟩ (fun _ _ => rfl) fun _ h => stored_some h
  · exact tu_C76 HK Z hd hcc F hk hr hw (by omega) (k _ _ _ _ _ G (Keep.refl _) (by omega) (by omega) (by omega) hT)
theorem tu_D5 {K : Params → Frag} {V : Program} (HK : KOk K) {q : Str} {v : Value} {c : Cf} {dz : Nat} {a : LA} {G : Heap} {fin : Kt Flow} {I : Addr} {io : Obj} {u uk uw up t : Tok} {i kk : Nat} {n wy : Int} {P : Str} {zs : List Value} {hb tb r : Addr} {ow ho : List (Int × Value)} {f : Str → Option Value} {xs : CX} {gen : Int} {par : Str → List Str} {cod : Str → Option Addr} {en : List (Str × Value)} {fh : Str → Option Value} (Z : ZOk K V (ccF S799 799 t799 q v) c dz) (hd : 40 ≤ dz) (hcc : c.cl.lookup (Str.ofString "k") = some a.cell) (F : Fix c.w a G gen par cod en fh) (hk : kk < 6) (hr : RefN c.w G r (aX a kk)) (hcl : c.cl = [(Str.ofString "k", a.cell)]) {fT : Nat → Str → Option Value} (hT : ThS c.w G a fT ow ho) (how : ow.length ≤ 80) (hol : ho.length ≤ 80) (hzl : zs.length ≤ 80) (hw : wy = 7)
    (k : ∀ zs' hb' ow' ho' fT' G', Keep G G' → zs'.length ≤ zs.length + 1 → ow'.length ≤ ow.length + 1 → ho'.length ≤ ho.length + 1 → ThS c.w G' a fT' ow' ho' → Se c (tuA a i u uw up wy P r) G' (maL a I io (some (.int (kk : Int) uk)) n t zs' hb' ow' ho' f tb xs (thM a fT' six)) (tuB 6) (lawE c q v) fin) : Se c (tuA a i u uw up wy P r) G (maL a I io (some (.int (kk : Int) uk)) n t zs hb ow ho f tb xs (thM a fT six)) (tuB 5) (lawE c q v) fin := by
  by_cases h2 : kk < 2
  · refine elE (hT kk hk) ?_; rintro t0 T
    refine elEA (T.val h2) ?_; rintro v0 hs hv
    have mk := six_mem hk
    have hno : ∀ {ho2 : List (Int × Value)}, (∀ j, (valueAt ho2 j).isSome = (decide (j ≠ (kk : Int)) && (valueAt ho j).isSome)) → valueAt ho2 (kk : Int) = none := fun h => by
      have := h (kk : Int)
      simpa using this
    have hyes : ∀ {ho2 : List (Int × Value)}, (∀ j, (valueAt ho2 j).isSome = (decide (j ≠ (kk : Int)) && (valueAt ho j).isSome)) → ∀ j : Nat, j ≠ kk → (valueAt ho2 (j : Int)).isSome = (valueAt ho (j : Int)).isSome := fun h j e => by
      rw [h (j : Int), decide_eq_true (cast_ne e)]; rfl
    rcases hv with ⟨hpl, _⟩ | ⟨r2, j, rfl, hr2, hj2, hj6⟩
    · refine se_cut (ma_cut (cut_th mk)) (tu_C5a HK Z hd hcc F hk hr hcl hw h2 (by omega) hs hpl fun vp hb2 ho2 hvp hl hv => ?_)
      refine se_cut (ma_cut (put_th six_nd mk)) (k _ _ _ _ _ G (Keep.refl _) (by omega) (by omega) (by omega) ?_)
      exact hT.up ⟨_, T.putP h2 hvp (hno hv)⟩ (fun _ _ => rfl) (hyes hv)
    · have hjk : j ≠ kk := by omega
      refine elE (hT j hj6) ?_; rintro tj Tj
      refine elEE Tj.cnt ?_; rintro m mu hm
      have mj : j ∈ six.erase kk := (List.mem_erase_of_ne hjk).mpr (six_mem hj6)
      have nd2 : (six.erase kk).Nodup := six_nd.erase kk
      refine se_cut (ma_cut (cut_th mk)) (se_cut (ma_cut (.under (cut_th mj))) (tu_C5b HK Z hd hcc F hk hr hcl hw h2 (by omega) hj6 hm hzl hs hr2 fun vp hb2 ho2 u1 zs2 hz2 hvp hl hv => ?_))
      refine se_cut (ma_cut (.under (put_th nd2 mj))) (se_cut (ma_cut (put_th six_nd mk)) (k _ _ _ _ _ G (Keep.refl _) hz2 (by omega) (by omega) ?_))
      exact (hT.count ⟨_, Tj.count⟩).up ⟨_, T.putP h2 hvp (hno hv)⟩ (fun _ _ => rfl) (hyes hv)
  · exact tu_C77 HK Z hd hcc F hk hr hw (by omega) (k _ _ _ _ _ G (Keep.refl _) (by omega) (by omega) (by omega) hT)
theorem tu_D {K : Params → Frag} {V : Program} (HK : KOk K) {q : Str} {v : Value} {c : Cf} {dz : Nat} {a : LA} {G : Heap} {fin : Kt Flow} {I : Addr} {io : Obj} {u uk uw up t : Tok} {i kk : Nat} {n wy : Int} {P : Str} {zs : List Value} {hb tb r : Addr} {ow ho : List (Int × Value)} {f : Str → Option Value} {xs : CX} {gen : Int} {par : Str → List Str} {cod : Str → Option Addr} {en : List (Str × Value)} {fh : Str → Option Value} (Z : ZOk K V (ccF S799 799 t799 q v) c dz) (hd : 40 ≤ dz) (hcc : c.cl.lookup (Str.ofString "k") = some a.cell) (F : Fix c.w a G gen par cod en fh) (hk : kk < 6) (hr : RefN c.w G r (aX a kk)) (hcl : c.cl = [(Str.ofString "k", a.cell)]) {base : Heap} (B : EB K V c base [lawE c q v]) (hw0 : 0 ≤ wy) (hw9 : wy < 9) (hP : P ∈ pkL) {fT : Nat → Str → Option Value} (hT : ThS c.w G a fT ow ho) (how : ow.length ≤ 80) (hol : ho.length ≤ 80) (hzl : zs.length ≤ 80)
    (k : ∀ zs' hb' ow' ho' fT' G', Keep G G' → zs'.length ≤ zs.length + 1 → ow'.length ≤ ow.length + 1 → ho'.length ≤ ho.length + 1 → ThS c.w G' a fT' ow' ho' → Se c (tuA a i u uw up wy P r) G' (maL a I io (some (.int (kk : Int) uk)) n t zs' hb' ow' ho' f tb xs (thM a fT' six)) (tuB 6) (lawE c q v) fin) : Se c (tuA a i u uw up wy P r) G (maL a I io (some (.int (kk : Int) uk)) n t zs hb ow ho f tb xs (thM a fT six)) (tuB 5) (lawE c q v) fin := by
  by_cases h3 : wy < 4
  · exact tu_D1 HK Z hd hcc F hk hr hT how hol hzl hP h3 k
  have h4 : wy = 4 ∨ wy = 5 ∨ wy = 6 ∨ wy = 7 ∨ wy = 8 := by omega
  rcases h4 with h | h | h | h | h
  · exact tu_D2 HK Z hd hcc F hk hr hT how hol hzl h k
  · exact tu_D3 HK Z hd hcc F hk hr hT how hol hzl h k
  · exact tu_D4 HK Z hd hcc F hk hr hT how hol hzl h k
  · exact tu_D5 HK Z hd hcc F hk hr hcl hT how hol hzl h k
  · exact tu_C6 HK Z hd hcc F hk hr B hP h (k _ _ _ _ _ G (Keep.refl _) (by omega) (by omega) (by omega) hT)

theorem tu_E {K : Params → Frag} {V : Program} (HK : KOk K) {q : Str} {v : Value} {c : Cf} {dz : Nat} {a : LA} {G : Heap} {fin : Kt Flow} {I : Addr} {io : Obj} {u uk uw up t : Tok} {i kk : Nat} {n wy : Int} {P : Str} {zs : List Value} {hb tb r : Addr} {ow ho : List (Int × Value)} {f : Str → Option Value} {xs : CX} {Y : LD} {gen : Int} {par : Str → List Str} {cod : Str → Option Addr} {en : List (Str × Value)} {fh : Str → Option Value} (Z : ZOk K V (ccF S799 799 t799 q v) c dz) (hd : 40 ≤ dz) (hcc : c.cl.lookup (Str.ofString "k") = some a.cell) (F : Fix c.w a G gen par cod en fh) (hk : kk < 6) (hr : RefN c.w G r (aX a kk)) {g : Str → Option Value} {t0 : Th} (T : TOk c.w G a kk g ow ho t0) (k : Se c (tuA a i u uw up wy P r) G (maL a I io (some (.int (kk : Int) uk)) n t zs hb ow ho f tb xs ((aD a kk, .di g) :: Y)) (tuB 7) (lawE c q v) fin) : Se c (tuA a i u uw up wy P r) G (maL a I io (some (.int (kk : Int) uk)) n t zs hb ow ho f tb xs ((aD a kk, .di g) :: Y)) (tuB 6) (lawE c q v) fin := by
  obtain ⟨⟨svs, sns, hsl, hI, hlen⟩, hhp, hrn, ⟨uf, hfm⟩, hct, hst, hca, htl, _⟩ := id F.law
  obtain ⟨drn, frn, rn1, rn2, ⟨h1, _, _, _, h5⟩⟩ := id hrn.ex
  refine elEEAAA (id hr.ex) ?_; rintro dr fr q1 q2 q3 q4
  refine elE T.ok.num ?_; rintro un hnum
  have hx := aX_at F.law hk
  have hth := aC_th hk
  have hra := hr.at_
  have hnn : (t0.num != t0.num) = false := bne_self_eq_false _
  refine se_seq 1 (se_run Z 4000 ?_)
  k_extra "go"
  k_extra "st"
  exact k
noncomputable abbrev SpJ (w : World) (a : LA) (G : Heap) (l0 : List (Str × Value)) (gen : Int) (cod : Str → Option Addr) (N : Nat) (I : Addr) (io : Obj) (cv : Option Value) (n : Int) (t : Tok) (zs : List Value) (hb : Addr) (ow ho : List (Int × Value)) (Y : LD) (j : Nat) (l : List (Str × Value)) (G' : Heap) (ld : LD) : Prop :=
  Keep G G' ∧ l = l0 ∧ ∃ f1 tb1 xs1, CaP w G' f1 tb1 xs1 gen cod (N + 2 * j) ∧ ld = maL a I io cv n t zs hb ow ho f1 tb1 xs1 Y
theorem th_mem {a : LA} {fT : Nat → Str → Option Value} {s : Nat} (h : s < 6) : (aD a s, Ds.di (fT s)) ∈ thM a fT six := List.mem_map.mpr ⟨s, six_mem h, rfl⟩
theorem bk_own {o h p e : Addr} : valueAt (bookL o h p e) (Str.ofString "own") = some (.ref o) := by with_unfolding_all rfl
theorem bk_holds {o h p e : Addr} : valueAt (bookL o h p e) (Str.ofString "holds") = some (.ref h) := by with_unfolding_all rfl
theorem bk_par {o h p e : Addr} : valueAt (bookL o h p e) (Str.ofString "parents") = some (.ref p) := by with_unfolding_all rfl
theorem bk_ends {o h p e : Addr} : valueAt (bookL o h p e) (Str.ofString "ends") = some (.ref e) := by with_unfolding_all rfl
theorem tu_F1 {K : Params → Frag} {V : Program} (HK : KOk K) {q : Str} {v : Value} {c : Cf} {dz : Nat} {a : LA} {G : Heap} {fin : Kt Flow} {I : Addr} {io : Obj} {u uk uw up t : Tok} {i kk : Nat} {n wy : Int} {P : Str} {zs : List Value} {hb tb r : Addr} {ow ho : List (Int × Value)} {f : Str → Option Value} {xs : CX} {gen : Int} {par : Str → List Str} {cod : Str → Option Addr} {en : List (Str × Value)} {fh : Str → Option Value} (Z : ZOk K V (ccF S799 799 t799 q v) c dz) (hd : 40 ≤ dz) (hcc : c.cl.lookup (Str.ofString "k") = some a.cell) (F : Fix c.w a G gen par cod en fh) (hk : kk < 6) (hr : RefN c.w G r (aX a kk)) {fT : Nat → Str → Option Value} (hT : ThS c.w G a fT ow ho) {N : Nat} (hN : N ≤ 800) (hP : P ∈ pkL) {KF : Kt Flow} {s : Nat} (hs : s < 6) {us : Tok} {jj : Nat} (hjj : jj < 2) (v1 : Value) (hv1 : v1 = .int (s : Int) us) (J2 : Addr) (jo : Obj) (l1 : List (Str × Value)) (G1 : Heap) (ld : LD) (hJ : SpJ c.w a G (tuA a i u uw up wy P r) gen cod N I io (some (.int (kk : Int) uk)) n t zs hb ow ho (thM a fT six) jj l1 G1 ld) :
    run (ccF S799 799 t799 q v) c (turnF c.w (SpJ c.w a G (tuA a i u uw up wy P r) gen cod N I io (some (.int (kk : Int) uk)) n t zs hb ow ho (thM a fT six)) jj J2 jo G1 KF) 4000 (.ss (fnBody (nth (fnBody (nth (fnBody S799) 11)) 7))) [] ((Str.ofString "spare", v1) :: l1) G1 ((J2, .ob jo) :: ld) := by
  refine elAAEEEA hJ ?_; (try clear hJ); rintro k1 rfl f1 tb1 xs1 hC rfl
  subst hv1
  have F1 := F.keeps k1
  refine elE ((hT.keeps k1) s hs) ?_; rintro ts T
  obtain ⟨⟨svs, sns, hsl, hI, hlen⟩, hhp, hrn, ⟨uf, hfm⟩, hct, hst, hca, htl, _⟩ := id F1.law
  have hin := th_mem (a := a) (fT := fT) hs
  k_extra "go"
  k_extra "st"
  refine' tri_useR (c_same HK 6 (by decide) a.st a.ca a.dca tb1 a.rn a.bk a.ow hb a.pd a.ed (aX a s) (aD a s) (aC s) gen par cod (aboveF par 6) (.ref a.lm) (.ref a.fr) (.ref a.ctr) ow ho en (s : Int) us ts (fT s) P up (N + 2 * jj) f1 xs1 ⟨F1.dr.lines, F1.dr.above, T.thi, T.book, F1.cu, (pkL_ok P hP).txt, (pkL_ok P hP).nu⟩ ?hl ?hN) Z ?jd ?jc ?jp ?_
  case hl => rfl
  case hN => omega
  case jd => omega
  case jc => k_extra "cut"
  case jp =>
    intro G' k' h'
    have hb1 := h' (a.bk, .sd (bookL a.ow hb a.pd a.ed)) (by k_extra "mm")
    have hb2 := h' (a.ow, .nd ow) (by k_extra "mm")
    have hb3 := h' (hb, .nd ho) (by k_extra "mm")
    have hd9 := h' (aD a s, .di (fT s)) (by repeat (first | exact hin | apply List.Mem.tail))
    exact ⟨⟨F1.stash.keeps k', hca.keeps k', hrn.keeps k', (T.keeps k').th hs (F1.law.keeps k') hd9, ⟨⟨_, hb1, bk_own, bk_holds, bk_par, bk_ends⟩, hb2, hb3, F1.ed.keeps k'⟩, F1.pard.keeps k', F1.ends.keeps k'⟩, hC.keeps k'⟩
  intro f9 tb9 xs9 R9 hn9
  refine useR_mk (Cut.cons .head (Cut.cons .head .nil)) ?_
  k_extra "go"
  k_extra "st"
  refine' forMk (n := 1) (lo := tuA a i u uw up wy P r) (ld' := (maL a I io (some (.int (kk : Int) uk)) n t zs hb ow ho f9 tb9 xs9 [(aD a 0, .di (fT 0)), (aD a 1, .di (fT 1)), (aD a 2, .di (fT 2)), (aD a 3, .di (fT 3)), (aD a 4, .di (fT 4)), (aD a 5, .di (fT 5))])) ?e1 ?e2 ?e3 fun G' kG' hG' => ⟨k1.trans kG', rfl, f9, tb9, xs9, ?e4, rfl⟩
  case e1 => rfl
  case e2 => rfl
  case e3 => k_extra "cut"
  case e4 =>
    rw [show N + 2 * (jj + 1) = N + 2 * jj + 2 by omega]
    exact hn9 G' (hC.keeps kG') fun p9 hm9 => hG' p9 (by k_extra "mm")
theorem e_forE {K0 : Params → Frag} {V : Program} {cc : CC} {c : Cf} {dz k : Nat} {l : List (Str × Value)} {H : Heap} {ld : LD} {KF : Kt Flow} {x : Str} {px p : Pos} {iter : PySem.Expr} {body : List Stmt} (n : Nat) (Z : ZOk K0 V cc c dz) (hf : ∀ x, foldedSetIterable iter (envE cc c) x = pure x) (hit : run cc c KF n (.ev iter) [.forI (.Name x px) body] l H ld) : Stp k (Sp c l H ld (exec (.For (.Name x px) iter body [] p) (envE cc c)) KF) := .mk fun h t A =>
  wpAny_For (run_snd Z.toEOk n (.ev iter) [.forI (.Name x px) body] l H ld hit h t A) hf
theorem tu_F {K : Params → Frag} {V : Program} (HK : KOk K) {q : Str} {v : Value} {c : Cf} {dz : Nat} {a : LA} {G : Heap} {fin : Kt Flow} {I : Addr} {io : Obj} {u uk uw up t : Tok} {i kk : Nat} {n wy : Int} {P : Str} {zs : List Value} {hb tb r : Addr} {ow ho : List (Int × Value)} {f : Str → Option Value} {xs : CX} {gen : Int} {par : Str → List Str} {cod : Str → Option Addr} {en : List (Str × Value)} {fh : Str → Option Value} (Z : ZOk K V (ccF S799 799 t799 q v) c dz) (hd : 40 ≤ dz) (hcc : c.cl.lookup (Str.ofString "k") = some a.cell) (F : Fix c.w a G gen par cod en fh) (hk : kk < 6) (hr : RefN c.w G r (aX a kk)) {fT : Nat → Str → Option Value} (hT : ThS c.w G a fT ow ho) {N : Nat} (hN : N ≤ 800) (hP : P ∈ pkL) (hC : CaP c.w G f tb xs gen cod N)
    (k : ∀ G' f1 tb1 xs1, Keep G G' → CaP c.w G' f1 tb1 xs1 gen cod (N + 2 * 2) → Se c (tuA a i u uw up wy P r) G' (maL a I io (some (.int (kk : Int) uk)) n t zs hb ow ho f1 tb1 xs1 (thM a fT six)) (tuB 8) (lawE c q v) fin) : Se c (tuA a i u uw up wy P r) G (maL a I io (some (.int (kk : Int) uk)) n t zs hb ow ho f tb xs (thM a fT six)) (tuB 7) (lawE c q v) fin := by
  refine se_seq 1 (se_run Z 4000 ?_)
  k_extra "st"
  refine' e_forE 4000 Z ?hf ?_
  case hf => exact fun _ => rfl
  k_extra "go"
  k_extra "st"
  obtain ⟨s2, hs2⟩ : ∃ s2 : Nat, ((kk : Int) + 1 + (i : Int)).fmod 6 = (s2 : Int) := ⟨(((kk : Int) + 1 + (i : Int)).fmod 6).toNat, by have := fmod_rng ((kk : Int) + 1 + (i : Int)) (b := 6) (by decide); omega⟩
  have hs6 : s2 < 6 := by have := fmod_rng ((kk : Int) + 1 + (i : Int)) (b := 6) (by decide); omega
  refine' e_forT (R := [(a9, .ob (tupOf [Value.int (kk : Int) uk, Value.int (((kk : Int) + 1 + (i : Int)).fmod 6) u9]))]) 4000 (SpJ c.w a G (tuA a i u uw up wy P r) gen cod N I io (some (.int (kk : Int) uk)) n t zs hb ow ho (thM a fT six)) Z rfl (.head _) (ld0 := (maL a I io (some (.int (kk : Int) uk)) n t zs hb ow ho f tb xs (thM a fT six))) ?cu (fun G1 k1 _ => ⟨k1, rfl, f, tb, xs, hC.keeps k1, rfl⟩) ?_ ?_
  case cu => k_extra "cut"
  · intro j v1 J2 jo l1 G1 ld hv hJ
    rcases j with _ | _ | j
    · exact tu_F1 (f := f) (tb := tb) (xs := xs) (fin := fin) HK Z hd hcc F hk hr hT hN hP hk (by decide) v1 (Option.some.inj hv).symm J2 jo l1 G1 ld hJ
    · exact tu_F1 (f := f) (tb := tb) (xs := xs) (fin := fin) HK Z hd hcc F hk hr hT hN hP hs6 (by decide) v1 (by rw [← hs2]; exact (Option.some.inj hv).symm) J2 jo l1 G1 ld hJ
    · cases hv
  · intro _ G1 _ zI1; refine elAAEEEA zI1 ?_; (try clear zI1); rintro k1 rfl f1 tb1 xs1 hC1 rfl
    exact k G1 f1 tb1 xs1 k1 hC1

theorem tu_G {K : Params → Frag} {V : Program} (HK : KOk K) {q : Str} {v : Value} {c : Cf} {dz : Nat} {a : LA} {G : Heap} {fin : Kt Flow} {I : Addr} {io : Obj} {u uk uw up t : Tok} {i kk : Nat} {n wy : Int} {P : Str} {zs : List Value} {hb tb r : Addr} {ow ho : List (Int × Value)} {f : Str → Option Value} {xs : CX} {Y : LD} {gen : Int} {par : Str → List Str} {cod : Str → Option Addr} {en : List (Str × Value)} {fh : Str → Option Value} (Z : ZOk K V (ccF S799 799 t799 q v) c dz) (hd : 40 ≤ dz) (hcc : c.cl.lookup (Str.ofString "k") = some a.cell) (F : Fix c.w a G gen par cod en fh) (hk : kk < 6) (hr : RefN c.w G r (aX a kk)) (hP : P ∈ pkL) (k : Se c (tuA a i u uw up wy P r) G (maL a I io (some (.int (kk : Int) uk)) n t zs hb ow ho f tb xs Y) (tuB 9) (lawE c q v) fin) : Se c (tuA a i u uw up wy P r) G (maL a I io (some (.int (kk : Int) uk)) n t zs hb ow ho f tb xs Y) (tuB 8) (lawE c q v) fin := by
  obtain ⟨⟨svs, sns, hsl, hI, hlen⟩, hhp, hrn, ⟨uf, hfm⟩, hct, hst, hca, htl, _⟩ := id F.law
  refine se_seq 1 (se_run Z 4000 ?_)
  k_extra "go"
  have hp9 : Plain v9 ∧ ∃ x, textP v9 = some x ∧ TxtOk x ∧ x ≠ univ := by
    unfold TxtOk univ
    rcases List.mem_cons.mp hv9 with rfl | hv9
    · exact ⟨rfl, _, rfl, by decide, by decide⟩
    rcases List.mem_cons.mp hv9 with rfl | hv9
    · exact ⟨rfl, _, rfl, by decide, by decide⟩
    rcases List.mem_cons.mp hv9 with rfl | hv9
    · exact ⟨rfl, _, rfl, by decide, by decide⟩
    rcases List.mem_cons.mp hv9 with rfl | hv9
    · exact ⟨rfl, _, rfl, by decide, by decide⟩
    rcases List.mem_cons.mp hv9 with rfl | hv9
    · exact ⟨rfl, _, rfl, by decide, by decide⟩
    · cases List.mem_singleton.mp hv9; exact ⟨rfl, _, rfl, by decide, by decide⟩
  refine elAEAA hp9 ?_; (try clear hp9); rintro hp1 x hx1 hx2 hx3
  k_extra "st"
  refine' tri_use (c_plain_same HK 6 (by decide) a.st gen par cod (aboveF par 6) v9 x P up a.rn a.ca a.bk a.pd (.ref a.lm) (.ref a.fr) (.ref a.ctr) F.dr.lines F.dr.above (pkL_ok P hP).txt (pkL_ok P hP).nu hp1 hx1 hx2 hx3) Z ?jd .nil ?jp ?_
  case jd => omega
  case jp => exact fun G' k' h' => ⟨F.stash.keeps k', hrn.keeps k', ⟨_, h' (a.bk, .sd (bookL a.ow hb a.pd a.ed)) (by k_extra "mm"), bk_par⟩, F.pard.keeps k'⟩
  k_extra "go"
  k_extra "st"
  refine' se_sub (tuA a i u uw up wy P r) _ ?a1 rfl ?a3 k
  case a1 => k_extra "ls"
  case a3 => k_extra "cut"
theorem tu_H {K : Params → Frag} {V : Program} (HK : KOk K) {q : Str} {v : Value} {c : Cf} {dz : Nat} {a : LA} {G : Heap} {fin : Kt Flow} {I : Addr} {io : Obj} {u uk uw up t : Tok} {i kk : Nat} {n wy : Int} {P : Str} {zs : List Value} {hb tb r : Addr} {ow ho : List (Int × Value)} {f : Str → Option Value} {xs : CX} {Y : LD} {gen : Int} {par : Str → List Str} {cod : Str → Option Addr} {en : List (Str × Value)} {fh : Str → Option Value} (Z : ZOk K V (ccF S799 799 t799 q v) c dz) (hd : 40 ≤ dz) (hcc : c.cl.lookup (Str.ofString "k") = some a.cell) (F : Fix c.w a G gen par cod en fh) (hk : kk < 6) (hr : RefN c.w G r (aX a kk)) (kn : fin .next (tuA a i u uw up wy P r) G (maL a I io (some (.int (kk : Int) uk)) n t zs hb ow ho f tb xs Y)) (kb : fin .brk (tuA a i u uw up wy P r) G (maL a I io (some (.int (kk : Int) uk)) n t zs hb ow ho f tb xs Y)) : Se c (tuA a i u uw up wy P r) G (maL a I io (some (.int (kk : Int) uk)) n t zs hb ow ho f tb xs Y) (tuB 9) (lawE c q v) fin := by
  obtain ⟨⟨svs, sns, hsl, hI, hlen⟩, hhp, hrn, ⟨uf, hfm⟩, hct, hst, hca, htl, _⟩ := id F.law
  have hvl := IntsAre.length hI
  refine se_run Z 4000 ?_
  k_extra "go"
  · exact kb
  · exact kn
  · exact kn
noncomputable abbrev mbL (a : LA) (cv : Option Value) (n : Int) (t : Tok) (zs : List Value) (hb : Addr) (ow ho : List (Int × Value)) (f : Str → Option Value) (tb : Addr) (xs : CX) (Y : LD) : LD :=
  (a.sp, .li [.int n t]) :: (a.zl, .li zs) :: (a.bk, .sd (bookL a.ow hb a.pd a.ed)) :: (a.ow, .nd ow) :: (hb, .nd ho) :: (a.dca, .di f) :: (tb, .tb xs) :: (a.cell, .ce cv) :: Y
noncomputable abbrev MaJ (w : World) (a : LA) (G0 : Heap) (gen : Int) (cod : Str → Option Addr) (i : Nat) (l : List (Str × Value)) (G : Heap) (ld : LD) : Prop :=
  Keep G0 G ∧ l = lawL a ∧ ∃ cv n t zs hb ow ho f tb xs fT, 0 ≤ n ∧ n ≤ 15 + 3 * (i : Int) ∧ zs.length ≤ 2 + i ∧ ow.length ≤ i ∧ ho.length ≤ i ∧ CaP w G f tb xs gen cod (4 * i) ∧ ThS w G a fT ow ho ∧ ld = mbL a cv n t zs hb ow ho f tb xs (thM a fT six)
section
variable {a : LA} {I : Addr} {io : Obj} {cv : Option Value} {n : Int} {t : Tok} {zs : List Value} {hb : Addr} {ow ho : List (Int × Value)} {f : Str → Option Value} {tb : Addr} {xs : CX} {Y : LD}
theorem it_in : Cut ((I, .ob io) :: mbL a cv n t zs hb ow ho f tb xs Y) (maL a I io cv n t zs hb ow ho f tb xs Y) [] :=
  .cons (.tail .head) (.cons (.tail .head) (.cons (.tail .head) (.cons (.tail .head) (.cons (.tail .head) (.cons (.tail .head) (.cons (.tail .head) (.cons (.tail .head) Cut.all)))))))
theorem it_out : Cut (maL a I io cv n t zs hb ow ho f tb xs Y) ((I, .ob io) :: mbL a cv n t zs hb ow ho f tb xs Y) [] :=
  .cons (.tail (.tail (.tail (.tail (.tail (.tail (.tail (.tail .head)))))))) Cut.all
end
theorem ma_turn {K : Params → Frag} {V : Program} (HK : KOk K) {q : Str} {v : Value} {c : Cf} {dz : Nat} {a : LA} {G0 : Heap} {pv : List Value} {gen : Int} {par : Str → List Str} {cod : Str → Option Addr} {en : List (Str × Value)} {fh : Str → Option Value} {base : Heap} {KF : Kt Flow} (Z : ZOk K V (ccF S799 799 t799 q v) c dz) (hd : 40 ≤ dz) (hcl : c.cl = [(Str.ofString "k", a.cell)]) (B : EB K V c base [lawE c q v])
    (hpl : FL c.w c.g 742 pv) (hps : StrsAre pv pkL) (hcg : Keep c.g G0) (F0 : Fix c.w a G0 gen par cod en fh) (hK : ∀ l G ld, KF .next l G ld)
    (i : Nat) (u : Tok) (I : Addr) (io : Obj) (l : List (Str × Value)) (G : Heap) (ld : LD) (hi : i < 10) (hJ : MaJ c.w a G0 gen cod i l G ld) :
    Se c ((Str.ofString "turn", .int (0 + (i : Nat)) u) :: l) G ((I, .ob io) :: ld) (tuB 0) (lawE c q v) (turnF c.w (MaJ c.w a G0 gen cod) i I io G KF) := by
  obtain ⟨k0, rfl, cv, n, t, zs, hb, ow, ho, f, tb, xs, fT, hn0, hn1, hzl, how, hol, hC, hT, rfl⟩ := hJ
  have hcc : c.cl.lookup (Str.ofString "k") = some a.cell := by rw [hcl]; rfl
  have F := F0.keeps k0
  rw [Int.zero_add]
  refine se_cut it_in (tu_A HK Z (by omega) hcc (hpl.keeps (hcg.trans k0)) hps F.law hn0 (by omega) fun kk wy P t' uk uw up hk hw0 hw9 hP => ?_)
  refine tu_B HK Z (by omega) hcc F.law hk fun r G1 k1 hr => ?_
  refine tu_D HK Z hd hcc (F.keeps k1) hk hr hcl B hw0 hw9 hP (hT.keeps k1) (by omega) (by omega) (by omega) fun zs' hb' ow' ho' fT' G2 k2 hz' ho1' ho2' hT' => ?_
  have k12 := k1.trans k2
  have F2 := F.keeps k12
  have hr2 := hr.keeps k2
  refine elE (hT' kk hk) ?_; rintro t0 T
  refine se_cut (ma_cut (cut_th (six_mem hk))) (tu_E HK Z hd hcc F2 hk hr2 T ?_)
  refine se_cut (ma_cut (pk_thM (six_mem hk)).put) ?_
  refine tu_F HK Z hd hcc F2 hk hr2 hT' (N := 4 * i) (by omega) hP (hC.keeps k12) fun G3 f1 tb1 xs1 k3 hC1 => ?_
  have F3 := F2.keeps k3
  have hr3 := hr2.keeps k3
  refine tu_G HK Z hd hcc F3 hk hr3 hP ?_
  refine tu_H HK Z hd hcc F3 hk hr3 ?_ (hK _ _ _)
  refine' forMkH (n := 5) (lo := lawL a) (ld' := mbL a (some (.int (kk : Int) uk)) (n + 1 + 1 + 1) t' zs' hb' ow' ho' f1 tb1 xs1 (thM a fT' six)) (k12.trans k3) ?e1 ?e2 it_out fun G' kG' _ => ⟨k0.trans (k12.trans (k3.trans kG')), rfl, _, _, _, _, _, _, _, _, _, _, fT', ?e3, ?e4, ?e5, ?e6, ?e7, ?e8, (hT'.keeps k3).keeps kG', rfl⟩
  case e1 => rfl
  case e2 => rfl
  case e3 => omega
  case e4 => omega
  case e5 => omega
  case e6 => omega
  case e7 => omega
  case e8 => exact (show 4 * (i + 1) = 4 * i + 2 * 2 by omega) ▸ hC1.keeps kG'
theorem se_mk {c : Cf} {l : List (Str × Value)} {H : Heap} {ld ld' : LD} {fin : Kt Flow} {env : Env} {b : List Stmt} (e : ld = ld') (x : Se c l H ld' b env fin) : Se c l H ld b env fin := e ▸ x
theorem thL_thM {a : LA} {f : Nat → Str → Option Value} : thL a f [] = thM a f six := rfl
theorem fix_mk {w : World} {a : LA} {G : Heap} {gen : Int} {par : Str → List Str} {cod : Str → Option Addr} {kvs en pkv : List (Str × Value)} {fs fh : Str → Option Value} {u : Tok} (hL : LwG w a G) (hfs : StC fs a.gl a.hp) (hgen : fs (Str.ofString "generation") = some (.int gen u)) (h1 : OAt w G a.gl (.sd kvs)) (h2 : OAt w G a.dst (.di fs)) (h3 : OAt w G a.dhp (.di fh)) (h4 : OAt w G a.ed (.sd en)) (h5 : OAt w G a.pd (.sd pkv))
    (hz : fh (Str.ofString "zero") = some (.ref a.zl)) (harr : ∀ p, GlobAt w G (valueAt kvs (isaN p)) (isaP w G (par p))) (hD : DesO w G kvs cod en) (hpk : ∀ p, ParAt w G (valueAt pkv p) (par p)) (dr : Drawn par) : Fix w a G gen par cod en fh :=
  ⟨hL, ⟨a.dst, fs, a.gl, kvs, hL.st, h2, ⟨hfs.g.globs, ⟨u, hgen⟩, hfs.m1, hfs.m2⟩, h1, harr, hD.des⟩, ⟨pkv, h5, hpk⟩, hD.ends, h4, h3, hz, hD.cu, dr⟩
theorem cap_start {w : World} {G : Heap} {tb : Addr} {u : Tok} {gen : Int} {cod : Str → Option Addr} : CaP w G (caF0 tb u) tb [] gen cod (4 * 0) := ⟨⟨-1, u, rfl, fun _ _ hy => (nomatch hy)⟩, rfl, rfl, fun _ hy => (nomatch hy), Nat.le_refl _⟩
theorem law_main {K : Params → Frag} {V : Program} (HK : KOk K) {q : Str} {v : Value} {c : Cf} {dz : Nat} {a : LA} {G0 : Heap} {pv : List Value} {gen : Int} {par : Str → List Str} {cod : Str → Option Addr} {en : List (Str × Value)} {fh : Str → Option Value} {base : Heap} {fin : Kt Flow} {cv : Option Value} {n : Int} {t : Tok} {zs : List Value} {hb : Addr} {f : Str → Option Value} {tb : Addr} {fT : Nat → Str → Option Value} (Z : ZOk K V (ccF S799 799 t799 q v) c dz) (hd : 40 ≤ dz) (hcl : c.cl = [(Str.ofString "k", a.cell)]) (B : EB K V c base [lawE c q v])
    (hpl : FL c.w c.g 742 pv) (hps : StrsAre pv pkL) (hcg : Keep c.g G0) (F0 : Fix c.w a G0 gen par cod en fh) (kret : ∀ l G ld, fin (.ret (.bool true)) l G ld) (hn0 : 0 ≤ n) (hn1 : n ≤ 15) (hzl : zs.length ≤ 2) (hC : CaP c.w G0 f tb [] gen cod (4 * 0)) (hT : ThS c.w G0 a fT [] []) :
    Se c (lawL a) G0 (mbL a cv n t zs hb [] [] f tb [] (thM a fT six)) (lawB 11) (lawE c q v) fin := by
  refine se_seq 1 (se_run Z 4000 ?_)
  k_extra "go"
  k_extra "st"
  refine' e_forS (n := 10) (a0 := 0) (b := 10) (MaJ c.w a G0 gen cod) Z rfl ?hm rfl (by decide) (by decide) (ld0 := mbL a cv n t zs hb [] [] f tb [] (thM a fT six)) ?cu (fun G kG _ => ⟨kG, rfl, cv, n, t, zs, hb, [], [], f, tb, [], fT, hn0, by omega, by omega, Nat.le_refl _, Nat.le_refl _, hC.keeps kG, hT.keeps kG, rfl⟩) ?_ ?_
  case hm => k_extra "mm"
  case cu => k_extra "cut"
  · intro i u I io l G ld hi hJ
    exact ma_turn HK Z hd hcl B hpl hps hcg F0 (fun l G ld => show Se c l G ld (lawB 12) (lawE c q v) fin from se_run Z 4000 (by k_extra "go"; exact kret _ _ _)) i u I io l G ld hi hJ
  · intro l G ld _
    show Se c l G ld (lawB 12) (lawE c q v) fin
    refine se_run Z 4000 ?_
    k_extra "go"
    exact kret _ _ _
theorem law_all {K : Params → Frag} {V : Program} (HK : KOk K) {q : Str} {v : Value} {c : Cf} {dz : Nat} {ca sl : Addr} {pv vs : List Value} {ns : List Int} {base : Heap} {fin : Kt Flow} {cv : Option Value} (Z : ZOk K V (ccF S799 799 t799 q v) c dz) (hd : 40 ≤ dz) (hcl : c.cl = [(Str.ofString "k", ca)]) (B : EB K V c base [lawE c q v])
    (hpl : FL c.w c.g 742 pv) (hps : StrsAre pv pkL) (hs : FL c.w c.g sl vs) (hI : IntsAre vs ns) (hz : ns.length ≤ 63) (kret : ∀ l G ld, fin (.ret (.bool true)) l G ld) :
    Se c [(Str.ofString "script", .ref sl)] c.g [(ca, .ce cv)] (fnBody S799) (lawE c q v) fin := by
  refine law_set HK Z (by omega) hs hI hz fun a f fh u1 u2 u3 tb G hac k0 hL hT0 hm hz0 => ?_
  subst hac
  have hcc : c.cl.lookup (Str.ofString "k") = some a.cell := by rw [hcl]; rfl
  refine law_isa HK Z (by omega) hcc hL hpl hps k0 (fs := stF0 u1 a.gl a.hp) ⟨rfl, rfl, rfl⟩ rfl hm hz0 (Y := (a.ed, .sd []) :: (a.zl, .li []) :: (a.ow, .nd []) :: (a.ho, .nd []) :: (a.dca, .di (caF0 tb u2)) :: (tb, .tb []) :: thL a f []) fun n t fh1 m kvs pkv par cv1 G1 k1 hn0 hn1 hm1 hz1 hkl hA => ?_
  refine' se_fz (R := [(a.pd, .sd pkv)]) (deL a n t fh1 kvs [] (stF0 u1 a.gl a.hp) [] ((a.cell, .ce cv1) :: (a.ow, .nd []) :: (a.ho, .nd []) :: (a.dca, .di (caF0 tb u2)) :: (tb, .tb []) :: thL a f [])) ?c1 fun G2 k2 h2 => ?_
  case c1 => k_extra "cut"
  have hA2 := hA.keeps k2
  refine law_des HK Z (by omega) (hL.keeps (k1.trans k2)) hpl hps (k0.trans (k1.trans k2)) ⟨⟨rfl, rfl, rfl⟩, ⟨_, _, rfl⟩, rfl, rfl⟩ hm1 hz1 hn0 hn1 hkl hA2.arr hA2.des fun n2 t2 fh2 kvs2 en fs2 zs cod G3 k3 hn0' hn1' hz2 hzl hfs2 harr2 hD => ?_
  refine elEE hfs2.gen ?_; rintro gen ug hgen
  refine' se_fz (R := [(a.dhp, .di fh2), (a.gl, .sd kvs2), (a.dst, .di fs2), (a.ed, .sd en)]) (mbL a cv1 n2 t2 zs a.ho [] [] (caF0 tb u2) tb [] (thL a f [])) ?c2 fun G4 k4 h4 => ?_
  case c2 => k_extra "cut"
  have hpd := ((h2 (a.pd, .sd pkv) (.head _)).keeps k3).keeps k4
  have F0 := fix_mk ((hL.keeps (k1.trans k2)).keeps (k3.trans k4)) hfs2 hgen (h4 (a.gl, .sd kvs2) (.tail _ (.head _))) (h4 (a.dst, .di fs2) (.tail _ (.tail _ (.head _)))) (h4 (a.dhp, .di fh2) (.head _)) (h4 (a.ed, .sd en) (.tail _ (.tail _ (.tail _ (.head _))))) hpd hz2 (fun p => (harr2 p).keeps k4) (hD.keeps k4) (fun p => (hA2.pks p).keeps (k3.trans k4)) ⟨hA2.two, hA2.low⟩
  rw [thL_thM]
  exact law_main HK Z hd hcl B hpl hps (k0.trans (k1.trans (k2.trans (k3.trans k4)))) F0 kret hn0' hn1' hzl cap_start fun i hi => tok_start hT0 i hi
noncomputable def trueK : Kt Flow := fun fl _ _ _ => fl = .ret (.bool true)
theorem law_head {K : Params → Frag} {V : Program} (HK : KOk K) {w : World} {mean : ExcName → Option Value} {mg mb : Str → Option Value} {A : Around} {g : Heap} {s : Shared} {Q : Flow → Shared → Prop} {E : Value → Shared → Prop} {L sl : Addr} {qual : Str} {cdv : Value} {m : Str → Option Value} {pv vs : List Value} {ns : List Int} {oc : Obj} {vc : Option Value} {env : Env}
    (henv : env = envX qual (fnScope S799) L 799 cdv [(Str.ofString "k", L + 1)]) (hok : ccOk (K w.params) (ccF S799 799 t799 qual cdv) = true) (pE : PassesOwn (model PG w) (A.deeper env) env E)
    (B : Below A g [] g) (X : (K w.params).In g) (T : Top V LS mean mg mb g) (hq : A.handled = none) (hd : A.depth + 1 + 40 ≤ 600) (hu : A.units + 3 + 40 * 40 ≤ 9000)
    (hpl : FL w g 742 pv) (hps : StrsAre pv pkL) (hl : FL w g sl vs) (hI : IntsAre vs ns) (hns : ns.length ≤ 63)
    (F : Fr g L s.heap m) (hm : m (Str.ofString "script") = some (.ref sl)) (hc : s.heap.get? (L + 1) = some oc) (hcg : g.get? (L + 1) = none) (hoc : oc.data = .cell vc)
    (k : ∀ h' tk m', Fr g L h' m' → Q (.ret (.bool true)) { s with heap := h', toks := tk }) : wpAny (model PG w) (A.deeper env) (execs (fnBody S799) env) Q E s := by
  subst henv
  let c : Cf := ⟨w, mean, mg, mb, A.deeper (envX qual (fnScope S799) L 799 cdv [(Str.ofString "k", L + 1)]), E, s.gens, s.drawn, s.os, g, L, [(Str.ofString "k", L + 1)]⟩
  have Z : ZOk K V (ccF S799 799 t799 qual cdv) c 40 := ⟨⟨pE, X, T, hok⟩, fun F' ha => cx_hide B X T F' rfl rfl hq ha, hd, hu, hq⟩
  have EBc : EB K V c g [lawE c qual cdv] := ⟨fun F' => pushX B F' rfl rfl, X, T⟩
  refine elEEEA (id F.ns) ?_; rintro oL _ _ hL _
  have low := modules_low T.nolimit
  have A0 : At c [(Str.ofString "script", .ref sl)] g [(L + 1, .ce vc)] s.heap := by
    refine ⟨⟨m, fun y v e => ?_, F⟩, Keep.refl _, low, F.keep, fun p hp => ?_, fun p hp => ?_, List.pairwise_cons.mpr ⟨fun p hp e => ?_, List.pairwise_singleton _ _⟩⟩
    · obtain ⟨rfl, rfl⟩ : y = Str.ofString "script" ∧ v = .ref sl := by
        by_cases q : y = Str.ofString "script"
        · subst q; exact ⟨rfl, (Option.some.inj e).symm⟩
        · exact absurd (lk_mem e) (fun h => by cases h with | head => exact q rfl | tail _ h => cases h)
      exact hm
    · cases hp with
      | head => exact Heap.get?_none_of_le F.above
      | tail _ hp => cases List.mem_singleton.mp hp; exact hcg
    · cases hp with
      | head => exact ⟨fun _ => nmod (Nat.ne_of_gt (Nat.lt_of_lt_of_le low F.above)), oL, hL, trivial⟩
      | tail _ hp => cases List.mem_singleton.mp hp; exact ⟨fun h => (nomatch h), oc, hc, hoc⟩
    · cases List.mem_singleton.mp hp; exact absurd e (Nat.ne_of_lt (Nat.lt_succ_self _))
  refine wpAny_mono (Stp.get (law_all (fin := trueK) (c := c) HK Z (by decide) rfl EBc hpl hps hl hI hns fun _ _ _ => rfl) s.heap s.toks A0) (fun f s' hb => ?_) fun _ _ e => e
  obtain ⟨l₁, H₁, ld₁, h₁, t₁, A1, q⟩ := (show Bk c trueK f s' from hb)
  cases (show f = _ from q)
  refine elEA A1.ex ?_; rintro m1 _ F1
  exact k h₁ t₁ m1 F1
theorem fn_code {K : Frag} {h : Heap} {mg : Str → Option Value} {x : Str} {f c fa : Addr} {o : Obj} {fd : FuncData} (X : K.In h) (G : h.Ns mainGlobals mg) (hf : nsIn K mainGlobals x = some (some (.ref f)))
    (hl : ((K.lookup f).map fun o => match o.data with | .func fd => fd.code | _ => .none) = some (.ref c)) (hm : mg x = some (.ref fa)) (ho : h.get? fa = some o) (hd : o.data = .func fd) : fa = f ∧ fd.code = .ref c := by
  have e1 := mg_of X G hf
  rw [hm] at e1
  cases e1
  refine ⟨rfl, ?_⟩
  cases q : K.lookup f with
  | none => rw [q] at hl; cases hl
  | some o9 =>
    have e2 := X _ _ q
    rw [ho] at e2
    cases e2
    rw [q] at hl
    simp only [Option.map_some, hd] at hl
    exact Option.some.inj hl
theorem fn_ex {K : Frag} {a : Addr} {s : Stmt} {t : CT} {qual : Str} {oc : Value} {od : Option Addr} {osl : Array (Option Value)} {doc pm : Value} {an : Option Addr} {cdv ct : Value} (h1 : K.lookup a = some ⟨oc, od, .func (fnOf (fnNm s) qual (fnPar s) (fnBody s) (fnScope s) .none .none doc pm an cdv ct), osl⟩) (h2 : codeIn K cdv qual = true) (h3 : ccOk K (ccF s a t qual cdv) = true) :
    ∃ qual oc od osl doc pm an cdv ct, K.lookup a = some ⟨oc, od, .func (fnOf (fnNm s) qual (fnPar s) (fnBody s) (fnScope s) .none .none doc pm an cdv ct), osl⟩ ∧ codeIn K cdv qual = true ∧ ccOk K (ccF s a t qual cdv) = true := ⟨_, _, _, _, _, _, _, _, _, h1, h2, h3⟩
theorem fnG_ex {K : Frag} {a : Addr} {s : Stmt} {t : CT} {q : Array Value → Prop} {qual : Str} {oc : Value} {od : Option Addr} {osl : Array (Option Value)} {doc pm : Value} {an : Option Addr} {cdv ct : Value} {T : Addr} {o : Obj} {xs : Array Value} {n : Nat} (h1 : K.lookup a = some ⟨oc, od, .func (fnOf (fnNm s) qual (fnPar s) (fnBody s) (fnScope s) (.ref T) .none doc pm an cdv ct), osl⟩) (h2 : K.lookup T = some o) (h3 : o.data = .seq xs n) (h4 : q xs) (h5 : codeIn K cdv qual = true) (h6 : ccOk K (ccF s a t qual cdv) = true) :
    ∃ qual oc od osl dV doc pm an cdv ct, K.lookup a = some ⟨oc, od, .func (fnOf (fnNm s) qual (fnPar s) (fnBody s) (fnScope s) dV .none doc pm an cdv ct), osl⟩ ∧ DfI q K dV ∧ codeIn K cdv qual = true ∧ ccOk K (ccF s a t qual cdv) = true := ⟨_, _, _, _, _, _, _, _, _, _, h1, ⟨_, _, _, _, rfl, h2, h3, h4⟩, h5, h6⟩
theorem f657_ex {a b c d e : Tok} : ∃ t1 t2 t3 t4 t5, (#[.int 64 a, .int 50 b, .int 1000000 c, .int 100000 d, .int 10000 e] : Array Value) = #[.int 64 t1, .int 50 t2, .int 1000000 t3, .int 100000 t4, .int 10000 t5] := ⟨_, _, _, _, _, rfl⟩
theorem die_ex {K : Frag} {nm q : Str} {N : Addr} {bs : List Value} {sn : List Str} {sub : List Value} {ab : Bool} {col : Option Bool} {dd : Option Addr} {k0 k1 k2 k3 k5 : Option Value} (h : K.lookup 336 = some (excClassObj nm q 336 N bs [.ref 316, .type "Exception", .type "BaseException", .type "object"] true sn sub ab col dd k0 k1 k2 k3 k5 "Exception.__new__")) : ∃ nm q N bs sn sub ab col dd k0 k1 k2 k3 k5, K.lookup 336 = some (excClassObj nm q 336 N bs [.ref 316, .type "Exception", .type "BaseException", .type "object"] true sn sub ab col dd k0 k1 k2 k3 k5 "Exception.__new__") := ⟨_, _, _, _, _, _, _, _, _, _, _, _, _, _, h⟩
noncomputable abbrev pkObj (x0 x1 x2 x3 x4 : Tok) (n : Nat) : Obj := listOf #[.str (Str.ofString "A") x0, .str (Str.ofString "B") x1, .str (Str.ofString "C::D") x2, .str (Str.ofString "main") x3, .str (Str.ofString "HASH") x4] n
theorem pk_ex {K : Frag} {x0 x1 x2 x3 x4 : Tok} {n : Nat} (h : K.lookup 742 = some (listOf #[.str (Str.ofString "A") x0, .str (Str.ofString "B") x1, .str (Str.ofString "C::D") x2, .str (Str.ofString "main") x3, .str (Str.ofString "HASH") x4] n)) : ∃ x0 x1 x2 x3 x4 n, K.lookup 742 = some (pkObj x0 x1 x2 x3 x4 n) := ⟨_, _, _, _, _, _, h⟩
theorem fl_script {w : World} {h : Heap} {a : Addr} {vs : List Value} (x : h.IsList a vs.toArray) : FL w h a vs := let ⟨o, e, c, d⟩ := x; ⟨.lo vs, ⟨(fun h => nomatch h), o, e, c, d⟩, rfl⟩
theorem fl_pk {K : Params → Frag} {w : World} {h : Heap} {x0 x1 x2 x3 x4 : Tok} {n : Nat} (X : (K w.params).In h) (e : (K w.params).lookup 742 = some (pkObj x0 x1 x2 x3 x4 n)) : FL w h 742 [.str (Str.ofString "A") x0, .str (Str.ofString "B") x1, .str (Str.ofString "C::D") x2, .str (Str.ofString "main") x3, .str (Str.ofString "HASH") x4] := ⟨.li _, ⟨(fun h => nomatch h), _, X _ _ e, _, rfl⟩, rfl⟩
theorem pk_strs (x0 x1 x2 x3 x4 : Tok) : StrsAre [.str (Str.ofString "A") x0, .str (Str.ofString "B") x1, .str (Str.ofString "C::D") x2, .str (Str.ofString "main") x3, .str (Str.ofString "HASH") x4] pkL := .cons (.cons (.cons (.cons (.cons .nil))))
set_option maxHeartbeats 0
set_option Elab.async true
theorem all : PySem.Challenge.rw_nz0199_01.Holds := by
  (w_on; o_law; k_head; (case hw => w_witness2))
  have fillK : PySem.Challenge.rw_nz0199_01 = PySem.Challenge.rw_nz0199_01 ∧ Mine.all.heap_1_39 = Mine.all.heap_1_39 := by k_fill; exact ⟨rfl, rfl⟩
  clear fillK
  have kok : KOk Mine.all.heap_1_39 := by
    refine' { att := ?zatt, met := ?zmet, sto := ?zsto, mak := ?zmak, gvs := ?zgvs, isi := ?zisi, isn := ?zisn, isp := ?zisp, dieK := ?zdie, cms := ?zcms, f180 := ?zf180, f657 := ?zf657, f49 := ?zf49, f63 := ?zf63, f84 := ?zf84, f103 := ?zf103, f122 := ?zf122, f141 := ?zf141, f160 := ?zf160, f201 := ?zf201, f208 := ?zf208, f215 := ?zf215, f222 := ?zf222, f229 := ?zf229, f236 := ?zf236, f243 := ?zf243, f257 := ?zf257, f264 := ?zf264, f271 := ?zf271, f278 := ?zf278, f285 := ?zf285, f292 := ?zf292, f299 := ?zf299, f313 := ?zf313, f333 := ?zf333, f343 := ?zf343, f350 := ?zf350, f357 := ?zf357, f364 := ?zf364, f378 := ?zf378, f385 := ?zf385, f399 := ?zf399, f406 := ?zf406, f413 := ?zf413, f420 := ?zf420, f427 := ?zf427, f434 := ?zf434, f441 := ?zf441, f448 := ?zf448, f455 := ?zf455, f462 := ?zf462, f469 := ?zf469, f476 := ?zf476, f483 := ?zf483, f490 := ?zf490, f497 := ?zf497, f504 := ?zf504, f518 := ?zf518, f525 := ?zf525, f532 := ?zf532, f546 := ?zf546, f551 := ?zf551, f558 := ?zf558, f565 := ?zf565, f614 := ?zf614, f635 := ?zf635, f678 := ?zf678, f685 := ?zf685, f699 := ?zf699, f713 := ?zf713, f720 := ?zf720, f734 := ?zf734, f741 := ?zf741, f749 := ?zf749, f756 := ?zf756, f763 := ?zf763, f768 := ?zf768, f775 := ?zf775, f782 := ?zf782, f787 := ?zf787, f794 := ?zf794, f799 := ?zf799 }
    case zatt => intro P; kernel_rfl
    case zmet => intro P; kernel_rfl
    case zsto => intro P; kernel_rfl
    case zmak => intro P; kernel_rfl
    case zgvs => intro P; kernel_rfl
    case zcms => intro P; kernel_rfl
    case zdie =>
      intro P
      refine' ⟨die_ex ?zq1, ?zq2, ?zq3, ?zq4, ?zq5, ?zq6, ?zq7, ?zq8, ?zq9, ?zqa, ?zqb⟩
      case zq1 => k_is
      case zq2 => k_is
      case zq3 => k_is
      case zq4 => k_is
      case zq5 => k_is
      case zq6 => k_is
      case zq7 => k_is
      case zq8 => k_is
      case zq9 => k_is
      case zqa => k_is
      case zqb => k_is
    case zisi =>
      intro w s x dx D C od A Q E X h1 h2 hD hC q
      have I : InstAt s.heap x (instObj D dx) D (some od) := ⟨h1, rfl, rfl, h2⟩
      have hD' := hasA_mem hD
      have hC' := hasA_mem hC
      simp only [clsB, List.mem_cons, List.not_mem_nil, or_false] at hD' hC'
      rcases hD' with rfl | rfl | rfl | rfl | rfl | rfl <;>
       (have z := fun (C : Addr) (hne : kin_not (Mine.all.heap_1_39 w.params) _ C = true) (q : Q (.bool false) { s with toks := s.toks + 1 }) => kin_callC (prog := PG) (w := w) (A := A) (E := E) (Q := Q) X I hne (by k_is) (by k_is) (by k_is) (by k_is) (by k_is) (by k_is) q
        rcases hC' with rfl | rfl | rfl | rfl | rfl | rfl <;>
        first
        | exact z _ (by kin_no) (q _)
        | exact isi_call X (fun M => I.type) (by k_is) (by intro e; cases e) (q _))
    case zisp =>
      intro w s v C A Q E X hv hC q
      have hC' := hasA_mem hC
      simp only [clsB, List.mem_cons, List.not_mem_nil, or_false] at hC'
      rcases hC' with rfl | rfl | rfl | rfl | rfl | rfl <;> rcases hv.ways with rfl | ⟨i, t, rfl⟩ | ⟨y, t, rfl⟩ <;> (have F := q; (walk1; exact q _))
    case zisn =>
      intro w s x dx D od A Q E X h1 h2 hD q
      have I : InstAt s.heap x (instObj D dx) D (some od) := ⟨h1, rfl, rfl, h2⟩
      have hD' := hasA_mem hD
      simp only [clsB, List.mem_cons, List.not_mem_nil, or_false] at hD'
      rcases hD' with rfl | rfl | rfl | rfl | rfl | rfl <;>
      exact kin_callT (prog := PG) (w := w) X I (by unfold kin_notT; exact beq_iff_eq.mpr (by k_is)) rfl (by k_is) (by k_is) (by k_is) (by k_is) (by k_is) (by k_is) (q _)
    case zf180 =>
      constructor
      intro P
      refine' fnG_ex ?za1 ?za2 ?za3 ?za4 ?za5 ?za6
      case za1 => k_is
      case za2 => k_is
      case za3 => exact rfl
      case za4 => exact rfl
      case za5 => k_is
      case za6 => kernel_rfl
    case zf657 =>
      constructor
      intro P
      refine' fnG_ex ?zb1 ?zb2 ?zb3 ?zb4 ?zb5 ?zb6
      case zb1 => k_is
      case zb2 => k_is
      case zb3 => exact rfl
      case zb4 => exact f657_ex
      case zb5 => k_is
      case zb6 => kernel_rfl
    case zf49 => constructor; intro P; refine' fn_ex ?zx49 ?zy49 ?zw49; (case zx49 => k_is); (case zy49 => k_is); (case zw49 => kernel_rfl)
    case zf63 => constructor; intro P; refine' fn_ex ?zx63 ?zy63 ?zw63; (case zx63 => k_is); (case zy63 => k_is); (case zw63 => kernel_rfl)
    case zf84 => constructor; intro P; refine' fn_ex ?zx84 ?zy84 ?zw84; (case zx84 => k_is); (case zy84 => k_is); (case zw84 => kernel_rfl)
    case zf103 => constructor; intro P; refine' fn_ex ?zx103 ?zy103 ?zw103; (case zx103 => k_is); (case zy103 => k_is); (case zw103 => kernel_rfl)
    case zf122 => constructor; intro P; refine' fn_ex ?zx122 ?zy122 ?zw122; (case zx122 => k_is); (case zy122 => k_is); (case zw122 => kernel_rfl)
    case zf141 => constructor; intro P; refine' fn_ex ?zx141 ?zy141 ?zw141; (case zx141 => k_is); (case zy141 => k_is); (case zw141 => kernel_rfl)
    case zf160 => constructor; intro P; refine' fn_ex ?zx160 ?zy160 ?zw160; (case zx160 => k_is); (case zy160 => k_is); (case zw160 => kernel_rfl)
    case zf201 => constructor; intro P; refine' fn_ex ?zx201 ?zy201 ?zw201; (case zx201 => k_is); (case zy201 => k_is); (case zw201 => kernel_rfl)
    case zf208 => constructor; intro P; refine' fn_ex ?zx208 ?zy208 ?zw208; (case zx208 => k_is); (case zy208 => k_is); (case zw208 => kernel_rfl)
    case zf215 => constructor; intro P; refine' fn_ex ?zx215 ?zy215 ?zw215; (case zx215 => k_is); (case zy215 => k_is); (case zw215 => kernel_rfl)
    case zf222 => constructor; intro P; refine' fn_ex ?zx222 ?zy222 ?zw222; (case zx222 => k_is); (case zy222 => k_is); (case zw222 => kernel_rfl)
    case zf229 => constructor; intro P; refine' fn_ex ?zx229 ?zy229 ?zw229; (case zx229 => k_is); (case zy229 => k_is); (case zw229 => kernel_rfl)
    case zf236 => constructor; intro P; refine' fn_ex ?zx236 ?zy236 ?zw236; (case zx236 => k_is); (case zy236 => k_is); (case zw236 => kernel_rfl)
    case zf243 => constructor; intro P; refine' fn_ex ?zx243 ?zy243 ?zw243; (case zx243 => k_is); (case zy243 => k_is); (case zw243 => kernel_rfl)
    case zf257 => constructor; intro P; refine' fn_ex ?zx257 ?zy257 ?zw257; (case zx257 => k_is); (case zy257 => k_is); (case zw257 => kernel_rfl)
    case zf264 => constructor; intro P; refine' fn_ex ?zx264 ?zy264 ?zw264; (case zx264 => k_is); (case zy264 => k_is); (case zw264 => kernel_rfl)
    case zf271 => constructor; intro P; refine' fn_ex ?zx271 ?zy271 ?zw271; (case zx271 => k_is); (case zy271 => k_is); (case zw271 => kernel_rfl)
    case zf278 => constructor; intro P; refine' fn_ex ?zx278 ?zy278 ?zw278; (case zx278 => k_is); (case zy278 => k_is); (case zw278 => kernel_rfl)
    case zf285 => constructor; intro P; refine' fn_ex ?zx285 ?zy285 ?zw285; (case zx285 => k_is); (case zy285 => k_is); (case zw285 => kernel_rfl)
    case zf292 => constructor; intro P; refine' fn_ex ?zx292 ?zy292 ?zw292; (case zx292 => k_is); (case zy292 => k_is); (case zw292 => kernel_rfl)
    case zf299 => constructor; intro P; refine' fn_ex ?zx299 ?zy299 ?zw299; (case zx299 => k_is); (case zy299 => k_is); (case zw299 => kernel_rfl)
    case zf313 => constructor; intro P; refine' fn_ex ?zx313 ?zy313 ?zw313; (case zx313 => k_is); (case zy313 => k_is); (case zw313 => kernel_rfl)
    case zf333 => constructor; intro P; refine' fn_ex ?zx333 ?zy333 ?zw333; (case zx333 => k_is); (case zy333 => k_is); (case zw333 => kernel_rfl)
    case zf343 => constructor; intro P; refine' fn_ex ?zx343 ?zy343 ?zw343; (case zx343 => k_is); (case zy343 => k_is); (case zw343 => kernel_rfl)
    case zf350 => constructor; intro P; refine' fn_ex ?zx350 ?zy350 ?zw350; (case zx350 => k_is); (case zy350 => k_is); (case zw350 => kernel_rfl)
    case zf357 => constructor; intro P; refine' fn_ex ?zx357 ?zy357 ?zw357; (case zx357 => k_is); (case zy357 => k_is); (case zw357 => kernel_rfl)
    case zf364 => constructor; intro P; refine' fn_ex ?zx364 ?zy364 ?zw364; (case zx364 => k_is); (case zy364 => k_is); (case zw364 => kernel_rfl)
    case zf378 => constructor; intro P; refine' fn_ex ?zx378 ?zy378 ?zw378; (case zx378 => k_is); (case zy378 => k_is); (case zw378 => kernel_rfl)
    case zf385 => constructor; intro P; refine' fn_ex ?zx385 ?zy385 ?zw385; (case zx385 => k_is); (case zy385 => k_is); (case zw385 => kernel_rfl)
    case zf399 => constructor; intro P; refine' fn_ex ?zx399 ?zy399 ?zw399; (case zx399 => k_is); (case zy399 => k_is); (case zw399 => kernel_rfl)
    case zf406 => constructor; intro P; refine' fn_ex ?zx406 ?zy406 ?zw406; (case zx406 => k_is); (case zy406 => k_is); (case zw406 => kernel_rfl)
    case zf413 => constructor; intro P; refine' fn_ex ?zx413 ?zy413 ?zw413; (case zx413 => k_is); (case zy413 => k_is); (case zw413 => kernel_rfl)
    case zf420 => constructor; intro P; refine' fn_ex ?zx420 ?zy420 ?zw420; (case zx420 => k_is); (case zy420 => k_is); (case zw420 => kernel_rfl)
    case zf427 => constructor; intro P; refine' fn_ex ?zx427 ?zy427 ?zw427; (case zx427 => k_is); (case zy427 => k_is); (case zw427 => kernel_rfl)
    case zf434 => constructor; intro P; refine' fn_ex ?zx434 ?zy434 ?zw434; (case zx434 => k_is); (case zy434 => k_is); (case zw434 => kernel_rfl)
    case zf441 => constructor; intro P; refine' fn_ex ?zx441 ?zy441 ?zw441; (case zx441 => k_is); (case zy441 => k_is); (case zw441 => kernel_rfl)
    case zf448 => constructor; intro P; refine' fn_ex ?zx448 ?zy448 ?zw448; (case zx448 => k_is); (case zy448 => k_is); (case zw448 => kernel_rfl)
    case zf455 => constructor; intro P; refine' fn_ex ?zx455 ?zy455 ?zw455; (case zx455 => k_is); (case zy455 => k_is); (case zw455 => kernel_rfl)
    case zf462 => constructor; intro P; refine' fn_ex ?zx462 ?zy462 ?zw462; (case zx462 => k_is); (case zy462 => k_is); (case zw462 => kernel_rfl)
    case zf469 => constructor; intro P; refine' fn_ex ?zx469 ?zy469 ?zw469; (case zx469 => k_is); (case zy469 => k_is); (case zw469 => kernel_rfl)
    case zf476 => constructor; intro P; refine' fn_ex ?zx476 ?zy476 ?zw476; (case zx476 => k_is); (case zy476 => k_is); (case zw476 => kernel_rfl)
    case zf483 => constructor; intro P; refine' fn_ex ?zx483 ?zy483 ?zw483; (case zx483 => k_is); (case zy483 => k_is); (case zw483 => kernel_rfl)
    case zf490 => constructor; intro P; refine' fn_ex ?zx490 ?zy490 ?zw490; (case zx490 => k_is); (case zy490 => k_is); (case zw490 => kernel_rfl)
    case zf497 => constructor; intro P; refine' fn_ex ?zx497 ?zy497 ?zw497; (case zx497 => k_is); (case zy497 => k_is); (case zw497 => kernel_rfl)
    case zf504 => constructor; intro P; refine' fn_ex ?zx504 ?zy504 ?zw504; (case zx504 => k_is); (case zy504 => k_is); (case zw504 => kernel_rfl)
    case zf518 => constructor; intro P; refine' fn_ex ?zx518 ?zy518 ?zw518; (case zx518 => k_is); (case zy518 => k_is); (case zw518 => kernel_rfl)
    case zf525 => constructor; intro P; refine' fn_ex ?zx525 ?zy525 ?zw525; (case zx525 => k_is); (case zy525 => k_is); (case zw525 => kernel_rfl)
    case zf532 => constructor; intro P; refine' fn_ex ?zx532 ?zy532 ?zw532; (case zx532 => k_is); (case zy532 => k_is); (case zw532 => kernel_rfl)
    case zf546 => constructor; intro P; refine' fn_ex ?zx546 ?zy546 ?zw546; (case zx546 => k_is); (case zy546 => k_is); (case zw546 => kernel_rfl)
    case zf551 => constructor; intro P; refine' fn_ex ?zx551 ?zy551 ?zw551; (case zx551 => k_is); (case zy551 => k_is); (case zw551 => kernel_rfl)
    case zf558 => constructor; intro P; refine' fn_ex ?zx558 ?zy558 ?zw558; (case zx558 => k_is); (case zy558 => k_is); (case zw558 => kernel_rfl)
    case zf565 => constructor; intro P; refine' fn_ex ?zx565 ?zy565 ?zw565; (case zx565 => k_is); (case zy565 => k_is); (case zw565 => kernel_rfl)
    case zf614 => constructor; intro P; refine' fn_ex ?zx614 ?zy614 ?zw614; (case zx614 => k_is); (case zy614 => k_is); (case zw614 => kernel_rfl)
    case zf635 => constructor; intro P; refine' fn_ex ?zx635 ?zy635 ?zw635; (case zx635 => k_is); (case zy635 => k_is); (case zw635 => kernel_rfl)
    case zf678 => constructor; intro P; refine' fn_ex ?zx678 ?zy678 ?zw678; (case zx678 => k_is); (case zy678 => k_is); (case zw678 => kernel_rfl)
    case zf685 => constructor; intro P; refine' fn_ex ?zx685 ?zy685 ?zw685; (case zx685 => k_is); (case zy685 => k_is); (case zw685 => kernel_rfl)
    case zf699 => constructor; intro P; refine' fn_ex ?zx699 ?zy699 ?zw699; (case zx699 => k_is); (case zy699 => k_is); (case zw699 => kernel_rfl)
    case zf713 => constructor; intro P; refine' fn_ex ?zx713 ?zy713 ?zw713; (case zx713 => k_is); (case zy713 => k_is); (case zw713 => kernel_rfl)
    case zf720 => constructor; intro P; refine' fn_ex ?zx720 ?zy720 ?zw720; (case zx720 => k_is); (case zy720 => k_is); (case zw720 => kernel_rfl)
    case zf734 => constructor; intro P; refine' fn_ex ?zx734 ?zy734 ?zw734; (case zx734 => k_is); (case zy734 => k_is); (case zw734 => kernel_rfl)
    case zf741 => constructor; intro P; refine' fn_ex ?zx741 ?zy741 ?zw741; (case zx741 => k_is); (case zy741 => k_is); (case zw741 => kernel_rfl)
    case zf749 => constructor; intro P; refine' fn_ex ?zx749 ?zy749 ?zw749; (case zx749 => k_is); (case zy749 => k_is); (case zw749 => kernel_rfl)
    case zf756 => constructor; intro P; refine' fn_ex ?zx756 ?zy756 ?zw756; (case zx756 => k_is); (case zy756 => k_is); (case zw756 => kernel_rfl)
    case zf763 => constructor; intro P; refine' fn_ex ?zx763 ?zy763 ?zw763; (case zx763 => k_is); (case zy763 => k_is); (case zw763 => kernel_rfl)
    case zf768 => constructor; intro P; refine' fn_ex ?zx768 ?zy768 ?zw768; (case zx768 => k_is); (case zy768 => k_is); (case zw768 => kernel_rfl)
    case zf775 => constructor; intro P; refine' fn_ex ?zx775 ?zy775 ?zw775; (case zx775 => k_is); (case zy775 => k_is); (case zw775 => kernel_rfl)
    case zf782 => constructor; intro P; refine' fn_ex ?zx782 ?zy782 ?zw782; (case zx782 => k_is); (case zy782 => k_is); (case zw782 => kernel_rfl)
    case zf787 => constructor; intro P; refine' fn_ex ?zx787 ?zy787 ?zw787; (case zx787 => k_is); (case zy787 => k_is); (case zw787 => kernel_rfl)
    case zf794 => constructor; intro P; refine' fn_ex ?zx794 ?zy794 ?zw794; (case zx794 => k_is); (case zy794 => k_is); (case zw794 => kernel_rfl)
    case zf799 => constructor; intro P; refine' fn_ex ?zx799 ?zy799 ?zw799; (case zx799 => k_is); (case zy799 => k_is); (case zw799 => kernel_rfl)
  have pk742 (P) : ∃ x0 x1 x2 x3 x4 n, (Mine.all.heap_1_39 P).lookup 742 = some (pkObj x0 x1 x2 x3 x4 n) := by
    refine' pk_ex ?zpk
    case zpk => k_is
  k_fill
  intro w s₀ s₁ mg mb G Y fa o pm cd doc dV kV ho hd9 hcd hD hmg hg args vals as hpre hlay hrd hwl hlo
  have KX := kIn_of Y
  obtain ⟨hf9, he9⟩ : fa = 799 ∧ cd = .ref 798 := fn_code KX (Ground.T G).g (f := 799) (by kernel_rfl) (by kernel_rfl) hmg ho hd9
  have T9 : Top Mine.all.view_1_40 LS (ExcName.means s₀.heap) mg mb s₁.heap := (show looseW Mine.all.view_1_40 [Str.ofString "Limits", Str.ofString "_law_packages"] = LS by decide +kernel) ▸ Ground.T G
  subst he9
  k_behind G ho hd9 hcd hD hmg hpre hlay hrd hwl hlo cd
  all_goals try k_fold
  subst hf9
  rename Fr _ _ _ _ => F9
  rename News _ _ _ _ => N9
  rename Below _ _ _ _ => K9
  rename IntsAre _ _ => I9
  rename Heap.IsList _ _ _ => L9
  obtain ⟨x0, x1, x2, x3, x4, n9, hp9⟩ := pk742 w.params
  refine' law_head kok ?zenv ?zok ?zpE K9 KX T9 ?zq ?zd ?zu (fl_pk KX hp9) (pk_strs x0 x1 x2 x3 x4) (fl_script L9) I9 ?zns F9 ?zm (N9.get (.head _)) (N9.fresh (.head _)) ?zdata ?zk
  case zenv => exact rfl
  case zok => kernel_rfl
  case zq => exact rfl
  case zd => decide
  case zu => decide
  case zns => omega
  case zm => exact rfl
  case zdata => assumption
  case zpE => first | exact PassesOwn.leaving | exact PassesOwn.looking | exact PassesOwn.never
  case zk =>
    intro h' tk m7 F7
    clear F9 N9
    k_steps
  all_goals trace_state
  all_goals skip
end Mine
set_option Elab.async false
theorem PySem.Challenge.cw_nz0199_01_holds : PySem.Challenge.rw_nz0199_01.Holds := by
  exact Mine.all
