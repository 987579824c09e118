import PyProof.Rows.All
import Wide.All
import OpenK.AllK
import Wide.FinOn
import PySem.Challenge.RW_rh0162_01
open PySem PySem.W PyProof.Rows
set_option Elab.async false
name_quick tw16018607276475445134 for PySem.W.S.findZ by PySem.W.S.findZ_eq
name_quick tw7009043117176579089 for PySem.W.S.findZ by PySem.W.S.findZ_eq
name_quick tw4748654258956052638 for PySem.W.S.findZ by PySem.W.S.findZ_eq
name_quick tw9948023125614773506 for PySem.W.S.findZ by PySem.W.S.findZ_eq
name_quick tw6589095468515690095 for PySem.W.S.findZ by PySem.W.S.findZ_eq
name_quick tw8047484207015712433 for PySem.W.S.findZ by PySem.W.S.findZ_eq
name_quick tw7198390536060210744 for PySem.W.S.findZ by PySem.W.S.findZ_eq
name_quick tw5823794197072137003 for PySem.W.S.findZ by PySem.W.S.findZ_eq
name_quick tw4224760802259116069 for PySem.W.S.findZ by PySem.W.S.findZ_eq
name_quick tw8537084889766193716 for PySem.W.S.findZ by PySem.W.S.findZ_eq
name_quick tw1355338860687761863 for PySem.W.S.findZ by PySem.W.S.findZ_eq
name_quick tw13512673800721320934 for PySem.W.S.findZ by PySem.W.S.findZ_eq
name_quick tw18211773271919218964 for PySem.W.S.findZ by PySem.W.S.findZ_eq
name_quick tw878741703135273975 for PySem.W.S.findZ by PySem.W.S.findZ_eq
name_quick tw14127431949159616355 for PySem.W.S.findZ by PySem.W.S.findZ_eq
name_quick tw6213141578215901147 for PySem.W.S.findZ by PySem.W.S.findZ_eq
name_quick tw17532718790514356516 for PySem.W.S.findZ by PySem.W.S.findZ_eq
name_quick tw13915792640404377917 for PySem.W.S.findZ by PySem.W.S.findZ_eq
name_quick tw4434333111790514575 for PySem.W.S.findZ by PySem.W.S.findZ_eq
name_quick tw10314498396905981064 for PySem.W.S.findZ by PySem.W.S.findZ_eq
name_quick tw13809362725867891129 for PySem.W.S.findZ by PySem.W.S.findZ_eq
name_quick tw16494616584097029746 for PySem.W.S.findZ by PySem.W.S.findZ_eq
name_quick tw13607416678640721797 for PySem.W.S.findZ by PySem.W.S.findZ_eq
name_quick tw2334299552400917057 for PySem.W.S.findZ by PySem.W.S.findZ_eq
name_quick tw15034313371233782410 for PySem.W.S.findZ by PySem.W.S.findZ_eq
name_quick tw4319705520415482375 for PySem.W.S.findZ by PySem.W.S.findZ_eq
name_quick tw9787463984185863102 for PySem.W.S.findZ by PySem.W.S.findZ_eq
name_quick tw3820604794100220378 for PySem.W.S.findZ by PySem.W.S.findZ_eq
name_quick tw14112274594779413971 for PySem.W.S.findZ by PySem.W.S.findZ_eq
name_quick tw11939915149646268982 for PySem.W.S.findZ by PySem.W.S.findZ_eq
name_quick tw11682084944484805031 for PySem.W.S.findZ by PySem.W.S.findZ_eq
name_quick tw313226197891681235 for PySem.W.S.findZ by PySem.W.S.findZ_eq
name_quick tw8902219603052485911 for PySem.W.S.findZ by PySem.W.S.findZ_eq
name_quick tw15376083050721069600 for PySem.W.S.findZ by PySem.W.S.findZ_eq
name_quick tw12450158673883907302 for PySem.W.S.findZ by PySem.W.S.findZ_eq
name_quick tw14884601019740666482 for PySem.W.S.findZ by PySem.W.S.findZ_eq
name_quick tw5200128776193632040 for PySem.W.S.findZ by PySem.W.S.findZ_eq
name_quick tw16339471991904476338 for PySem.W.S.findZ by PySem.W.S.findZ_eq
name_quick tw14433975572909055671 for PySem.W.S.findZ by PySem.W.S.findZ_eq
name_quick tw12825359941727978080 for PySem.W.S.findZ by PySem.W.S.findZ_eq
name_quick tw13526986893379352335 for PySem.W.S.findZ by PySem.W.S.findZ_eq
name_quick tw16916688483869632129 for PySem.W.S.findZ by PySem.W.S.findZ_eq
name_quick tw17497748084772794779 for PySem.W.S.findZ by PySem.W.S.findZ_eq
name_quick tw282004115355043989 for PySem.W.S.findZ by PySem.W.S.findZ_eq
name_quick tw11964429278604863157 for PySem.W.S.findZ by PySem.W.S.findZ_eq
name_quick tw10029231156530900338 for PySem.W.S.findZ by PySem.W.S.findZ_eq
name_quick tw12172078356533094185 for PySem.W.S.findZ by PySem.W.S.findZ_eq
name_quick tw219737044198020058 for PySem.W.S.findZ by PySem.W.S.findZ_eq
name_quick tw14973007898608030118 for PySem.W.S.findZ by PySem.W.S.findZ_eq
name_quick tw5706481520468235054 for PySem.W.S.findZ by PySem.W.S.findZ_eq
name_quick tw6122645084068987007 for PySem.W.S.findZ by PySem.W.S.findZ_eq
name_quick tw10010936943081839664 for PySem.W.S.findZ by PySem.W.S.findZ_eq
name_quick tw189603312586018693 for PySem.W.S.findZ by PySem.W.S.findZ_eq
name_quick tw4549333791460862111 for PySem.W.S.findZ by PySem.W.S.findZ_eq
name_quick tw17018628822417861297 for PySem.W.S.findZ by PySem.W.S.findZ_eq
name_quick tw15663404670287596823 for PySem.W.S.findZ by PySem.W.S.findZ_eq
name_quick tw4558998842232669794 for PySem.W.S.findZ by PySem.W.S.findZ_eq
name_quick tw3976722010076183465 for PySem.W.S.findZ by PySem.W.S.findZ_eq
name_quick tw9676229304581654039 for PySem.W.S.findZ by PySem.W.S.findZ_eq
name_quick tw12734952128020822468 for PySem.W.S.findZ by PySem.W.S.findZ_eq
name_quick tw14714103240675001986 for PySem.W.S.findZ by PySem.W.S.findZ_eq
name_quick tw15423634916342008072 for PySem.W.S.findZ by PySem.W.S.findZ_eq
name_quick tw10887116778572429059 for PySem.W.S.findZ by PySem.W.S.findZ_eq
name_quick tw5248340912204065574 for PySem.W.S.findZ by PySem.W.S.findZ_eq
name_quick tw9300948228871686676 for PySem.W.S.findZ by PySem.W.S.findZ_eq
name_quick tw13254397897704925713 for PySem.W.S.findZ by PySem.W.S.findZ_eq
name_quick tw12835720964997663042 for PySem.W.S.findZ by PySem.W.S.findZ_eq
name_quick tw9407582987413476825 for PySem.W.S.findZ by PySem.W.S.findZ_eq
name_quick tw8603108125212654177 for PySem.W.S.findZ by PySem.W.S.findZ_eq
name_quick tw11445135464325071761 for PySem.W.S.findZ by PySem.W.S.findZ_eq
name_quick tw17000458434675057986 for PySem.W.S.findZ by PySem.W.S.findZ_eq
name_quick tw470574548607681690 for PySem.W.S.findZ by PySem.W.S.findZ_eq
name_quick tw13987355940573415152 for PySem.W.S.findZ by PySem.W.S.findZ_eq
name_quick tw10670733350059645105 for PySem.W.S.findZ by PySem.W.S.findZ_eq
name_quick tw13036272033356848781 for PySem.W.S.findZ by PySem.W.S.findZ_eq
name_quick tw13317431791736044220 for PySem.W.S.findZ by PySem.W.S.findZ_eq
name_quick tw11625766737575182897 for PySem.W.S.findZ by PySem.W.S.findZ_eq
name_quick tw9787396351842916947 for PySem.W.S.findZ by PySem.W.S.findZ_eq
name_quick tw9136488742655976645 for PySem.W.S.findZ by PySem.W.S.findZ_eq
name_quick tw4525517667737911620 for PySem.W.S.findZ by PySem.W.S.findZ_eq
name_quick tw1617757218408452269 for PySem.W.S.findZ by PySem.W.S.findZ_eq
name_quick tw7286323032743288035 for PySem.W.S.findZ by PySem.W.S.findZ_eq
name_quick tw16439824349840649037 for PySem.W.S.findZ by PySem.W.S.findZ_eq
name_quick tw1291980286583624508 for PySem.W.S.findZ by PySem.W.S.findZ_eq
name_quick tw3891137856419664920 for PySem.W.S.findZ by PySem.W.S.findZ_eq
name_quick tw16349216596472256690 for PySem.W.S.findZ by PySem.W.S.findZ_eq
name_quick tw17793810792582333365 for PySem.W.S.findZ by PySem.W.S.findZ_eq
name_quick tw6434138532213402376 for PySem.W.S.findZ by PySem.W.S.findZ_eq
name_quick tw14326252917377295143 for PySem.W.S.findZ by PySem.W.S.findZ_eq
name_quick tw11462045893675790159 for PySem.W.S.findZ by PySem.W.S.findZ_eq
name_quick tw16548257151911338427 for PySem.W.S.findZ by PySem.W.S.findZ_eq
name_quick tw9011979029575296479 for PySem.W.S.findZ by PySem.W.S.findZ_eq
name_quick tw10379131730601215995 for PySem.W.S.findZ by PySem.W.S.findZ_eq
name_quick tw14242591208333384230 for PySem.W.S.findZ by PySem.W.S.findZ_eq
name_quick tw13471461260053382970 for PySem.W.S.findZ by PySem.W.S.findZ_eq
name_quick tw7276740287692124622 for PySem.W.S.findZ by PySem.W.S.findZ_eq
name_quick tw17765544955259793912 for PySem.W.S.findZ by PySem.W.S.findZ_eq
name_quick tw16817318245366136608 for PySem.W.S.findZ by PySem.W.S.findZ_eq
name_quick tw12392613427281201732 for PySem.W.S.findZ by PySem.W.S.findZ_eq
name_quick tw6448080314894763839 for PySem.W.S.findZ by PySem.W.S.findZ_eq
name_quick tw15542503528162795033 for PySem.W.S.findZ by PySem.W.S.findZ_eq
name_quick tw5701610774189311196 for PySem.W.S.findZ by PySem.W.S.findZ_eq
name_quick tw17057272898397164401 for PySem.W.S.findZ by PySem.W.S.findZ_eq
name_quick tw14971970265804392439 for PySem.W.S.findZ by PySem.W.S.findZ_eq
name_quick tw12813236842856870187 for PySem.W.S.findZ by PySem.W.S.findZ_eq
name_quick tw2401699919119007470 for PySem.W.S.findZ by PySem.W.S.findZ_eq
name_quick tw16947794391021106201 for PySem.W.S.findZ by PySem.W.S.findZ_eq
name_quick tw1638017585896720355 for PySem.W.S.findZ by PySem.W.S.findZ_eq
name_quick tw11740888236361828772 for PySem.W.S.findZ by PySem.W.S.findZ_eq
name_quick tw11310463157757771331 for PySem.W.S.findZ by PySem.W.S.findZ_eq
name_quick tw2315820567201803617 for PySem.W.S.findZ by PySem.W.S.findZ_eq
name_quick tw16697116713213952808 for PySem.W.S.findZ by PySem.W.S.findZ_eq
name_quick tw6426273055680023932 for PySem.W.S.findZ by PySem.W.S.findZ_eq
name_quick tw1735497430108182060 for PySem.W.S.findZ by PySem.W.S.findZ_eq
name_quick tw16241802466949684156 for PySem.W.S.findZ by PySem.W.S.findZ_eq
name_quick tw14223099787259518943 for PySem.W.S.findZ by PySem.W.S.findZ_eq
name_quick tw11729385059970357855 for PySem.W.S.findZ by PySem.W.S.findZ_eq
name_quick tw16655555454665732581 for PySem.W.S.findZ by PySem.W.S.findZ_eq
name_quick tw13002492023102617099 for PySem.W.S.findZ by PySem.W.S.findZ_eq
name_quick tw15562837088269578035 for PySem.W.S.findZ by PySem.W.S.findZ_eq
name_quick tw2039238271031011813 for PySem.W.S.findZ by PySem.W.S.findZ_eq
name_quick tw183835017167291270 for PySem.W.S.findZ by PySem.W.S.findZ_eq
name_quick tw16942194440817826258 for PySem.W.S.findZ by PySem.W.S.findZ_eq
name_quick tw2951486255847992690 for PySem.W.S.findZ by PySem.W.S.findZ_eq
name_quick tw607167704815816724 for PySem.W.S.findZ by PySem.W.S.findZ_eq
name_quick tw3880421473898291048 for PySem.W.S.findZ by PySem.W.S.findZ_eq
name_quick tw10317580896714288900 for PySem.W.S.findZ by PySem.W.S.findZ_eq
name_quick tw8989982439271903415 for PySem.W.S.findZ by PySem.W.S.findZ_eq
name_quick tw9674257727999782656 for PySem.W.S.findZ by PySem.W.S.findZ_eq
name_quick tw7392212959928792091 for PySem.W.S.findZ by PySem.W.S.findZ_eq
name_quick tw16643706677886111943 for PySem.W.S.findZ by PySem.W.S.findZ_eq
name_quick tw9821368406582625841 for PySem.W.S.findZ by PySem.W.S.findZ_eq
name_quick tw14209830616999942402 for PySem.W.S.findZ by PySem.W.S.findZ_eq
name_quick tw1218959903707654005 for PySem.W.S.findZ by PySem.W.S.findZ_eq
name_quick tw3282434896037501709 for PySem.W.S.findZ by PySem.W.S.findZ_eq
name_quick tw13559156169165276386 for PySem.W.S.findZ by PySem.W.S.findZ_eq
name_quick tw11838138170533393997 for PySem.W.S.findZ by PySem.W.S.findZ_eq
name_quick tw9908251947323293946 for PySem.W.S.findZ by PySem.W.S.findZ_eq
name_quick tw14311459727803291754 for PySem.W.S.findZ by PySem.W.S.findZ_eq
name_quick tw1041845030581493396 for PySem.W.S.findZ by PySem.W.S.findZ_eq
name_quick tw1962928258387122110 for PySem.W.S.findZ by PySem.W.S.findZ_eq
name_quick tw12647630874787467225 for PySem.W.S.findZ by PySem.W.S.findZ_eq
name_quick tw16180582048198870337 for PySem.W.S.findZ by PySem.W.S.findZ_eq
name_quick tw636462944352149979 for PySem.W.S.findZ by PySem.W.S.findZ_eq
name_quick tw7619357645376055252 for PySem.W.S.findZ by PySem.W.S.findZ_eq
name_quick tw8719427161674164953 for PySem.W.S.findZ by PySem.W.S.findZ_eq
name_quick tw6722154040420286063 for PySem.W.S.findZ by PySem.W.S.findZ_eq
name_quick tw8860024209350480642 for PySem.W.S.findZ by PySem.W.S.findZ_eq
name_quick tw11277716924127702174 for PySem.W.S.findZ by PySem.W.S.findZ_eq
name_quick tw10833955939284561965 for PySem.W.S.findZ by PySem.W.S.findZ_eq
name_quick tw1377046205977697930 for PySem.W.S.findZ by PySem.W.S.findZ_eq
name_quick tw14168537005229113720 for PySem.W.S.findZ by PySem.W.S.findZ_eq
name_quick tw4292500188555128830 for PySem.W.S.findZ by PySem.W.S.findZ_eq
name_quick tw5076957145309523181 for PySem.W.S.findZ by PySem.W.S.findZ_eq
name_quick tw5068434257544371817 for PySem.W.S.findZ by PySem.W.S.findZ_eq
name_quick tw2193789692954389824 for PySem.W.S.findZ by PySem.W.S.findZ_eq
name_quick tw10227693086864044499 for PySem.W.S.findZ by PySem.W.S.findZ_eq
name_quick tw6380047634161181297 for PySem.W.S.findZ by PySem.W.S.findZ_eq
name_quick tw6711915476519705758 for PySem.W.S.findZ by PySem.W.S.findZ_eq
name_quick tw11009849027208436086 for PySem.W.S.findZ by PySem.W.S.findZ_eq
name_quick tw11994158751524154303 for PySem.W.S.findZ by PySem.W.S.findZ_eq
name_quick tw17730428716208468724 for PySem.W.S.findZ by PySem.W.S.findZ_eq
name_quick tw16176465441171805009 for PySem.W.S.findZ by PySem.W.S.findZ_eq
name_quick tw7802139600951554647 for PySem.W.S.findZ by PySem.W.S.findZ_eq
name_quick tw8253183596043897158 for PySem.W.S.findZ by PySem.W.S.findZ_eq
name_quick tw16531745337717519161 for PySem.W.S.findZ by PySem.W.S.findZ_eq
name_quick tw15902184279288820625 for PySem.W.S.findZ by PySem.W.S.findZ_eq
name_quick tw18220123701641295943 for PySem.W.S.findZ by PySem.W.S.findZ_eq
name_quick tw2948108419219029167 for PySem.W.S.findZ by PySem.W.S.findZ_eq
name_quick tw16644606511662114574 for PySem.W.S.findZ by PySem.W.S.findZ_eq
name_quick tw10938465397075749097 for PySem.W.S.findZ by PySem.W.S.findZ_eq
name_quick tw5518745428033880147 for PySem.W.S.findZ by PySem.W.S.findZ_eq
name_quick tw136631920214876835 for PySem.W.S.findZ by PySem.W.S.findZ_eq
name_quick tw392140993173905013 for PySem.W.S.findZ by PySem.W.S.findZ_eq
name_quick tw11707433790658880453 for PySem.W.S.findZ by PySem.W.S.findZ_eq
name_quick tw17964007177503468958 for PySem.W.S.findZ by PySem.W.S.findZ_eq
name_quick tw12268644228514654432 for PySem.W.S.findZ by PySem.W.S.findZ_eq
name_quick tw4302124980754421698 for PySem.W.S.findZ by PySem.W.S.findZ_eq
name_quick tw10073347824450446311 for PySem.W.S.findZ by PySem.W.S.findZ_eq
name_quick tw14210447440969649564 for PySem.W.S.findZ by PySem.W.S.findZ_eq
name_quick tw15278061642289888581 for PySem.W.S.findZ by PySem.W.S.findZ_eq
name_quick tw5565278806992967083 for PySem.W.S.findZ by PySem.W.S.findZ_eq
name_quick tw13640514254501968386 for PySem.W.S.findZ by PySem.W.S.findZ_eq
name_quick tw4978915544186085027 for PySem.W.S.findZ by PySem.W.S.findZ_eq
name_quick tw17517737089405305841 for PySem.W.S.findZ by PySem.W.S.findZ_eq
name_quick tw5902227825499142635 for PySem.W.S.findZ by PySem.W.S.findZ_eq
name_quick tw16350708796919097252 for PySem.W.S.findZ by PySem.W.S.findZ_eq
name_quick tw16049961110935095269 for PySem.W.S.findZ by PySem.W.S.findZ_eq
name_quick tw460243522976405022 for PySem.W.S.findZ by PySem.W.S.findZ_eq
name_quick tw13314330512976039754 for PySem.W.S.findZ by PySem.W.S.findZ_eq
name_quick tw7585139358526817783 for PySem.W.S.findZ by PySem.W.S.findZ_eq
name_quick tw17274371674624000324 for PySem.W.S.findZ by PySem.W.S.findZ_eq
name_quick tw17884905122164327073 for PySem.W.S.findZ by PySem.W.S.findZ_eq
name_quick tw1156252341971683116 for PySem.W.S.findZ by PySem.W.S.findZ_eq
name_quick tw2283851925072248500 for PySem.W.S.findZ by PySem.W.S.findZ_eq
name_quick tw14979626087600564940 for PySem.W.S.findZ by PySem.W.S.findZ_eq
name_quick tw3470799630455053000 for PySem.W.S.findZ by PySem.W.S.findZ_eq
name_quick tw8703263022893421829 for PySem.W.S.findZ by PySem.W.S.findZ_eq
name_quick tw347637069881736656 for PySem.W.S.findZ by PySem.W.S.findZ_eq
name_quick tw5032809538720368765 for PySem.W.S.findZ by PySem.W.S.findZ_eq
name_quick tw3856783459128436802 for PySem.W.S.findZ by PySem.W.S.findZ_eq
name_quick tw8119918657739134586 for PySem.W.S.findZ by PySem.W.S.findZ_eq
name_quick tw14778209649434054790 for PySem.W.S.findZ by PySem.W.S.findZ_eq
name_quick tw14553827428707814869 for PySem.W.S.findZ by PySem.W.S.findZ_eq
name_quick tw505943868828395459 for PySem.W.S.findZ by PySem.W.S.findZ_eq
name_quick tw14108194823987119177 for PySem.W.S.findZ by PySem.W.S.findZ_eq
name_quick tw7304268236622374541 for PySem.W.S.findZ by PySem.W.S.findZ_eq
name_quick tw3442601649717412197 for PySem.W.S.findZ by PySem.W.S.findZ_eq
name_quick tw18350638575300117064 for PySem.W.S.findZ by PySem.W.S.findZ_eq
name_quick tw7745614565497352828 for PySem.W.S.findZ by PySem.W.S.findZ_eq
name_quick tw16979880578912567463 for PySem.W.S.findZ by PySem.W.S.findZ_eq
name_quick tw10528696920762540405 for PySem.W.S.findZ by PySem.W.S.findZ_eq
name_quick tw17164873540382356111 for PySem.W.S.findZ by PySem.W.S.findZ_eq
name_quick tw1702518465993881591 for PySem.W.S.findZ by PySem.W.S.findZ_eq
name_quick tw1620339239838986703 for PySem.W.S.findZ by PySem.W.S.findZ_eq
name_quick tw11566699232636054958 for PySem.W.S.findZ by PySem.W.S.findZ_eq
name_quick tw558745408833754511 for PySem.W.S.findZ by PySem.W.S.findZ_eq
name_quick tw7401281599722004195 for PySem.W.S.findZ by PySem.W.S.findZ_eq
name_quick tw14073706353221006472 for PySem.W.S.findZ by PySem.W.S.findZ_eq
name_quick tw18340240734955500558 for PySem.W.S.findZ by PySem.W.S.findZ_eq
name_quick tw12981051755390344553 for PySem.W.S.findZ by PySem.W.S.findZ_eq
name_quick tw387338674003428930 for PySem.W.S.findZ by PySem.W.S.findZ_eq
name_quick tw724751600484774222 for PySem.W.S.findZ by PySem.W.S.findZ_eq
name_quick tw6909570525239066004 for PySem.W.S.findZ by PySem.W.S.findZ_eq
name_quick tw11796506867022685745 for PySem.W.S.findZ by PySem.W.S.findZ_eq
name_quick tw15066959818950650227 for PySem.W.S.findZ by PySem.W.S.findZ_eq
name_quick tw6654550962395885724 for PySem.W.S.findZ by PySem.W.S.findZ_eq
name_quick tw6792406925840432001 for PySem.W.S.findZ by PySem.W.S.findZ_eq
name_quick tw8206430501311747189 for PySem.W.S.findZ by PySem.W.S.findZ_eq
name_quick tw16966814322356759819 for PySem.W.S.findZ by PySem.W.S.findZ_eq
name_quick tw14537914154153760125 for PySem.W.S.findZ by PySem.W.S.findZ_eq
name_quick tw6135381517318000843 for PySem.W.S.findZ by PySem.W.S.findZ_eq
name_quick tw3619232141914619222 for PySem.W.S.findZ by PySem.W.S.findZ_eq
name_quick tw5111356299099525756 for PySem.W.S.findZ by PySem.W.S.findZ_eq
name_quick tw4172830789200971933 for PySem.W.S.findZ by PySem.W.S.findZ_eq
name_quick tw15560500314895047343 for PySem.W.S.findZ by PySem.W.S.findZ_eq
name_quick tw14834023430324568649 for PySem.W.S.findZ by PySem.W.S.findZ_eq
name_quick tw1829445100760108279 for PySem.W.S.findZ by PySem.W.S.findZ_eq
name_quick tw13776390136698705113 for PySem.W.S.findZ by PySem.W.S.findZ_eq
name_quick tw7483462131439158144 for PySem.W.S.findZ by PySem.W.S.findZ_eq
name_quick tw3778451253796500701 for PySem.W.S.findZ by PySem.W.S.findZ_eq
name_quick tw12290603225136948437 for PySem.W.S.findZ by PySem.W.S.findZ_eq
name_quick tw13180171748994924942 for PySem.W.S.findZ by PySem.W.S.findZ_eq
name_quick tw17100903815162463580 for PySem.W.S.findZ by PySem.W.S.findZ_eq
name_quick tw17863021456227041891 for PySem.W.S.findZ by PySem.W.S.findZ_eq
name_quick tw10323183001455561277 for PySem.W.S.findZ by PySem.W.S.findZ_eq
name_quick tw43969757491396457 for PySem.W.S.findZ by PySem.W.S.findZ_eq
name_quick tw3209381107111851631 for PySem.W.S.findZ by PySem.W.S.findZ_eq
name_quick tw15742981410569661332 for PySem.W.S.findZ by PySem.W.S.findZ_eq
name_quick tw4090926877573551719 for PySem.W.S.findZ by PySem.W.S.findZ_eq
name_quick tw6967401301877209104 for PySem.W.S.findZ by PySem.W.S.findZ_eq
name_quick tw11863081143760314161 for PySem.W.S.findZ by PySem.W.S.findZ_eq
name_quick tw17111948838632640456 for PySem.W.S.findZ by PySem.W.S.findZ_eq
name_quick tw7035115661146626270 for PySem.W.S.findZ by PySem.W.S.findZ_eq
name_quick tw16413264400604254196 for PySem.W.S.findZ by PySem.W.S.findZ_eq
name_quick tw17988542015724977305 for PySem.W.S.findZ by PySem.W.S.findZ_eq
name_quick tw9626621113073979434 for PySem.W.S.findZ by PySem.W.S.findZ_eq
name_quick tw1370275717833778536 for PySem.W.S.findZ by PySem.W.S.findZ_eq
name_quick tw13912434898499826684 for PySem.W.S.findZ by PySem.W.S.findZ_eq
name_quick tw667198328695590252 for PySem.W.S.findZ by PySem.W.S.findZ_eq
name_quick tw3039592710220408265 for PySem.W.S.findZ by PySem.W.S.findZ_eq
name_quick tw10996506086634736982 for PySem.W.S.findZ by PySem.W.S.findZ_eq
name_quick tw9203371714377187748 for PySem.W.S.findZ by PySem.W.S.findZ_eq
name_quick tw12224578244612797663 for PySem.W.S.findZ by PySem.W.S.findZ_eq
name_quick tw2958062672499776758 for PySem.W.S.findZ by PySem.W.S.findZ_eq
name_quick tw17434858337260393937 for PySem.W.S.findZ by PySem.W.S.findZ_eq
name_quick tw11186114360453789277 for PySem.W.S.findZ by PySem.W.S.findZ_eq
name_quick tw12488000419048109807 for PySem.W.S.findZ by PySem.W.S.findZ_eq
name_quick tw11543547407058413889 for PySem.W.S.findZ by PySem.W.S.findZ_eq
name_quick tw1574873078441994576 for PySem.W.S.findZ by PySem.W.S.findZ_eq
name_quick tw6434265647005701932 for PySem.W.S.findZ by PySem.W.S.findZ_eq
name_quick tw15112985482279097393 for PySem.W.S.findZ by PySem.W.S.findZ_eq
name_quick tw10007627690174824804 for PySem.W.S.findZ by PySem.W.S.findZ_eq
name_quick tw6817277305950994716 for PySem.W.S.findZ by PySem.W.S.findZ_eq
name_quick tw10205541121877940668 for PySem.W.S.findZ by PySem.W.S.findZ_eq
name_quick tw1258717718454355964 for PySem.W.S.findZ by PySem.W.S.findZ_eq
name_quick tw9236875199018929784 for PySem.W.S.findZ by PySem.W.S.findZ_eq
name_quick tw325292655437039998 for PySem.W.S.findZ by PySem.W.S.findZ_eq
name_quick tw9396933662098498411 for PySem.W.S.findZ by PySem.W.S.findZ_eq
name_quick tw15900120412870309639 for PySem.W.S.findZ by PySem.W.S.findZ_eq
name_quick tw11853533878840232495 for PySem.W.S.findZ by PySem.W.S.findZ_eq
name_quick tw9305782018832362445 for PySem.W.S.findZ by PySem.W.S.findZ_eq
name_quick tw12635297910168745909 for PySem.W.S.findZ by PySem.W.S.findZ_eq
name_quick tw5345256250457102556 for PySem.W.S.findZ by PySem.W.S.findZ_eq
name_quick tw12945451867199242903 for PySem.W.S.findZ by PySem.W.S.findZ_eq
name_quick tw8075568018651887793 for PySem.W.S.findZ by PySem.W.S.findZ_eq
name_quick tw11013792430000457035 for PySem.W.S.findZ by PySem.W.S.findZ_eq
name_quick tw8450942572126056277 for PySem.W.S.findZ by PySem.W.S.findZ_eq
name_quick tw6789855027759293466 for PySem.W.S.findZ by PySem.W.S.findZ_eq
name_quick tw6550987210724342151 for PySem.W.S.findZ by PySem.W.S.findZ_eq
name_quick tw15450981722951097364 for PySem.W.S.findZ by PySem.W.S.findZ_eq
name_quick tw5697894365363955025 for PySem.W.S.findZ by PySem.W.S.findZ_eq
name_quick tw1763209079605825380 for PySem.W.S.findZ by PySem.W.S.findZ_eq
name_quick tw7094674258960923220 for PySem.W.S.findZ by PySem.W.S.findZ_eq
name_quick tw11452132507678324671 for PySem.W.S.findZ by PySem.W.S.findZ_eq
name_quick tw9376109419431680627 for PySem.W.S.findZ by PySem.W.S.findZ_eq
name_quick tw2599325451414397859 for PySem.W.S.findZ by PySem.W.S.findZ_eq
name_quick tw8693227569615203950 for PySem.W.S.findZ by PySem.W.S.findZ_eq
name_quick tw2354101950205528012 for PySem.W.S.findZ by PySem.W.S.findZ_eq
name_quick tw17024950926791866790 for PySem.W.S.findZ by PySem.W.S.findZ_eq
name_quick tw4075660801711882420 for PySem.W.S.findZ by PySem.W.S.findZ_eq
name_quick tw2460228577881660442 for PySem.W.S.findZ by PySem.W.S.findZ_eq
name_quick tw11790162104776037713 for PySem.W.S.findZ by PySem.W.S.findZ_eq
name_quick tw13900631225919944168 for PySem.W.S.findZ by PySem.W.S.findZ_eq
name_quick tw10366758098100942924 for PySem.W.S.findZ by PySem.W.S.findZ_eq
name_quick tw2478078296215019888 for PySem.W.S.findZ by PySem.W.S.findZ_eq
name_quick tw15766043655864335149 for PySem.W.S.findZ by PySem.W.S.findZ_eq
name_quick tw5732905514179830355 for PySem.W.S.findZ by PySem.W.S.findZ_eq
name_quick tw3436264866546951355 for PySem.W.S.findZ by PySem.W.S.findZ_eq
name_quick tw16437185098154296904 for PySem.W.S.findZ by PySem.W.S.findZ_eq
name_quick tw9594665118957945026 for PySem.W.S.findZ by PySem.W.S.findZ_eq
name_quick tw8059936575790774395 for PySem.W.S.findZ by PySem.W.S.findZ_eq
name_quick tw17975652961387846372 for PySem.W.S.findZ by PySem.W.S.findZ_eq
name_quick tw15894407043143930727 for PySem.W.S.findZ by PySem.W.S.findZ_eq
name_quick tw12393455550290869266 for PySem.W.S.findZ by PySem.W.S.findZ_eq
name_quick tw6019396324639902685 for PySem.W.S.findZ by PySem.W.S.findZ_eq
name_quick tw2902314222560053993 for PySem.W.S.findZ by PySem.W.S.findZ_eq
name_quick tw8796240567053077481 for PySem.W.S.findZ by PySem.W.S.findZ_eq
name_quick tw11130039905162102590 for PySem.W.S.findZ by PySem.W.S.findZ_eq
name_quick tw12371321757623732685 for PySem.W.S.findZ by PySem.W.S.findZ_eq
name_quick tw3698559305507148144 for PySem.W.S.findZ by PySem.W.S.findZ_eq
name_quick tw9458956999447867950 for PySem.W.S.findZ by PySem.W.S.findZ_eq
name_quick tw5349121933718820234 for PySem.W.S.findZ by PySem.W.S.findZ_eq
name_quick tw12832477231654346042 for PySem.W.S.findZ by PySem.W.S.findZ_eq
name_quick tw17894864189363708594 for PySem.W.S.findZ by PySem.W.S.findZ_eq
name_quick tw13236226663087606529 for PySem.W.S.findZ by PySem.W.S.findZ_eq
name_quick tw9931943479562821362 for PySem.W.S.findZ by PySem.W.S.findZ_eq
name_quick tw11788150170368784547 for PySem.W.S.findZ by PySem.W.S.findZ_eq
name_quick tw7299951869573292228 for PySem.W.S.findZ by PySem.W.S.findZ_eq
name_quick tw14386061602966655976 for PySem.W.S.findZ by PySem.W.S.findZ_eq
name_quick tw8400853705098224536 for PySem.W.S.findZ by PySem.W.S.findZ_eq
name_quick tw12233582284571471492 for PySem.W.S.findZ by PySem.W.S.findZ_eq
name_quick tw3152983702415266003 for PySem.W.S.findZ by PySem.W.S.findZ_eq
name_quick tw10706342367453228570 for PySem.W.S.findZ by PySem.W.S.findZ_eq
name_quick tw900395245841561262 for PySem.W.S.findZ by PySem.W.S.findZ_eq
name_quick tw17000155066101142889 for PySem.W.S.findZ by PySem.W.S.findZ_eq
name_quick tw15079194523842364033 for PySem.W.S.findZ by PySem.W.S.findZ_eq
name_quick tw15645968130498712068 for PySem.W.S.findZ by PySem.W.S.findZ_eq
name_quick tw8459811325457737761 for PySem.W.S.findZ by PySem.W.S.findZ_eq
name_quick tw12609378947248592450 for PySem.W.S.findZ by PySem.W.S.findZ_eq
name_quick tw2408619945344806742 for PySem.W.S.findZ by PySem.W.S.findZ_eq
name_quick tw9529234661008812162 for PySem.W.S.findZ by PySem.W.S.findZ_eq
name_quick tw15560853006256673968 for PySem.W.S.findZ by PySem.W.S.findZ_eq
name_quick tw9501820088010722379 for PySem.W.S.findZ by PySem.W.S.findZ_eq
name_quick tw10500077913531017323 for PySem.W.S.findZ by PySem.W.S.findZ_eq
name_quick tw11317593695737139937 for PySem.W.S.findZ by PySem.W.S.findZ_eq
name_quick tw8595292554425487202 for PySem.W.S.findZ by PySem.W.S.findZ_eq
name_quick tw7892128664451923741 for PySem.W.S.findZ by PySem.W.S.findZ_eq
name_quick tw13141144453892091621 for PySem.W.S.findZ by PySem.W.S.findZ_eq
name_quick tw4775785305629353868 for PySem.W.S.findZ by PySem.W.S.findZ_eq
name_quick tw12866136484021002089 for PySem.W.S.findZ by PySem.W.S.findZ_eq
name_quick tw12821735335276811757 for PySem.W.S.findZ by PySem.W.S.findZ_eq
name_quick tw17244072584429378644 for PySem.W.S.findZ by PySem.W.S.findZ_eq
name_quick tw9315938663221665524 for PySem.W.S.findZ by PySem.W.S.findZ_eq
name_quick tw16374537267813192141 for PySem.W.S.findZ by PySem.W.S.findZ_eq
name_quick tw11270796479367742343 for PySem.W.S.findZ by PySem.W.S.findZ_eq
name_quick tw2736616831223182526 for PySem.W.S.findZ by PySem.W.S.findZ_eq
name_quick tw2670528217467546775 for PySem.W.S.findZ by PySem.W.S.findZ_eq
name_quick tw8098380416015320538 for PySem.W.S.findZ by PySem.W.S.findZ_eq
name_quick tw3764465048917985505 for PySem.W.S.findZ by PySem.W.S.findZ_eq
name_quick tw17532440430192770315 for PySem.W.S.findZ by PySem.W.S.findZ_eq
name_quick tw7397068168572129948 for PySem.W.S.findZ by PySem.W.S.findZ_eq
name_quick tw16406328271908756883 for PySem.W.S.findZ by PySem.W.S.findZ_eq
name_quick tw3094477031063562474 for PySem.W.S.findZ by PySem.W.S.findZ_eq
name_quick tw10942035263794033107 for PySem.W.S.findZ by PySem.W.S.findZ_eq
name_quick tw441327347791068078 for PySem.W.S.findZ by PySem.W.S.findZ_eq
name_quick tw1333364371103165705 for PySem.W.S.findZ by PySem.W.S.findZ_eq
name_quick tw4275521005467322725 for PySem.W.S.findZ by PySem.W.S.findZ_eq
name_quick tw8224813933742928703 for PySem.W.S.findZ by PySem.W.S.findZ_eq
name_quick tw6090905460779295987 for PySem.W.S.findZ by PySem.W.S.findZ_eq
name_quick tw5135500740108067664 for PySem.W.S.findZ by PySem.W.S.findZ_eq
name_quick tw6662432510661729299 for PySem.W.S.findZ by PySem.W.S.findZ_eq
name_quick tw11161088081135249708 for PySem.W.S.findZ by PySem.W.S.findZ_eq
name_quick tw15195428891847259777 for PySem.W.S.findZ by PySem.W.S.findZ_eq
name_quick tw15490439104401381959 for PySem.W.S.findZ by PySem.W.S.findZ_eq
name_quick tw1503297043503765363 for PySem.W.S.findZ by PySem.W.S.findZ_eq
name_quick tw14023627001141898710 for PySem.W.S.findZ by PySem.W.S.findZ_eq
name_quick tw2862820112641550484 for PySem.W.S.findZ by PySem.W.S.findZ_eq
name_quick tw17888162413812561239 for PySem.W.S.findZ by PySem.W.S.findZ_eq
name_quick tw4904739604578439355 for PySem.W.S.findZ by PySem.W.S.findZ_eq
name_quick tw9673203406766833760 for PySem.W.S.findZ by PySem.W.S.findZ_eq
name_quick tw1706496860858754268 for PySem.W.S.findZ by PySem.W.S.findZ_eq
name_quick tw947111536369973478 for PySem.W.S.findZ by PySem.W.S.findZ_eq
name_quick tw8620020772036689432 for PySem.W.S.findZ by PySem.W.S.findZ_eq
name_quick tw12898947447245864913 for PySem.W.S.findZ by PySem.W.S.findZ_eq
name_quick tw15823609455315575823 for PySem.W.S.findZ by PySem.W.S.findZ_eq
name_quick tw4933834842325187142 for PySem.W.S.findZ by PySem.W.S.findZ_eq
name_quick tw15806122291839087668 for PySem.W.S.findZ by PySem.W.S.findZ_eq
name_quick tw18350330562280901221 for PySem.W.S.findZ by PySem.W.S.findZ_eq
name_quick tw17774800907425398282 for PySem.W.S.findZ by PySem.W.S.findZ_eq
name_quick tw6929956602132211858 for PySem.W.S.findZ by PySem.W.S.findZ_eq
name_quick tw3766158894648301139 for PySem.W.S.findZ by PySem.W.S.findZ_eq
name_quick tw12237943961548833269 for PySem.W.S.findZ by PySem.W.S.findZ_eq
name_quick tw757081541053455785 for PySem.W.S.findZ by PySem.W.S.findZ_eq
name_quick tw16593013826814733010 for PySem.W.S.findZ by PySem.W.S.findZ_eq
name_quick tw12635813782599140982 for PySem.W.S.findZ by PySem.W.S.findZ_eq
name_quick tw12850107946570832962 for PySem.W.S.findZ by PySem.W.S.findZ_eq
name_quick tw11817470609975844035 for PySem.W.S.findZ by PySem.W.S.findZ_eq
name_quick tw4679858250743294509 for PySem.W.S.findZ by PySem.W.S.findZ_eq
name_quick tw5882768191206486792 for PySem.W.S.findZ by PySem.W.S.findZ_eq
name_quick tw7788680626742099145 for PySem.W.S.findZ by PySem.W.S.findZ_eq
name_quick tw9537544019596298400 for PySem.W.S.findZ by PySem.W.S.findZ_eq
name_quick tw10424941004445345732 for PySem.W.S.findZ by PySem.W.S.findZ_eq
name_quick tw151948405760981731 for PySem.W.S.findZ by PySem.W.S.findZ_eq
name_quick tw15880737140895825463 for PySem.W.S.findZ by PySem.W.S.findZ_eq
name_quick tw16792545251062261874 for PySem.W.S.findZ by PySem.W.S.findZ_eq
name_quick tw4407734736301137906 for PySem.W.S.findZ by PySem.W.S.findZ_eq
name_quick tw7269565832213808900 for PySem.W.S.findZ by PySem.W.S.findZ_eq
name_quick tw17804436615005485693 for PySem.W.S.findZ by PySem.W.S.findZ_eq
name_quick tw13642483538084851733 for PySem.W.S.findZ by PySem.W.S.findZ_eq
name_quick tw2447775223705975068 for PySem.W.S.findZ by PySem.W.S.findZ_eq
name_quick tw7250012664060256230 for PySem.W.S.findZ by PySem.W.S.findZ_eq
name_quick tw1055568401681811165 for PySem.W.S.findZ by PySem.W.S.findZ_eq
name_quick tw11985326045990495214 for PySem.W.S.findZ by PySem.W.S.findZ_eq
name_quick tw9467589175468403638 for PySem.W.S.findZ by PySem.W.S.findZ_eq
name_quick tw11519604305632133818 for PySem.W.S.findZ by PySem.W.S.findZ_eq
name_quick tw13981391230805400906 for PySem.W.S.findZ by PySem.W.S.findZ_eq
name_quick tw7504490480230193789 for PySem.W.S.findZ by PySem.W.S.findZ_eq
name_quick tw8753696776887207221 for PySem.W.S.findZ by PySem.W.S.findZ_eq
name_quick tw662354867322794072 for PySem.W.S.findZ by PySem.W.S.findZ_eq
name_quick tw14530364306720264245 for PySem.W.S.findZ by PySem.W.S.findZ_eq
name_quick tw11306939235166856333 for PySem.W.S.findZ by PySem.W.S.findZ_eq
name_quick tw10185885631661850153 for PySem.W.S.findZ by PySem.W.S.findZ_eq
name_quick tw1092655722715705105 for PySem.W.S.findZ by PySem.W.S.findZ_eq
name_quick tw18416463498863911781 for PySem.W.S.findZ by PySem.W.S.findZ_eq
name_quick tw13215998728584607739 for PySem.W.S.findZ by PySem.W.S.findZ_eq
name_quick tw4039474712603431140 for PySem.W.S.findZ by PySem.W.S.findZ_eq
name_quick tw13789449189825218787 for PySem.W.S.findZ by PySem.W.S.findZ_eq
name_quick tw8424611434330503625 for PySem.W.S.findZ by PySem.W.S.findZ_eq
name_quick tw5925582254088234700 for PySem.W.S.findZ by PySem.W.S.findZ_eq
name_quick tw6059929106960060952 for PySem.W.S.findZ by PySem.W.S.findZ_eq
name_quick tw3972328310683599613 for PySem.W.S.findZ by PySem.W.S.findZ_eq
name_quick tw7581816359482902497 for PySem.W.S.findZ by PySem.W.S.findZ_eq
name_quick tw7299303143086499733 for PySem.W.S.findZ by PySem.W.S.findZ_eq
name_quick tw14126943448341045398 for PySem.W.S.findZ by PySem.W.S.findZ_eq
name_quick tw7496433998918960881 for PySem.W.S.findZ by PySem.W.S.findZ_eq
name_quick tw2611137233208623240 for PySem.W.S.findZ by PySem.W.S.findZ_eq
name_quick tw17352973434858128600 for PySem.W.S.findZ by PySem.W.S.findZ_eq
name_quick tw383695940523520267 for PySem.W.S.findZ by PySem.W.S.findZ_eq
name_quick tw9862997608875712007 for PySem.W.S.findZ by PySem.W.S.findZ_eq
name_quick tw12726346659333912481 for PySem.W.S.findZ by PySem.W.S.findZ_eq
name_quick tw16145008321745377990 for PySem.W.S.findZ by PySem.W.S.findZ_eq
name_quick tw7365555872484859036 for PySem.W.S.findZ by PySem.W.S.findZ_eq
name_quick tw912392155897948271 for PySem.W.S.findZ by PySem.W.S.findZ_eq
name_quick tw7581352650102555174 for PySem.W.S.findZ by PySem.W.S.findZ_eq
name_quick tw14333388528381170442 for PySem.W.S.findZ by PySem.W.S.findZ_eq
name_quick tw13615603153576403970 for PySem.W.S.findZ by PySem.W.S.findZ_eq
name_quick tw12022618010286034681 for PySem.W.S.findZ by PySem.W.S.findZ_eq
name_quick tw13678640442995254988 for PySem.W.S.findZ by PySem.W.S.findZ_eq
name_quick tw2922074901204462755 for PySem.W.S.findZ by PySem.W.S.findZ_eq
name_quick tw15323854079317868165 for PySem.W.S.findZ by PySem.W.S.findZ_eq
name_quick tw3093977132361051618 for PySem.W.S.findZ by PySem.W.S.findZ_eq
name_quick tw5978237884098788730 for PySem.W.S.findZ by PySem.W.S.findZ_eq
name_quick tw11333186260410459676 for PySem.W.S.findZ by PySem.W.S.findZ_eq
name_quick tw16643379632663270332 for PySem.W.S.findZ by PySem.W.S.findZ_eq
name_quick tw8017206721242287953 for PySem.W.S.findZ by PySem.W.S.findZ_eq
name_quick tw9763268239775435451 for PySem.W.S.findZ by PySem.W.S.findZ_eq
name_quick tw15007238320947547705 for PySem.W.S.findZ by PySem.W.S.findZ_eq
name_quick tw8579058602437062094 for PySem.W.S.findZ by PySem.W.S.findZ_eq
name_quick tw7232422423428716515 for PySem.W.S.findZ by PySem.W.S.findZ_eq
name_quick tw932993149863042379 for PySem.W.S.findZ by PySem.W.S.findZ_eq
name_quick tw3131671291697673992 for PySem.W.S.findZ by PySem.W.S.findZ_eq
name_quick tw11588390666370768167 for PySem.W.S.findZ by PySem.W.S.findZ_eq
name_quick tw17652180141503373103 for PySem.W.S.findZ by PySem.W.S.findZ_eq
name_quick tw17394056326795013819 for PySem.W.S.findZ by PySem.W.S.findZ_eq
name_quick tw4011157648589011858 for PySem.W.S.findZ by PySem.W.S.findZ_eq
name_quick tw4552823106982906706 for PySem.W.S.findZ by PySem.W.S.findZ_eq
name_quick tw3315324234476444515 for PySem.W.S.findZ by PySem.W.S.findZ_eq
name_quick tw17001327861769816259 for PySem.W.S.findZ by PySem.W.S.findZ_eq
name_quick tw8642067239939848140 for PySem.W.S.findZ by PySem.W.S.findZ_eq
name_quick tw17730448691065144110 for PySem.W.S.findZ by PySem.W.S.findZ_eq
name_quick tw1414301608579184545 for PySem.W.S.findZ by PySem.W.S.findZ_eq
name_quick tw10919533547850550483 for PySem.W.S.findZ by PySem.W.S.findZ_eq
name_quick tw16296994325663420285 for PySem.W.S.findZ by PySem.W.S.findZ_eq
name_quick tw5357591511691535388 for PySem.W.S.findZ by PySem.W.S.findZ_eq
name_quick tw15980859228951719591 for PySem.W.S.findZ by PySem.W.S.findZ_eq
name_quick tw7275051467321613617 for PySem.W.S.findZ by PySem.W.S.findZ_eq
name_quick tw10948738476641704880 for PySem.W.S.findZ by PySem.W.S.findZ_eq
name_quick tw7323676302269181137 for PySem.W.S.findZ by PySem.W.S.findZ_eq
name_quick tw17476080006546285661 for PySem.W.S.findZ by PySem.W.S.findZ_eq
name_quick tw17279654841073493023 for PySem.W.S.findZ by PySem.W.S.findZ_eq
name_quick tw6245536207120538393 for PySem.W.S.findZ by PySem.W.S.findZ_eq
name_quick tw682011567655089306 for PySem.W.S.findZ by PySem.W.S.findZ_eq
name_quick tw8376441433122354887 for PySem.W.S.findZ by PySem.W.S.findZ_eq
name_quick tw11420187438672877268 for PySem.W.S.findZ by PySem.W.S.findZ_eq
name_quick tw11636919720809706868 for PySem.W.S.findZ by PySem.W.S.findZ_eq
name_quick tw11707371222683016368 for PySem.W.S.findZ by PySem.W.S.findZ_eq
name_quick tw18263319221461684349 for PySem.W.S.findZ by PySem.W.S.findZ_eq
name_quick tw3118938333895590913 for PySem.W.S.findZ by PySem.W.S.findZ_eq
name_quick tw16349804527192203551 for PySem.W.S.findZ by PySem.W.S.findZ_eq
name_quick tw16414604833108395602 for PySem.W.S.findZ by PySem.W.S.findZ_eq
name_quick tw1320183511955256522 for PySem.W.S.findZ by PySem.W.S.findZ_eq
name_quick tw6363645014702824404 for PySem.W.S.findZ by PySem.W.S.findZ_eq
name_quick tw2719445374943340272 for PySem.W.S.findZ by PySem.W.S.findZ_eq
name_quick tw9564595351457756722 for PySem.W.S.findZ by PySem.W.S.findZ_eq
name_quick tw13016732220969518872 for PySem.W.S.findZ by PySem.W.S.findZ_eq
name_quick tw18101931140130867144 for PySem.W.S.findZ by PySem.W.S.findZ_eq
name_quick tw9800571698397750058 for PySem.W.S.findZ by PySem.W.S.findZ_eq
name_quick tw14821650378409806113 for PySem.W.S.findZ by PySem.W.S.findZ_eq
name_quick tw17954471519018878134 for PySem.W.S.findZ by PySem.W.S.findZ_eq
name_quick tw8032284361305108907 for PySem.W.S.findZ by PySem.W.S.findZ_eq
name_quick tw1537898542681612871 for PySem.W.S.findZ by PySem.W.S.findZ_eq
name_quick tw973662469405803806 for PySem.W.S.findZ by PySem.W.S.findZ_eq
name_quick tw3386650904741475044 for PySem.W.S.findZ by PySem.W.S.findZ_eq
name_quick tw5396446701170858492 for PySem.W.S.findZ by PySem.W.S.findZ_eq
name_quick tw8708707556590381134 for PySem.W.S.findZ by PySem.W.S.findZ_eq
name_quick tw704327219915372674 for PySem.W.S.findZ by PySem.W.S.findZ_eq
name_quick tw10939839348159177617 for PySem.W.S.findZ by PySem.W.S.findZ_eq
name_quick tw18056578402003937789 for PySem.W.S.findZ by PySem.W.S.findZ_eq
name_quick tw15263041282635125899 for PySem.W.S.findZ by PySem.W.S.findZ_eq
name_quick tw16432479971616331241 for PySem.W.S.findZ by PySem.W.S.findZ_eq
name_quick tw4278798014809849964 for PySem.W.S.findZ by PySem.W.S.findZ_eq
name_quick tw1184552218554016812 for PySem.W.S.findZ by PySem.W.S.findZ_eq
name_quick tw14224011070414065920 for PySem.W.S.findZ by PySem.W.S.findZ_eq
namespace Mine
section
set_option maxRecDepth 100000 in
set_option maxHeartbeats 8000000 in
open_top hd for PySem.Challenge.rw_rh0162_01
end
section
open PySem PySem.W PySem.Calls PyProof.Rows
theorem reset_Bs : True := by
  w_top off
  trivial
theorem hide {G : Prop} (k : ∀ P : Prop, (G → P) → P) : G := k G id
theorem allC {α : Type} {p : α → Prop} {a : α} {l : List α} (x : p a) (y : ∀ b ∈ l, p b) : ∀ b ∈ a :: l, p b := List.forall_mem_cons.2 ⟨x, y⟩
theorem allD {α : Type} {p : α → Prop} {a : α} {l : List α} (x : ∀ b ∈ a :: l, p b) : p a ∧ ∀ b ∈ l, p b := List.forall_mem_cons.1 x
/-- what stands in the heap h and not in the base -/
def Own (B h : Heap) (a : Addr) (o : Obj) : Prop := h.get? a = some o ∧ B.get? a = none
structure Keep (B h : Heap) : Prop where
  keep : ∀ b o, B.get? b = some o → h.get? b = some o
  size : B.objs.size ≤ h.objs.size
theorem Keep.of_fr {B h : Heap} {L : Addr} {m : Str → Option Value} (F : Fr B L h m) : Keep B h := ⟨F.keep, Nat.le_of_lt (Nat.lt_of_le_of_lt F.above F.ns.lt)⟩
def OwnL (B h : Heap) (l : List (Addr × Obj)) : Prop := ∀ p ∈ l, Own B h p.1 p.2
theorem OwnL.nil {B h : Heap} : OwnL B h [] := fun _ hp => nomatch hp
theorem OwnL.cons {B h : Heap} {a : Addr} {o : Obj} {l : List (Addr × Obj)} (x : Own B h a o) (y : OwnL B h l) : OwnL B h ((a, o) :: l) := fun p hp => by
  rcases List.mem_cons.mp hp with rfl | hp
  · exact x
  · exact y p hp
def restOf (B h : Heap) (as : List Addr) : List (Addr × Obj) :=
  (List.range h.objs.size).filterMap fun a => if a ∈ as then none else if (B.get? a).isSome then none else (h.get? a).map fun o => (a, o)
theorem mem_restOf {B h : Heap} {as : List Addr} {a : Addr} {o : Obj} : (a, o) ∈ restOf B h as ↔ a ∉ as ∧ Own B h a o := by
  unfold restOf Own
  simp only [List.mem_filterMap, List.mem_range]
  constructor
  · rintro t9_0
    refine hide fun P9 hP9 => ?_
    rcases t9_0 with ⟨b, _, hb⟩
    refine hP9 ?_; clear hP9 P9
    split at hb
    · cases hb
    · rename_i h1
      split at hb
      · cases hb
      · rename_i h2
        cases hq : h.get? b with
        | none => rw [hq] at hb; cases hb
        | some o' =>
          rw [hq] at hb; cases hb
          refine ⟨h1, hq, ?_⟩
          cases hB : B.get? a with
          | none => rfl
          | some _ => rw [hB] at h2; exact absurd rfl h2
  · rintro t9_0
    refine hide fun P9 hP9 => ?_
    rcases t9_0 with ⟨h1, h2, h3⟩
    refine hP9 ?_; clear hP9 P9
    refine ⟨a, Heap.lt_size h2, ?_⟩
    rw [if_neg h1, h3, h2]; rfl
/-- all but S stays; what stood still stands -/
structure Upto (S : Addr → Prop) (h h' : Heap) : Prop where
  same : ∀ a o, ¬ S a → h.get? a = some o → h'.get? a = some o
  live : ∀ a, (h.get? a).isSome → (h'.get? a).isSome
theorem Upto.refl (S : Addr → Prop) (h : Heap) : Upto S h h := ⟨fun _ _ _ e => e, fun _ e => e⟩
theorem Upto.trans {S T U : Addr → Prop} {h h' h'' : Heap} (x : Upto S h h') (y : Upto T h' h'') (hS : ∀ a, S a → U a) (hT : ∀ a, T a → (h.get? a).isSome → U a) : Upto U h h'' :=
  ⟨fun a o hn e => y.same a o (fun t => hn (hT a t (by rw [e]; rfl))) (x.same a o (fun s => hn (hS a s)) e), fun a e => y.live a (x.live a e)⟩
theorem Upto.mono {S U : Addr → Prop} {h h' : Heap} (x : Upto S h h') (hS : ∀ a, S a → (h.get? a).isSome → U a) : Upto U h h' :=
  ⟨fun a o hn e => x.same a o (fun s => hn (hS a s (by rw [e]; rfl))) e, x.live⟩
theorem Upto.own {S : Addr → Prop} {B h h' : Heap} {a : Addr} {o : Obj} (x : Upto S h h') (y : Own B h a o) (hn : ¬ S a) : Own B h' a o := ⟨x.same a o hn y.1, y.2⟩
theorem Upto.fr {S : Addr → Prop} {B h h' : Heap} {L : Addr} {m : Str → Option Value} (x : Upto S h h') (F : Fr B L h m) (hL : ¬ S L) (hS : ∀ a, S a → B.get? a = none) : Fr B L h' m := by
  refine hide fun P9 hP9 => ?_
  obtain ⟨⟨o, es, ep, a, r⟩, k, l⟩ := F
  refine hP9 ?_; clear hP9 P9
  exact ⟨⟨o, es, ep, x.same _ _ hL a, r⟩, fun b o e => x.same b o (fun q => by rw [hS b q] at e; cases e) (k b o e), l⟩
theorem none_of_le {h : Heap} {a : Addr} (e : h.objs.size ≤ a) : h.get? a = none := by
  cases hq : h.get? a with
  | none => rfl
  | some o => exact absurd (Heap.lt_size hq) (Nat.not_lt.mpr e)
theorem not_live {h : Heap} {a : Addr} (e : h.get? a = none) {P : Prop} (x : (h.get? a).isSome = true) : P := by rw [e] at x; cases x
theorem Own.inj {B h : Heap} {a : Addr} {o o' : Obj} (x : Own B h a o) (y : Own B h a o') : o = o' := Option.some.inj (x.1.symm.trans y.1)
theorem Own.ne {B h : Heap} {a b : Addr} {o o' : Obj} (x : Own B h a o) (y : Own B h b o') (hne : o ≠ o') : a ≠ b := fun e => hne (x.inj (e ▸ y))

theorem news_of {B h h₁ : Heap} {L : Addr} {objs : List (Addr × Obj)} (hO : OwnL B h objs) (hL : h.objs.size ≤ L) (hk : ∀ b o, h.get? b = some o → h₁.get? b = some o) :
    News B L h₁ (objs ++ restOf B h (objs.map (·.1))) := by
  intro p hp
  have x : Own B h p.1 p.2 := by
    rcases List.mem_append.mp hp with hp | hp
    · exact hO p hp
    · exact (mem_restOf.mp hp).2
  exact ⟨hk _ _ x.1, Nat.ne_of_lt (Nat.lt_of_lt_of_le (Heap.lt_size x.1) hL), x.2⟩
theorem rest_ne {B h : Heap} {as : List Addr} {d : Addr} (hd : d ∈ as) : ∀ p ∈ restOf B h as, p.1 ≠ d := fun p hp e => (mem_restOf.mp hp).1 (e ▸ hd)

/-- not the same address, hidden from omega -/
def NeN (a b : Nat) : Prop := a ≠ b
theorem NeN.symm {a b : Nat} (h : NeN a b) : NeN b a := Ne.symm h
theorem NeN.out {a b : Nat} (h : NeN a b) : a ≠ b := h
theorem NeN.out' {a b : Nat} (h : NeN b a) : a ≠ b := Ne.symm h
def Ap (a : Addr) : List Addr → Prop
  | [] => True
  | b :: l => NeN a b ∧ Ap a l
def Nd : List Addr → Prop
  | [] => True
  | a :: l => Ap a l ∧ Nd l
theorem ap_of {a : Addr} : ∀ {l : List Addr}, a ∉ l → Ap a l
  | [], _ => trivial
  | _ :: _, h => ⟨fun e => h (e ▸ .head _), ap_of fun q => h (.tail _ q)⟩
theorem nd_of : ∀ {l : List Addr}, l.Nodup → Nd l
  | [], _ => trivial
  | _ :: _, h => ⟨ap_of (List.nodup_cons.1 h).1, nd_of (List.nodup_cons.1 h).2⟩
inductive Nd3 (a0 a1 a2 : Addr) : Prop
  | mk (p0_1 : NeN a0 a1) (p0_2 : NeN a0 a2) (p1_2 : NeN a1 a2) : Nd3 a0 a1 a2
theorem Nd.o3 {a0 a1 a2 : Addr} (h : Nd [a0, a1, a2]) : Nd3 a0 a1 a2 :=
  have g : (NeN a0 a1 ∧ NeN a0 a2 ∧ True) ∧ (NeN a1 a2 ∧ True) ∧ (True) ∧ True := h
  .mk g.1.1 g.1.2.1 g.2.1.1
theorem Nd.m3 {a0 a1 a2 : Addr} : Nd3 a0 a1 a2 → Nd [a0, a1, a2] := by
  rintro t9_0
  refine hide fun P9 hP9 => ?_
  rcases t9_0 with ⟨p0_1, p0_2, p1_2⟩
  refine hP9 ?_; clear hP9 P9
  exact ⟨⟨p0_1, p0_2, trivial⟩, ⟨p1_2, trivial⟩, trivial, trivial⟩
inductive Nd4 (a0 a1 a2 a3 : Addr) : Prop
  | mk (p0_1 : NeN a0 a1) (p0_2 : NeN a0 a2) (p0_3 : NeN a0 a3) (p1_2 : NeN a1 a2) (p1_3 : NeN a1 a3) (p2_3 : NeN a2 a3) : Nd4 a0 a1 a2 a3
theorem Nd.o4 {a0 a1 a2 a3 : Addr} (h : Nd [a0, a1, a2, a3]) : Nd4 a0 a1 a2 a3 :=
  have g : (NeN a0 a1 ∧ NeN a0 a2 ∧ NeN a0 a3 ∧ True) ∧ (NeN a1 a2 ∧ NeN a1 a3 ∧ True) ∧ (NeN a2 a3 ∧ True) ∧ (True) ∧ True := h
  .mk g.1.1 g.1.2.1 g.1.2.2.1 g.2.1.1 g.2.1.2.1 g.2.2.1.1
theorem Nd.m4 {a0 a1 a2 a3 : Addr} : Nd4 a0 a1 a2 a3 → Nd [a0, a1, a2, a3] := by
  rintro t9_0
  refine hide fun P9 hP9 => ?_
  rcases t9_0 with ⟨p0_1, p0_2, p0_3, p1_2, p1_3, p2_3⟩
  refine hP9 ?_; clear hP9 P9
  exact ⟨⟨p0_1, p0_2, p0_3, trivial⟩, ⟨p1_2, p1_3, trivial⟩, ⟨p2_3, trivial⟩, trivial, trivial⟩
inductive Nd5 (a0 a1 a2 a3 a4 : Addr) : Prop
  | mk (p0_1 : NeN a0 a1) (p0_2 : NeN a0 a2) (p0_3 : NeN a0 a3) (p0_4 : NeN a0 a4) (p1_2 : NeN a1 a2) (p1_3 : NeN a1 a3) (p1_4 : NeN a1 a4) (p2_3 : NeN a2 a3) (p2_4 : NeN a2 a4) (p3_4 : NeN a3 a4) : Nd5 a0 a1 a2 a3 a4
theorem Nd.o5 {a0 a1 a2 a3 a4 : Addr} (h : Nd [a0, a1, a2, a3, a4]) : Nd5 a0 a1 a2 a3 a4 :=
  have g : (NeN a0 a1 ∧ NeN a0 a2 ∧ NeN a0 a3 ∧ NeN a0 a4 ∧ True) ∧ (NeN a1 a2 ∧ NeN a1 a3 ∧ NeN a1 a4 ∧ True) ∧ (NeN a2 a3 ∧ NeN a2 a4 ∧ True) ∧ (NeN a3 a4 ∧ True) ∧ (True) ∧ True := h
  .mk g.1.1 g.1.2.1 g.1.2.2.1 g.1.2.2.2.1 g.2.1.1 g.2.1.2.1 g.2.1.2.2.1 g.2.2.1.1 g.2.2.1.2.1 g.2.2.2.1.1
theorem Nd.m5 {a0 a1 a2 a3 a4 : Addr} : Nd5 a0 a1 a2 a3 a4 → Nd [a0, a1, a2, a3, a4] := by
  rintro t9_0
  refine hide fun P9 hP9 => ?_
  rcases t9_0 with ⟨p0_1, p0_2, p0_3, p0_4, p1_2, p1_3, p1_4, p2_3, p2_4, p3_4⟩
  refine hP9 ?_; clear hP9 P9
  exact ⟨⟨p0_1, p0_2, p0_3, p0_4, trivial⟩, ⟨p1_2, p1_3, p1_4, trivial⟩, ⟨p2_3, p2_4, trivial⟩, ⟨p3_4, trivial⟩, trivial, trivial⟩
inductive Nd6 (a0 a1 a2 a3 a4 a5 : Addr) : Prop
  | mk (p0_1 : NeN a0 a1) (p0_2 : NeN a0 a2) (p0_3 : NeN a0 a3) (p0_4 : NeN a0 a4) (p0_5 : NeN a0 a5) (p1_2 : NeN a1 a2) (p1_3 : NeN a1 a3) (p1_4 : NeN a1 a4) (p1_5 : NeN a1 a5) (p2_3 : NeN a2 a3) (p2_4 : NeN a2 a4) (p2_5 : NeN a2 a5) (p3_4 : NeN a3 a4) (p3_5 : NeN a3 a5) (p4_5 : NeN a4 a5) : Nd6 a0 a1 a2 a3 a4 a5
theorem Nd.o6 {a0 a1 a2 a3 a4 a5 : Addr} (h : Nd [a0, a1, a2, a3, a4, a5]) : Nd6 a0 a1 a2 a3 a4 a5 :=
  have g : (NeN a0 a1 ∧ NeN a0 a2 ∧ NeN a0 a3 ∧ NeN a0 a4 ∧ NeN a0 a5 ∧ True) ∧ (NeN a1 a2 ∧ NeN a1 a3 ∧ NeN a1 a4 ∧ NeN a1 a5 ∧ True) ∧ (NeN a2 a3 ∧ NeN a2 a4 ∧ NeN a2 a5 ∧ True) ∧ (NeN a3 a4 ∧ NeN a3 a5 ∧ True) ∧ (NeN a4 a5 ∧ True) ∧ (True) ∧ True := h
  .mk g.1.1 g.1.2.1 g.1.2.2.1 g.1.2.2.2.1 g.1.2.2.2.2.1 g.2.1.1 g.2.1.2.1 g.2.1.2.2.1 g.2.1.2.2.2.1 g.2.2.1.1 g.2.2.1.2.1 g.2.2.1.2.2.1 g.2.2.2.1.1 g.2.2.2.1.2.1 g.2.2.2.2.1.1
theorem Nd.m6 {a0 a1 a2 a3 a4 a5 : Addr} : Nd6 a0 a1 a2 a3 a4 a5 → Nd [a0, a1, a2, a3, a4, a5] := by
  rintro t9_0
  refine hide fun P9 hP9 => ?_
  rcases t9_0 with ⟨p0_1, p0_2, p0_3, p0_4, p0_5, p1_2, p1_3, p1_4, p1_5, p2_3, p2_4, p2_5, p3_4, p3_5, p4_5⟩
  refine hP9 ?_; clear hP9 P9
  exact ⟨⟨p0_1, p0_2, p0_3, p0_4, p0_5, trivial⟩, ⟨p1_2, p1_3, p1_4, p1_5, trivial⟩, ⟨p2_3, p2_4, p2_5, trivial⟩, ⟨p3_4, p3_5, trivial⟩, ⟨p4_5, trivial⟩, trivial, trivial⟩
inductive Nd7 (a0 a1 a2 a3 a4 a5 a6 : Addr) : Prop
  | mk (p0_1 : NeN a0 a1) (p0_2 : NeN a0 a2) (p0_3 : NeN a0 a3) (p0_4 : NeN a0 a4) (p0_5 : NeN a0 a5) (p0_6 : NeN a0 a6) (p1_2 : NeN a1 a2) (p1_3 : NeN a1 a3) (p1_4 : NeN a1 a4) (p1_5 : NeN a1 a5) (p1_6 : NeN a1 a6) (p2_3 : NeN a2 a3) (p2_4 : NeN a2 a4) (p2_5 : NeN a2 a5) (p2_6 : NeN a2 a6) (p3_4 : NeN a3 a4) (p3_5 : NeN a3 a5) (p3_6 : NeN a3 a6) (p4_5 : NeN a4 a5) (p4_6 : NeN a4 a6) (p5_6 : NeN a5 a6) : Nd7 a0 a1 a2 a3 a4 a5 a6
theorem Nd.o7 {a0 a1 a2 a3 a4 a5 a6 : Addr} (h : Nd [a0, a1, a2, a3, a4, a5, a6]) : Nd7 a0 a1 a2 a3 a4 a5 a6 :=
  have g : (NeN a0 a1 ∧ NeN a0 a2 ∧ NeN a0 a3 ∧ NeN a0 a4 ∧ NeN a0 a5 ∧ NeN a0 a6 ∧ True) ∧ (NeN a1 a2 ∧ NeN a1 a3 ∧ NeN a1 a4 ∧ NeN a1 a5 ∧ NeN a1 a6 ∧ True) ∧ (NeN a2 a3 ∧ NeN a2 a4 ∧ NeN a2 a5 ∧ NeN a2 a6 ∧ True) ∧ (NeN a3 a4 ∧ NeN a3 a5 ∧ NeN a3 a6 ∧ True) ∧ (NeN a4 a5 ∧ NeN a4 a6 ∧ True) ∧ (NeN a5 a6 ∧ True) ∧ (True) ∧ True := h
  .mk g.1.1 g.1.2.1 g.1.2.2.1 g.1.2.2.2.1 g.1.2.2.2.2.1 g.1.2.2.2.2.2.1 g.2.1.1 g.2.1.2.1 g.2.1.2.2.1 g.2.1.2.2.2.1 g.2.1.2.2.2.2.1 g.2.2.1.1 g.2.2.1.2.1 g.2.2.1.2.2.1 g.2.2.1.2.2.2.1 g.2.2.2.1.1 g.2.2.2.1.2.1 g.2.2.2.1.2.2.1 g.2.2.2.2.1.1 g.2.2.2.2.1.2.1 g.2.2.2.2.2.1.1
theorem Nd.m7 {a0 a1 a2 a3 a4 a5 a6 : Addr} : Nd7 a0 a1 a2 a3 a4 a5 a6 → Nd [a0, a1, a2, a3, a4, a5, a6] := by
  rintro t9_0
  refine hide fun P9 hP9 => ?_
  rcases t9_0 with ⟨p0_1, p0_2, p0_3, p0_4, p0_5, p0_6, p1_2, p1_3, p1_4, p1_5, p1_6, p2_3, p2_4, p2_5, p2_6, p3_4, p3_5, p3_6, p4_5, p4_6, p5_6⟩
  refine hP9 ?_; clear hP9 P9
  exact ⟨⟨p0_1, p0_2, p0_3, p0_4, p0_5, p0_6, trivial⟩, ⟨p1_2, p1_3, p1_4, p1_5, p1_6, trivial⟩, ⟨p2_3, p2_4, p2_5, p2_6, trivial⟩, ⟨p3_4, p3_5, p3_6, trivial⟩, ⟨p4_5, p4_6, trivial⟩, ⟨p5_6, trivial⟩, trivial, trivial⟩
inductive Nd8 (a0 a1 a2 a3 a4 a5 a6 a7 : Addr) : Prop
  | mk (p0_1 : NeN a0 a1) (p0_2 : NeN a0 a2) (p0_3 : NeN a0 a3) (p0_4 : NeN a0 a4) (p0_5 : NeN a0 a5) (p0_6 : NeN a0 a6) (p0_7 : NeN a0 a7) (p1_2 : NeN a1 a2) (p1_3 : NeN a1 a3) (p1_4 : NeN a1 a4) (p1_5 : NeN a1 a5) (p1_6 : NeN a1 a6) (p1_7 : NeN a1 a7) (p2_3 : NeN a2 a3) (p2_4 : NeN a2 a4) (p2_5 : NeN a2 a5) (p2_6 : NeN a2 a6) (p2_7 : NeN a2 a7) (p3_4 : NeN a3 a4) (p3_5 : NeN a3 a5) (p3_6 : NeN a3 a6) (p3_7 : NeN a3 a7) (p4_5 : NeN a4 a5) (p4_6 : NeN a4 a6) (p4_7 : NeN a4 a7) (p5_6 : NeN a5 a6) (p5_7 : NeN a5 a7) (p6_7 : NeN a6 a7) : Nd8 a0 a1 a2 a3 a4 a5 a6 a7
theorem Nd.o8 {a0 a1 a2 a3 a4 a5 a6 a7 : Addr} (h : Nd [a0, a1, a2, a3, a4, a5, a6, a7]) : Nd8 a0 a1 a2 a3 a4 a5 a6 a7 :=
  have g : (NeN a0 a1 ∧ NeN a0 a2 ∧ NeN a0 a3 ∧ NeN a0 a4 ∧ NeN a0 a5 ∧ NeN a0 a6 ∧ NeN a0 a7 ∧ True) ∧ (NeN a1 a2 ∧ NeN a1 a3 ∧ NeN a1 a4 ∧ NeN a1 a5 ∧ NeN a1 a6 ∧ NeN a1 a7 ∧ True) ∧ (NeN a2 a3 ∧ NeN a2 a4 ∧ NeN a2 a5 ∧ NeN a2 a6 ∧ NeN a2 a7 ∧ True) ∧ (NeN a3 a4 ∧ NeN a3 a5 ∧ NeN a3 a6 ∧ NeN a3 a7 ∧ True) ∧ (NeN a4 a5 ∧ NeN a4 a6 ∧ NeN a4 a7 ∧ True) ∧ (NeN a5 a6 ∧ NeN a5 a7 ∧ True) ∧ (NeN a6 a7 ∧ True) ∧ (True) ∧ True := h
  .mk g.1.1 g.1.2.1 g.1.2.2.1 g.1.2.2.2.1 g.1.2.2.2.2.1 g.1.2.2.2.2.2.1 g.1.2.2.2.2.2.2.1 g.2.1.1 g.2.1.2.1 g.2.1.2.2.1 g.2.1.2.2.2.1 g.2.1.2.2.2.2.1 g.2.1.2.2.2.2.2.1 g.2.2.1.1 g.2.2.1.2.1 g.2.2.1.2.2.1 g.2.2.1.2.2.2.1 g.2.2.1.2.2.2.2.1 g.2.2.2.1.1 g.2.2.2.1.2.1 g.2.2.2.1.2.2.1 g.2.2.2.1.2.2.2.1 g.2.2.2.2.1.1 g.2.2.2.2.1.2.1 g.2.2.2.2.1.2.2.1 g.2.2.2.2.2.1.1 g.2.2.2.2.2.1.2.1 g.2.2.2.2.2.2.1.1
theorem Nd.m8 {a0 a1 a2 a3 a4 a5 a6 a7 : Addr} : Nd8 a0 a1 a2 a3 a4 a5 a6 a7 → Nd [a0, a1, a2, a3, a4, a5, a6, a7] := by
  rintro t9_0
  refine hide fun P9 hP9 => ?_
  rcases t9_0 with ⟨p0_1, p0_2, p0_3, p0_4, p0_5, p0_6, p0_7, p1_2, p1_3, p1_4, p1_5, p1_6, p1_7, p2_3, p2_4, p2_5, p2_6, p2_7, p3_4, p3_5, p3_6, p3_7, p4_5, p4_6, p4_7, p5_6, p5_7, p6_7⟩
  refine hP9 ?_; clear hP9 P9
  exact ⟨⟨p0_1, p0_2, p0_3, p0_4, p0_5, p0_6, p0_7, trivial⟩, ⟨p1_2, p1_3, p1_4, p1_5, p1_6, p1_7, trivial⟩, ⟨p2_3, p2_4, p2_5, p2_6, p2_7, trivial⟩, ⟨p3_4, p3_5, p3_6, p3_7, trivial⟩, ⟨p4_5, p4_6, p4_7, trivial⟩, ⟨p5_6, p5_7, trivial⟩, ⟨p6_7, trivial⟩, trivial, trivial⟩
inductive Nd11 (a0 a1 a2 a3 a4 a5 a6 a7 a8 a9 a10 : Addr) : Prop
  | mk (p0_1 : NeN a0 a1) (p0_2 : NeN a0 a2) (p0_3 : NeN a0 a3) (p0_4 : NeN a0 a4) (p0_5 : NeN a0 a5) (p0_6 : NeN a0 a6) (p0_7 : NeN a0 a7) (p0_8 : NeN a0 a8) (p0_9 : NeN a0 a9) (p0_10 : NeN a0 a10) (p1_2 : NeN a1 a2) (p1_3 : NeN a1 a3) (p1_4 : NeN a1 a4) (p1_5 : NeN a1 a5) (p1_6 : NeN a1 a6) (p1_7 : NeN a1 a7) (p1_8 : NeN a1 a8) (p1_9 : NeN a1 a9) (p1_10 : NeN a1 a10) (p2_3 : NeN a2 a3) (p2_4 : NeN a2 a4) (p2_5 : NeN a2 a5) (p2_6 : NeN a2 a6) (p2_7 : NeN a2 a7) (p2_8 : NeN a2 a8) (p2_9 : NeN a2 a9) (p2_10 : NeN a2 a10) (p3_4 : NeN a3 a4) (p3_5 : NeN a3 a5) (p3_6 : NeN a3 a6) (p3_7 : NeN a3 a7) (p3_8 : NeN a3 a8) (p3_9 : NeN a3 a9) (p3_10 : NeN a3 a10) (p4_5 : NeN a4 a5) (p4_6 : NeN a4 a6) (p4_7 : NeN a4 a7) (p4_8 : NeN a4 a8) (p4_9 : NeN a4 a9) (p4_10 : NeN a4 a10) (p5_6 : NeN a5 a6) (p5_7 : NeN a5 a7) (p5_8 : NeN a5 a8) (p5_9 : NeN a5 a9) (p5_10 : NeN a5 a10) (p6_7 : NeN a6 a7) (p6_8 : NeN a6 a8) (p6_9 : NeN a6 a9) (p6_10 : NeN a6 a10) (p7_8 : NeN a7 a8) (p7_9 : NeN a7 a9) (p7_10 : NeN a7 a10) (p8_9 : NeN a8 a9) (p8_10 : NeN a8 a10) (p9_10 : NeN a9 a10) : Nd11 a0 a1 a2 a3 a4 a5 a6 a7 a8 a9 a10
theorem Nd.o11 {a0 a1 a2 a3 a4 a5 a6 a7 a8 a9 a10 : Addr} (h : Nd [a0, a1, a2, a3, a4, a5, a6, a7, a8, a9, a10]) : Nd11 a0 a1 a2 a3 a4 a5 a6 a7 a8 a9 a10 :=
  have g : (NeN a0 a1 ∧ NeN a0 a2 ∧ NeN a0 a3 ∧ NeN a0 a4 ∧ NeN a0 a5 ∧ NeN a0 a6 ∧ NeN a0 a7 ∧ NeN a0 a8 ∧ NeN a0 a9 ∧ NeN a0 a10 ∧ True) ∧ (NeN a1 a2 ∧ NeN a1 a3 ∧ NeN a1 a4 ∧ NeN a1 a5 ∧ NeN a1 a6 ∧ NeN a1 a7 ∧ NeN a1 a8 ∧ NeN a1 a9 ∧ NeN a1 a10 ∧ True) ∧ (NeN a2 a3 ∧ NeN a2 a4 ∧ NeN a2 a5 ∧ NeN a2 a6 ∧ NeN a2 a7 ∧ NeN a2 a8 ∧ NeN a2 a9 ∧ NeN a2 a10 ∧ True) ∧ (NeN a3 a4 ∧ NeN a3 a5 ∧ NeN a3 a6 ∧ NeN a3 a7 ∧ NeN a3 a8 ∧ NeN a3 a9 ∧ NeN a3 a10 ∧ True) ∧ (NeN a4 a5 ∧ NeN a4 a6 ∧ NeN a4 a7 ∧ NeN a4 a8 ∧ NeN a4 a9 ∧ NeN a4 a10 ∧ True) ∧ (NeN a5 a6 ∧ NeN a5 a7 ∧ NeN a5 a8 ∧ NeN a5 a9 ∧ NeN a5 a10 ∧ True) ∧ (NeN a6 a7 ∧ NeN a6 a8 ∧ NeN a6 a9 ∧ NeN a6 a10 ∧ True) ∧ (NeN a7 a8 ∧ NeN a7 a9 ∧ NeN a7 a10 ∧ True) ∧ (NeN a8 a9 ∧ NeN a8 a10 ∧ True) ∧ (NeN a9 a10 ∧ True) ∧ (True) ∧ True := h
  .mk g.1.1 g.1.2.1 g.1.2.2.1 g.1.2.2.2.1 g.1.2.2.2.2.1 g.1.2.2.2.2.2.1 g.1.2.2.2.2.2.2.1 g.1.2.2.2.2.2.2.2.1 g.1.2.2.2.2.2.2.2.2.1 g.1.2.2.2.2.2.2.2.2.2.1 g.2.1.1 g.2.1.2.1 g.2.1.2.2.1 g.2.1.2.2.2.1 g.2.1.2.2.2.2.1 g.2.1.2.2.2.2.2.1 g.2.1.2.2.2.2.2.2.1 g.2.1.2.2.2.2.2.2.2.1 g.2.1.2.2.2.2.2.2.2.2.1 g.2.2.1.1 g.2.2.1.2.1 g.2.2.1.2.2.1 g.2.2.1.2.2.2.1 g.2.2.1.2.2.2.2.1 g.2.2.1.2.2.2.2.2.1 g.2.2.1.2.2.2.2.2.2.1 g.2.2.1.2.2.2.2.2.2.2.1 g.2.2.2.1.1 g.2.2.2.1.2.1 g.2.2.2.1.2.2.1 g.2.2.2.1.2.2.2.1 g.2.2.2.1.2.2.2.2.1 g.2.2.2.1.2.2.2.2.2.1 g.2.2.2.1.2.2.2.2.2.2.1 g.2.2.2.2.1.1 g.2.2.2.2.1.2.1 g.2.2.2.2.1.2.2.1 g.2.2.2.2.1.2.2.2.1 g.2.2.2.2.1.2.2.2.2.1 g.2.2.2.2.1.2.2.2.2.2.1 g.2.2.2.2.2.1.1 g.2.2.2.2.2.1.2.1 g.2.2.2.2.2.1.2.2.1 g.2.2.2.2.2.1.2.2.2.1 g.2.2.2.2.2.1.2.2.2.2.1 g.2.2.2.2.2.2.1.1 g.2.2.2.2.2.2.1.2.1 g.2.2.2.2.2.2.1.2.2.1 g.2.2.2.2.2.2.1.2.2.2.1 g.2.2.2.2.2.2.2.1.1 g.2.2.2.2.2.2.2.1.2.1 g.2.2.2.2.2.2.2.1.2.2.1 g.2.2.2.2.2.2.2.2.1.1 g.2.2.2.2.2.2.2.2.1.2.1 g.2.2.2.2.2.2.2.2.2.1.1
theorem Nd.m11 {a0 a1 a2 a3 a4 a5 a6 a7 a8 a9 a10 : Addr} : Nd11 a0 a1 a2 a3 a4 a5 a6 a7 a8 a9 a10 → Nd [a0, a1, a2, a3, a4, a5, a6, a7, a8, a9, a10] := by
  rintro t9_0
  refine hide fun P9 hP9 => ?_
  rcases t9_0 with ⟨p0_1, p0_2, p0_3, p0_4, p0_5, p0_6, p0_7, p0_8, p0_9, p0_10, p1_2, p1_3, p1_4, p1_5, p1_6, p1_7, p1_8, p1_9, p1_10, p2_3, p2_4, p2_5, p2_6, p2_7, p2_8, p2_9, p2_10, p3_4, p3_5, p3_6, p3_7, p3_8, p3_9, p3_10, p4_5, p4_6, p4_7, p4_8, p4_9, p4_10, p5_6, p5_7, p5_8, p5_9, p5_10, p6_7, p6_8, p6_9, p6_10, p7_8, p7_9, p7_10, p8_9, p8_10, p9_10⟩
  refine hP9 ?_; clear hP9 P9
  exact ⟨⟨p0_1, p0_2, p0_3, p0_4, p0_5, p0_6, p0_7, p0_8, p0_9, p0_10, trivial⟩, ⟨p1_2, p1_3, p1_4, p1_5, p1_6, p1_7, p1_8, p1_9, p1_10, trivial⟩, ⟨p2_3, p2_4, p2_5, p2_6, p2_7, p2_8, p2_9, p2_10, trivial⟩, ⟨p3_4, p3_5, p3_6, p3_7, p3_8, p3_9, p3_10, trivial⟩, ⟨p4_5, p4_6, p4_7, p4_8, p4_9, p4_10, trivial⟩, ⟨p5_6, p5_7, p5_8, p5_9, p5_10, trivial⟩, ⟨p6_7, p6_8, p6_9, p6_10, trivial⟩, ⟨p7_8, p7_9, p7_10, trivial⟩, ⟨p8_9, p8_10, trivial⟩, ⟨p9_10, trivial⟩, trivial, trivial⟩
inductive All8 (p : Addr → Prop) (a0 a1 a2 a3 a4 a5 a6 a7 : Addr) : Prop
  | mk (q0 : p a0) (q1 : p a1) (q2 : p a2) (q3 : p a3) (q4 : p a4) (q5 : p a5) (q6 : p a6) (q7 : p a7)
theorem All8.of {p : Addr → Prop} {a0 a1 a2 a3 a4 a5 a6 a7 : Addr} (h : ∀ a ∈ [a0, a1, a2, a3, a4, a5, a6, a7], p a) : All8 p a0 a1 a2 a3 a4 a5 a6 a7 := .mk (h _ (.head _)) (h _ (.tail _ (.head _))) (h _ (.tail _ (.tail _ (.head _)))) (h _ (.tail _ (.tail _ (.tail _ (.head _))))) (h _ (.tail _ (.tail _ (.tail _ (.tail _ (.head _)))))) (h _ (.tail _ (.tail _ (.tail _ (.tail _ (.tail _ (.head _))))))) (h _ (.tail _ (.tail _ (.tail _ (.tail _ (.tail _ (.tail _ (.head _)))))))) (h _ (.tail _ (.tail _ (.tail _ (.tail _ (.tail _ (.tail _ (.tail _ (.head _)))))))))
/-- what else stands: the list `rest` beside the addresses `as` -/
structure Rest (B h : Heap) (as : List Addr) (rest : List (Addr × Obj)) : Prop where
  off : ∀ a ∈ as, ∀ p ∈ rest, NeN p.1 a
  all : ∀ a o, a ∉ as → Own B h a o → (a, o) ∈ rest
  own : ∀ p ∈ rest, Own B h p.1 p.2
theorem restOf_rest (B h : Heap) (as : List Addr) : Rest B h as (restOf B h as) :=
  ⟨fun _ ha => rest_ne ha, fun _ _ hn ho => mem_restOf.mpr ⟨hn, ho⟩, fun _ hp => (mem_restOf.mp hp).2⟩
theorem Rest.upto {S : Addr → Prop} {B h h' : Heap} {as : List Addr} {rest news : List (Addr × Obj)} {L : Addr} {m : Str → Option Value} (x : Rest B h as rest) (hB : Keep B h) (F : Fr B L h' m) (N : News B L h' news)
    (hr : ∀ p ∈ rest, p ∈ news) (hs : ∀ a ∈ as, (S a ∧ (h'.get? a).isSome) ∨ h'.get? a = h.get? a) : Upto S h h' := by
  have key : ∀ a o, a ∉ as → h.get? a = some o → h'.get? a = some o := by
    intro a o hn e
    cases hq : B.get? a with
    | some o' =>
      have := hB.keep _ _ hq
      rw [e] at this; cases this
      exact F.keep _ _ hq
    | none => exact (N _ (hr _ (x.all a o hn ⟨e, hq⟩))).1
  refine ⟨fun a o hn e => ?_, fun a e => ?_⟩
  · by_cases hm : a ∈ as
    · refine hide fun P9 hP9 => ?_
      (rcases hs a hm with ⟨q, _⟩ | q) <;> (refine hP9 ?_; clear hP9 P9)
      · exact absurd q hn
      · rw [q, e]
    · exact key a o hm e
  · by_cases hm : a ∈ as
    · refine hide fun P9 hP9 => ?_
      (rcases hs a hm with ⟨_, q⟩ | q) <;> (refine hP9 ?_; clear hP9 P9)
      · exact q
      · rw [q]; exact e
    · obtain ⟨o, ho⟩ := Option.isSome_iff_exists.mp e
      rw [key a o hm ho]; rfl
theorem newsLive {B h : Heap} {L a : Addr} {o : Obj} {news : List (Addr × Obj)} (N : News B L h news) (hm : (a, o) ∈ news) : (h.get? a).isSome = true := by rw [(N _ hm).1]; rfl
theorem newsOwn {B h : Heap} {L a : Addr} {o : Obj} {news : List (Addr × Obj)} (N : News B L h news) (hm : (a, o) ∈ news) : Own B h a o := ⟨(N _ hm).1, (N _ hm).2.2⟩
theorem newsNeL {B h : Heap} {L a : Addr} {o : Obj} {news : List (Addr × Obj)} (N : News B L h news) (hm : (a, o) ∈ news) : a ≠ L := (N _ hm).2.1
theorem Rest.news {B h : Heap} {L : Addr} {as : List Addr} {rest objs : List (Addr × Obj)} (x : Rest B h as rest) (hO : OwnL B h objs) (has : objs.map (·.1) = as) (hL : L ∉ as) {m : Str → Option Value} (F : Fr B L h m) : News B L h (objs ++ rest.filter (fun p => p.1 ≠ L)) := by
  intro p hp
  rcases List.mem_append.mp hp with hp | hp
  · exact ⟨(hO p hp).1, fun e => hL (has ▸ (e ▸ List.mem_map_of_mem hp)), (hO p hp).2⟩
  · obtain ⟨h1, h2⟩ := List.mem_filter.mp hp
    exact ⟨(x.own p h1).1, by simpa using h2, (x.own p h1).2⟩
def is0 : Addr → Prop := fun _ => False
def is1 (x : Addr) : Addr → Prop := fun a => @Eq Nat a x
def is2 (x y : Addr) : Addr → Prop := fun a => @Eq Nat a x ∨ @Eq Nat a y
def is3 (x y z : Addr) : Addr → Prop := fun a => @Eq Nat a x ∨ @Eq Nat a y ∨ @Eq Nat a z
def orL (S : Addr → Prop) (L : Addr) : Addr → Prop := fun a => S a ∨ @Eq Nat a L
theorem nos1 {x a : Nat} (h : a ≠ x) : ¬ is1 x a := h
theorem nos2 {x y a : Nat} (h : a ≠ x) (g : a ≠ y) : ¬ is2 x y a := fun e => e.elim h g
theorem nos3 {x y z a : Nat} (h : a ≠ x) (g : a ≠ y) (f : a ≠ z) : ¬ is3 x y z a := fun e => e.elim h fun e => e.elim g f
theorem nosL1 {x a L : Nat} (h : a ≠ x) (f : a ≠ L) : ¬ orL (is1 x) L a := fun e => e.elim h f
theorem nosL2 {x y a L : Nat} (h : a ≠ x) (g : a ≠ y) (f : a ≠ L) : ¬ orL (is2 x y) L a := fun e => e.elim (nos2 h g) f
theorem nosL3 {x y z a L : Nat} (h : a ≠ x) (g : a ≠ y) (k : a ≠ z) (f : a ≠ L) : ¬ orL (is3 x y z) L a := fun e => e.elim (nos3 h g k) f
theorem nosr1 {l : List (Addr × Obj)} {x : Addr} (h : ∀ p ∈ l, p.1 ≠ x) : ∀ p ∈ l, ¬ is1 x p.1 := h
theorem nosr2 {l : List (Addr × Obj)} {x y : Addr} (h : ∀ p ∈ l, p.1 ≠ x) (g : ∀ p ∈ l, p.1 ≠ y) : ∀ p ∈ l, ¬ is2 x y p.1 := fun p hp => nos2 (h p hp) (g p hp)
theorem nosr3 {l : List (Addr × Obj)} {x y z : Addr} (h : ∀ p ∈ l, p.1 ≠ x) (g : ∀ p ∈ l, p.1 ≠ y) (f : ∀ p ∈ l, p.1 ≠ z) : ∀ p ∈ l, ¬ is3 x y z p.1 := fun p hp => nos3 (h p hp) (g p hp) (f p hp)
theorem newsMk {B h : Heap} {L : Addr} {l : List (Addr × Obj)} (hO : OwnL B h l) (hL : ∀ p ∈ l, NeN p.1 L) : News B L h l := fun p hp => ⟨(hO p hp).1, hL p hp, (hO p hp).2⟩
theorem Own.live {B h : Heap} {a : Addr} {o : Obj} (x : Own B h a o) : (h.get? a).isSome = true := by rw [x.1]; rfl
theorem Own.lt {B h : Heap} {a L : Addr} {o : Obj} (x : Own B h a o) (hL : h.objs.size ≤ L) : NeN a L := Nat.ne_of_lt (Nat.lt_of_lt_of_le (Heap.lt_size x.1) hL)
theorem Own.st {B h h₀ h' : Heap} {a L : Addr} {o : Obj} (x : Own B h a o) (k : ∀ a o, NeN a L → (h₀.get? a).isSome → h.get? a = some o → h'.get? a = some o) (hn : NeN a L) (hl : (h₀.get? a).isSome) : Own B h' a o := ⟨k a o hn hl x.1, x.2⟩
theorem Own.ne_id {B h : Heap} {a b C d : Addr} {es : List DictEntry} {n : Nat} (x : Own B h a (instObj C d)) (y : Own B h b (dictOf es n)) : NeN a b := fun e => by
  cases (e : a = b)
  have := x.inj y
  injection this with _ _ h _; cases h
theorem Own.ne_il {B h : Heap} {a b C d : Addr} {its : Array Value} {n : Nat} (x : Own B h a (instObj C d)) (y : Own B h b (listOf its n)) : NeN a b := fun e => by
  cases (e : a = b)
  have := x.inj y
  injection this with _ _ h _; cases h
theorem Own.ne_dl {B h : Heap} {a b : Addr} {es : List DictEntry} {n : Nat} {its : Array Value} {n' : Nat} (x : Own B h a (dictOf es n)) (y : Own B h b (listOf its n')) : NeN a b := fun e => by
  cases (e : a = b)
  have := x.inj y
  injection this with _ _ h _; cases h
theorem Own.ne_ll {B h : Heap} {a b : Addr} {its its' : Array Value} {n n' : Nat} (x : Own B h a (listOf its n)) (y : Own B h b (listOf its' n')) (hn : n ≠ n') : NeN a b := fun e => by
  cases (e : a = b)
  have := x.inj y
  injection this with _ _ h _; injection h with _ h; exact hn h
theorem neL_list {B h : Heap} {a L : Addr} {m : Str → Option Value} {its : Array Value} {n : Nat} (F : Fr B L h m) (x : Own B h a (listOf its n)) : NeN a L := fun e => by
  cases (e : a = L)
  refine hide fun P9 hP9 => ?_
  obtain ⟨⟨o, es, ep, q, d, _⟩, _, _⟩ := F
  refine hP9 ?_; clear hP9 P9
  have := x.1.symm.trans q
  cases this
  cases d
theorem Own.ne_fresh {B h : Heap} {b x : Addr} {o : Obj} (q : Own B h b o) (e : h.get? x = none) : NeN b x := fun r => by
  cases (r : b = x)
  have := q.1
  rw [e] at this; cases this
theorem Upto.dead {S : Addr → Prop} {h h' : Heap} {x : Addr} (U : Upto S h h') (e : h'.get? x = none) : h.get? x = none := by
  cases q : h.get? x with
  | none => rfl
  | some o => have := U.live x (by rw [q]; rfl); rw [e] at this; cases this
theorem newsKeepL {B h h' : Heap} {L : Addr} {l : List (Addr × Obj)} (N : News B L h l) (U : Upto (orL is0 L) h h') : News B L h' l := fun p hp => ⟨U.same _ _ (fun e => e.elim id (N p hp).2.1) (N p hp).1, (N p hp).2⟩
theorem kl_last_append (p : List Value) (y : Value) : kl_last (p ++ [y]) = some (p, y) := by
  induction p with
  | nil => rfl
  | cons a r ih => rw [List.cons_append, kl_last, ih]
theorem newsStep {B h h' : Heap} {L : Addr} {l l' : List (Addr × Obj)} {S : Addr → Prop} (N : News B L h l) (U : Upto S h h') (k : ∀ p ∈ l', (p ∈ l ∧ ¬ S p.1) ∨ (Own B h' p.1 p.2 ∧ p.1 ≠ L)) : News B L h' l' := fun p hp => by
  refine hide fun P9 hP9 => ?_
  (rcases k p hp with ⟨a, b⟩ | ⟨a, b⟩) <;> (refine hP9 ?_; clear hP9 P9)
  · exact ⟨U.same _ _ b (N p a).1, (N p a).2⟩
  · exact ⟨a.1, b, a.2⟩
theorem newsKeep {B h h' : Heap} {L : Addr} {l : List (Addr × Obj)} {S : Addr → Prop} (N : News B L h l) (U : Upto S h h') (k : ∀ p ∈ l, ¬ S p.1) : News B L h' l := newsStep N U fun p hp => .inl ⟨hp, k p hp⟩
theorem neL_of_new {B h : Heap} {L x : Addr} {m : Str → Option Value} (F : Fr B L h m) (e : h.get? x = none) : x ≠ L := fun q => by
  refine hide fun P9 hP9 => ?_
  obtain ⟨⟨o, _, _, a, _⟩, _, _⟩ := F
  refine hP9 ?_; clear hP9 P9
  rw [← q, e] at a; cases a
theorem fresh_of {B h : Heap} {as : List Addr} {rest : List (Addr × Obj)} {x : Addr} (hR : Rest B h as rest) (hb : B.get? x = none) (ha : ∀ a ∈ as, @LT.lt Nat _ a x) (hl : AllLt x rest) : h.get? x = none := by
  cases hq : h.get? x with
  | none => rfl
  | some o =>
    by_cases hm : x ∈ as
    · exact absurd (ha x hm) (Nat.lt_irrefl _)
    · have key : ∀ {l : List (Addr × Obj)}, AllLt x l → ∀ p ∈ l, @LT.lt Nat _ p.1 x := by
        intro l
        induction l with
        | nil => intro _ p hp; cases hp
        | cons q r ih =>
          intro hl p hp
          rcases List.mem_cons.mp hp with rfl | hp
          · exact hl.1
          · exact ih hl.2 p hp
      exact absurd (key hl _ (hR.all x o hm ⟨hq, hb⟩)) (Nat.lt_irrefl _)
theorem allNe_of {x : Addr} : ∀ {l : List (Addr × Obj)}, AllLt x l → ∀ p ∈ l, @Ne Nat p.1 x
  | [], _, _, hp => nomatch hp
  | q :: r, hl, p, hp => by
    rcases List.mem_cons.mp hp with rfl | hp
    · exact Nat.ne_of_lt hl.1
    · exact allNe_of hl.2 p hp
theorem base0 {B : Heap} : ∀ a, is0 a → B.get? a = none := fun _ x => x.elim
theorem base1 {B : Heap} {x : Addr} (hx : B.get? x = none) : ∀ a, is1 x a → B.get? a = none := fun _ e => by cases e; exact hx
theorem base2 {B : Heap} {x y : Addr} (hx : B.get? x = none) (hy : B.get? y = none) : ∀ a, is2 x y a → B.get? a = none := fun _ e => by rcases e with e | e <;> cases e <;> assumption
theorem base3 {B : Heap} {x y z : Addr} (hx : B.get? x = none) (hy : B.get? y = none) (hz : B.get? z = none) : ∀ a, is3 x y z a → B.get? a = none := fun _ e => by rcases e with e | e | e <;> cases e <;> assumption
theorem frStep {B h h' : Heap} {L : Addr} {m : Str → Option Value} {S : Addr → Prop} (F : Fr B L h m) (U : Upto S h h') (hL : ¬ S L) (hS : ∀ a, S a → B.get? a = none) : Fr B L h' m := U.fr F hL hS
section
variable {prog : Program} {w : World} {A : Around} {s : Shared} {R : Result → Shared → Prop} {B : Heap} {K : Frag} {p : Program} {loose : List Str} {mean : ExcName → Option Value} {mg mb : Str → Option Value}
  {name qual : Str} {params : Arguments} {body : List Stmt} {scope : Scope} {dV kV doc pm cdv ct oc : Value} {an od : Option Addr} {osl : Array (Option Value)} {f : Addr} {args : Args} {objs : List (Addr × Obj)} {as : List Addr}
/-- into a def of the text, over one base for all frames -/
theorem enter (binds : List (Str × Value)) (X : K.In B) (T : Top p loose mean mg mb B) (hB : Keep B s.heap) (hO : OwnL B s.heap objs) (has : objs.map (·.1) = as)
    (ho : K.lookup f = some ⟨oc, od, .func (fnOf name qual params body scope dV kV doc pm an cdv ct), osl⟩) (hcd : codeIn K cdv qual = true) (hroom : A.depth < recursionLimit)
    (hbind : BindsTo s (fnOf name qual params body scope dV kV doc pm an cdv ct) args binds) (hloc : ∀ y ∈ binds, scope.names.lookup y.1 = some .local)
    (hco : scope.isCoroutine = false) (hgen : scope.isGenerator = false) (hk : scope.kind = .function)
    (hcell : ∀ x ∈ scope.names, x.2 ≠ .cell)
    (h : ∀ h₁ L rest tk (Q' : Flow → Shared → Prop), s.heap.objs.size ≤ L → Fr B L h₁ (fun y => binds.reverse.lookup y) → News B L h₁ (objs ++ rest) → Rest B s.heap as rest → 
      (∀ fl s', R (.ok (.ret (match fl with | .ret v => v | _ => .none))) s' → Q' fl s') →
      wpAny (model prog w) (A.deeper (envOf qual scope L f cdv)) (execs body (envOf qual scope L f cdv)) Q' (fun _ _ => False)
        { s with heap := h₁, toks := tk }) : codeAny (model prog w) A (.call (.ref f) args) R s := by
  have X' := X.keeps hB.keep
  refine codeAny_call_def (fd := fnOf name qual params body scope dV kV doc pm an cdv ct) (body := body) (binds := binds) hroom (X' _ _ ho) rfl (T.nolimit.keeps hB.keep) (codeRec_of X' hcd) rfl hbind hcell hloc (fun h₁ hns hk₁ => ?_) hco hgen hk
  subst has
  exact wpAny_mono (h h₁ s.heap.objs.size _ _ _ (Nat.le_refl _) ⟨hns, fun b o e => hk₁ b o (hB.keep b o e), hB.size⟩ (news_of hO (Nat.le_refl _) hk₁) (restOf_rest ..) (fun _ _ x => x)) (fun _ _ x => x) fun _ _ x => x.elim
end
/-- how much room a call wants -/
structure Room (A : Around) (D : Nat) : Prop where
  depth : A.depth + D < recursionLimit
  units : A.units + 8 * D < cLine
  handled : A.handled = none
theorem Room.deeper {A : Around} {D : Nat} {env : Env} (x : Room A (D + 1)) : Room (A.deeper env) D := ⟨by rw [depth_deeper]; have := x.depth; omega, by rw [units_deeper]; have := x.units; omega, x.handled⟩
theorem Room.in1 {A : Around} {D : Nat} (x : Room A (D + 1)) : Room A.in1 D := ⟨by rw [depth_in1]; have := x.depth; omega, by rw [units_in1]; have := x.units; omega, x.handled⟩
theorem Room.le {A : Around} {D D' : Nat} (x : Room A D) (h : D' ≤ D) : Room A D' := ⟨by have := x.depth; omega, by have := x.units; omega, x.handled⟩
/-- what a call of f does in the heap h: it ends, changes S alone, and what it hands back is so -/
def Con (w : World) (B : Heap) (D : Nat) (f : Addr) (args : List Value) (S : Addr → Prop) (h : Heap) (Post : Value → Heap → Prop) : Prop :=
  ∀ (A : Around) (s : Shared) (R : Result → Shared → Prop), s.heap = h → Room A D →
    (∀ v h' tk', Keep B h' → Upto S h h' → Post v h' → R (.ok (.ret v)) { s with heap := h', toks := tk' }) →
    codeAny (model PySem.Challenge.rw_rh0162_01.row.prog w) A (.call (.ref f) ⟨args, []⟩) R s
theorem Con.call {w : World} {B : Heap} {D : Nat} {f : Addr} {args : List Value} {S : Addr → Prop} {h : Heap} {Post : Value → Heap → Prop} (c : Con w B D f args S h Post) {A : Around} {s : Shared} {Q : Value → Shared → Prop} {E : Value → Shared → Prop}
    (hs : s.heap = h) (r : Room A D) (k : ∀ v h' tk', Keep B h' → Upto S h h' → Post v h' → Q v { s with heap := h', toks := tk' }) :
    wpAny (model PySem.Challenge.rw_rh0162_01.row.prog w) A (call (.ref f) args) Q E s := wpAny_call (c A s _ hs r k)
section
variable {prog : Program} {w : World} {A : Around} {s : Shared} {R : Result → Shared → Prop} {B : Heap} {p : Program} {loose : List Str} {mean : ExcName → Option Value} {mg mb : Str → Option Value}
  {name qual : Str} {params : Arguments} {body : Expr} {scope : Scope} {pm ctv : Value} {cl : List (Str × Addr)} {f c' : Addr} {args : Args} {objs : List (Addr × Obj)} {as : List Addr}
/-- into a lambda that the call made -/
theorem enterLam (binds : List (Str × Value)) (T : Top p loose mean mg mb B) (hB : Keep B s.heap) (hO : OwnL B s.heap objs) (has : objs.map (·.1) = as)
    (ho : s.heap.get? f = some (kla_obj name qual params body scope cl pm c' ctv)) (hcd : s.heap.CodeRec (.ref c') qual) (hroom : A.depth < recursionLimit)
    (hbind : bindArgs (kla_fn name qual params body scope cl pm (.ref c') ctv) args = pure binds) (hloc : ∀ y ∈ binds, scope.names.lookup y.1 = some .local)
    (hco : scope.isCoroutine = false) (hgen : scope.isGenerator = false) (hk : scope.kind = .function)
    (hcell : ∀ x ∈ scope.names, x.2 ≠ .cell)
    (h : ∀ h₁ L rest tk (Q' : Value → Shared → Prop), s.heap.objs.size ≤ L → Fr B L h₁ (fun y => binds.reverse.lookup y) → News B L h₁ (objs ++ rest) → Rest B s.heap as rest →
      (∀ v s', R (.ok (.ret v)) s' → Q' v s') →
      wpAny (model prog w) (A.deeper (envX qual scope L f (.ref c') cl)) (eval body (envX qual scope L f (.ref c') cl)) Q' (fun _ _ => False)
        { s with heap := h₁, toks := tk }) : codeAny (model prog w) A (.call (.ref f) args) R s := by
  refine kla_callFunE hroom ho rfl hco hgen rfl hcd ?_
  rw [hbind]
  refine wpAny_pure (wpAny_newFunctionEnv hcell hloc (fun h₁ hns hsb => ⟨((T.nolimit).keeps hB.keep).fresh _ hsb, ?_⟩) hk)
  show codeAny _ _ (.expr body (envX qual scope s.heap.objs.size f (.ref c') cl)) _ _
  have hk₁ : ∀ b o, s.heap.get? b = some o → h₁.get? b = some o := fun b o e => hsb.extBut b o (Nat.ne_of_lt (Heap.lt_size e)) (Heap.get?_push_of_some _ e)
  subst has
  exact kla_codeExpr (wpAny_mono (h h₁ s.heap.objs.size _ _ _ (Nat.le_refl _) ⟨hns, fun b o e => hk₁ b o (hB.keep b o e), hB.size⟩ (news_of hO (Nat.le_refl _) hk₁) (restOf_rest ..) (fun _ _ x => x)) (fun _ _ x => x) fun _ _ x => x.elim)
end
theorem refocus {B g : Heap} {L : Addr} {m : Str → Option Value} {objs : List (Addr × Obj)} (F : Fr B L g m) (hO : OwnL B g objs) (hL : ∀ p ∈ objs, NeN p.1 L) : ∃ rest, Rest B g (L :: objs.map (·.1)) rest ∧ News B L g (objs ++ rest) := by
  refine ⟨restOf B g (L :: objs.map (·.1)), restOf_rest .., fun p hp => ?_⟩
  rcases List.mem_append.mp hp with hp | hp
  · exact ⟨(hO p hp).1, hL p hp, (hO p hp).2⟩
  · obtain ⟨h1, h2⟩ := mem_restOf.mp hp
    exact ⟨h2.1, fun e => h1 (e ▸ .head _), h2.2⟩
theorem Fr.liveL {B h : Heap} {L : Addr} {m : Str → Option Value} (F : Fr B L h m) : (h.get? L).isSome = true := by
  refine hide fun P9 hP9 => ?_
  obtain ⟨⟨o, _, _, q, _⟩, _, _⟩ := F
  refine hP9 ?_; clear hP9 P9
  rw [q]; rfl
section
variable {prog : Program} {w : World} {A : Around} {s : Shared} {env : Env}
/-- a while at its head -/
def WhileGo (M : Model) (A : Around) (env : Env) (test : Expr) (body : List Stmt) (Q : Flow → Shared → Prop) (s : Shared) : Prop :=
  codeAny M A (.whileLoop test body [] env) (fun r s' => match r with | .ok f => Q f s' | .error _ => False) s
theorem while_go {M : Model} {test : Expr} {body : List Stmt} {pos : Pos} {Q : Flow → Shared → Prop} {E : Value → Shared → Prop} (h : WhileGo M A env test body Q s) : wpAny M A (exec (.While test body [] pos) env) Q E s :=
  wpAny_While (codeAny_mono h fun r s' x => by cases r with
    | ok f => exact x
    | error e => exact x.elim)
/-- a while's turn has come to its end -/
def WStep (I : Nat → Shared → Prop) (n : Nat) (Q : Flow → Shared → Prop) (f : Flow) (s : Shared) : Prop := match f with
  | .next | .cont => ∃ m, m < n ∧ I m s
  | .brk => Q .next s
  | .ret v => Q (.ret v) s
theorem whileGo_inv {test : Expr} {body : List Stmt} {Q : Flow → Shared → Prop} (I : Nat → Shared → Prop)
    (turn : ∀ n s, I n s → wpAny (model prog w) A (isTrue test env (eval test env)) (fun b s₂ => if b = true then wpAny (model prog w) A (execs body env) (fun f s₃ => WStep I n Q f s₃) (fun _ _ => False) s₂ else Q .next s₂) (fun _ _ => False) s)
    (n : Nat) (h : I n s) : WhileGo (model prog w) A env test body Q s := by
  refine codeAny_whileLoop I (fun n s hI => wpAny_mono (turn n s hI) (fun b s₂ hb => ?_) fun _ _ x => x.elim) n h
  split at hb
  · rename_i e
    subst e
    simp only [if_true]
    refine wpAny_mono hb (fun f s₃ x => ?_) fun _ _ x => x.elim
    cases f <;> exact x
  · rename_i e
    simp only [Bool.not_eq_true] at e
    subst e
    simp only [Bool.false_eq_true, if_false]
    exact wpAny_execs_nil hb
/-- a for over the value x, at its head -/
def ForGo (M : Model) (A : Around) (env : Env) (target : Expr) (body : List Stmt) (Q : Flow → Shared → Prop) (x : Value) (s : Shared) : Prop :=
  wpAny M A (pyIter x) (fun it s₂ => codeAny M A (.forLoop target it body [] env) (fun r s' => match r with | .ok f => Q f s' | .error _ => False) s₂) (fun _ _ => False) s
theorem for_go {M : Model} {target iter : Expr} {body : List Stmt} {pos : Pos} {Q : Flow → Shared → Prop} {E : Value → Shared → Prop} (h : wpAny M A (eval iter env) (fun x s₁ => ForGo M A env target body Q x s₁) (fun _ _ => False) s)
    (hs : ∀ x, foldedSetIterable iter env x = pure x := by intro _; rfl) : wpAny M A (exec (.For target iter body [] pos) env) Q E s :=
  wpAny_For (wpAny_mono h (fun x s₁ h₁ => wpAny_mono h₁ (fun it s₂ h₂ => codeAny_mono h₂ fun r s' x => by cases r with
    | ok f => exact x
    | error e => exact x.elim) fun _ _ x => x.elim) fun _ _ x => x.elim) hs
/-- one turn of a for over a list has come to its end -/
inductive FStep (B : Heap) (L : Addr) (m : Str → Option Value) (S : Addr → Prop) (P : Heap → Prop) (h : Heap) (s : Shared) (f : Flow) (s' : Shared) : Prop
  | mk (p0 : f = .next) (h' tk' : _) (p1 : s' = { s with heap := h', toks := tk' }) (p2 : Fr B L h' m) (p3 : Upto S h h') (p4 : P h')
theorem bind_any {x : Str} {v : Value} {u : Option Value} {m : Str → Option Value} : (fun y => if y = x then some v else if y = x then (if u.isSome then u else m y) else m y) = fun y => if y = x then some v else m y := by
  funext y; by_cases hy : y = x <;> simp [hy]
inductive FlI (B : Heap) (L : Addr) (x : Str) (m : Str → Option Value) (S : Addr → Prop) (P : Nat → Heap → Prop) (s : Shared) (I l : Addr) (items : Array Value) (n k : Nat) (s' : Shared) : Prop
  | mk (i h tk : _) (u : Option Value) (p0 : s' = { s with heap := h, toks := tk }) (p1 : Fr B L h (fun y => if y = x then (if u.isSome then u else m y) else m y)) (p2 : Upto (orL S L) s.heap h) (p3 : P i h) (p4 : (h.IsListIter I l i ∧ h.IsList l items)) (p5 : Own B h l (listOf items n)) (p6 : i ≤ items.size) (p7 : k = items.size + 1 - i)
theorem forGo_list {B : Heap} {l : Addr} {m : Str → Option Value} {items : Array Value} {n : Nat} {x : Str} {pos : Pos} {body : List Stmt} {Q : Flow → Shared → Prop} (S : Addr → Prop) (P : Nat → Heap → Prop)
    (hh : A.handled = none) (F : Fr B env.locals s.heap m) (hl : Own B s.heap l (listOf items n)) (hlL : l ≠ env.locals) (hSl : ¬ S l) (hSL : ¬ S env.locals) (hSI : ∀ a, S a → (s.heap.get? a).isSome)
    (h0 : P 0 s.heap) (hst : ∀ i h h', (∀ a o, NeN a env.locals → (s.heap.get? a).isSome → h.get? a = some o → h'.get? a = some o) → P i h → P i h')
    (turn : ∀ i v h tk, items[i]? = some v → Fr B env.locals h (fun y => if y = x then some v else m y) → Upto (orL S env.locals) s.heap h → Own B h l (listOf items n) → P i h →
      wpAny (model prog w) A (execs body env) (FStep B env.locals (fun y => if y = x then some v else m y) S (P (i + 1)) h s) (fun _ _ => False) { s with heap := h, toks := tk })
    (done : ∀ h tk (u : Option Value), Fr B env.locals h (fun y => if y = x then (if u.isSome then u else m y) else m y) → Upto (orL S env.locals) s.heap h → P items.size h → Q .next { s with heap := h, toks := tk })
    (hx : env.kindOf x = some .local) (hp : (env.scope.kind == .class || (env.scope.kind == .module && env.locals != env.globals)) = false) :
    ForGo (model prog w) A env (.Name x pos) body Q (.ref l) s := by
  have hls : s.heap.IsList l items := ⟨_, hl.1, rfl, n, rfl⟩
  refine wpAny_pyIter_list hls ?_
  have hIn : s.heap.get? s.heap.objs.size = none := none_of_le (Nat.le_refl _)
  have hne : l ≠ s.heap.objs.size := Nat.ne_of_lt (Heap.lt_size hl.1)
  have hIL : env.locals ≠ s.heap.objs.size := Nat.ne_of_lt F.ns.lt
  have hBI : B.get? s.heap.objs.size = none := by
    cases hq : B.get? s.heap.objs.size with
    | none => rfl
    | some o => rw [F.keep _ _ hq] at hIn; cases hIn
  have hBL : B.get? env.locals = none := none_of_le F.above
  have W := Walks.list (prog := prog) (w := w) hh s.heap.objs.size l hne items
  have hSi : ¬ S s.heap.objs.size := fun q => by have := hSI _ q; rw [hIn] at this; cases this
  have step1 : ∀ {h h' : Heap}, (∀ b o, b ∉ [s.heap.objs.size] → h.get? b = some o → h'.get? b = some o) → (h'.get? s.heap.objs.size).isSome → Upto (is1 s.heap.objs.size) h h' := fun {h h'} k q =>
    ⟨fun a o hn e => k a o (fun hm => hn (List.mem_singleton.mp hm)) e, fun a e => by
      by_cases hq : a = s.heap.objs.size
      · subst hq; exact q
      · obtain ⟨o, ho⟩ := Option.isSome_iff_exists.mp e
        rw [k a o (fun hm => hq (List.mem_singleton.mp hm)) ho]; rfl⟩
  have upI : ∀ {h h' : Heap}, Upto (orL S env.locals) s.heap h → Upto (is1 s.heap.objs.size) h h' → Upto (orL S env.locals) s.heap h' := fun a b => a.trans b (fun _ x => x) (fun a e f => by cases e; rw [hIn] at f; cases f)
  have upL : ∀ {h h' : Heap}, Upto (orL S env.locals) s.heap h → Upto (is1 env.locals) h h' → Upto (orL S env.locals) s.heap h' := fun a b => a.trans b (fun _ x => x) (fun a e _ => .inr e)
  refine codeAny_forLoop (FlI B env.locals x m S P s s.heap.objs.size l items n) ?_ (items.size + 1) ?_
  · rintro k s' ⟨i, h, tk, u, rfl, F', U', hP, hst', hO, hi, rfl⟩
    by_cases hlt : i < items.size
    · refine W.item i _ _ _ hlt hst' fun v h₁ tk₁ hv hst₁ hk₁ => ?_
      have U₁ := step1 hk₁ (by obtain ⟨o, ho, _⟩ := hst₁.1; rw [ho]; rfl)
      have F₁ : Fr B env.locals h₁ _ := U₁.fr F' hIL (base1 hBI)
      refine wpAny_assign_Name (wpAny_storeName_local hx F₁.ns (fun h₂ hn₂ hs₂ => ?_) hp)
      have U₂ : Upto (is1 env.locals) h₁ h₂ := ⟨fun a o hn e => (hs₂.2 a hn).trans e, fun a e => by
        by_cases hq : a = env.locals
        · refine hide fun P9 hP9 => ?_
          obtain ⟨o, _, _, ho, _⟩ := hn₂
          refine hP9 ?_; clear hP9 P9
          rw [hq, ho]; rfl
        · rw [hs₂.2 a hq]; exact e⟩
      have F₂ : Fr B env.locals h₂ (fun y => if y = x then some v else m y) := by
        have := F₁.set hn₂ hs₂
        rw [bind_any] at this; exact this
      have hP₁ : P i h₁ := hst i h h₁ (fun a o _ q e => U₁.same a o (fun r => by cases r; rw [hIn] at q; cases q) e) hP
      have hP₂ : P i h₂ := hst i h₁ h₂ (fun a o r _ e => U₂.same a o r e) hP₁
      have hO₂ : Own B h₂ l (listOf items n) := U₂.own (U₁.own hO hne) hlL
      refine wpAny_mono (turn i v h₂ _ hv F₂ (upL (upI U' U₁) U₂) hO₂ hP₂) (fun f s₃ q => ?_) fun _ _ e => e.elim
      refine hide fun P9 hP9 => ?_
      obtain ⟨rfl, h₃, tk₃, rfl, F₃, U₃, hP₃⟩ := q
      refine hP9 ?_; clear hP9 P9
      refine ⟨items.size + 1 - (i + 1), by omega, i + 1, h₃, tk₃, some v, rfl, ?_, (upL (upI U' U₁) U₂).trans U₃ (fun _ e => e) (fun _ e _ => .inl e), hP₃, ⟨?_, ?_⟩, U₃.own hO₂ hSl, hlt, rfl⟩
      · have e : (fun y => if y = x then (if (some v).isSome then some v else m y) else m y) = fun y => if y = x then some v else m y := by
          funext y; simp
        rw [e]; exact F₃
      · exact hst₁.1.at fun o e => U₃.same _ _ hSi (U₂.same _ _ (Ne.symm hIL) e)
      · exact ⟨_, (U₃.own hO₂ hSl).1, rfl, n, rfl⟩
    · have hin : i = items.size := by omega
      subst hin
      refine W.done _ _ _ hst' fun h₁ tk₁ hk₁ => wpAny_execs_nil ?_
      have hI : ∀ a, (s.heap.get? a).isSome → a ∉ [s.heap.objs.size] := fun a q r => by rw [List.mem_singleton.mp r, hIn] at q; cases q
      refine done h₁ tk₁ u ?_ ⟨fun a o hn e => hk₁ a o (hI a (by rw [e]; rfl)) (U'.same a o hn e), fun a e => ?_⟩ (hst _ h h₁ (fun a o _ q e => hk₁ a o (hI a q) e) hP)
      · refine hide fun P9 hP9 => ?_
        obtain ⟨⟨o, es, ep, q1, q2⟩, q3, q4⟩ := F'
        refine hP9 ?_; clear hP9 P9
        exact ⟨⟨o, es, ep, hk₁ _ _ (fun r => hIL (List.mem_singleton.mp r)) q1, q2⟩, fun b o e => hk₁ b o (fun r => by rw [List.mem_singleton.mp r, hBI] at e; cases e) (q3 b o e), q4⟩
      · obtain ⟨o, ho⟩ := Option.isSome_iff_exists.mp (U'.live a e)
        rw [hk₁ a o (hI a e) ho]; rfl
  · have hpush : ∀ b o, s.heap.get? b = some o → (s.heap.push { cls := .type "list_iterator", data := .fields #[.ref l, .int 0 0] }).get? b = some o := fun b o e => Heap.get?_push_of_some _ e
    refine ⟨0, _, s.toks, none, rfl, ?_, ⟨fun a o _ e => hpush a o e, fun a e => ?_⟩, hst 0 s.heap _ (fun a o _ _ e => hpush a o e) h0, ⟨⟨_, Heap.get?_push_size _ rfl, rfl, rfl⟩, ⟨_, hpush _ _ hl.1, rfl, n, rfl⟩⟩, ⟨hpush _ _ hl.1, hl.2⟩, Nat.zero_le _, rfl⟩
    · have e : (fun y => if y = x then (if (none : Option Value).isSome then none else m y) else m y) = m := by funext y; simp
      rw [e]
      exact F.push _
    · obtain ⟨o, ho⟩ := Option.isSome_iff_exists.mp e
      rw [hpush a o ho]; rfl
end
/-- the keys of a dict of ints, as ints -/
def IntKeys (kvs : List (Int × Value)) (vs : List Value) : Prop := vs.length = kvs.length ∧ ∀ (j : Nat) (v : Value), vs[j]? = some v → ∃ k x t, kvs[j]? = some (k, x) ∧ v = Value.int k t
theorem list_keysI {prog : Program} {w : World} {A : Around} {E : Value → Shared → Prop} {s : Shared} {h₀ : Heap} {L d : Addr} {m : Str → Option Value} {news : List (Addr × Obj)} {Q : Value → Shared → Prop} {o : Obj} {kvs : List (Int × Value)} (hh : A.handled = none) (F : Fr h₀ L s.heap m) (N : News h₀ L s.heap news) (hp : (d, o) ∈ news) (hd : o.IsDictOf (PySem.intKind prog w) kvs) (lo : (d == sysModules) = false) (hn : kvs.length ≤ 1000)
    (h : ∀ (D : Addr) c h' tk vs, Fr h₀ L h' m → News h₀ L h' ((D, listOf vs.toArray c) :: news) → (∀ q ∈ news, q.1 < D) → IntKeys kvs vs → Q (.ref D) { s with heap := h', toks := tk }) :
    wpAny (model prog w) A (call (.type "list") [.ref d]) Q E s := by
  obtain ⟨ep, hat⟩ := (kda_dict N hp hd).dictAt
  refine kdl_N (kdl_dict (knd := PySem.intKind prog w) (kvs := kvs) (ep := ep) lo) hh F N hat (kdl_size (by omega)) fun B c h' tk vs F' N' l1 hl hv => h B c h' tk vs F' N' l1 ⟨hl, fun j u hu => ?_⟩
  refine hide fun P9 hP9 => ?_
  obtain ⟨k, x, hx, hk⟩ := hv j u hu
  obtain ⟨t, e⟩ := Value.isInt_shape hk
  refine hP9 ?_; clear hP9 P9
  exact ⟨k, x, t, hx, e⟩
theorem conMeth {w : World} {B : Heap} {D : Nat} {f q : Addr} {self : Value} {args : List Value} {S : Addr → Prop} {h h₀ : Heap} {L : Addr} {news : List (Addr × Obj)} {Post : Value → Heap → Prop} (c : Con w B D f (self :: args) S h Post) {A : Around} {s : Shared} {Q : Value → Shared → Prop} {E : Value → Shared → Prop}
    (N : News h₀ L s.heap news) (hq : (q, methodObj (.ref f) self) ∈ news) (hs : s.heap = h) (r : Room A D) (k : ∀ v h' tk', Keep B h' → Upto S h h' → Post v h' → Q v { s with heap := h', toks := tk' }) :
    wpAny (model PySem.Challenge.rw_rh0162_01.row.prog w) A (call (.ref q) args) Q E s := call_meth N hq (c A s _ hs r k)
end
open PySem.Calls
local macro_rules | `(tactic| k_all) => `(tactic| first | assumption | exact allNe_of (by assumption) | exact allNe_of (And.right (by assumption)) | exact allNe_of (And.right (And.right (by assumption))))
local macro_rules | `(tactic| k_ne) => `(tactic| (refine neN ?_; (try dsimp only); first | (refine NeN.out ?_; assumption) | (refine NeN.out' ?_; assumption) | omega))
local macro_rules | `(tactic| ktr_rel) => `(tactic| first | exact id | (refine nos1 ?_; k_ne) | (refine nos2 ?_ ?_ <;> k_ne) | (refine nos3 ?_ ?_ ?_ <;> k_ne))
local macro_rules | `(tactic| walk_at "eval Call") => `(tactic| (k_here; (with_reducible first | show wpAny _ _ (eval (Expr.Call (Expr.Name (PySem.Str.ofString "work_of_step") _) _ _ _) _) _ _ _ | show wpAny _ _ (eval (Expr.Call (Expr.Name (PySem.Str.ofString "_law_rung") _) _ _ _) _) _ _ _ | show wpAny _ _ (eval (Expr.Call (Expr.Name (PySem.Str.ofString "_law_work_right") _) _ _ _) _) _ _ _ | show wpAny _ _ (eval (Expr.Call (Expr.Name (PySem.Str.ofString "_law_heap") _) _ _ _) _) _ _ _ | show wpAny _ _ (eval (Expr.Call (Expr.Name (PySem.Str.ofString "_law_state") _) _ _ _) _) _ _ _ | show wpAny _ _ (eval (Expr.Call (Expr.Name (PySem.Str.ofString "_law_pause_right") _) _ _ _) _) _ _ _); k_dflt (refine PyProof.Rows.Call_ ?_)))
local macro_rules | `(tactic| walk_at "setItem ref int") => `(tactic| (k_here; k_dflt (refine' kda_set (knd := PySem.intKind _ _) ?F ?N ?U ?d (intKind_is _ _ _ _) ?z ?_; (case F => k_asm); (case N => k_asm); (case U => k_updF); (case d => k_asm); (case z => assumption)); intro h' o' F' N' hd'; (try dsimp only at N')))
local macro_rules | `(tactic| walk_at "eval Name") => `(tactic| (k_here; kc_free; k_dflt (refine' nameX_F ?N ?c ?m ?d ?_ ?a ?b; (case a => rfl); (case b => rfl); (case N => k_asm); (case c => rfl); (case m => k_mem); (case d => k_asm); k_whole)))
local macro_rules | `(tactic| walk_at "getMethod ref") => `(tactic| (k_here; (with_reducible first | show wpAny _ _ (getMethod (Value.ref _) (PySem.Str.ofString "sort_of") _) _ _ _ | show wpAny _ _ (getMethod (Value.ref _) (PySem.Str.ofString "children") _) _ _ _); k_dflt (refine' kmu_own ?k1 ?k2 ?k3 ?k4 ?k5 ?_; (case k1 => k_asm); (case k2 => k_asm); (case k3 => k_inst); (case k4 => k_is); (case k5 => k_is); k_whole)))
local macro_rules | `(tactic| walk_at "call builtin:max") => `(tactic| (k_here; (with_reducible show wpAny _ _ (call (Value.builtin _) [Value.int _ _, Value.int _ _]) _ _ _); (rename News _ _ _ _ => N'); (with_unfolding_all apply max_two_N); (case hh => with_unfolding_all assumption); (case N => exact N'); (case F => assumption); clear N'; intro _ _ _ _))
local macro_rules | `(tactic| walk_at "exec While BoolOp cons nil") => `(tactic| (k_here; with_unfolding_all refine while_go ?_))
local macro_rules | `(tactic| walk_at "exec While Name cons nil") => `(tactic| (k_here; with_unfolding_all refine while_go ?_))
local macro_rules | `(tactic| walk_at "exec While Compare cons nil") => `(tactic| (k_here; with_unfolding_all refine while_go ?_))
local macro_rules | `(tactic| walk_at "call type:list") => `(tactic| (k_here; (with_reducible show wpAny _ _ (call (Value.type "list") [Value.ref _]) _ _ _); k_dflt (refine' list_keysI ?hh ?F ?N ?p ?d ?lo ?n ?_; (case hh => exact rfl); (case F => k_asm); (case N => k_asm); (case p => k_mem); (case d => k_asm); (case lo => k_asm); (case n => k_asm); k_whole); intro D' c' h' tk' vs' F' N' l1 ik'; (try k_lt l1); (try k_sweep)))
local macro_rules | `(tactic| walk_at "getMethod ref") => `(tactic| (k_here; (with_reducible show wpAny _ _ (getMethod (Value.ref _) (PySem.Str.ofString "get") _) _ _ _); k_dflt (refine' kdg_method (knd := PySem.intKind _ _) ?N ?p ?d ?_; (case N => k_asm); (case p => k_mem); (case d => k_asm); k_whole)))
local macro_rules | `(tactic| walk_at "call builtin:dict.get") => `(tactic| (k_here; k_dflt (refine' kdg_get1 (knd := PySem.intKind _ _) ?N ?p ?d ?lo (intKind_is _ _ _ _) (some _) ?hl ?_; (case N => k_asm); (case p => k_mem); (case d => k_asm); (case lo => k_asm); (case hl => assumption); k_whole); (try dsimp only [Option.getD])))
local macro_rules | `(tactic| walk_at "call builtin:len") => `(tactic| (k_here; (with_reducible show wpAny _ _ (call (Value.builtin "len") [Value.ref _]) _ _ _); (refine KM.len_K (by k_asm) (by k_dflt k_mem) (by with_reducible assumption) (by omega) ?_)))
local macro_rules | `(tactic| walk_at "exec For Name Call cons nil") => `(tactic| (k_here; with_unfolding_all refine for_go ?_))
local macro_rules | `(tactic| walk_at "exec For Name Name cons nil") => `(tactic| (k_here; with_unfolding_all refine for_go ?_))
local macro_rules | `(tactic| walk_at "call builtin:list.pop") => `(tactic| (k_here; k_dflt ((with_reducible show wpAny _ _ (call (Value.builtin _) [Value.ref _]) _ _ _); refine' kl_pop ?F ?N ?e ?U ?z ?_; (case F => k_asm); (case N => k_asm); (case U => k_upd); (case e => assumption); (case z => assumption)); kl_rest))
section
set_option maxRecDepth 100000
open PySem PySem.W PySem.Calls PyProof.Rows
theorem reset_L1 : True := by
  w_top off
  trivial
/-- the text's own part and its top stand in the base -/
structure Wd (w : World) (B : Heap) : Prop where
  X : (Mine.hd.heap_39 w.params).In B
  T : ∃ p loose mean mg mb, Top p loose mean mg mb B
  C : CodeHd B 382 380
/-- into a def of the text: what a contract's proof begins with -/
theorem Con.start {w : World} {B h : Heap} {D : Nat} {f : Addr} {args : List Value} {S : Addr → Prop} {Post : Value → Heap → Prop}
    {name qual : Str} {params : Arguments} {body : List Stmt} {scope : Scope} {dV kV doc pm cdv ct oc : Value} {an od : Option Addr} {osl : Array (Option Value)} {objs : List (Addr × Obj)} {as : List Addr}
    (binds : List (Str × Value)) (W : Wd w B) (hB : Keep B h) (hO : OwnL B h objs) (has : objs.map (·.1) = as)
    (ho : (Mine.hd.heap_39 w.params).lookup f = some ⟨oc, od, .func (fnOf name qual params body scope dV kV doc pm an cdv ct), osl⟩) (hcd : codeIn (Mine.hd.heap_39 w.params) cdv qual = true)
    (hbind : ∀ s, BindsTo s (fnOf name qual params body scope dV kV doc pm an cdv ct) ⟨args, []⟩ binds) (hloc : ∀ y ∈ binds, scope.names.lookup y.1 = some .local)
    (hco : scope.isCoroutine = false) (hgen : scope.isGenerator = false) (hk : scope.kind = .function) (hcell : ∀ x ∈ scope.names, x.2 ≠ .cell)
    (k : ∀ p loose mean mg mb dp fr gd un (s : Shared) (RR : Value → Shared → Prop) h₁ L rest tk (Q' : Flow → Shared → Prop), (Mine.hd.heap_39 w.params).In B → Top p loose mean mg mb B → CodeHd B 382 380 → Room ⟨none, dp, fr, gd, un⟩ D →
      (∀ v h' tk', Keep B h' → Upto S h h' → Post v h' → RR v { s with heap := h', toks := tk' }) →
      h.objs.size ≤ L → Fr B L h₁ (fun y => binds.reverse.lookup y) → News B L h₁ (objs ++ rest) → Rest B h as rest → (∀ v s', RR v s' → Q' (.ret v) s') → (∀ s', RR .none s' → Q' .next s') →
      wpAny (model PySem.Challenge.rw_rh0162_01.row.prog w) (Around.deeper ⟨none, dp, fr, gd, un⟩ (envOf qual scope L f cdv)) (execs body (envOf qual scope L f cdv)) Q' (fun _ _ => False) { s with heap := h₁, toks := tk }) :
    Con w B D f args S h Post := by
  intro A s R hs r post
  subst hs
  refine hide fun P9 hP9 => ?_
  obtain ⟨hd9, dp, fr, gd, un⟩ := A
  refine hP9 ?_; clear hP9 P9
  cases (show hd9 = none from r.handled)
  refine hide fun P9 hP9 => ?_
  obtain ⟨p, loose, mean, mg, mb, T⟩ := W.T
  refine hP9 ?_; clear hP9 P9
  refine enter binds W.X T hB hO has ho hcd (by have := r.depth; omega) (hbind _) hloc hco hgen hk hcell fun h₁ L rest tk Q' hL F N hR hQ => ?_
  exact k p loose mean mg mb dp fr gd un s (fun v s' => R (.ok (.ret v)) s') h₁ L rest tk Q' W.X T W.C r (fun v h' tk' a b c => post v h' tk' a b c) hL F N hR (fun v s' x => hQ (.ret v) s' x) (fun s' x => hQ .next s' x)
/-- the tokens of a cycle's ints -/
structure CycT where
  (phase total est debt ssz smax thr pause mul cyc : Tok)
structure CycI where
  (phase total est debt thr pause mul cyc : Int)
structure CycA where
  (od ma rl ts : Addr)
abbrev Ky := Nat → Int × Tok
def cycEs (k : Ky) (t : CycT) (a : CycA) (v : CycI) : List DictEntry := [
  ⟨(k 0).1, .str "objects" (k 0).2, .ref a.od⟩, ⟨(k 1).1, .str "marks" (k 1).2, .ref a.ma⟩, ⟨(k 2).1, .str "root_list" (k 2).2, .ref a.rl⟩,
  ⟨(k 3).1, .str "phase" (k 3).2, .int v.phase t.phase⟩, ⟨(k 4).1, .str "to_sweep" (k 4).2, .ref a.ts⟩, ⟨(k 5).1, .str "total" (k 5).2, .int v.total t.total⟩,
  ⟨(k 6).1, .str "estimate" (k 6).2, .int v.est t.est⟩, ⟨(k 7).1, .str "debt" (k 7).2, .int v.debt t.debt⟩, ⟨(k 8).1, .str "step_size" (k 8).2, .int 64 t.ssz⟩,
  ⟨(k 9).1, .str "sweep_max" (k 9).2, .int 16 t.smax⟩, ⟨(k 10).1, .str "threshold" (k 10).2, .int v.thr t.thr⟩, ⟨(k 11).1, .str "pause" (k 11).2, .int v.pause t.pause⟩,
  ⟨(k 12).1, .str "step_mul" (k 12).2, .int v.mul t.mul⟩, ⟨(k 13).1, .str "cycles" (k 13).2, .int v.cyc t.cyc⟩]
structure MkA where
  (fch fso gl ga wk : Addr)
def mksEs (k : Ky) (a : MkA) (white : Int) (tw : Tok) : List DictEntry := [
  ⟨(k 0).1, .str "children" (k 0).2, .ref a.fch⟩, ⟨(k 1).1, .str "sort_of" (k 1).2, .ref a.fso⟩, ⟨(k 2).1, .str "white" (k 2).2, .int white tw⟩,
  ⟨(k 3).1, .str "grey" (k 3).2, .ref a.gl⟩, ⟨(k 4).1, .str "grey_again" (k 4).2, .ref a.ga⟩, ⟨(k 5).1, .str "weak" (k 5).2, .ref a.wk⟩]
def thEs (k : Ky) (num mk sz : Int) (t1 t2 t3 : Tok) : List DictEntry := [
  ⟨(k 0).1, .str "number" (k 0).2, .int num t1⟩, ⟨(k 1).1, .str "mark" (k 1).2, .int mk t2⟩, ⟨(k 2).1, .str "size" (k 2).2, .int sz t3⟩]
variable {w : World} {B h : Heap}

set_option maxHeartbeats 4000000 in
theorem stepMul_con (W : Wd w B) (hB : Keep B h) {ca cd : Addr} {k : Ky} {t : CycT} {a : CycA} {v : CycI} {new : Int} {tk2 : Tok}
    (h1 : Own B h ca (instObj 346 cd)) (h2 : Own B h cd (dictOf (cycEs k t a v) 14)) (hne : NeN ca cd) :
    Con w B 1 336 [.ref ca, .int new tk2] (is1 cd) h (fun r h' => (∃ t, r = .int v.mul t) ∧ ∃ t', Own B h' cd (dictOf (cycEs k t' a { v with mul := new }) 14)) := by
  have W0 := W; (first | (have X9 : ∀ w9 : World, (Mine.hd.heap_39 w9.params).In default → PySem.Challenge.rw_rh0162_01 = PySem.Challenge.rw_rh0162_01 := by (k_fill; fail)) | skip)
  k_dflt (refine' Con.start [("self", .ref ca), ("step_mul", .int new tk2)] W hB (.cons h1 (.cons h2 .nil)) rfl ?ho ?hcd ?bind ?loc ?a ?b ?c ?d ?_; (case ho => k_is); (case hcd => k_is); (case bind => exact fun _ => BindsTo.of_eq rfl); (case loc => exact locs rfl); (case a => exact rfl); (case b => exact rfl); (case c => exact rfl); (case d => decide))
  intro p0 loose0 mean0 mg0 mb0 dp9 fr9 gd9 un9 s RR h₁ L rest tk Q' X T C R post hL F N hR hQ hQn; clear C
  dsimp only [List.cons_append, List.nil_append] at N
  change Rest B h [ca, cd] rest at hR
  have hr0 := hR.off ca (.head _)
  have hr1 := hR.off cd (.tail _ (.head _))
  have hh := R.handled
  k_steps
  (with_reducible rename Fr _ _ _ _ => F9); (with_reducible rename News _ _ _ _ => N9)
  refine hQ _ _ (post _ _ _ (Keep.of_fr F9) (hR.upto hB F9 N9 (by intro p hp; repeat (first | exact hp | apply List.Mem.tail)) ?_) ?_)
  · refine allC (?_) (allC (?_) (List.forall_mem_nil _))
    · first | exact Or.inr ((newsOwn N9 (a := ca) (by k_mem)).1.trans h1.1.symm) | exact Or.inl ⟨by first | exact rfl | exact Or.inl rfl | exact Or.inr rfl | exact Or.inr (Or.inl rfl) | exact Or.inr (Or.inr rfl) | exact Or.inr (Or.inr (Or.inr ⟨_, .head _, rfl⟩)) | exact Or.inr (Or.inr (Or.inl (by first | exact Mut.m0 _ | exact Mut.m1 _ | exact Mut.m2 _ | exact Mut.m3 _))), newsLive N9 (by k_mem)⟩
    · first | exact Or.inr ((newsOwn N9 (a := cd) (by k_mem)).1.trans h2.1.symm) | exact Or.inl ⟨by first | exact rfl | exact Or.inl rfl | exact Or.inr rfl | exact Or.inr (Or.inl rfl) | exact Or.inr (Or.inr rfl) | exact Or.inr (Or.inr (Or.inr ⟨_, .head _, rfl⟩)) | exact Or.inr (Or.inr (Or.inl (by first | exact Mut.m0 _ | exact Mut.m1 _ | exact Mut.m2 _ | exact Mut.m3 _))), newsLive N9 (by k_mem)⟩
  · exact ⟨⟨_, rfl⟩, { t with mul := tk2 }, newsOwn N9 (by k_mem)⟩

set_option maxHeartbeats 4000000 in
theorem pause_con (W : Wd w B) (hB : Keep B h) {ca cd : Addr} {k : Ky} {t : CycT} {a : CycA} {v : CycI} {new : Int} {tk2 : Tok}
    (h1 : Own B h ca (instObj 346 cd)) (h2 : Own B h cd (dictOf (cycEs k t a v) 14)) (hne : NeN ca cd) :
    Con w B 1 329 [.ref ca, .int new tk2] (is1 cd) h (fun r h' => ∃ t', Own B h' cd (dictOf (cycEs k t' a { v with pause := new }) 14)) := by
  have W0 := W; (first | (have X9 : ∀ w9 : World, (Mine.hd.heap_39 w9.params).In default → PySem.Challenge.rw_rh0162_01 = PySem.Challenge.rw_rh0162_01 := by (k_fill; fail)) | skip)
  k_dflt (refine' Con.start [("self", .ref ca), ("pause", .int new tk2)] W hB (.cons h1 (.cons h2 .nil)) rfl ?ho ?hcd ?bind ?loc ?a ?b ?c ?d ?_; (case ho => k_is); (case hcd => k_is); (case bind => exact fun _ => BindsTo.of_eq rfl); (case loc => exact locs rfl); (case a => exact rfl); (case b => exact rfl); (case c => exact rfl); (case d => decide))
  intro p0 loose0 mean0 mg0 mb0 dp9 fr9 gd9 un9 s RR h₁ L rest tk Q' X T C R post hL F N hR hQ hQn; clear C
  dsimp only [List.cons_append, List.nil_append] at N
  change Rest B h [ca, cd] rest at hR
  have hr0 := hR.off ca (.head _)
  have hr1 := hR.off cd (.tail _ (.head _))
  have hh := R.handled
  k_steps
  (with_reducible rename Fr _ _ _ _ => F9); (with_reducible rename News _ _ _ _ => N9)
  refine hQ _ _ (post _ _ _ (Keep.of_fr F9) (hR.upto hB F9 N9 (by intro p hp; repeat (first | exact hp | apply List.Mem.tail)) ?_) ?_)
  · refine allC (?_) (allC (?_) (List.forall_mem_nil _))
    · first | exact Or.inr ((newsOwn N9 (a := ca) (by k_mem)).1.trans h1.1.symm) | exact Or.inl ⟨by first | exact rfl | exact Or.inl rfl | exact Or.inr rfl | exact Or.inr (Or.inl rfl) | exact Or.inr (Or.inr rfl) | exact Or.inr (Or.inr (Or.inr ⟨_, .head _, rfl⟩)) | exact Or.inr (Or.inr (Or.inl (by first | exact Mut.m0 _ | exact Mut.m1 _ | exact Mut.m2 _ | exact Mut.m3 _))), newsLive N9 (by k_mem)⟩
    · first | exact Or.inr ((newsOwn N9 (a := cd) (by k_mem)).1.trans h2.1.symm) | exact Or.inl ⟨by first | exact rfl | exact Or.inl rfl | exact Or.inr rfl | exact Or.inr (Or.inl rfl) | exact Or.inr (Or.inr rfl) | exact Or.inr (Or.inr (Or.inr ⟨_, .head _, rfl⟩)) | exact Or.inr (Or.inr (Or.inl (by first | exact Mut.m0 _ | exact Mut.m1 _ | exact Mut.m2 _ | exact Mut.m3 _))), newsLive N9 (by k_mem)⟩
  · exact ⟨{ t with pause := tk2 }, newsOwn N9 (by k_mem)⟩

set_option maxHeartbeats 4000000 in
theorem isWhite_con (W : Wd w B) (hB : Keep B h) {t td : Addr} {k : Ky} {num mk sz : Int} {t1 t2 t3 : Tok}
    (h1 : Own B h t (instObj 367 td)) (h2 : Own B h td (dictOf (thEs k num mk sz t1 t2 t3) 3)) (hne : NeN t td) :
    Con w B 1 28 [.ref t] is0 h (fun r h' => r = .bool (decide (mk < 2))) := by
  have W0 := W; (first | (have X9 : ∀ w9 : World, (Mine.hd.heap_39 w9.params).In default → PySem.Challenge.rw_rh0162_01 = PySem.Challenge.rw_rh0162_01 := by (k_fill; fail)) | skip)
  k_dflt (refine' Con.start [("obj", .ref t)] W hB (.cons h1 (.cons h2 .nil)) rfl ?ho ?hcd ?bind ?loc ?a ?b ?c ?d ?_; (case ho => k_is); (case hcd => k_is); (case bind => exact fun _ => BindsTo.of_eq rfl); (case loc => exact locs rfl); (case a => exact rfl); (case b => exact rfl); (case c => exact rfl); (case d => decide))
  intro p0 loose0 mean0 mg0 mb0 dp9 fr9 gd9 un9 s RR h₁ L rest tk Q' X T C R post hL F N hR hQ hQn; clear C
  dsimp only [List.cons_append, List.nil_append] at N
  change Rest B h [t, td] rest at hR
  have hr0 := hR.off t (.head _)
  have hr1 := hR.off td (.tail _ (.head _))
  have hh := R.handled
  k_steps

  (with_reducible rename Fr _ _ _ _ => F9); (with_reducible rename News _ _ _ _ => N9)
  refine hQ _ _ (post _ _ _ (Keep.of_fr F9) (hR.upto hB F9 N9 (by intro p hp; repeat (first | exact hp | apply List.Mem.tail)) ?_) ?_)
  · refine allC (?_) (allC (?_) (List.forall_mem_nil _))
    · first | exact Or.inr ((newsOwn N9 (a := t) (by k_mem)).1.trans h1.1.symm) | exact Or.inl ⟨by first | exact rfl | exact Or.inl rfl | exact Or.inr rfl | exact Or.inr (Or.inl rfl) | exact Or.inr (Or.inr rfl) | exact Or.inr (Or.inr (Or.inr ⟨_, .head _, rfl⟩)) | exact Or.inr (Or.inr (Or.inl (by first | exact Mut.m0 _ | exact Mut.m1 _ | exact Mut.m2 _ | exact Mut.m3 _))), newsLive N9 (by k_mem)⟩
    · first | exact Or.inr ((newsOwn N9 (a := td) (by k_mem)).1.trans h2.1.symm) | exact Or.inl ⟨by first | exact rfl | exact Or.inl rfl | exact Or.inr rfl | exact Or.inr (Or.inl rfl) | exact Or.inr (Or.inr rfl) | exact Or.inr (Or.inr (Or.inr ⟨_, .head _, rfl⟩)) | exact Or.inr (Or.inr (Or.inl (by first | exact Mut.m0 _ | exact Mut.m1 _ | exact Mut.m2 _ | exact Mut.m3 _))), newsLive N9 (by k_mem)⟩
  · exact rfl

set_option maxHeartbeats 4000000 in
theorem makeWhite_con (W : Wd w B) (hB : Keep B h) {ma md t td : Addr} {k k' : Ky} {a : MkA} {white num mk sz : Int} {tw t1 t2 t3 : Tok}
    (h1 : Own B h ma (instObj 136 md)) (h2 : Own B h md (dictOf (mksEs k' a white tw) 6)) (h3 : Own B h t (instObj 367 td)) (h4 : Own B h td (dictOf (thEs k num mk sz t1 t2 t3) 3)) (hne : Nd [ma, md, t, td]) :
    Con w B 1 56 [.ref ma, .ref t] (is1 td) h (fun _ h' => ∃ t2', Own B h' td (dictOf (thEs k num white sz t1 t2' t3) 3)) := by
  obtain ⟨hne_0_1, hne_0_2, hne_0_3, hne_1_2, hne_1_3, hne_2_3⟩ := Nd.o4 hne
  have W0 := W; (first | (have X9 : ∀ w9 : World, (Mine.hd.heap_39 w9.params).In default → PySem.Challenge.rw_rh0162_01 = PySem.Challenge.rw_rh0162_01 := by (k_fill; fail)) | skip)
  k_dflt (refine' Con.start [("self", .ref ma), ("obj", .ref t)] W hB (.cons h1 (.cons h2 (.cons h3 (.cons h4 .nil)))) rfl ?ho ?hcd ?bind ?loc ?a ?b ?c ?d ?_; (case ho => k_is); (case hcd => k_is); (case bind => exact fun _ => BindsTo.of_eq rfl); (case loc => exact locs rfl); (case a => exact rfl); (case b => exact rfl); (case c => exact rfl); (case d => decide))
  intro p0 loose0 mean0 mg0 mb0 dp9 fr9 gd9 un9 s RR h₁ L rest tk Q' X T C R post hL F N hR hQ hQn; clear C
  dsimp only [List.cons_append, List.nil_append] at N
  change Rest B h [ma, md, t, td] rest at hR
  have hr0 := hR.off ma (.head _)
  have hr1 := hR.off md (.tail _ (.head _))
  have hr2 := hR.off t (.tail _ (.tail _ (.head _)))
  have hr3 := hR.off td (.tail _ (.tail _ (.tail _ (.head _))))
  have hh := R.handled
  k_steps

  (with_reducible rename Fr _ _ _ _ => F9); (with_reducible rename News _ _ _ _ => N9)
  refine hQn _ (post _ _ _ (Keep.of_fr F9) (hR.upto hB F9 N9 (by intro p hp; repeat (first | exact hp | apply List.Mem.tail)) ?_) ?_)
  · refine allC (?_) (allC (?_) (allC (?_) (allC (?_) (List.forall_mem_nil _))))
    · first | exact Or.inr ((newsOwn N9 (a := ma) (by k_mem)).1.trans h1.1.symm) | exact Or.inl ⟨by first | exact rfl | exact Or.inl rfl | exact Or.inr rfl | exact Or.inr (Or.inl rfl) | exact Or.inr (Or.inr rfl) | exact Or.inr (Or.inr (Or.inr ⟨_, .head _, rfl⟩)) | exact Or.inr (Or.inr (Or.inl (by first | exact Mut.m0 _ | exact Mut.m1 _ | exact Mut.m2 _ | exact Mut.m3 _))), newsLive N9 (by k_mem)⟩
    · first | exact Or.inr ((newsOwn N9 (a := md) (by k_mem)).1.trans h2.1.symm) | exact Or.inl ⟨by first | exact rfl | exact Or.inl rfl | exact Or.inr rfl | exact Or.inr (Or.inl rfl) | exact Or.inr (Or.inr rfl) | exact Or.inr (Or.inr (Or.inr ⟨_, .head _, rfl⟩)) | exact Or.inr (Or.inr (Or.inl (by first | exact Mut.m0 _ | exact Mut.m1 _ | exact Mut.m2 _ | exact Mut.m3 _))), newsLive N9 (by k_mem)⟩
    · first | exact Or.inr ((newsOwn N9 (a := t) (by k_mem)).1.trans h3.1.symm) | exact Or.inl ⟨by first | exact rfl | exact Or.inl rfl | exact Or.inr rfl | exact Or.inr (Or.inl rfl) | exact Or.inr (Or.inr rfl) | exact Or.inr (Or.inr (Or.inr ⟨_, .head _, rfl⟩)) | exact Or.inr (Or.inr (Or.inl (by first | exact Mut.m0 _ | exact Mut.m1 _ | exact Mut.m2 _ | exact Mut.m3 _))), newsLive N9 (by k_mem)⟩
    · first | exact Or.inr ((newsOwn N9 (a := td) (by k_mem)).1.trans h4.1.symm) | exact Or.inl ⟨by first | exact rfl | exact Or.inl rfl | exact Or.inr rfl | exact Or.inr (Or.inl rfl) | exact Or.inr (Or.inr rfl) | exact Or.inr (Or.inr (Or.inr ⟨_, .head _, rfl⟩)) | exact Or.inr (Or.inr (Or.inl (by first | exact Mut.m0 _ | exact Mut.m1 _ | exact Mut.m2 _ | exact Mut.m3 _))), newsLive N9 (by k_mem)⟩
  · exact ⟨_, newsOwn N9 (by k_mem)⟩
end
section
set_option maxRecDepth 100000
open PySem PySem.W PySem.Calls PyProof.Rows
theorem reset_L2 : True := by
  w_top off
  trivial
variable {w : World} {B h : Heap}
set_option maxHeartbeats 4000000 in
theorem isDead_con (W : Wd w B) (hB : Keep B h) {ma md t td : Addr} {k k' : Ky} {a : MkA} {white num mk sz : Int} {tw t1 t2 t3 : Tok}
    (h1 : Own B h ma (instObj 136 md)) (h2 : Own B h md (dictOf (mksEs k' a white tw) 6)) (h3 : Own B h t (instObj 367 td)) (h4 : Own B h td (dictOf (thEs k num mk sz t1 t2 t3) 3)) (hne : Nd [ma, md, t, td])
    (hm : mk = white ∨ mk = 2 ∨ mk = 3) (hw : white = 0 ∨ white = 1) :
    Con w B 2 49 [.ref ma, .ref t] is0 h (fun r _ => r = .bool false) := by
  obtain ⟨hne_0_1, hne_0_2, hne_0_3, hne_1_2, hne_1_3, hne_2_3⟩ := Nd.o4 hne
  have W0 := W; (first | (have X9 : ∀ w9 : World, (Mine.hd.heap_39 w9.params).In default → PySem.Challenge.rw_rh0162_01 = PySem.Challenge.rw_rh0162_01 := by (k_fill; fail)) | skip)
  k_dflt (refine' Con.start [("self", .ref ma), ("obj", .ref t)] W hB (.cons h1 (.cons h2 (.cons h3 (.cons h4 .nil)))) rfl ?ho ?hcd ?bind ?loc ?a ?b ?c ?d ?_; (case ho => k_is); (case hcd => k_is); (case bind => exact fun _ => BindsTo.of_eq rfl); (case loc => exact locs rfl); (case a => exact rfl); (case b => exact rfl); (case c => exact rfl); (case d => decide))
  intro p0 loose0 mean0 mg0 mb0 dp9 fr9 gd9 un9 s RR h₁ L rest tk Q' X T C R post hL F N hR hQ hQn; clear C
  dsimp only [List.cons_append, List.nil_append] at N
  change Rest B h [ma, md, t, td] rest at hR
  have hr0 := hR.off ma (.head _)
  have hr1 := hR.off md (.tail _ (.head _))
  have hr2 := hR.off t (.tail _ (.tail _ (.head _)))
  have hr3 := hR.off td (.tail _ (.tail _ (.tail _ (.head _))))
  have hh := R.handled
  k_steps
  · exfalso; omega
  (with_reducible rename Fr _ _ _ _ => F9); (with_reducible rename News _ _ _ _ => N9)
  refine Con.call (isWhite_con W0 (Keep.of_fr F9) (newsOwn N9 (by k_mem)) (newsOwn N9 (by k_mem)) (by assumption)) rfl (Room.deeper (R.le (by decide))) ?_
  intro v9 H9 tk9 K9 U9 rfl
  replace N9 := newsKeep N9 U9 (fun _ _ x => x)
  replace F9 := frStep F9 U9 (fun x => x) base0
  dsimp only
  k_steps
  · have e : mk = white := by omega
    subst e
    (with_reducible rename Fr _ _ _ _ => F9); (with_reducible rename News _ _ _ _ => N9)
    refine hQ _ _ (post _ _ _ (Keep.of_fr F9) (hR.upto hB F9 N9 (by intro p hp; repeat (first | exact hp | apply List.Mem.tail)) ?_) ?_)
    · refine allC (?_) (allC (?_) (allC (?_) (allC (?_) (List.forall_mem_nil _))))
      · first | exact Or.inr ((newsOwn N9 (a := ma) (by k_mem)).1.trans h1.1.symm) | exact Or.inl ⟨by first | exact rfl | exact Or.inl rfl | exact Or.inr rfl | exact Or.inr (Or.inl rfl) | exact Or.inr (Or.inr rfl) | exact Or.inr (Or.inr (Or.inr ⟨_, .head _, rfl⟩)) | exact Or.inr (Or.inr (Or.inl (by first | exact Mut.m0 _ | exact Mut.m1 _ | exact Mut.m2 _ | exact Mut.m3 _))), newsLive N9 (by k_mem)⟩
      · first | exact Or.inr ((newsOwn N9 (a := md) (by k_mem)).1.trans h2.1.symm) | exact Or.inl ⟨by first | exact rfl | exact Or.inl rfl | exact Or.inr rfl | exact Or.inr (Or.inl rfl) | exact Or.inr (Or.inr rfl) | exact Or.inr (Or.inr (Or.inr ⟨_, .head _, rfl⟩)) | exact Or.inr (Or.inr (Or.inl (by first | exact Mut.m0 _ | exact Mut.m1 _ | exact Mut.m2 _ | exact Mut.m3 _))), newsLive N9 (by k_mem)⟩
      · first | exact Or.inr ((newsOwn N9 (a := t) (by k_mem)).1.trans h3.1.symm) | exact Or.inl ⟨by first | exact rfl | exact Or.inl rfl | exact Or.inr rfl | exact Or.inr (Or.inl rfl) | exact Or.inr (Or.inr rfl) | exact Or.inr (Or.inr (Or.inr ⟨_, .head _, rfl⟩)) | exact Or.inr (Or.inr (Or.inl (by first | exact Mut.m0 _ | exact Mut.m1 _ | exact Mut.m2 _ | exact Mut.m3 _))), newsLive N9 (by k_mem)⟩
      · first | exact Or.inr ((newsOwn N9 (a := td) (by k_mem)).1.trans h4.1.symm) | exact Or.inl ⟨by first | exact rfl | exact Or.inl rfl | exact Or.inr rfl | exact Or.inr (Or.inl rfl) | exact Or.inr (Or.inr rfl) | exact Or.inr (Or.inr (Or.inr ⟨_, .head _, rfl⟩)) | exact Or.inr (Or.inr (Or.inl (by first | exact Mut.m0 _ | exact Mut.m1 _ | exact Mut.m2 _ | exact Mut.m3 _))), newsLive N9 (by k_mem)⟩
    · exact by simp
  · have e : decide (mk < 2) = false := by simp; omega
    (with_reducible rename Fr _ _ _ _ => F9); (with_reducible rename News _ _ _ _ => N9)
    refine hQ _ _ (post _ _ _ (Keep.of_fr F9) (hR.upto hB F9 N9 (by intro p hp; repeat (first | exact hp | apply List.Mem.tail)) ?_) ?_)
    · refine allC (?_) (allC (?_) (allC (?_) (allC (?_) (List.forall_mem_nil _))))
      · first | exact Or.inr ((newsOwn N9 (a := ma) (by k_mem)).1.trans h1.1.symm) | exact Or.inl ⟨by first | exact rfl | exact Or.inl rfl | exact Or.inr rfl | exact Or.inr (Or.inl rfl) | exact Or.inr (Or.inr rfl) | exact Or.inr (Or.inr (Or.inr ⟨_, .head _, rfl⟩)) | exact Or.inr (Or.inr (Or.inl (by first | exact Mut.m0 _ | exact Mut.m1 _ | exact Mut.m2 _ | exact Mut.m3 _))), newsLive N9 (by k_mem)⟩
      · first | exact Or.inr ((newsOwn N9 (a := md) (by k_mem)).1.trans h2.1.symm) | exact Or.inl ⟨by first | exact rfl | exact Or.inl rfl | exact Or.inr rfl | exact Or.inr (Or.inl rfl) | exact Or.inr (Or.inr rfl) | exact Or.inr (Or.inr (Or.inr ⟨_, .head _, rfl⟩)) | exact Or.inr (Or.inr (Or.inl (by first | exact Mut.m0 _ | exact Mut.m1 _ | exact Mut.m2 _ | exact Mut.m3 _))), newsLive N9 (by k_mem)⟩
      · first | exact Or.inr ((newsOwn N9 (a := t) (by k_mem)).1.trans h3.1.symm) | exact Or.inl ⟨by first | exact rfl | exact Or.inl rfl | exact Or.inr rfl | exact Or.inr (Or.inl rfl) | exact Or.inr (Or.inr rfl) | exact Or.inr (Or.inr (Or.inr ⟨_, .head _, rfl⟩)) | exact Or.inr (Or.inr (Or.inl (by first | exact Mut.m0 _ | exact Mut.m1 _ | exact Mut.m2 _ | exact Mut.m3 _))), newsLive N9 (by k_mem)⟩
      · first | exact Or.inr ((newsOwn N9 (a := td) (by k_mem)).1.trans h4.1.symm) | exact Or.inl ⟨by first | exact rfl | exact Or.inl rfl | exact Or.inr rfl | exact Or.inr (Or.inl rfl) | exact Or.inr (Or.inr rfl) | exact Or.inr (Or.inr (Or.inr ⟨_, .head _, rfl⟩)) | exact Or.inr (Or.inr (Or.inl (by first | exact Mut.m0 _ | exact Mut.m1 _ | exact Mut.m2 _ | exact Mut.m3 _))), newsLive N9 (by k_mem)⟩
    · exact by rw [e]
set_option maxHeartbeats 4000000 in
theorem flip_con (W : Wd w B) (hB : Keep B h) {ma md : Addr} {k' : Ky} {a : MkA} {white : Int} {tw : Tok}
    (h1 : Own B h ma (instObj 136 md)) (h2 : Own B h md (dictOf (mksEs k' a white tw) 6)) (hne : NeN ma md) :
    Con w B 2 112 [.ref ma] (is1 md) h (fun _ h' => ∃ tw', Own B h' md (dictOf (mksEs k' a (1 - white) tw') 6)) := by
  have W0 := W; (first | (have X9 : ∀ w9 : World, (Mine.hd.heap_39 w9.params).In default → PySem.Challenge.rw_rh0162_01 = PySem.Challenge.rw_rh0162_01 := by (k_fill; fail)) | skip)
  k_dflt (refine' Con.start [("self", .ref ma)] W hB (.cons h1 (.cons h2 .nil)) rfl ?ho ?hcd ?bind ?loc ?a ?b ?c ?d ?_; (case ho => k_is); (case hcd => k_is); (case bind => exact fun _ => BindsTo.of_eq rfl); (case loc => exact locs rfl); (case a => exact rfl); (case b => exact rfl); (case c => exact rfl); (case d => decide))
  intro p0 loose0 mean0 mg0 mb0 dp9 fr9 gd9 un9 s RR h₁ L rest tk Q' X T C R post hL F N hR hQ hQn; clear C
  dsimp only [List.cons_append, List.nil_append] at N
  change Rest B h [ma, md] rest at hR
  have hr0 := hR.off ma (.head _)
  have hr1 := hR.off md (.tail _ (.head _))
  have hh := R.handled
  k_steps
  (with_reducible rename Fr _ _ _ _ => F9); (with_reducible rename News _ _ _ _ => N9)
  refine hQn _ (post _ _ _ (Keep.of_fr F9) (hR.upto hB F9 N9 (by intro p hp; repeat (first | exact hp | apply List.Mem.tail)) ?_) ?_)
  · refine allC (?_) (allC (?_) (List.forall_mem_nil _))
    · first | exact Or.inr ((newsOwn N9 (a := ma) (by k_mem)).1.trans h1.1.symm) | exact Or.inl ⟨by first | exact rfl | exact Or.inl rfl | exact Or.inr rfl | exact Or.inr (Or.inl rfl) | exact Or.inr (Or.inr rfl) | exact Or.inr (Or.inr (Or.inr ⟨_, .head _, rfl⟩)) | exact Or.inr (Or.inr (Or.inl (by first | exact Mut.m0 _ | exact Mut.m1 _ | exact Mut.m2 _ | exact Mut.m3 _))), newsLive N9 (by k_mem)⟩
    · first | exact Or.inr ((newsOwn N9 (a := md) (by k_mem)).1.trans h2.1.symm) | exact Or.inl ⟨by first | exact rfl | exact Or.inl rfl | exact Or.inr rfl | exact Or.inr (Or.inl rfl) | exact Or.inr (Or.inr rfl) | exact Or.inr (Or.inr (Or.inr ⟨_, .head _, rfl⟩)) | exact Or.inr (Or.inr (Or.inl (by first | exact Mut.m0 _ | exact Mut.m1 _ | exact Mut.m2 _ | exact Mut.m3 _))), newsLive N9 (by k_mem)⟩
  · exact ⟨_, newsOwn N9 (by k_mem)⟩
set_option maxHeartbeats 4000000 in
theorem forget_con (W : Wd w B) (hB : Keep B h) {ma md : Addr} {k' : Ky} {a : MkA} {white : Int} {tw : Tok}
    (h1 : Own B h ma (instObj 136 md)) (h2 : Own B h md (dictOf (mksEs k' a white tw) 6)) (hne : NeN ma md) :
    Con w B 2 70 [.ref ma] (is1 md) h (fun _ h' => ∃ gl ga wk, Own B h' md (dictOf (mksEs k' { a with gl := gl, ga := ga, wk := wk } white tw) 6) ∧ Own B h' gl (listOf #[] 0) ∧ Own B h' ga (listOf #[] 0) ∧ Own B h' wk (listOf #[] 0) ∧
      h.get? gl = none ∧ h.get? ga = none ∧ h.get? wk = none ∧ Nd [gl, ga, wk]) := by
  have W0 := W; (first | (have X9 : ∀ w9 : World, (Mine.hd.heap_39 w9.params).In default → PySem.Challenge.rw_rh0162_01 = PySem.Challenge.rw_rh0162_01 := by (k_fill; fail)) | skip)
  k_dflt (refine' Con.start [("self", .ref ma)] W hB (.cons h1 (.cons h2 .nil)) rfl ?ho ?hcd ?bind ?loc ?a ?b ?c ?d ?_; (case ho => k_is); (case hcd => k_is); (case bind => exact fun _ => BindsTo.of_eq rfl); (case loc => exact locs rfl); (case a => exact rfl); (case b => exact rfl); (case c => exact rfl); (case d => decide))
  intro p0 loose0 mean0 mg0 mb0 dp9 fr9 gd9 un9 s RR h₁ L rest tk Q' X T C R post hL F N hR hQ hQn; clear C
  dsimp only [List.cons_append, List.nil_append] at N
  change Rest B h [ma, md] rest at hR
  have hr0 := hR.off ma (.head _)
  have hr1 := hR.off md (.tail _ (.head _))
  have hh := R.handled
  k_steps
  rename_i gl _ m1 _ _ ga _ m2 _ _ wk _ m3 _ F8 N8
  (with_reducible rename Fr _ _ _ _ => F9); (with_reducible rename News _ _ _ _ => N9)
  refine hQn _ (post _ _ _ (Keep.of_fr F9) (hR.upto hB F9 N9 (by intro p hp; repeat (first | exact hp | apply List.Mem.tail)) ?_) ?_)
  · refine allC (?_) (allC (?_) (List.forall_mem_nil _))
    · first | exact Or.inr ((newsOwn N9 (a := ma) (by k_mem)).1.trans h1.1.symm) | exact Or.inl ⟨by first | exact rfl | exact Or.inl rfl | exact Or.inr rfl | exact Or.inr (Or.inl rfl) | exact Or.inr (Or.inr rfl) | exact Or.inr (Or.inr (Or.inr ⟨_, .head _, rfl⟩)) | exact Or.inr (Or.inr (Or.inl (by first | exact Mut.m0 _ | exact Mut.m1 _ | exact Mut.m2 _ | exact Mut.m3 _))), newsLive N9 (by k_mem)⟩
    · first | exact Or.inr ((newsOwn N9 (a := md) (by k_mem)).1.trans h2.1.symm) | exact Or.inl ⟨by first | exact rfl | exact Or.inl rfl | exact Or.inr rfl | exact Or.inr (Or.inl rfl) | exact Or.inr (Or.inr rfl) | exact Or.inr (Or.inr (Or.inr ⟨_, .head _, rfl⟩)) | exact Or.inr (Or.inr (Or.inl (by first | exact Mut.m0 _ | exact Mut.m1 _ | exact Mut.m2 _ | exact Mut.m3 _))), newsLive N9 (by k_mem)⟩
  · exact ⟨gl, ga, wk, newsOwn N9 (by k_mem), newsOwn N9 (by k_mem), newsOwn N9 (by k_mem), newsOwn N9 (by k_mem), fresh_of hR (newsOwn N9 (a := gl) (by k_mem)).2 (allC (m1.1) (allC (m1.2.1) (List.forall_mem_nil _))) m1.2.2, fresh_of hR (newsOwn N9 (a := ga) (by k_mem)).2 (allC (m2.2.1) (allC (m2.2.2.1) (List.forall_mem_nil _))) m2.2.2.2, fresh_of hR (newsOwn N9 (a := wk) (by k_mem)).2 (allC (m3.2.2.1) (allC (m3.2.2.2.1) (List.forall_mem_nil _))) m3.2.2.2.2, Nd.m3 ⟨Nat.ne_of_lt m2.1, Nat.ne_of_lt m3.2.1, Nat.ne_of_lt m3.1⟩⟩
end
section
set_option maxRecDepth 100000
open PySem PySem.W PySem.Calls PyProof.Rows
theorem reset_L3 : True := by
  w_top off
  trivial
def chParams : Arguments := { posonlyargs := [], args := [{ arg := "obj", annotation := none, pos := ⟨295, 7, 295, 10⟩ : PySem.Arg }], vararg := none, kwonlyargs := [], kw_defaults := [], kwarg := none, defaults := [] }
def chBody : Expr := PySem.Expr.IfExp
  (test := (PySem.Expr.Compare (left := (PySem.Expr.Attribute (PySem.Expr.Name "obj" ⟨295, 26, 295, 29⟩) "number" ⟨295, 26, 295, 36⟩)) (ops := [PySem.CmpOp.Eq]) (comparators := [(PySem.Expr.Constant (PySem.Const.int 1) 0 ⟨295, 40, 295, 41⟩)]) (pos := ⟨295, 26, 295, 41⟩)))
  (body := (PySem.Expr.Subscript (value := (PySem.Expr.Name "things" ⟨295, 12, 295, 18⟩)) (slice := (PySem.Expr.Slice (lower := (some (PySem.Expr.Constant (PySem.Const.int 1) 0 ⟨295, 19, 295, 20⟩))) (upper := none) (step := none) (pos := ⟨295, 19, 295, 21⟩))) (pos := ⟨295, 12, 295, 22⟩)))
  (orelse := (PySem.Expr.List [] ⟨295, 47, 295, 49⟩)) (pos := ⟨295, 12, 295, 49⟩)
def chScope : Scope := { kind := PySem.ScopeKind.function, names := [(PySem.Str.ofString "obj", PySem.NameKind.local), (PySem.Str.ofString "things", PySem.NameKind.free)], isGenerator := false, isCoroutine := false, more := [] }
def soParams : Arguments := { posonlyargs := [], args := [{ arg := "obj", annotation := none, pos := ⟨296, 7, 296, 10⟩ : PySem.Arg }], vararg := none, kwonlyargs := [], kw_defaults := [], kwarg := none, defaults := [] }
def soBody : Expr := PySem.Expr.Name "SORT_PLAIN" ⟨296, 12, 296, 22⟩
def soScope : Scope := { kind := PySem.ScopeKind.function, names := [(PySem.Str.ofString "obj", PySem.NameKind.local), (PySem.Str.ofString "SORT_PLAIN", PySem.NameKind.globalImplicit)], isGenerator := false, isCoroutine := false, more := [] }
/-- a lambda of the call's own: its object at f, its code at cc -/
inductive LamAt (B h : Heap) (params : Arguments) (body : Expr) (scope : Scope) (cl : List (Str × Addr)) (f cc : Addr) : Prop
  | mk (nm ql pm ctv oc vs t : _) (p0 : Own B h f (kla_obj nm ql params body scope cl pm cc ctv)) (p1 : Own B h cc oc) (p2 : oc.data = .fields vs) (p3 : vs[1]? = some (.str ql t))
theorem LamAt.upto {S : Addr → Prop} {B h h' : Heap} {params : Arguments} {body : Expr} {scope : Scope} {cl : List (Str × Addr)} {f cc : Addr} (x : LamAt B h params body scope cl f cc) (U : Upto S h h') (h1 : ¬ S f) (h2 : ¬ S cc) : LamAt B h' params body scope cl f cc := by
  refine hide fun P9 hP9 => ?_
  obtain ⟨nm, ql, pm, ctv, oc, vs, t, a, b, c, d⟩ := x
  refine hP9 ?_; clear hP9 P9
  exact ⟨nm, ql, pm, ctv, oc, vs, t, U.own a h1, U.own b h2, c, d⟩
variable {w : World} {B h : Heap}
set_option maxHeartbeats 1000000 in
theorem sort_con (W : Wd w B) (hB : Keep B h) {f cc : Addr} {v : Value} (h1 : LamAt B h soParams soBody soScope [] f cc) :
    Con w B 2 f [v] is0 h (fun r _ => ∃ t, r = .int 0 t) := by
  refine hide fun P9 hP9 => ?_
  obtain ⟨nm, ql, pm, ctv, oc, vs, tq, h1, h2, hd, hv⟩ := h1
  refine hP9 ?_; clear hP9 P9
  have W0 := W; obtain ⟨X, ⟨p0, loose0, mean0, mg0, mb0, T⟩, C⟩ := W; clear C
  revert X; unfold Con; k_fill; intro X A s R0 hs R post; subst hs; obtain ⟨hd9, dp9, fr9, gd9, un9⟩ := A; cases (show hd9 = none from R.handled)
  k_dflt (refine' enterLam [("obj", v)] T hB (.cons h1 (.cons h2 .nil)) rfl h1.1 ⟨_, _, _, _, rfl, h2.1, hd, hv⟩ ?room ?bind ?loc ?a ?b ?c ?d ?_; (case room => exact (by have := R.depth; omega)); (case bind => exact rfl); (case loc => exact locs rfl); (case a => exact rfl); (case b => exact rfl); (case c => exact rfl); (case d => decide))
  intro h₁ L rest tk Q' hL F N hR hQ
  dsimp only [List.cons_append, List.nil_append] at N
  change Rest B s.heap [f, cc] rest at hR
  have hr0 := hR.off f (.head _)
  have hr1 := hR.off cc (.tail _ (.head _))
  have hh := R.handled
  unfold soBody
  k_steps
  (with_reducible rename Fr _ _ _ _ => F9); (with_reducible rename News _ _ _ _ => N9)
  refine hQ _ _ (post _ _ _ (Keep.of_fr F9) (hR.upto hB F9 N9 (by intro p hp; repeat (first | exact hp | apply List.Mem.tail)) ?_) ?_)
  · refine allC (?_) (allC (?_) (List.forall_mem_nil _))
    · first | exact Or.inr ((newsOwn N9 (a := f) (by k_mem)).1.trans h1.1.symm) | exact Or.inl ⟨by first | exact rfl | exact Or.inl rfl | exact Or.inr rfl | exact Or.inr (Or.inl rfl) | exact Or.inr (Or.inr rfl) | exact Or.inr (Or.inr (Or.inr ⟨_, .head _, rfl⟩)) | exact Or.inr (Or.inr (Or.inl (by first | exact Mut.m0 _ | exact Mut.m1 _ | exact Mut.m2 _ | exact Mut.m3 _))), newsLive N9 (by k_mem)⟩
    · first | exact Or.inr ((newsOwn N9 (a := cc) (by k_mem)).1.trans h2.1.symm) | exact Or.inl ⟨by first | exact rfl | exact Or.inl rfl | exact Or.inr rfl | exact Or.inr (Or.inl rfl) | exact Or.inr (Or.inr rfl) | exact Or.inr (Or.inr (Or.inr ⟨_, .head _, rfl⟩)) | exact Or.inr (Or.inr (Or.inl (by first | exact Mut.m0 _ | exact Mut.m1 _ | exact Mut.m2 _ | exact Mut.m3 _))), newsLive N9 (by k_mem)⟩
  · exact ⟨_, rfl⟩
set_option maxHeartbeats 1000000 in
theorem children_con (W : Wd w B) (hB : Keep B h) {f cc cell tl t td : Addr} {co : Obj} {k : Ky} {num mk sz : Int} {t1 t2 t3 : Tok} {its : Array Value} {n : Nat}
    (h1 : LamAt B h chParams chBody chScope [("things", cell)] f cc) (h3 : Own B h cell co) (hc : co.data = .cell (some (.ref tl))) (h4 : Own B h tl (listOf its n))
    (h5 : Own B h t (instObj 367 td)) (h6 : Own B h td (dictOf (thEs k num mk sz t1 t2 t3) 3)) (hn : its.size ≤ 100) :
    Con w B 2 f [.ref t] is0 h (fun r h' => ∃ x, r = .ref x ∧ (num = 1 → Own B h' x (listOf (slicePick its (some 1) none none) 0)) ∧ (num ≠ 1 → Own B h' x (listOf #[] 0)) ∧ h.get? x = none) := by
  refine hide fun P9 hP9 => ?_
  obtain ⟨nm, ql, pm, ctv, oc, vs, tq, h1, h2, hd, hv⟩ := h1
  refine hP9 ?_; clear hP9 P9
  have W0 := W; obtain ⟨X, ⟨p0, loose0, mean0, mg0, mb0, T⟩, C⟩ := W; clear C
  revert X; unfold Con; k_fill; intro X A s R0 hs R post; subst hs; obtain ⟨hd9, dp9, fr9, gd9, un9⟩ := A; cases (show hd9 = none from R.handled)
  k_dflt (refine' enterLam [("obj", .ref t)] T hB (.cons h1 (.cons h2 (.cons h3 (.cons h4 (.cons h5 (.cons h6 .nil)))))) rfl h1.1 ⟨_, _, _, _, rfl, h2.1, hd, hv⟩ ?room ?bind ?loc ?a ?b ?c ?d ?_; (case room => exact (by have := R.depth; omega)); (case bind => exact rfl); (case loc => exact locs rfl); (case a => exact rfl); (case b => exact rfl); (case c => exact rfl); (case d => decide))
  intro h₁ L rest tk Q' hL F N hR hQ
  dsimp only [List.cons_append, List.nil_append] at N
  change Rest B s.heap [f, cc, cell, tl, t, td] rest at hR
  have hr0 := hR.off f (.head _)
  have hr1 := hR.off cc (.tail _ (.head _))
  have hr2 := hR.off cell (.tail _ (.tail _ (.head _)))
  have hr3 := hR.off tl (.tail _ (.tail _ (.tail _ (.head _))))
  have hr4 := hR.off t (.tail _ (.tail _ (.tail _ (.tail _ (.head _)))))
  have hr5 := hR.off td (.tail _ (.tail _ (.tail _ (.tail _ (.tail _ (.head _))))))
  have hh := R.handled
  unfold chBody chScope
  k_steps
  all_goals (try dsimp only at *)
  · rename_i e1 _ _ _
    have hlt : L < h₁.objs.size := F.ns.lt
    (with_reducible rename Fr _ _ _ _ => F9); (with_reducible rename News _ _ _ _ => N9)
    refine hQ _ _ (post _ _ _ (Keep.of_fr F9) (hR.upto hB F9 N9 (by intro p hp; repeat (first | exact hp | apply List.Mem.tail)) ?_) ?_)
    · refine allC (?_) (allC (?_) (allC (?_) (allC (?_) (allC (?_) (allC (?_) (List.forall_mem_nil _))))))
      · first | exact Or.inr ((newsOwn N9 (a := f) (by k_mem)).1.trans h1.1.symm) | exact Or.inl ⟨by first | exact rfl | exact Or.inl rfl | exact Or.inr rfl | exact Or.inr (Or.inl rfl) | exact Or.inr (Or.inr rfl) | exact Or.inr (Or.inr (Or.inr ⟨_, .head _, rfl⟩)) | exact Or.inr (Or.inr (Or.inl (by first | exact Mut.m0 _ | exact Mut.m1 _ | exact Mut.m2 _ | exact Mut.m3 _))), newsLive N9 (by k_mem)⟩
      · first | exact Or.inr ((newsOwn N9 (a := cc) (by k_mem)).1.trans h2.1.symm) | exact Or.inl ⟨by first | exact rfl | exact Or.inl rfl | exact Or.inr rfl | exact Or.inr (Or.inl rfl) | exact Or.inr (Or.inr rfl) | exact Or.inr (Or.inr (Or.inr ⟨_, .head _, rfl⟩)) | exact Or.inr (Or.inr (Or.inl (by first | exact Mut.m0 _ | exact Mut.m1 _ | exact Mut.m2 _ | exact Mut.m3 _))), newsLive N9 (by k_mem)⟩
      · first | exact Or.inr ((newsOwn N9 (a := cell) (by k_mem)).1.trans h3.1.symm) | exact Or.inl ⟨by first | exact rfl | exact Or.inl rfl | exact Or.inr rfl | exact Or.inr (Or.inl rfl) | exact Or.inr (Or.inr rfl) | exact Or.inr (Or.inr (Or.inr ⟨_, .head _, rfl⟩)) | exact Or.inr (Or.inr (Or.inl (by first | exact Mut.m0 _ | exact Mut.m1 _ | exact Mut.m2 _ | exact Mut.m3 _))), newsLive N9 (by k_mem)⟩
      · first | exact Or.inr ((newsOwn N9 (a := tl) (by k_mem)).1.trans h4.1.symm) | exact Or.inl ⟨by first | exact rfl | exact Or.inl rfl | exact Or.inr rfl | exact Or.inr (Or.inl rfl) | exact Or.inr (Or.inr rfl) | exact Or.inr (Or.inr (Or.inr ⟨_, .head _, rfl⟩)) | exact Or.inr (Or.inr (Or.inl (by first | exact Mut.m0 _ | exact Mut.m1 _ | exact Mut.m2 _ | exact Mut.m3 _))), newsLive N9 (by k_mem)⟩
      · first | exact Or.inr ((newsOwn N9 (a := t) (by k_mem)).1.trans h5.1.symm) | exact Or.inl ⟨by first | exact rfl | exact Or.inl rfl | exact Or.inr rfl | exact Or.inr (Or.inl rfl) | exact Or.inr (Or.inr rfl) | exact Or.inr (Or.inr (Or.inr ⟨_, .head _, rfl⟩)) | exact Or.inr (Or.inr (Or.inl (by first | exact Mut.m0 _ | exact Mut.m1 _ | exact Mut.m2 _ | exact Mut.m3 _))), newsLive N9 (by k_mem)⟩
      · first | exact Or.inr ((newsOwn N9 (a := td) (by k_mem)).1.trans h6.1.symm) | exact Or.inl ⟨by first | exact rfl | exact Or.inl rfl | exact Or.inr rfl | exact Or.inr (Or.inl rfl) | exact Or.inr (Or.inr rfl) | exact Or.inr (Or.inr (Or.inr ⟨_, .head _, rfl⟩)) | exact Or.inr (Or.inr (Or.inl (by first | exact Mut.m0 _ | exact Mut.m1 _ | exact Mut.m2 _ | exact Mut.m3 _))), newsLive N9 (by k_mem)⟩
    · exact ⟨_, rfl, fun _ => newsOwn N9 (by k_mem), fun e => absurd e1 e, none_of_le (by omega)⟩
  · rename_i e1 l' _ _ _ m1
    (with_reducible rename Fr _ _ _ _ => F9); (with_reducible rename News _ _ _ _ => N9)
    refine hQ _ _ (post _ _ _ (Keep.of_fr F9) (hR.upto hB F9 N9 (by intro p hp; repeat (first | exact hp | apply List.Mem.tail)) ?_) ?_)
    · refine allC (?_) (allC (?_) (allC (?_) (allC (?_) (allC (?_) (allC (?_) (List.forall_mem_nil _))))))
      · first | exact Or.inr ((newsOwn N9 (a := f) (by k_mem)).1.trans h1.1.symm) | exact Or.inl ⟨by first | exact rfl | exact Or.inl rfl | exact Or.inr rfl | exact Or.inr (Or.inl rfl) | exact Or.inr (Or.inr rfl) | exact Or.inr (Or.inr (Or.inr ⟨_, .head _, rfl⟩)) | exact Or.inr (Or.inr (Or.inl (by first | exact Mut.m0 _ | exact Mut.m1 _ | exact Mut.m2 _ | exact Mut.m3 _))), newsLive N9 (by k_mem)⟩
      · first | exact Or.inr ((newsOwn N9 (a := cc) (by k_mem)).1.trans h2.1.symm) | exact Or.inl ⟨by first | exact rfl | exact Or.inl rfl | exact Or.inr rfl | exact Or.inr (Or.inl rfl) | exact Or.inr (Or.inr rfl) | exact Or.inr (Or.inr (Or.inr ⟨_, .head _, rfl⟩)) | exact Or.inr (Or.inr (Or.inl (by first | exact Mut.m0 _ | exact Mut.m1 _ | exact Mut.m2 _ | exact Mut.m3 _))), newsLive N9 (by k_mem)⟩
      · first | exact Or.inr ((newsOwn N9 (a := cell) (by k_mem)).1.trans h3.1.symm) | exact Or.inl ⟨by first | exact rfl | exact Or.inl rfl | exact Or.inr rfl | exact Or.inr (Or.inl rfl) | exact Or.inr (Or.inr rfl) | exact Or.inr (Or.inr (Or.inr ⟨_, .head _, rfl⟩)) | exact Or.inr (Or.inr (Or.inl (by first | exact Mut.m0 _ | exact Mut.m1 _ | exact Mut.m2 _ | exact Mut.m3 _))), newsLive N9 (by k_mem)⟩
      · first | exact Or.inr ((newsOwn N9 (a := tl) (by k_mem)).1.trans h4.1.symm) | exact Or.inl ⟨by first | exact rfl | exact Or.inl rfl | exact Or.inr rfl | exact Or.inr (Or.inl rfl) | exact Or.inr (Or.inr rfl) | exact Or.inr (Or.inr (Or.inr ⟨_, .head _, rfl⟩)) | exact Or.inr (Or.inr (Or.inl (by first | exact Mut.m0 _ | exact Mut.m1 _ | exact Mut.m2 _ | exact Mut.m3 _))), newsLive N9 (by k_mem)⟩
      · first | exact Or.inr ((newsOwn N9 (a := t) (by k_mem)).1.trans h5.1.symm) | exact Or.inl ⟨by first | exact rfl | exact Or.inl rfl | exact Or.inr rfl | exact Or.inr (Or.inl rfl) | exact Or.inr (Or.inr rfl) | exact Or.inr (Or.inr (Or.inr ⟨_, .head _, rfl⟩)) | exact Or.inr (Or.inr (Or.inl (by first | exact Mut.m0 _ | exact Mut.m1 _ | exact Mut.m2 _ | exact Mut.m3 _))), newsLive N9 (by k_mem)⟩
      · first | exact Or.inr ((newsOwn N9 (a := td) (by k_mem)).1.trans h6.1.symm) | exact Or.inl ⟨by first | exact rfl | exact Or.inl rfl | exact Or.inr rfl | exact Or.inr (Or.inl rfl) | exact Or.inr (Or.inr rfl) | exact Or.inr (Or.inr (Or.inr ⟨_, .head _, rfl⟩)) | exact Or.inr (Or.inr (Or.inl (by first | exact Mut.m0 _ | exact Mut.m1 _ | exact Mut.m2 _ | exact Mut.m3 _))), newsLive N9 (by k_mem)⟩
    · exact ⟨l', rfl, fun e => absurd e e1, fun _ => newsOwn N9 (by k_mem), fresh_of hR (newsOwn N9 (a := l') (by k_mem)).2 (by repeat' (first | exact List.forall_mem_nil _ | refine allC ((by first | exact m1.1 | exact m1 | exact m1.2.1 | exact m1.2 | exact m1.2.2.1 | exact m1.2.2 | exact m1.2.2.2.1 | exact m1.2.2.2 | exact m1.2.2.2.2.1 | exact m1.2.2.2.2 | exact m1.2.2.2.2.2.1 | exact m1.2.2.2.2.2 | exact m1.2.2.2.2.2.2.1 | exact m1.2.2.2.2.2.2 | exact m1.2.2.2.2.2.2.2.1 | exact m1.2.2.2.2.2.2.2 | exact m1.2.2.2.2.2.2.2.2.1 | exact m1.2.2.2.2.2.2.2.2 | exact m1.2.2.2.2.2.2.2.2.2.1 | exact m1.2.2.2.2.2.2.2.2.2 | exact m1.2.2.2.2.2.2.2.2.2.2.1 | exact m1.2.2.2.2.2.2.2.2.2.2 | exact m1.2.2.2.2.2.2.2.2.2.2.2.1 | exact m1.2.2.2.2.2.2.2.2.2.2.2 | exact m1.2.2.2.2.2.2.2.2.2.2.2.2.1 | exact m1.2.2.2.2.2.2.2.2.2.2.2.2 | exact m1.2.2.2.2.2.2.2.2.2.2.2.2.2.1 | exact m1.2.2.2.2.2.2.2.2.2.2.2.2.2 | exact m1.2.2.2.2.2.2.2.2.2.2.2.2.2.2.1 | exact m1.2.2.2.2.2.2.2.2.2.2.2.2.2.2 | exact m1.2.2.2.2.2.2.2.2.2.2.2.2.2.2.2.1 | exact m1.2.2.2.2.2.2.2.2.2.2.2.2.2.2.2 | omega)) (?_))) m1.2.2.2.2.2.2⟩
end
section
set_option maxRecDepth 100000
open PySem PySem.W PySem.Calls PyProof.Rows
theorem reset_L4 : True := by
  w_top off
  trivial
variable {w : World} {B h : Heap}
set_option maxHeartbeats 1000000 in
theorem markB_con (W : Wd w B) (hB : Keep B h) {ma md t td : Addr} {k k' : Ky} {a : MkA} {white num mk sz : Int} {tw t1 t2 t3 : Tok}
    (h1 : Own B h ma (instObj 136 md)) (h2 : Own B h md (dictOf (mksEs k' a white tw) 6)) (h3 : Own B h t (instObj 367 td)) (h4 : Own B h td (dictOf (thEs k num mk sz t1 t2 t3) 3)) (hne : Nd [ma, md, t, td])
    (hm : 2 ≤ mk) : Con w B 4 84 [.ref ma, .ref t] is0 h (fun _ _ => True) := by
  obtain ⟨hne_0_1, hne_0_2, hne_0_3, hne_1_2, hne_1_3, hne_2_3⟩ := Nd.o4 hne
  have W0 := W; (first | (have X9 : ∀ w9 : World, (Mine.hd.heap_39 w9.params).In default → PySem.Challenge.rw_rh0162_01 = PySem.Challenge.rw_rh0162_01 := by (k_fill; fail)) | skip)
  k_dflt (refine' Con.start [("self", .ref ma), ("obj", .ref t)] W hB (.cons h1 (.cons h2 (.cons h3 (.cons h4 .nil)))) rfl ?ho ?hcd ?bind ?loc ?a ?b ?c ?d ?_; (case ho => k_is); (case hcd => k_is); (case bind => exact fun _ => BindsTo.of_eq rfl); (case loc => exact locs rfl); (case a => exact rfl); (case b => exact rfl); (case c => exact rfl); (case d => decide))
  intro p0 loose0 mean0 mg0 mb0 dp9 fr9 gd9 un9 s RR h₁ L rest tk Q' X T C R post hL F N hR hQ hQn; clear C
  dsimp only [List.cons_append, List.nil_append] at N
  change Rest B h [ma, md, t, td] rest at hR
  have hr0 := hR.off ma (.head _)
  have hr1 := hR.off md (.tail _ (.head _))
  have hr2 := hR.off t (.tail _ (.tail _ (.head _)))
  have hr3 := hR.off td (.tail _ (.tail _ (.tail _ (.head _))))
  have hh := R.handled
  k_steps
  (with_reducible rename Fr _ _ _ _ => F9); (with_reducible rename News _ _ _ _ => N9)
  refine Con.call (isWhite_con W0 (Keep.of_fr F9) (newsOwn N9 (by k_mem)) (newsOwn N9 (by k_mem)) (by assumption)) rfl (Room.deeper (R.le (by decide))) ?_
  intro v9 H9 tk9 K9 U9 rfl
  replace N9 := newsKeep N9 U9 (fun _ _ x => x)
  replace F9 := frStep F9 U9 (fun x => x) base0
  dsimp only
  k_steps
  (with_reducible rename Fr _ _ _ _ => F9); (with_reducible rename News _ _ _ _ => N9)
  refine hQ _ _ (post _ _ _ (Keep.of_fr F9) (hR.upto hB F9 N9 (by intro p hp; repeat (first | exact hp | apply List.Mem.tail)) ?_) ?_)
  · refine allC (?_) (allC (?_) (allC (?_) (allC (?_) (List.forall_mem_nil _))))
    · first | exact Or.inr ((newsOwn N9 (a := ma) (by k_mem)).1.trans h1.1.symm) | exact Or.inl ⟨by first | exact rfl | exact Or.inl rfl | exact Or.inr rfl | exact Or.inr (Or.inl rfl) | exact Or.inr (Or.inr rfl) | exact Or.inr (Or.inr (Or.inr ⟨_, .head _, rfl⟩)) | exact Or.inr (Or.inr (Or.inl (by first | exact Mut.m0 _ | exact Mut.m1 _ | exact Mut.m2 _ | exact Mut.m3 _))), newsLive N9 (by k_mem)⟩
    · first | exact Or.inr ((newsOwn N9 (a := md) (by k_mem)).1.trans h2.1.symm) | exact Or.inl ⟨by first | exact rfl | exact Or.inl rfl | exact Or.inr rfl | exact Or.inr (Or.inl rfl) | exact Or.inr (Or.inr rfl) | exact Or.inr (Or.inr (Or.inr ⟨_, .head _, rfl⟩)) | exact Or.inr (Or.inr (Or.inl (by first | exact Mut.m0 _ | exact Mut.m1 _ | exact Mut.m2 _ | exact Mut.m3 _))), newsLive N9 (by k_mem)⟩
    · first | exact Or.inr ((newsOwn N9 (a := t) (by k_mem)).1.trans h3.1.symm) | exact Or.inl ⟨by first | exact rfl | exact Or.inl rfl | exact Or.inr rfl | exact Or.inr (Or.inl rfl) | exact Or.inr (Or.inr rfl) | exact Or.inr (Or.inr (Or.inr ⟨_, .head _, rfl⟩)) | exact Or.inr (Or.inr (Or.inl (by first | exact Mut.m0 _ | exact Mut.m1 _ | exact Mut.m2 _ | exact Mut.m3 _))), newsLive N9 (by k_mem)⟩
    · first | exact Or.inr ((newsOwn N9 (a := td) (by k_mem)).1.trans h4.1.symm) | exact Or.inl ⟨by first | exact rfl | exact Or.inl rfl | exact Or.inr rfl | exact Or.inr (Or.inl rfl) | exact Or.inr (Or.inr rfl) | exact Or.inr (Or.inr (Or.inr ⟨_, .head _, rfl⟩)) | exact Or.inr (Or.inr (Or.inl (by first | exact Mut.m0 _ | exact Mut.m1 _ | exact Mut.m2 _ | exact Mut.m3 _))), newsLive N9 (by k_mem)⟩
  · exact trivial
set_option maxHeartbeats 1000000 in
theorem markW_con (W : Wd w B) (hB : Keep B h) {ma md t td cc : Addr} {k k' : Ky} {a : MkA} {white num mk sz : Int} {tw t1 t2 t3 : Tok} {its : Array Value} {n : Nat}
    (h1 : Own B h ma (instObj 136 md)) (h2 : Own B h md (dictOf (mksEs k' a white tw) 6)) (h3 : Own B h t (instObj 367 td)) (h4 : Own B h td (dictOf (thEs k num mk sz t1 t2 t3) 3)) (h5 : Own B h a.gl (listOf its n))
    (h6 : LamAt B h soParams soBody soScope [] a.fso cc) (hne : Nd [ma, md, t, td, a.gl, a.fso, cc])
    (hm : mk < 2) (hz : its.size ≤ 100) : Con w B 4 84 [.ref ma, .ref t] (is2 td a.gl) h (fun _ h' => ∃ t2' n', Own B h' td (dictOf (thEs k num 2 sz t1 t2' t3) 3) ∧ Own B h' a.gl (listOf (its.push (.ref t)) n')) := by
  refine hide fun P9 hP9 => ?_
  obtain ⟨hne_0_1, hne_0_2, hne_0_3, hne_0_4, hne_0_5, hne_0_6, hne_1_2, hne_1_3, hne_1_4, hne_1_5, hne_1_6, hne_2_3, hne_2_4, hne_2_5, hne_2_6, hne_3_4, hne_3_5, hne_3_6, hne_4_5, hne_4_6, hne_5_6⟩ := Nd.o7 hne
  obtain ⟨nm, ql, pm, ctv, oc, vs, tq, h6, h7, hd, hv⟩ := h6
  refine hP9 ?_; clear hP9 P9
  have W0 := W; (first | (have X9 : ∀ w9 : World, (Mine.hd.heap_39 w9.params).In default → PySem.Challenge.rw_rh0162_01 = PySem.Challenge.rw_rh0162_01 := by (k_fill; fail)) | skip)
  k_dflt (refine' Con.start [("self", .ref ma), ("obj", .ref t)] W hB (.cons h1 (.cons h2 (.cons h3 (.cons h4 (.cons h5 (.cons h6 (.cons h7 .nil))))))) rfl ?ho ?hcd ?bind ?loc ?a ?b ?c ?d ?_; (case ho => k_is); (case hcd => k_is); (case bind => exact fun _ => BindsTo.of_eq rfl); (case loc => exact locs rfl); (case a => exact rfl); (case b => exact rfl); (case c => exact rfl); (case d => decide))
  intro p0 loose0 mean0 mg0 mb0 dp9 fr9 gd9 un9 s RR h₁ L rest tk Q' X T C R post hL F N hR hQ hQn
  dsimp only [List.cons_append, List.nil_append] at N
  change Rest B h [ma, md, t, td, a.gl, a.fso, cc] rest at hR
  have hr0 := hR.off ma (.head _)
  have hr1 := hR.off md (.tail _ (.head _))
  have hr2 := hR.off t (.tail _ (.tail _ (.head _)))
  have hr3 := hR.off td (.tail _ (.tail _ (.tail _ (.head _))))
  have hr4 := hR.off a.gl (.tail _ (.tail _ (.tail _ (.tail _ (.head _)))))
  have hr5 := hR.off a.fso (.tail _ (.tail _ (.tail _ (.tail _ (.tail _ (.head _))))))
  have hr6 := hR.off cc (.tail _ (.tail _ (.tail _ (.tail _ (.tail _ (.tail _ (.head _)))))))
  have hh := R.handled
  k_steps
  (with_reducible rename Fr _ _ _ _ => F9); (with_reducible rename News _ _ _ _ => N9)
  refine Con.call (isWhite_con W0 (Keep.of_fr F9) (newsOwn N9 (by k_mem)) (newsOwn N9 (by k_mem)) (by assumption)) rfl (Room.deeper (R.le (by decide))) ?_
  intro v9 H9 tk9 K9 U9 rfl
  replace N9 := newsKeep N9 U9 (fun _ _ x => x)
  replace F9 := frStep F9 U9 (fun x => x) base0
  dsimp only
  k_steps
  (with_reducible rename Fr _ _ _ _ => F9); (with_reducible rename News _ _ _ _ => N9)
  refine Con.call (sort_con W0 (Keep.of_fr F9) ⟨nm, ql, pm, ctv, oc, vs, tq, newsOwn N9 (by k_mem), newsOwn N9 (by k_mem), hd, hv⟩) rfl (Room.deeper (R.le (by decide))) ?_
  rintro v9 H9 tk9 K9 U9 ⟨ts, e9⟩
  replace N9 := newsKeep N9 U9 (fun _ _ x => x)
  replace F9 := frStep F9 U9 (fun x => x) base0
  dsimp only
  subst e9
  k_steps
  (with_reducible rename Fr _ _ _ _ => F9); (with_reducible rename News _ _ _ _ => N9)
  refine hQn _ (post _ _ _ (Keep.of_fr F9) (hR.upto hB F9 N9 (by intro p hp; repeat (first | exact hp | apply List.Mem.tail)) ?_) ?_)
  · refine allC (?_) (allC (?_) (allC (?_) (allC (?_) (allC (?_) (allC (?_) (allC (?_) (List.forall_mem_nil _)))))))
    · first | exact Or.inr ((newsOwn N9 (a := ma) (by k_mem)).1.trans h1.1.symm) | exact Or.inl ⟨by first | exact rfl | exact Or.inl rfl | exact Or.inr rfl | exact Or.inr (Or.inl rfl) | exact Or.inr (Or.inr rfl) | exact Or.inr (Or.inr (Or.inr ⟨_, .head _, rfl⟩)) | exact Or.inr (Or.inr (Or.inl (by first | exact Mut.m0 _ | exact Mut.m1 _ | exact Mut.m2 _ | exact Mut.m3 _))), newsLive N9 (by k_mem)⟩
    · first | exact Or.inr ((newsOwn N9 (a := md) (by k_mem)).1.trans h2.1.symm) | exact Or.inl ⟨by first | exact rfl | exact Or.inl rfl | exact Or.inr rfl | exact Or.inr (Or.inl rfl) | exact Or.inr (Or.inr rfl) | exact Or.inr (Or.inr (Or.inr ⟨_, .head _, rfl⟩)) | exact Or.inr (Or.inr (Or.inl (by first | exact Mut.m0 _ | exact Mut.m1 _ | exact Mut.m2 _ | exact Mut.m3 _))), newsLive N9 (by k_mem)⟩
    · first | exact Or.inr ((newsOwn N9 (a := t) (by k_mem)).1.trans h3.1.symm) | exact Or.inl ⟨by first | exact rfl | exact Or.inl rfl | exact Or.inr rfl | exact Or.inr (Or.inl rfl) | exact Or.inr (Or.inr rfl) | exact Or.inr (Or.inr (Or.inr ⟨_, .head _, rfl⟩)) | exact Or.inr (Or.inr (Or.inl (by first | exact Mut.m0 _ | exact Mut.m1 _ | exact Mut.m2 _ | exact Mut.m3 _))), newsLive N9 (by k_mem)⟩
    · first | exact Or.inr ((newsOwn N9 (a := td) (by k_mem)).1.trans h4.1.symm) | exact Or.inl ⟨by first | exact rfl | exact Or.inl rfl | exact Or.inr rfl | exact Or.inr (Or.inl rfl) | exact Or.inr (Or.inr rfl) | exact Or.inr (Or.inr (Or.inr ⟨_, .head _, rfl⟩)) | exact Or.inr (Or.inr (Or.inl (by first | exact Mut.m0 _ | exact Mut.m1 _ | exact Mut.m2 _ | exact Mut.m3 _))), newsLive N9 (by k_mem)⟩
    · first | exact Or.inr ((newsOwn N9 (a := a.gl) (by k_mem)).1.trans h5.1.symm) | exact Or.inl ⟨by first | exact rfl | exact Or.inl rfl | exact Or.inr rfl | exact Or.inr (Or.inl rfl) | exact Or.inr (Or.inr rfl) | exact Or.inr (Or.inr (Or.inr ⟨_, .head _, rfl⟩)) | exact Or.inr (Or.inr (Or.inl (by first | exact Mut.m0 _ | exact Mut.m1 _ | exact Mut.m2 _ | exact Mut.m3 _))), newsLive N9 (by k_mem)⟩
    · first | exact Or.inr ((newsOwn N9 (a := a.fso) (by k_mem)).1.trans h6.1.symm) | exact Or.inl ⟨by first | exact rfl | exact Or.inl rfl | exact Or.inr rfl | exact Or.inr (Or.inl rfl) | exact Or.inr (Or.inr rfl) | exact Or.inr (Or.inr (Or.inr ⟨_, .head _, rfl⟩)) | exact Or.inr (Or.inr (Or.inl (by first | exact Mut.m0 _ | exact Mut.m1 _ | exact Mut.m2 _ | exact Mut.m3 _))), newsLive N9 (by k_mem)⟩
    · first | exact Or.inr ((newsOwn N9 (a := cc) (by k_mem)).1.trans h7.1.symm) | exact Or.inl ⟨by first | exact rfl | exact Or.inl rfl | exact Or.inr rfl | exact Or.inr (Or.inl rfl) | exact Or.inr (Or.inr rfl) | exact Or.inr (Or.inr (Or.inr ⟨_, .head _, rfl⟩)) | exact Or.inr (Or.inr (Or.inl (by first | exact Mut.m0 _ | exact Mut.m1 _ | exact Mut.m2 _ | exact Mut.m3 _))), newsLive N9 (by k_mem)⟩
  · exact ⟨_, _, newsOwn N9 (by k_mem), newsOwn N9 (by k_mem)⟩
end
section
set_option maxRecDepth 100000
open PySem PySem.W PySem.Calls PyProof.Rows
theorem reset_L5 : True := by
  w_top off
  trivial
variable {w : World} {B h : Heap}
/-- an object of the heap: where it stands, its dict, what it holds -/
structure Th where
  (t td : Addr) (k : Ky) (num mrk sz : Int) (t1 t2 t3 : Tok)
abbrev Th.ref (x : Th) : Value := .ref x.t
def Th.mark (x : Th) (m : Int) (t2 : Tok) : Th := { x with mrk := m, t2 := t2 }
structure ThAt (B h : Heap) (x : Th) : Prop where
  o : Own B h x.t (instObj 367 x.td)
  d : Own B h x.td (dictOf (thEs x.k x.num x.mrk x.sz x.t1 x.t2 x.t3) 3)
theorem ThAt.st {B h h₀ h' : Heap} {L : Addr} {x : Th} (q : ThAt B h x) (k : ∀ a o, NeN a L → (h₀.get? a).isSome → h.get? a = some o → h'.get? a = some o) (n1 : NeN x.t L) (n2 : NeN x.td L) (l1 : (h₀.get? x.t).isSome) (l2 : (h₀.get? x.td).isSome) : ThAt B h' x := ⟨q.o.st k n1 l1, q.d.st k n2 l2⟩
theorem ThAt.upto {S : Addr → Prop} {B h h' : Heap} {x : Th} (q : ThAt B h x) (U : Upto S h h') (n1 : ¬ S x.t) (n2 : ¬ S x.td) : ThAt B h' x := ⟨U.own q.o n1, U.own q.d n2⟩
theorem LamAt.st {B h h₀ h' : Heap} {L : Addr} {params : Arguments} {body : Expr} {scope : Scope} {cl : List (Str × Addr)} {f cc : Addr} (x : LamAt B h params body scope cl f cc)
    (k : ∀ a o, NeN a L → (h₀.get? a).isSome → h.get? a = some o → h'.get? a = some o) (n1 : NeN f L) (n2 : NeN cc L) (l1 : (h₀.get? f).isSome) (l2 : (h₀.get? cc).isSome) : LamAt B h' params body scope cl f cc := by
  refine hide fun P9 hP9 => ?_
  obtain ⟨nm, ql, pm, ctv, oc, vs, t, a, b, c, d⟩ := x
  refine hP9 ?_; clear hP9 P9
  exact ⟨nm, ql, pm, ctv, oc, vs, t, a.st k n1 l1, b.st k n2 l2, c, d⟩
/-- between two turns of the children's loop -/
inductive PropP (B : Heap) (ma md cc : Addr) (k' : Ky) (a : MkA) (white : Int) (tw : Tok) (x : Th) (tx : Tok) (ys : List Th) (p : List Value) (i : Nat) (h : Heap) : Prop
  | mk (p0 : Own B h ma (instObj 136 md)) (p1 : Own B h md (dictOf (mksEs k' a white tw) 6)) (p2 : LamAt B h soParams soBody soScope [] a.fso cc) (p3 : (∀ y ∈ ys.drop i, ThAt B h y)) (p4 : (∀ y ∈ ys.take i, ∃ t2, ThAt B h (y.mark 2 t2))) (p5 : (∃ n', Own B h a.gl (listOf (p ++ (ys.take i).map Th.ref).toArray n'))) (p6 : ThAt B h (x.mark 3 tx))
/-- what the grey walk writes -/
def gS (x : Th) (gl : Addr) (ys : List Th) : Addr → Prop := fun a => @Eq Nat a x.td ∨ @Eq Nat a gl ∨ ∃ y ∈ ys, @Eq Nat a y.td
set_option maxHeartbeats 1000000 in
theorem prop_con (W : Wd w B) (hB : Keep B h) {ma md cell tl cc cc1 : Addr} {k' : Ky} {a : MkA} {white : Int} {tw : Tok} {x : Th} {ys : List Th} {p : List Value} {its : Array Value} {n nl : Nat} {co : Obj}
    (h1 : Own B h ma (instObj 136 md)) (h2 : Own B h md (dictOf (mksEs k' a white tw) 6)) (h3 : ThAt B h x) (h5 : Own B h a.gl (listOf (p ++ [Value.ref x.t]).toArray n))
    (h6 : LamAt B h soParams soBody soScope [] a.fso cc) (h8 : LamAt B h chParams chBody chScope [("things", cell)] a.fch cc1) (h10 : Own B h cell co) (hc : co.data = .cell (some (.ref tl))) (h11 : Own B h tl (listOf its nl))
    (hz1 : its.size ≤ 100) (hz2 : p.length + ys.length ≤ 90)
    (hch : (x.num = 1 ∧ slicePick its (some 1) none none = (ys.map Th.ref).toArray) ∨ (x.num ≠ 1 ∧ ys = []))
    (hne : Nd [ma, md, x.t, x.td, a.gl, a.fso, cc, a.fch, cc1, cell, tl]) (hys : ∀ y ∈ ys, ThAt B h y ∧ y.mrk < 2 ∧ Nd [ma, md, y.t, y.td, a.gl, a.fso, cc] ∧ NeN y.td x.t ∧ NeN y.td x.td ∧ NeN y.td tl ∧ NeN y.td cell)
    (hdt : ∀ y ∈ ys, ∀ z ∈ ys, NeN y.t z.td) (hnd : (ys.map (·.td)).Nodup) :
    Con w B 6 91 [.ref ma] (gS x a.gl ys) h (fun r h' => (∃ t, r = .int (max 1 x.sz) t) ∧ (∃ t2, ThAt B h' (x.mark 3 t2)) ∧ (∀ y ∈ ys, ∃ t2, ThAt B h' (y.mark 2 t2)) ∧ ∃ n', Own B h' a.gl (listOf (p ++ ys.map Th.ref).toArray n')) := by
  refine hide fun P9 hP9 => ?_
  obtain ⟨hne_0_1, hne_0_2, hne_0_3, hne_0_4, hne_0_5, hne_0_6, hne_0_7, hne_0_8, hne_0_9, hne_0_10, hne_1_2, hne_1_3, hne_1_4, hne_1_5, hne_1_6, hne_1_7, hne_1_8, hne_1_9, hne_1_10, hne_2_3, hne_2_4, hne_2_5, hne_2_6, hne_2_7, hne_2_8, hne_2_9, hne_2_10, hne_3_4, hne_3_5, hne_3_6, hne_3_7, hne_3_8, hne_3_9, hne_3_10, hne_4_5, hne_4_6, hne_4_7, hne_4_8, hne_4_9, hne_4_10, hne_5_6, hne_5_7, hne_5_8, hne_5_9, hne_5_10, hne_6_7, hne_6_8, hne_6_9, hne_6_10, hne_7_8, hne_7_9, hne_7_10, hne_8_9, hne_8_10, hne_9_10⟩ := Nd.o11 hne
  obtain ⟨nm, ql, pm, ctv, oc, vs, tq, h6, h7, hd, hv⟩ := h6
  obtain ⟨nm1, ql1, pm1, ctv1, oc1, vs1, tq1, h8, h9, hd1, hv1⟩ := h8
  obtain ⟨h3, h4⟩ := h3
  refine hP9 ?_; clear hP9 P9
  have hpop : kl_last (p ++ [Value.ref x.t]).toArray.toList = some (p, .ref x.t) := kl_last_append p _
  have hzp : (p ++ [Value.ref x.t]).toArray.toList.length ≤ sizeLine := by simp [sizeLine]; omega
  have W0 := W; (first | (have X9 : ∀ w9 : World, (Mine.hd.heap_39 w9.params).In default → PySem.Challenge.rw_rh0162_01 = PySem.Challenge.rw_rh0162_01 := by (k_fill; fail)) | skip)
  k_dflt (refine' Con.start [("self", .ref ma)] W hB (.cons h1 (.cons h2 (.cons h3 (.cons h4 (.cons h5 (.cons h6 (.cons h7 (.cons h8 (.cons h9 (.cons h10 (.cons h11 .nil))))))))))) rfl ?ho ?hcd ?bind ?loc ?a ?b ?c ?d ?_; (case ho => k_is); (case hcd => k_is); (case bind => exact fun _ => BindsTo.of_eq rfl); (case loc => exact locs rfl); (case a => exact rfl); (case b => exact rfl); (case c => exact rfl); (case d => decide))
  intro p0 loose0 mean0 mg0 mb0 dp9 fr9 gd9 un9 s RR h₁ L rest tk Q' X T C R post hL F N hR hQ hQn
  dsimp only [List.cons_append, List.nil_append] at N
  change Rest B h [ma, md, x.t, x.td, a.gl, a.fso, cc, a.fch, cc1, cell, tl] rest at hR
  have hr0 := hR.off ma (.head _)
  have hr1 := hR.off md (.tail _ (.head _))
  have hr2 := hR.off x.t (.tail _ (.tail _ (.head _)))
  have hr3 := hR.off x.td (.tail _ (.tail _ (.tail _ (.head _))))
  have hr4 := hR.off a.gl (.tail _ (.tail _ (.tail _ (.tail _ (.head _)))))
  have hr5 := hR.off a.fso (.tail _ (.tail _ (.tail _ (.tail _ (.tail _ (.head _))))))
  have hr6 := hR.off cc (.tail _ (.tail _ (.tail _ (.tail _ (.tail _ (.tail _ (.head _)))))))
  have hr7 := hR.off a.fch (.tail _ (.tail _ (.tail _ (.tail _ (.tail _ (.tail _ (.tail _ (.head _))))))))
  have hr8 := hR.off cc1 (.tail _ (.tail _ (.tail _ (.tail _ (.tail _ (.tail _ (.tail _ (.tail _ (.head _)))))))))
  have hr9 := hR.off cell (.tail _ (.tail _ (.tail _ (.tail _ (.tail _ (.tail _ (.tail _ (.tail _ (.tail _ (.head _))))))))))
  have hr10 := hR.off tl (.tail _ (.tail _ (.tail _ (.tail _ (.tail _ (.tail _ (.tail _ (.tail _ (.tail _ (.tail _ (.head _)))))))))))
  have hh := R.handled
  k_steps
  (with_reducible rename Fr _ _ _ _ => F9); (with_reducible rename News _ _ _ _ => N9)
  refine Con.call (sort_con W0 (Keep.of_fr F9) ⟨nm, ql, pm, ctv, oc, vs, tq, newsOwn N9 (by k_mem), newsOwn N9 (by k_mem), hd, hv⟩) rfl (Room.deeper (R.le (by decide))) ?_
  rintro v9 H9 tk9 K9 U9 ⟨ts, e9⟩
  replace N9 := newsKeep N9 U9 (fun _ _ x => x)
  replace F9 := frStep F9 U9 (fun x => x) base0
  dsimp only
  subst e9
  k_steps
  (with_reducible rename Fr _ _ _ _ => F9); (with_reducible rename News _ _ _ _ => N9)
  refine Con.call (children_con W0 (Keep.of_fr F9) ⟨nm1, ql1, pm1, ctv1, oc1, vs1, tq1, newsOwn N9 (by k_mem), newsOwn N9 (by k_mem), hd1, hv1⟩ (newsOwn N9 (by k_mem)) hc (newsOwn N9 (by k_mem)) (newsOwn N9 (by k_mem)) (newsOwn N9 (by k_mem)) hz1) rfl (Room.deeper (R.le (by decide))) ?_
  rintro v9 H9 tk9 K9 U9 t9_5
  refine hide fun P9 hP9 => ?_
  rcases t9_5 with ⟨cl, e9, c1, c2, c3⟩
  refine hP9 ?_; clear hP9 P9
  replace N9 := newsKeep N9 U9 (fun _ _ x => x)
  replace F9 := frStep F9 U9 (fun x => x) base0
  dsimp only
  subst e9
  k_steps
  (with_reducible rename Fr _ _ _ _ => F9); (with_reducible rename News _ _ _ _ => N9)
  have UA := hR.upto (S := is2 x.td a.gl) hB F9 N9 (by intro p hp; repeat (first | exact hp | apply List.Mem.tail)) (by
    refine allC (?_) (allC (?_) (allC (?_) (allC (?_) (allC (?_) (allC (?_) (allC (?_) (allC (?_) (allC (?_) (allC (?_) (allC (?_) (List.forall_mem_nil _)))))))))))
    · first | exact Or.inr ((newsOwn N9 (a := ma) (by k_mem)).1.trans h1.1.symm) | exact Or.inl ⟨by first | exact rfl | exact Or.inl rfl | exact Or.inr rfl | exact Or.inr (Or.inl rfl) | exact Or.inr (Or.inr rfl) | exact Or.inr (Or.inr (Or.inr ⟨_, .head _, rfl⟩)) | exact Or.inr (Or.inr (Or.inl (by first | exact Mut.m0 _ | exact Mut.m1 _ | exact Mut.m2 _ | exact Mut.m3 _))), newsLive N9 (by k_mem)⟩
    · first | exact Or.inr ((newsOwn N9 (a := md) (by k_mem)).1.trans h2.1.symm) | exact Or.inl ⟨by first | exact rfl | exact Or.inl rfl | exact Or.inr rfl | exact Or.inr (Or.inl rfl) | exact Or.inr (Or.inr rfl) | exact Or.inr (Or.inr (Or.inr ⟨_, .head _, rfl⟩)) | exact Or.inr (Or.inr (Or.inl (by first | exact Mut.m0 _ | exact Mut.m1 _ | exact Mut.m2 _ | exact Mut.m3 _))), newsLive N9 (by k_mem)⟩
    · first | exact Or.inr ((newsOwn N9 (a := x.t) (by k_mem)).1.trans h3.1.symm) | exact Or.inl ⟨by first | exact rfl | exact Or.inl rfl | exact Or.inr rfl | exact Or.inr (Or.inl rfl) | exact Or.inr (Or.inr rfl) | exact Or.inr (Or.inr (Or.inr ⟨_, .head _, rfl⟩)) | exact Or.inr (Or.inr (Or.inl (by first | exact Mut.m0 _ | exact Mut.m1 _ | exact Mut.m2 _ | exact Mut.m3 _))), newsLive N9 (by k_mem)⟩
    · first | exact Or.inr ((newsOwn N9 (a := x.td) (by k_mem)).1.trans h4.1.symm) | exact Or.inl ⟨by first | exact rfl | exact Or.inl rfl | exact Or.inr rfl | exact Or.inr (Or.inl rfl) | exact Or.inr (Or.inr rfl) | exact Or.inr (Or.inr (Or.inr ⟨_, .head _, rfl⟩)) | exact Or.inr (Or.inr (Or.inl (by first | exact Mut.m0 _ | exact Mut.m1 _ | exact Mut.m2 _ | exact Mut.m3 _))), newsLive N9 (by k_mem)⟩
    · first | exact Or.inr ((newsOwn N9 (a := a.gl) (by k_mem)).1.trans h5.1.symm) | exact Or.inl ⟨by first | exact rfl | exact Or.inl rfl | exact Or.inr rfl | exact Or.inr (Or.inl rfl) | exact Or.inr (Or.inr rfl) | exact Or.inr (Or.inr (Or.inr ⟨_, .head _, rfl⟩)) | exact Or.inr (Or.inr (Or.inl (by first | exact Mut.m0 _ | exact Mut.m1 _ | exact Mut.m2 _ | exact Mut.m3 _))), newsLive N9 (by k_mem)⟩
    · first | exact Or.inr ((newsOwn N9 (a := a.fso) (by k_mem)).1.trans h6.1.symm) | exact Or.inl ⟨by first | exact rfl | exact Or.inl rfl | exact Or.inr rfl | exact Or.inr (Or.inl rfl) | exact Or.inr (Or.inr rfl) | exact Or.inr (Or.inr (Or.inr ⟨_, .head _, rfl⟩)) | exact Or.inr (Or.inr (Or.inl (by first | exact Mut.m0 _ | exact Mut.m1 _ | exact Mut.m2 _ | exact Mut.m3 _))), newsLive N9 (by k_mem)⟩
    · first | exact Or.inr ((newsOwn N9 (a := cc) (by k_mem)).1.trans h7.1.symm) | exact Or.inl ⟨by first | exact rfl | exact Or.inl rfl | exact Or.inr rfl | exact Or.inr (Or.inl rfl) | exact Or.inr (Or.inr rfl) | exact Or.inr (Or.inr (Or.inr ⟨_, .head _, rfl⟩)) | exact Or.inr (Or.inr (Or.inl (by first | exact Mut.m0 _ | exact Mut.m1 _ | exact Mut.m2 _ | exact Mut.m3 _))), newsLive N9 (by k_mem)⟩
    · first | exact Or.inr ((newsOwn N9 (a := a.fch) (by k_mem)).1.trans h8.1.symm) | exact Or.inl ⟨by first | exact rfl | exact Or.inl rfl | exact Or.inr rfl | exact Or.inr (Or.inl rfl) | exact Or.inr (Or.inr rfl) | exact Or.inr (Or.inr (Or.inr ⟨_, .head _, rfl⟩)) | exact Or.inr (Or.inr (Or.inl (by first | exact Mut.m0 _ | exact Mut.m1 _ | exact Mut.m2 _ | exact Mut.m3 _))), newsLive N9 (by k_mem)⟩
    · first | exact Or.inr ((newsOwn N9 (a := cc1) (by k_mem)).1.trans h9.1.symm) | exact Or.inl ⟨by first | exact rfl | exact Or.inl rfl | exact Or.inr rfl | exact Or.inr (Or.inl rfl) | exact Or.inr (Or.inr rfl) | exact Or.inr (Or.inr (Or.inr ⟨_, .head _, rfl⟩)) | exact Or.inr (Or.inr (Or.inl (by first | exact Mut.m0 _ | exact Mut.m1 _ | exact Mut.m2 _ | exact Mut.m3 _))), newsLive N9 (by k_mem)⟩
    · first | exact Or.inr ((newsOwn N9 (a := cell) (by k_mem)).1.trans h10.1.symm) | exact Or.inl ⟨by first | exact rfl | exact Or.inl rfl | exact Or.inr rfl | exact Or.inr (Or.inl rfl) | exact Or.inr (Or.inr rfl) | exact Or.inr (Or.inr (Or.inr ⟨_, .head _, rfl⟩)) | exact Or.inr (Or.inr (Or.inl (by first | exact Mut.m0 _ | exact Mut.m1 _ | exact Mut.m2 _ | exact Mut.m3 _))), newsLive N9 (by k_mem)⟩
    · first | exact Or.inr ((newsOwn N9 (a := tl) (by k_mem)).1.trans h11.1.symm) | exact Or.inl ⟨by first | exact rfl | exact Or.inl rfl | exact Or.inr rfl | exact Or.inr (Or.inl rfl) | exact Or.inr (Or.inr rfl) | exact Or.inr (Or.inr (Or.inr ⟨_, .head _, rfl⟩)) | exact Or.inr (Or.inr (Or.inl (by first | exact Mut.m0 _ | exact Mut.m1 _ | exact Mut.m2 _ | exact Mut.m3 _))), newsLive N9 (by k_mem)⟩)
  have hcl : Own B H9 cl (listOf (ys.map Th.ref).toArray 0) := by
    refine hide fun P9 hP9 => ?_
    (rcases hch with ⟨e1, e2⟩ | ⟨e1, e2⟩) <;> (refine hP9 ?_; clear hP9 P9)
    · rw [← e2]; exact c1 e1
    · rw [e2]; exact c2 e1
  have hLs : ∀ {b : Addr} {o : Obj}, Own B h b o → NeN b L := fun q => q.lt hL
  have hT : ∀ y ∈ ys, ThAt B H9 y := fun y hy => by
    refine hide fun P9 hP9 => ?_
    obtain ⟨q1, _, q3, q4, q5, _⟩ := hys y hy
    obtain ⟨q3_0_1, q3_0_2, q3_0_3, q3_0_4, q3_0_5, q3_0_6, q3_1_2, q3_1_3, q3_1_4, q3_1_5, q3_1_6, q3_2_3, q3_2_4, q3_2_5, q3_2_6, q3_3_4, q3_3_5, q3_3_6, q3_4_5, q3_4_6, q3_5_6⟩ := Nd.o7 q3
    refine hP9 ?_; clear hP9 P9
    exact q1.upto UA (nos2 (q1.o.ne_id h4) (by k_ne)) (nos2 (by k_ne) (by k_ne))
  refine forGo_list (fun b => @Eq Nat b a.gl ∨ ∃ y ∈ ys, @Eq Nat b y.td) (PropP B ma md cc k' a white tw x 202 ys p) R.handled F9 hcl ?clL ?clS ?SL ?SI ?P0 ?st ?turn ?done rfl rfl
  case clL => exact neL_list F9 hcl
  case clS =>
    rintro (e | ⟨y, hy, e⟩)
    · exact (newsOwn N9 (a := a.gl) (by k_mem)).ne_ll hcl (by omega) e.symm
    · exact ((hT y hy).d.ne_dl hcl) e.symm
  case SL =>
    rintro (e | ⟨y, hy, e⟩)
    · exact hLs h5 e.symm
    · exact hLs (hys y hy).1.d e.symm
  case SI =>
    rintro b (e | ⟨y, hy, e⟩)
    · cases e; exact newsLive N9 (by k_mem)
    · cases e; exact (hT y hy).d.live
  case P0 =>
    refine ⟨newsOwn N9 (by k_mem), newsOwn N9 (by k_mem), ⟨nm, ql, pm, ctv, oc, vs, tq, newsOwn N9 (by k_mem), newsOwn N9 (by k_mem), hd, hv⟩, fun y hy => hT y (List.mem_of_mem_drop hy), fun y hy => ?_, ⟨n + 1, ?_⟩, ⟨newsOwn N9 (by k_mem), newsOwn N9 (by k_mem)⟩⟩
    · simp at hy
    · rw [List.take_zero, List.map_nil, List.append_nil]; exact newsOwn N9 (by k_mem)
  case st =>
    intro i g g' hk hP
    refine hide fun P9 hP9 => ?_
    obtain ⟨p1, p2, p3, p4, p5, ⟨n', p6⟩, p7⟩ := hP
    refine hP9 ?_; clear hP9 P9
    exact ⟨p1.st hk (hLs h1) (newsLive N9 (by k_mem)), p2.st hk (hLs h2) (newsLive N9 (by k_mem)), p3.st hk (hLs h6) (hLs h7) (newsLive N9 (by k_mem)) (newsLive N9 (by k_mem)),
      fun y hy => (p4 y hy).st hk (hLs (hys y (List.mem_of_mem_drop hy)).1.o) (hLs (hys y (List.mem_of_mem_drop hy)).1.d) (hT y (List.mem_of_mem_drop hy)).o.live (hT y (List.mem_of_mem_drop hy)).d.live,
      fun y hy => (p5 y hy).imp fun t2 q => q.st hk (hLs (hys y (List.mem_of_mem_take hy)).1.o) (hLs (hys y (List.mem_of_mem_take hy)).1.d) (hT y (List.mem_of_mem_take hy)).o.live (hT y (List.mem_of_mem_take hy)).d.live,
      ⟨n', p6.st hk (hLs h5) (newsLive N9 (by k_mem))⟩, p7.st hk (hLs h3) (hLs h4) (newsLive N9 (by k_mem)) (newsLive N9 (by k_mem))⟩
  case turn =>
    intro i v g2 tk2 hv F2 U2 hO2 hP
    refine hide fun P9 hP9 => ?_
    obtain ⟨p1, p2, p3, p4, p5, ⟨n', p6⟩, p7⟩ := hP
    refine hP9 ?_; clear hP9 P9
    obtain ⟨y, hy, rfl⟩ : ∃ y, ys[i]? = some y ∧ v = y.ref := by
      simp only [List.getElem?_toArray, List.getElem?_map, Option.map_eq_some_iff] at hv
      refine hide fun P9 hP9 => ?_
      obtain ⟨y, a, b⟩ := hv
      refine hP9 ?_; clear hP9 P9
      exact ⟨y, a, b.symm⟩
    have hyd : ys.drop i = y :: ys.drop (i + 1) := by
      have hlt := (List.getElem?_eq_some_iff.mp hy).1
      rw [List.drop_eq_getElem_cons hlt]; congr 1; exact (List.getElem?_eq_some_iff.mp hy).2
    have hyt : ys.take (i + 1) = ys.take i ++ [y] := by rw [List.take_add_one, hy]; rfl
    have hym : y ∈ ys := List.mem_of_getElem? hy
    refine hide fun P9 hP9 => ?_
    obtain ⟨y1, y2, y3, y4, y5, y6, y7⟩ := hys y hym
    refine hP9 ?_; clear hP9 P9
    have y1' := (p4 y (hyd ▸ .head _)).o
    have N2 : News B L g2 [(ma, instObj 136 md), (md, dictOf (mksEs k' a white tw) 6)] := newsMk (.cons p1 (.cons p2 .nil)) (allC (hLs h1) (allC (hLs h2) (List.forall_mem_nil _)))
    clear N9 F9 hcl
    k_steps
    refine Con.call (markW_con W0 (Keep.of_fr F2) p1 p2 (p4 y (hyd ▸ .head _)).o (p4 y (hyd ▸ .head _)).d p6 p3 y3 y2 ?_) rfl (Room.deeper (R.le (by decide))) ?_
    · simp only [List.size_toArray, List.length_append, List.length_map, List.length_take]; omega
    rintro v3 g3 tk3 K3 U3 t9_5
    refine hide fun P9 hP9 => ?_
    rcases t9_5 with ⟨t2', n2, q1, q2⟩
    refine hP9 ?_; clear hP9 P9
    k_steps
    obtain ⟨y3_0_1, y3_0_2, y3_0_3, y3_0_4, y3_0_5, y3_0_6, y3_1_2, y3_1_3, y3_1_4, y3_1_5, y3_1_6, y3_2_3, y3_2_4, y3_2_5, y3_2_6, y3_3_4, y3_3_5, y3_3_6, y3_4_5, y3_4_6, y3_5_6⟩ := Nd.o7 y3
    refine ⟨rfl, g3, _, rfl, frStep F2 U3 (nos2 (hLs y1.d).symm (hLs h5).symm) (base2 y1.d.2 h5.2), U3.mono (fun b e _ => ?_), ?_⟩
    · rcases e with e | e
      · exact .inr ⟨y, hym, e⟩
      · exact .inl e
    · refine ⟨U3.own p1 (by ktr_rel), U3.own p2 (by ktr_rel), p3.upto U3 (by ktr_rel) (by ktr_rel), fun z hz => ?_, fun z hz => ?_, ⟨n2, ?_⟩, p7.upto U3 (by ktr_rel) (by ktr_rel)⟩
      · have hzm := List.mem_of_mem_drop hz
        refine hide fun P9 hP9 => ?_
        obtain ⟨z1, z2, z3, z4, z5, z6, z7⟩ := hys z hzm
        obtain ⟨z3_0_1, z3_0_2, z3_0_3, z3_0_4, z3_0_5, z3_0_6, z3_1_2, z3_1_3, z3_1_4, z3_1_5, z3_1_6, z3_2_3, z3_2_4, z3_2_5, z3_2_6, z3_3_4, z3_3_5, z3_3_6, z3_4_5, z3_4_6, z3_5_6⟩ := Nd.o7 z3
        refine hP9 ?_; clear hP9 P9
        have hzy : NeN z.td y.td := fun e => by
          have hnd' := hnd
          rw [← List.take_append_drop (i + 1) ys, List.map_append, hyt, List.map_append] at hnd'
          exact (List.nodup_append.1 hnd').2.2 y.td (by simp) z.td (List.mem_map_of_mem hz) e.symm
        exact (p4 z (hyd ▸ .tail _ hz)).upto U3 (nos2 (hdt z hzm y hym) (by k_ne)) (nos2 hzy (by k_ne))
      · rw [hyt] at hz
        rcases List.mem_append.1 hz with hz | hz
        · have hzm := List.mem_of_mem_take hz
          refine hide fun P9 hP9 => ?_
          obtain ⟨z1, z2, z3, z4, z5, z6, z7⟩ := hys z hzm
          obtain ⟨z3_0_1, z3_0_2, z3_0_3, z3_0_4, z3_0_5, z3_0_6, z3_1_2, z3_1_3, z3_1_4, z3_1_5, z3_1_6, z3_2_3, z3_2_4, z3_2_5, z3_2_6, z3_3_4, z3_3_5, z3_3_6, z3_4_5, z3_4_6, z3_5_6⟩ := Nd.o7 z3
          refine hP9 ?_; clear hP9 P9
          have hzy : NeN z.td y.td := fun e => by
            have hnd' := hnd
            rw [← List.take_append_drop i ys, List.map_append, hyd, List.map_cons] at hnd'
            exact (List.nodup_append.1 hnd').2.2 z.td (List.mem_map_of_mem hz) y.td (.head _) e
          obtain ⟨t2, q⟩ := p5 z hz
          exact ⟨t2, q.upto U3 (nos2 (hdt z hzm y hym) (by k_ne)) (nos2 hzy (by k_ne))⟩
        · cases List.mem_singleton.1 hz
          exact ⟨t2', U3.own y1' (nos2 (hdt y hym y hym) (by k_ne)), q1⟩
      · rw [hyt, List.map_append, ← List.append_assoc, List.map_cons, List.map_nil]
        rw [List.push_toArray] at q2; exact q2
  case done =>
    intro g5 tk5 u5 F5 U5 hP
    refine hide fun P9 hP9 => ?_
    obtain ⟨p1, p2, p3, p4, p5, ⟨n', p6⟩, p7⟩ := hP
    refine hP9 ?_; clear hP9 P9
    rw [List.size_toArray, List.length_map, List.take_length] at p5 p6
    have UB : Upto (gS x a.gl ys) h g5 := UA.trans U5 (fun b e => e.elim .inl fun e => .inr (.inl e)) (fun b e q => by
      refine hide fun P9 hP9 => ?_
      (rcases e with (e | e) | e) <;> (refine hP9 ?_; clear hP9 P9)
      · exact .inr (.inl e)
      · exact .inr (.inr e)
      · cases e; exact not_live (none_of_le hL) q)
    (try clear hR); (try clear N9); (try clear F9)
    have F9 := F5
    refine hide fun P9 hP9 => ?_
    obtain ⟨rest, hR, N9⟩ := refocus F9 (.cons p7.o (.cons p7.d .nil)) (allC ((hLs h3)) (allC ((hLs h4)) (List.forall_mem_nil _)))
    refine hP9 ?_; clear hP9 P9
    dsimp only [List.cons_append, List.nil_append] at N9
    change Rest B _ [L, x.t, x.td] rest at hR
    have hB9 := Keep.of_fr F9
    have hs0 := hR.off x.t (.tail _ (.head _))
    have hs1 := hR.off x.td (.tail _ (.tail _ (.head _)))
    k_steps
    have hmx : (if (x.mark 3 202).sz > 1 then (x.mark 3 202).sz else 1) = max 1 x.sz := by by_cases q : x.sz > 1 <;> simp [Th.mark, q] <;> omega
    rw [hmx]
    (with_reducible rename Fr _ _ _ _ => F9); (with_reducible rename News _ _ _ _ => N9)
    have U6 := hR.upto (S := orL is0 L) hB9 F9 N9 (by intro p hp; repeat (first | exact hp | apply List.Mem.tail)) (by
      refine allC (.inl ⟨.inr rfl, Fr.liveL F9⟩) (allC (?_) (allC (?_) (List.forall_mem_nil _)))
      · first | exact Or.inr ((newsOwn N9 (a := x.t) (by k_mem)).1.trans p7.o.1.symm) | exact Or.inl ⟨by first | exact rfl | exact Or.inl rfl | exact Or.inr rfl | exact Or.inr (Or.inl rfl) | exact Or.inr (Or.inr rfl) | exact Or.inr (Or.inr (Or.inr ⟨_, .head _, rfl⟩)) | exact Or.inr (Or.inr (Or.inl (by first | exact Mut.m0 _ | exact Mut.m1 _ | exact Mut.m2 _ | exact Mut.m3 _))), newsLive N9 (by k_mem)⟩
      · first | exact Or.inr ((newsOwn N9 (a := x.td) (by k_mem)).1.trans p7.d.1.symm) | exact Or.inl ⟨by first | exact rfl | exact Or.inl rfl | exact Or.inr rfl | exact Or.inr (Or.inl rfl) | exact Or.inr (Or.inr rfl) | exact Or.inr (Or.inr (Or.inr ⟨_, .head _, rfl⟩)) | exact Or.inr (Or.inr (Or.inl (by first | exact Mut.m0 _ | exact Mut.m1 _ | exact Mut.m2 _ | exact Mut.m3 _))), newsLive N9 (by k_mem)⟩)
    refine hQ _ _ (post _ _ _ (Keep.of_fr F9) (UB.trans U6 (fun _ e => e) (fun a e q => e.elim False.elim fun e => by cases e; exact not_live (none_of_le hL) q)) ?_)
    refine ⟨⟨_, rfl⟩, ⟨202, newsOwn N9 (by k_mem), newsOwn N9 (by k_mem)⟩, fun y hy => ?_, ⟨n', U6.own p6 (fun e => e.elim id fun e => hLs h5 e)⟩⟩
    obtain ⟨t2, q⟩ := p5 y hy
    exact ⟨t2, q.upto U6 (fun e => e.elim id fun e => hLs (hys y hy).1.o e) (fun e => e.elim id fun e => hLs (hys y hy).1.d e)⟩
end
section
set_option maxRecDepth 100000
open PySem PySem.W PySem.Calls PyProof.Rows
theorem reset_L6 : True := by
  w_top off
  trivial
variable {w : World} {B h : Heap}
def BegP (B : Heap) (x : Th) (gl : Addr) (i : Nat) (h : Heap) : Prop :=
  (i = 0 → ThAt B h x ∧ Own B h gl (listOf #[] 0)) ∧ (0 < i → ∃ t2 n', ThAt B h (x.mark 2 t2) ∧ Own B h gl (listOf #[x.ref] n'))
set_option maxHeartbeats 1000000 in
theorem begin_con (W : Wd w B) (hB : Keep B h) {ma md cc rl : Addr} {k' : Ky} {a : MkA} {white : Int} {tw : Tok} {x : Th} {n : Nat}
    (h1 : Own B h ma (instObj 136 md)) (h2 : Own B h md (dictOf (mksEs k' a white tw) 6)) (h3 : ThAt B h x) (h5 : Own B h rl (listOf #[.ref x.t] n))
    (h6 : LamAt B h soParams soBody soScope [] a.fso cc) (hm : x.mrk < 2)
    (hne : Nd [ma, md, x.t, x.td, rl, a.fso, cc]) :
    Con w B 6 77 [.ref ma, .ref rl] (is2 md x.td) h (fun _ h' => ∃ gl ga wk, Own B h' md (dictOf (mksEs k' { a with gl := gl, ga := ga, wk := wk } white tw) 6) ∧ (∃ t2, ThAt B h' (x.mark 2 t2)) ∧ (∃ n', Own B h' gl (listOf #[x.ref] n')) ∧ Own B h' ga (listOf #[] 0) ∧ Own B h' wk (listOf #[] 0) ∧
      h.get? gl = none ∧ h.get? ga = none ∧ h.get? wk = none ∧ Nd [gl, ga, wk]) := by
  refine hide fun P9 hP9 => ?_
  obtain ⟨hne_0_1, hne_0_2, hne_0_3, hne_0_4, hne_0_5, hne_0_6, hne_1_2, hne_1_3, hne_1_4, hne_1_5, hne_1_6, hne_2_3, hne_2_4, hne_2_5, hne_2_6, hne_3_4, hne_3_5, hne_3_6, hne_4_5, hne_4_6, hne_5_6⟩ := Nd.o7 hne
  obtain ⟨nm, ql, pm, ctv, oc, vs, tq, h6, h7, hd, hv'⟩ := h6
  obtain ⟨h3, h4⟩ := h3
  refine hP9 ?_; clear hP9 P9
  have W0 := W; (first | (have X9 : ∀ w9 : World, (Mine.hd.heap_39 w9.params).In default → PySem.Challenge.rw_rh0162_01 = PySem.Challenge.rw_rh0162_01 := by (k_fill; fail)) | skip)
  k_dflt (refine' Con.start [("self", .ref ma), ("roots", .ref rl)] W hB (.cons h1 (.cons h2 (.cons h3 (.cons h4 (.cons h5 (.cons h6 (.cons h7 .nil))))))) rfl ?ho ?hcd ?bind ?loc ?a ?b ?c ?d ?_; (case ho => k_is); (case hcd => k_is); (case bind => exact fun _ => BindsTo.of_eq rfl); (case loc => exact locs rfl); (case a => exact rfl); (case b => exact rfl); (case c => exact rfl); (case d => decide))
  intro p0 loose0 mean0 mg0 mb0 dp9 fr9 gd9 un9 s RR h₁ L rest tk Q' X T C R post hL F N hR hQ hQn; clear C
  dsimp only [List.cons_append, List.nil_append] at N
  change Rest B h [ma, md, x.t, x.td, rl, a.fso, cc] rest at hR
  have hr0 := hR.off ma (.head _)
  have hr1 := hR.off md (.tail _ (.head _))
  have hr2 := hR.off x.t (.tail _ (.tail _ (.head _)))
  have hr3 := hR.off x.td (.tail _ (.tail _ (.tail _ (.head _))))
  have hr4 := hR.off rl (.tail _ (.tail _ (.tail _ (.tail _ (.head _)))))
  have hr5 := hR.off a.fso (.tail _ (.tail _ (.tail _ (.tail _ (.tail _ (.head _))))))
  have hr6 := hR.off cc (.tail _ (.tail _ (.tail _ (.tail _ (.tail _ (.tail _ (.head _)))))))
  have hh := R.handled
  k_steps
  (with_reducible rename News _ _ _ _ => N9); (with_reducible rename Fr _ _ _ _ => F9)
  (with_reducible rename Fr _ _ _ _ => F9); (with_reducible rename News _ _ _ _ => N9)
  have hU0 := hR.upto (S := is0) hB F9 N9 (by intro p hp; repeat (first | exact hp | apply List.Mem.tail)) (by
    refine allC (?_) (allC (?_) (allC (?_) (allC (?_) (allC (?_) (allC (?_) (allC (?_) (List.forall_mem_nil _)))))))
    · first | exact Or.inr ((newsOwn N9 (a := ma) (by k_mem)).1.trans h1.1.symm) | exact Or.inl ⟨by first | exact rfl | exact Or.inl rfl | exact Or.inr rfl | exact Or.inr (Or.inl rfl) | exact Or.inr (Or.inr rfl) | exact Or.inr (Or.inr (Or.inr ⟨_, .head _, rfl⟩)) | exact Or.inr (Or.inr (Or.inl (by first | exact Mut.m0 _ | exact Mut.m1 _ | exact Mut.m2 _ | exact Mut.m3 _))), newsLive N9 (by k_mem)⟩
    · first | exact Or.inr ((newsOwn N9 (a := md) (by k_mem)).1.trans h2.1.symm) | exact Or.inl ⟨by first | exact rfl | exact Or.inl rfl | exact Or.inr rfl | exact Or.inr (Or.inl rfl) | exact Or.inr (Or.inr rfl) | exact Or.inr (Or.inr (Or.inr ⟨_, .head _, rfl⟩)) | exact Or.inr (Or.inr (Or.inl (by first | exact Mut.m0 _ | exact Mut.m1 _ | exact Mut.m2 _ | exact Mut.m3 _))), newsLive N9 (by k_mem)⟩
    · first | exact Or.inr ((newsOwn N9 (a := x.t) (by k_mem)).1.trans h3.1.symm) | exact Or.inl ⟨by first | exact rfl | exact Or.inl rfl | exact Or.inr rfl | exact Or.inr (Or.inl rfl) | exact Or.inr (Or.inr rfl) | exact Or.inr (Or.inr (Or.inr ⟨_, .head _, rfl⟩)) | exact Or.inr (Or.inr (Or.inl (by first | exact Mut.m0 _ | exact Mut.m1 _ | exact Mut.m2 _ | exact Mut.m3 _))), newsLive N9 (by k_mem)⟩
    · first | exact Or.inr ((newsOwn N9 (a := x.td) (by k_mem)).1.trans h4.1.symm) | exact Or.inl ⟨by first | exact rfl | exact Or.inl rfl | exact Or.inr rfl | exact Or.inr (Or.inl rfl) | exact Or.inr (Or.inr rfl) | exact Or.inr (Or.inr (Or.inr ⟨_, .head _, rfl⟩)) | exact Or.inr (Or.inr (Or.inl (by first | exact Mut.m0 _ | exact Mut.m1 _ | exact Mut.m2 _ | exact Mut.m3 _))), newsLive N9 (by k_mem)⟩
    · first | exact Or.inr ((newsOwn N9 (a := rl) (by k_mem)).1.trans h5.1.symm) | exact Or.inl ⟨by first | exact rfl | exact Or.inl rfl | exact Or.inr rfl | exact Or.inr (Or.inl rfl) | exact Or.inr (Or.inr rfl) | exact Or.inr (Or.inr (Or.inr ⟨_, .head _, rfl⟩)) | exact Or.inr (Or.inr (Or.inl (by first | exact Mut.m0 _ | exact Mut.m1 _ | exact Mut.m2 _ | exact Mut.m3 _))), newsLive N9 (by k_mem)⟩
    · first | exact Or.inr ((newsOwn N9 (a := a.fso) (by k_mem)).1.trans h6.1.symm) | exact Or.inl ⟨by first | exact rfl | exact Or.inl rfl | exact Or.inr rfl | exact Or.inr (Or.inl rfl) | exact Or.inr (Or.inr rfl) | exact Or.inr (Or.inr (Or.inr ⟨_, .head _, rfl⟩)) | exact Or.inr (Or.inr (Or.inl (by first | exact Mut.m0 _ | exact Mut.m1 _ | exact Mut.m2 _ | exact Mut.m3 _))), newsLive N9 (by k_mem)⟩
    · first | exact Or.inr ((newsOwn N9 (a := cc) (by k_mem)).1.trans h7.1.symm) | exact Or.inl ⟨by first | exact rfl | exact Or.inl rfl | exact Or.inr rfl | exact Or.inr (Or.inl rfl) | exact Or.inr (Or.inr rfl) | exact Or.inr (Or.inr (Or.inr ⟨_, .head _, rfl⟩)) | exact Or.inr (Or.inr (Or.inl (by first | exact Mut.m0 _ | exact Mut.m1 _ | exact Mut.m2 _ | exact Mut.m3 _))), newsLive N9 (by k_mem)⟩)
  (with_reducible rename Fr _ _ _ _ => F9); (with_reducible rename News _ _ _ _ => N9)
  refine Con.call (forget_con W0 (Keep.of_fr F9) (newsOwn N9 (by k_mem)) (newsOwn N9 (by k_mem)) (by assumption)) rfl (Room.deeper (R.le (by decide))) ?_
  rintro v9 H9 tk9 K9 U9 t9_5
  refine hide fun P9 hP9 => ?_
  rcases t9_5 with ⟨gl, ga, wk, c1, c2, c3, c4, c5, c6, c7, c8⟩
  refine hP9 ?_; clear hP9 P9
  have N8 : News B L H9 ((gl, listOf #[] 0) :: (ga, listOf #[] 0) :: (wk, listOf #[] 0) :: (ma, instObj 136 md) :: (md, dictOf (mksEs k' { a with gl := gl, ga := ga, wk := wk } white tw) 6) :: (x.t, instObj 367 x.td) :: (x.td, dictOf (thEs x.k x.num x.mrk x.sz x.t1 x.t2 x.t3) 3) :: (rl, listOf #[.ref x.t] n) :: (a.fso, kla_obj nm ql soParams soBody soScope [] pm cc ctv) :: (cc, oc) :: rest) := by
    refine newsStep N9 U9 (allC (?_) (allC (?_) (allC (?_) (allC (?_) (allC (?_) (allC (?_) (allC (?_) (allC (?_) (allC (?_) (allC (?_) (fun p hp => .inl ⟨?_, ?_⟩)))))))))))
    · first | exact .inl ⟨by k_mem, by ktr_rel⟩ | exact .inr ⟨by assumption, newsNeL N9 (by k_mem)⟩ | exact .inr ⟨by assumption, neL_of_new F9 (by assumption)⟩
    · first | exact .inl ⟨by k_mem, by ktr_rel⟩ | exact .inr ⟨by assumption, newsNeL N9 (by k_mem)⟩ | exact .inr ⟨by assumption, neL_of_new F9 (by assumption)⟩
    · first | exact .inl ⟨by k_mem, by ktr_rel⟩ | exact .inr ⟨by assumption, newsNeL N9 (by k_mem)⟩ | exact .inr ⟨by assumption, neL_of_new F9 (by assumption)⟩
    · first | exact .inl ⟨by k_mem, by ktr_rel⟩ | exact .inr ⟨by assumption, newsNeL N9 (by k_mem)⟩ | exact .inr ⟨by assumption, neL_of_new F9 (by assumption)⟩
    · first | exact .inl ⟨by k_mem, by ktr_rel⟩ | exact .inr ⟨by assumption, newsNeL N9 (by k_mem)⟩ | exact .inr ⟨by assumption, neL_of_new F9 (by assumption)⟩
    · first | exact .inl ⟨by k_mem, by ktr_rel⟩ | exact .inr ⟨by assumption, newsNeL N9 (by k_mem)⟩ | exact .inr ⟨by assumption, neL_of_new F9 (by assumption)⟩
    · first | exact .inl ⟨by k_mem, by ktr_rel⟩ | exact .inr ⟨by assumption, newsNeL N9 (by k_mem)⟩ | exact .inr ⟨by assumption, neL_of_new F9 (by assumption)⟩
    · first | exact .inl ⟨by k_mem, by ktr_rel⟩ | exact .inr ⟨by assumption, newsNeL N9 (by k_mem)⟩ | exact .inr ⟨by assumption, neL_of_new F9 (by assumption)⟩
    · first | exact .inl ⟨by k_mem, by ktr_rel⟩ | exact .inr ⟨by assumption, newsNeL N9 (by k_mem)⟩ | exact .inr ⟨by assumption, neL_of_new F9 (by assumption)⟩
    · first | exact .inl ⟨by k_mem, by ktr_rel⟩ | exact .inr ⟨by assumption, newsNeL N9 (by k_mem)⟩ | exact .inr ⟨by assumption, neL_of_new F9 (by assumption)⟩
    · repeat (first | exact hp | apply List.Mem.tail)
    · exact nosr1 (by k_all) p hp
  have F8 := frStep F9 U9 (nos1 (newsNeL N9 (by k_mem)).symm) (base1 (newsOwn N9 (by k_mem)).2)
  clear F9 N9; have F9 := F8; have N9 := N8; clear F8 N8
  dsimp only
  k_steps
  (with_reducible rename Fr _ _ _ _ => F9); (with_reducible rename News _ _ _ _ => N9)
  have UA := hR.upto (S := is1 md) hB F9 N9 (by intro p hp; repeat (first | exact hp | apply List.Mem.tail)) (by
    refine allC (?_) (allC (?_) (allC (?_) (allC (?_) (allC (?_) (allC (?_) (allC (?_) (List.forall_mem_nil _)))))))
    · first | exact Or.inr ((newsOwn N9 (a := ma) (by k_mem)).1.trans h1.1.symm) | exact Or.inl ⟨by first | exact rfl | exact Or.inl rfl | exact Or.inr rfl | exact Or.inr (Or.inl rfl) | exact Or.inr (Or.inr rfl) | exact Or.inr (Or.inr (Or.inr ⟨_, .head _, rfl⟩)) | exact Or.inr (Or.inr (Or.inl (by first | exact Mut.m0 _ | exact Mut.m1 _ | exact Mut.m2 _ | exact Mut.m3 _))), newsLive N9 (by k_mem)⟩
    · first | exact Or.inr ((newsOwn N9 (a := md) (by k_mem)).1.trans h2.1.symm) | exact Or.inl ⟨by first | exact rfl | exact Or.inl rfl | exact Or.inr rfl | exact Or.inr (Or.inl rfl) | exact Or.inr (Or.inr rfl) | exact Or.inr (Or.inr (Or.inr ⟨_, .head _, rfl⟩)) | exact Or.inr (Or.inr (Or.inl (by first | exact Mut.m0 _ | exact Mut.m1 _ | exact Mut.m2 _ | exact Mut.m3 _))), newsLive N9 (by k_mem)⟩
    · first | exact Or.inr ((newsOwn N9 (a := x.t) (by k_mem)).1.trans h3.1.symm) | exact Or.inl ⟨by first | exact rfl | exact Or.inl rfl | exact Or.inr rfl | exact Or.inr (Or.inl rfl) | exact Or.inr (Or.inr rfl) | exact Or.inr (Or.inr (Or.inr ⟨_, .head _, rfl⟩)) | exact Or.inr (Or.inr (Or.inl (by first | exact Mut.m0 _ | exact Mut.m1 _ | exact Mut.m2 _ | exact Mut.m3 _))), newsLive N9 (by k_mem)⟩
    · first | exact Or.inr ((newsOwn N9 (a := x.td) (by k_mem)).1.trans h4.1.symm) | exact Or.inl ⟨by first | exact rfl | exact Or.inl rfl | exact Or.inr rfl | exact Or.inr (Or.inl rfl) | exact Or.inr (Or.inr rfl) | exact Or.inr (Or.inr (Or.inr ⟨_, .head _, rfl⟩)) | exact Or.inr (Or.inr (Or.inl (by first | exact Mut.m0 _ | exact Mut.m1 _ | exact Mut.m2 _ | exact Mut.m3 _))), newsLive N9 (by k_mem)⟩
    · first | exact Or.inr ((newsOwn N9 (a := rl) (by k_mem)).1.trans h5.1.symm) | exact Or.inl ⟨by first | exact rfl | exact Or.inl rfl | exact Or.inr rfl | exact Or.inr (Or.inl rfl) | exact Or.inr (Or.inr rfl) | exact Or.inr (Or.inr (Or.inr ⟨_, .head _, rfl⟩)) | exact Or.inr (Or.inr (Or.inl (by first | exact Mut.m0 _ | exact Mut.m1 _ | exact Mut.m2 _ | exact Mut.m3 _))), newsLive N9 (by k_mem)⟩
    · first | exact Or.inr ((newsOwn N9 (a := a.fso) (by k_mem)).1.trans h6.1.symm) | exact Or.inl ⟨by first | exact rfl | exact Or.inl rfl | exact Or.inr rfl | exact Or.inr (Or.inl rfl) | exact Or.inr (Or.inr rfl) | exact Or.inr (Or.inr (Or.inr ⟨_, .head _, rfl⟩)) | exact Or.inr (Or.inr (Or.inl (by first | exact Mut.m0 _ | exact Mut.m1 _ | exact Mut.m2 _ | exact Mut.m3 _))), newsLive N9 (by k_mem)⟩
    · first | exact Or.inr ((newsOwn N9 (a := cc) (by k_mem)).1.trans h7.1.symm) | exact Or.inl ⟨by first | exact rfl | exact Or.inl rfl | exact Or.inr rfl | exact Or.inr (Or.inl rfl) | exact Or.inr (Or.inr rfl) | exact Or.inr (Or.inr (Or.inr ⟨_, .head _, rfl⟩)) | exact Or.inr (Or.inr (Or.inl (by first | exact Mut.m0 _ | exact Mut.m1 _ | exact Mut.m2 _ | exact Mut.m3 _))), newsLive N9 (by k_mem)⟩)
  have hLs : ∀ {b : Addr} {o : Obj}, Own B h b o → NeN b L := fun q => q.lt hL
  have fgl := hU0.dead c5
  have fga := hU0.dead c6
  have fwk := hU0.dead c7
  have Ngl := newsOwn N9 (a := gl) (by k_mem)
  refine forGo_list (is2 x.td gl) (BegP B x gl) R.handled F9 (newsOwn N9 (a := rl) (by k_mem)) (hLs h5) (nos2 (by k_ne) (h5.ne_fresh fgl)) (nos2 (hLs h4).symm (neL_list F9 Ngl).symm) ?SI ?P0 ?st ?turn ?done rfl rfl
  case SI =>
    rintro b (e | e)
    · cases e; exact newsLive N9 (by k_mem)
    · cases e; exact newsLive N9 (by k_mem)
  case P0 => exact ⟨fun _ => ⟨⟨newsOwn N9 (by k_mem), newsOwn N9 (by k_mem)⟩, Ngl⟩, fun e => absurd e (Nat.lt_irrefl _)⟩
  case st =>
    intro i g g' hk hP
    refine ⟨fun e => ?_, fun e => ?_⟩
    · obtain ⟨p1, p2⟩ := hP.1 e
      exact ⟨p1.st hk (hLs h3) (hLs h4) (newsLive N9 (by k_mem)) (newsLive N9 (by k_mem)), p2.st hk (neL_list F9 Ngl) Ngl.live⟩
    · refine hide fun P9 hP9 => ?_
      obtain ⟨t2, n', p1, p2⟩ := hP.2 e
      refine hP9 ?_; clear hP9 P9
      exact ⟨t2, n', p1.st hk (hLs h3) (hLs h4) (newsLive N9 (by k_mem)) (newsLive N9 (by k_mem)), p2.st hk (neL_list F9 Ngl) Ngl.live⟩
  case turn =>
    intro i v q2 tk2 hv F2 U2 hO2 hP
    have hi : i = 0 := by
      have := (Array.getElem?_eq_some_iff.mp hv).1
      simp at this; exact this
    subst hi
    refine hide fun P9 hP9 => ?_
    obtain ⟨⟨p1, p2⟩, p3⟩ := hP.1 rfl
    refine hP9 ?_; clear hP9 P9
    simp at hv; subst hv
    have o1 : Own B q2 ma (instObj 136 md) := U2.own (newsOwn N9 (by k_mem)) (fun e => e.elim (nos2 (by k_ne) (h1.ne_fresh fgl)) fun e => hLs h1 e)
    have o2 : Own B q2 md (dictOf (mksEs k' { a with gl := gl, ga := ga, wk := wk } white tw) 6) := U2.own (newsOwn N9 (by k_mem)) (fun e => e.elim (nos2 (by k_ne) (h2.ne_fresh fgl)) fun e => hLs h2 e)
    have o3 : LamAt B q2 soParams soBody soScope [] a.fso cc := ⟨nm, ql, pm, ctv, oc, vs, tq, U2.own (newsOwn N9 (by k_mem)) (fun e => e.elim (nos2 (by k_ne) (h6.ne_fresh fgl)) fun e => hLs h6 e), U2.own (newsOwn N9 (by k_mem)) (fun e => e.elim (nos2 (by k_ne) (h7.ne_fresh fgl)) fun e => hLs h7 e), hd, hv'⟩
    have N2 : News B L q2 [(ma, instObj 136 md), (md, dictOf (mksEs k' { a with gl := gl, ga := ga, wk := wk } white tw) 6)] := newsMk (.cons o1 (.cons o2 .nil)) (allC (hLs h1) (allC (hLs h2) (List.forall_mem_nil _)))
    clear N9 F9
    have e1 := h1.ne_fresh fgl; have e2 := h2.ne_fresh fgl; have e3 := h3.ne_fresh fgl; have e4 := h4.ne_fresh fgl; have e6 := h6.ne_fresh fgl; have e7 := h7.ne_fresh fgl
    k_steps
    refine Con.call (markW_con W0 (Keep.of_fr F2) o1 o2 p1 p2 p3 o3 (by (first | refine Nd.m3 ?_ | refine Nd.m4 ?_ | refine Nd.m5 ?_ | refine Nd.m6 ?_ | refine Nd.m7 ?_ | refine Nd.m8 ?_ | refine Nd.m11 ?_) <;> constructor <;> first | assumption | (refine NeN.symm ?_; assumption)) hm (by simp)) rfl (Room.deeper (R.le (by decide))) ?_
    rintro v3 q3 tk3 K3 U3 t9_5
    refine hide fun P9 hP9 => ?_
    rcases t9_5 with ⟨t2', n2, r1, r2⟩
    refine hP9 ?_; clear hP9 P9
    k_steps
    refine ⟨rfl, q3, _, rfl, frStep F2 U3 (nos2 (hLs h4).symm (neL_list F2 p3).symm) (base2 h4.2 Ngl.2), U3, ⟨fun e => absurd e (by decide), fun _ => ⟨t2', n2, ⟨U3.own p1 (by ktr_rel), r1⟩, by simpa using r2⟩⟩⟩
  case done =>
    intro g5 tk5 u5 F5 U5 hP
    refine hide fun P9 hP9 => ?_
    obtain ⟨t2, n', p1, p2⟩ := hP.2 (by simp)
    refine hP9 ?_; clear hP9 P9
    k_steps
    refine hQn _ (post _ _ _ (Keep.of_fr F5) (UA.trans U5 (fun b e => .inl e) fun b e q => ?_) ⟨gl, ga, wk, ?_, ⟨t2, p1⟩, ⟨n', p2⟩, ?_, ?_, fgl, fga, fwk, c8⟩)
    · refine hide fun P9 hP9 => ?_
      (rcases e with (e | e) | e) <;> (refine hP9 ?_; clear hP9 P9)
      · exact .inr e
      · cases e; exact not_live fgl q
      · cases e; exact not_live (none_of_le hL) q
    · exact U5.own (newsOwn N9 (by k_mem)) (fun e => e.elim (nos2 (by k_ne) (h2.ne_fresh fgl)) fun e => hLs h2 e)
    · skip
      obtain ⟨c8_0_1, c8_0_2, c8_1_2⟩ := Nd.o3 c8
      exact U5.own (newsOwn N9 (by k_mem)) (fun e => e.elim (nos2 (h4.ne_fresh fga).symm (by k_ne)) fun e => neL_list F9 (newsOwn N9 (a := ga) (by k_mem)) e)
    · skip
      obtain ⟨c8_0_1, c8_0_2, c8_1_2⟩ := Nd.o3 c8
      exact U5.own (newsOwn N9 (by k_mem)) (fun e => e.elim (nos2 (h4.ne_fresh fwk).symm (by k_ne)) fun e => neL_list F9 (newsOwn N9 (a := wk) (by k_mem)) e)
end
section
set_option maxRecDepth 100000
open PySem PySem.W PySem.Calls PyProof.Rows
theorem reset_L7 : True := by
  w_top off
  trivial
variable {w : World} {B h : Heap}
set_option maxHeartbeats 1000000 in
theorem propAll_con (W : Wd w B) (hB : Keep B h) {ma md : Addr} {k' : Ky} {a : MkA} {white : Int} {tw : Tok} {n : Nat}
    (h1 : Own B h ma (instObj 136 md)) (h2 : Own B h md (dictOf (mksEs k' a white tw) 6)) (h3 : Own B h a.gl (listOf #[] n)) (hne : Nd [ma, md, a.gl]) :
    Con w B 2 98 [.ref ma] is0 h (fun _ _ => True) := by
  obtain ⟨hne_0_1, hne_0_2, hne_1_2⟩ := Nd.o3 hne
  have W0 := W; (first | (have X9 : ∀ w9 : World, (Mine.hd.heap_39 w9.params).In default → PySem.Challenge.rw_rh0162_01 = PySem.Challenge.rw_rh0162_01 := by (k_fill; fail)) | skip)
  k_dflt (refine' Con.start [("self", .ref ma)] W hB (.cons h1 (.cons h2 (.cons h3 .nil))) rfl ?ho ?hcd ?bind ?loc ?a ?b ?c ?d ?_; (case ho => k_is); (case hcd => k_is); (case bind => exact fun _ => BindsTo.of_eq rfl); (case loc => exact locs rfl); (case a => exact rfl); (case b => exact rfl); (case c => exact rfl); (case d => decide))
  intro p0 loose0 mean0 mg0 mb0 dp9 fr9 gd9 un9 s RR h₁ L rest tk Q' X T C R post hL F N hR hQ hQn; clear C
  dsimp only [List.cons_append, List.nil_append] at N
  change Rest B h [ma, md, a.gl] rest at hR
  have hr0 := hR.off ma (.head _)
  have hr1 := hR.off md (.tail _ (.head _))
  have hr2 := hR.off a.gl (.tail _ (.tail _ (.head _)))
  have hh := R.handled
  k_steps
  (with_reducible rename Fr _ _ _ _ => F9); (with_reducible rename News _ _ _ _ => N9)
  refine whileGo_inv (fun _ s' => s' = _) ?_ 0 rfl
  rintro _ _ rfl
  k_steps
  (with_reducible rename Fr _ _ _ _ => F9); (with_reducible rename News _ _ _ _ => N9)
  refine hQ _ _ (post _ _ _ (Keep.of_fr F9) (hR.upto hB F9 N9 (by intro p hp; repeat (first | exact hp | apply List.Mem.tail)) ?_) ?_)
  · refine allC (?_) (allC (?_) (allC (?_) (List.forall_mem_nil _)))
    · first | exact Or.inr ((newsOwn N9 (a := ma) (by k_mem)).1.trans h1.1.symm) | exact Or.inl ⟨by first | exact rfl | exact Or.inl rfl | exact Or.inr rfl | exact Or.inr (Or.inl rfl) | exact Or.inr (Or.inr rfl) | exact Or.inr (Or.inr (Or.inr ⟨_, .head _, rfl⟩)) | exact Or.inr (Or.inr (Or.inl (by first | exact Mut.m0 _ | exact Mut.m1 _ | exact Mut.m2 _ | exact Mut.m3 _))), newsLive N9 (by k_mem)⟩
    · first | exact Or.inr ((newsOwn N9 (a := md) (by k_mem)).1.trans h2.1.symm) | exact Or.inl ⟨by first | exact rfl | exact Or.inl rfl | exact Or.inr rfl | exact Or.inr (Or.inl rfl) | exact Or.inr (Or.inr rfl) | exact Or.inr (Or.inr (Or.inr ⟨_, .head _, rfl⟩)) | exact Or.inr (Or.inr (Or.inl (by first | exact Mut.m0 _ | exact Mut.m1 _ | exact Mut.m2 _ | exact Mut.m3 _))), newsLive N9 (by k_mem)⟩
    · first | exact Or.inr ((newsOwn N9 (a := a.gl) (by k_mem)).1.trans h3.1.symm) | exact Or.inl ⟨by first | exact rfl | exact Or.inl rfl | exact Or.inr rfl | exact Or.inr (Or.inl rfl) | exact Or.inr (Or.inr rfl) | exact Or.inr (Or.inr (Or.inr ⟨_, .head _, rfl⟩)) | exact Or.inr (Or.inr (Or.inl (by first | exact Mut.m0 _ | exact Mut.m1 _ | exact Mut.m2 _ | exact Mut.m3 _))), newsLive N9 (by k_mem)⟩
  · exact trivial
set_option maxHeartbeats 1000000 in
theorem finish_con (W : Wd w B) (hB : Keep B h) {ma md rl : Addr} {k' : Ky} {a : MkA} {white : Int} {tw : Tok} {x : Th} {n n1 n2 n3 : Nat}
    (h1 : Own B h ma (instObj 136 md)) (h2 : Own B h md (dictOf (mksEs k' a white tw) 6)) (h3 : ThAt B h x) (h5 : Own B h rl (listOf #[.ref x.t] n))
    (h6 : Own B h a.gl (listOf #[] n1)) (h7 : Own B h a.ga (listOf #[] n2)) (h8 : Own B h a.wk (listOf #[] n3)) (hm : 2 ≤ x.mrk)
    (hne : Nd [ma, md, x.t, x.td, rl, a.gl, a.ga, a.wk]) :
    Con w B 6 105 [.ref ma, .ref rl] (is1 md) h (fun _ h' => ∃ g1 g2, Own B h' md (dictOf (mksEs k' { a with gl := a.ga, ga := g2, wk := g1 } white tw) 6) ∧ Own B h' g1 (listOf #[] 0) ∧ Own B h' g2 (listOf #[] 0) ∧
      h.get? g1 = none ∧ h.get? g2 = none ∧ NeN g1 g2) := by
  refine hide fun P9 hP9 => ?_
  obtain ⟨hne_0_1, hne_0_2, hne_0_3, hne_0_4, hne_0_5, hne_0_6, hne_0_7, hne_1_2, hne_1_3, hne_1_4, hne_1_5, hne_1_6, hne_1_7, hne_2_3, hne_2_4, hne_2_5, hne_2_6, hne_2_7, hne_3_4, hne_3_5, hne_3_6, hne_3_7, hne_4_5, hne_4_6, hne_4_7, hne_5_6, hne_5_7, hne_6_7⟩ := Nd.o8 hne
  obtain ⟨h3, h4⟩ := h3
  refine hP9 ?_; clear hP9 P9
  have W0 := W; (first | (have X9 : ∀ w9 : World, (Mine.hd.heap_39 w9.params).In default → PySem.Challenge.rw_rh0162_01 = PySem.Challenge.rw_rh0162_01 := by (k_fill; fail)) | skip)
  k_dflt (refine' Con.start [("self", .ref ma), ("late", .ref rl)] W hB (.cons h1 (.cons h2 (.cons h3 (.cons h4 (.cons h5 (.cons h6 (.cons h7 (.cons h8 .nil)))))))) rfl ?ho ?hcd ?bind ?loc ?a ?b ?c ?d ?_; (case ho => k_is); (case hcd => k_is); (case bind => exact fun _ => BindsTo.of_eq rfl); (case loc => exact locs rfl); (case a => exact rfl); (case b => exact rfl); (case c => exact rfl); (case d => decide))
  intro p0 loose0 mean0 mg0 mb0 dp9 fr9 gd9 un9 s RR h₁ L rest tk Q' X T C R post hL F N hR hQ hQn; clear C
  dsimp only [List.cons_append, List.nil_append] at N
  change Rest B h [ma, md, x.t, x.td, rl, a.gl, a.ga, a.wk] rest at hR
  have hr0 := hR.off ma (.head _)
  have hr1 := hR.off md (.tail _ (.head _))
  have hr2 := hR.off x.t (.tail _ (.tail _ (.head _)))
  have hr3 := hR.off x.td (.tail _ (.tail _ (.tail _ (.head _))))
  have hr4 := hR.off rl (.tail _ (.tail _ (.tail _ (.tail _ (.head _)))))
  have hr5 := hR.off a.gl (.tail _ (.tail _ (.tail _ (.tail _ (.tail _ (.head _))))))
  have hr6 := hR.off a.ga (.tail _ (.tail _ (.tail _ (.tail _ (.tail _ (.tail _ (.head _)))))))
  have hr7 := hR.off a.wk (.tail _ (.tail _ (.tail _ (.tail _ (.tail _ (.tail _ (.tail _ (.head _))))))))
  have hh := R.handled
  k_steps
  (with_reducible rename Fr _ _ _ _ => F9); (with_reducible rename News _ _ _ _ => N9)
  refine Con.call (propAll_con W0 (Keep.of_fr F9) (newsOwn N9 (by k_mem)) (newsOwn N9 (by k_mem)) (newsOwn N9 (by k_mem)) (by (first | refine Nd.m3 ?_ | refine Nd.m4 ?_ | refine Nd.m5 ?_ | refine Nd.m6 ?_ | refine Nd.m7 ?_ | refine Nd.m8 ?_ | refine Nd.m11 ?_) <;> constructor <;> first | assumption | (refine NeN.symm ?_; assumption))) rfl (Room.deeper (R.le (by decide))) ?_
  intro v9 H9 tk9 K9 U9 _
  replace N9 := newsKeep N9 U9 (fun _ _ x => x)
  replace F9 := frStep F9 U9 (fun x => x) base0
  dsimp only
  k_steps
  (with_reducible rename Fr _ _ _ _ => F9); (with_reducible rename News _ _ _ _ => N9)
  rename_i _ w1 _ m1 D1 _ m2 _ _ _
  refine forGo_list is0 (fun _ _ => True) R.handled F9 (newsOwn N9 (a := rl) (by k_mem)) (newsNeL N9 (a := rl) (by k_mem)) id id (fun _ e => e.elim) trivial (fun _ _ _ _ _ => trivial) ?turn ?done rfl rfl
  case turn =>
    intro i v q2 tk2 hv F2 U2 hO2 _
    have hi : i = 0 := by
      have := (Array.getElem?_eq_some_iff.mp hv).1
      simp at this; exact this
    subst hi
    simp at hv; subst hv
    have N2 := newsKeepL N9 U2
    clear N9 F9
    k_steps
    (with_reducible rename Fr _ _ _ _ => F9); (with_reducible rename News _ _ _ _ => N9)
    refine Con.call (markB_con (a := { a with gl := a.wk, wk := w1 }) W0 (Keep.of_fr F9) (newsOwn N9 (by k_mem)) (newsOwn N9 (by k_mem)) (newsOwn N9 (by k_mem)) (newsOwn N9 (by k_mem)) (by (first | refine Nd.m3 ?_ | refine Nd.m4 ?_ | refine Nd.m5 ?_ | refine Nd.m6 ?_ | refine Nd.m7 ?_ | refine Nd.m8 ?_ | refine Nd.m11 ?_) <;> constructor <;> first | assumption | (refine NeN.symm ?_; assumption)) hm) rfl (Room.deeper (R.le (by decide))) ?_
    intro v9 H9 tk9 K9 U9 _
    replace N9 := newsKeep N9 U9 (fun _ _ x => x)
    replace F9 := frStep F9 U9 (fun x => x) base0
    dsimp only
    k_steps
    exact ⟨rfl, _, _, rfl, F9, U9, trivial⟩
  case done =>
    intro g5 tk5 u5 F5 U5 _
    have N5 := newsKeepL N9 U5
    clear N9 F9
    k_steps
    (with_reducible rename Fr _ _ _ _ => F9); (with_reducible rename News _ _ _ _ => N9)
    refine Con.call (propAll_con (a := { a with gl := a.wk, wk := w1 }) W0 (Keep.of_fr F9) (newsOwn N9 (by k_mem)) (newsOwn N9 (by k_mem)) (newsOwn N9 (a := a.wk) (by k_mem)) (by (first | refine Nd.m3 ?_ | refine Nd.m4 ?_ | refine Nd.m5 ?_ | refine Nd.m6 ?_ | refine Nd.m7 ?_ | refine Nd.m8 ?_ | refine Nd.m11 ?_) <;> constructor <;> first | assumption | (refine NeN.symm ?_; assumption))) rfl (Room.deeper (R.le (by decide))) ?_
    intro v9 H9 tk9 K9 U9 _
    replace N9 := newsKeep N9 U9 (fun _ _ x => x)
    replace F9 := frStep F9 U9 (fun x => x) base0
    dsimp only
    k_steps
    (with_reducible rename Fr _ _ _ _ => F9); (with_reducible rename News _ _ _ _ => N9)
    rename_i w2 _ m3 D2 _ m4 _ _ _
    (with_reducible rename Fr _ _ _ _ => F9); (with_reducible rename News _ _ _ _ => N9)
    refine Con.call (propAll_con (a := { a with gl := a.ga, ga := w2, wk := w1 }) W0 (Keep.of_fr F9) (newsOwn N9 (by k_mem)) (newsOwn N9 (by k_mem)) (newsOwn N9 (a := a.ga) (by k_mem)) (by (first | refine Nd.m3 ?_ | refine Nd.m4 ?_ | refine Nd.m5 ?_ | refine Nd.m6 ?_ | refine Nd.m7 ?_ | refine Nd.m8 ?_ | refine Nd.m11 ?_) <;> constructor <;> first | assumption | (refine NeN.symm ?_; assumption))) rfl (Room.deeper (R.le (by decide))) ?_
    intro v9 H9 tk9 K9 U9 _
    replace N9 := newsKeep N9 U9 (fun _ _ x => x)
    replace F9 := frStep F9 U9 (fun x => x) base0
    dsimp only
    k_steps
    (with_reducible rename Fr _ _ _ _ => F9); (with_reducible rename News _ _ _ _ => N9)
    refine hQn _ (post _ _ _ (Keep.of_fr F9) (hR.upto hB F9 N9 (by intro p hp; repeat (first | exact hp | apply List.Mem.tail)) ?_) ?_)
    · refine allC (?_) (allC (?_) (allC (?_) (allC (?_) (allC (?_) (allC (?_) (allC (?_) (allC (?_) (List.forall_mem_nil _))))))))
      · first | exact Or.inr ((newsOwn N9 (a := ma) (by k_mem)).1.trans h1.1.symm) | exact Or.inl ⟨by first | exact rfl | exact Or.inl rfl | exact Or.inr rfl | exact Or.inr (Or.inl rfl) | exact Or.inr (Or.inr rfl) | exact Or.inr (Or.inr (Or.inr ⟨_, .head _, rfl⟩)) | exact Or.inr (Or.inr (Or.inl (by first | exact Mut.m0 _ | exact Mut.m1 _ | exact Mut.m2 _ | exact Mut.m3 _))), newsLive N9 (by k_mem)⟩
      · first | exact Or.inr ((newsOwn N9 (a := md) (by k_mem)).1.trans h2.1.symm) | exact Or.inl ⟨by first | exact rfl | exact Or.inl rfl | exact Or.inr rfl | exact Or.inr (Or.inl rfl) | exact Or.inr (Or.inr rfl) | exact Or.inr (Or.inr (Or.inr ⟨_, .head _, rfl⟩)) | exact Or.inr (Or.inr (Or.inl (by first | exact Mut.m0 _ | exact Mut.m1 _ | exact Mut.m2 _ | exact Mut.m3 _))), newsLive N9 (by k_mem)⟩
      · first | exact Or.inr ((newsOwn N9 (a := x.t) (by k_mem)).1.trans h3.1.symm) | exact Or.inl ⟨by first | exact rfl | exact Or.inl rfl | exact Or.inr rfl | exact Or.inr (Or.inl rfl) | exact Or.inr (Or.inr rfl) | exact Or.inr (Or.inr (Or.inr ⟨_, .head _, rfl⟩)) | exact Or.inr (Or.inr (Or.inl (by first | exact Mut.m0 _ | exact Mut.m1 _ | exact Mut.m2 _ | exact Mut.m3 _))), newsLive N9 (by k_mem)⟩
      · first | exact Or.inr ((newsOwn N9 (a := x.td) (by k_mem)).1.trans h4.1.symm) | exact Or.inl ⟨by first | exact rfl | exact Or.inl rfl | exact Or.inr rfl | exact Or.inr (Or.inl rfl) | exact Or.inr (Or.inr rfl) | exact Or.inr (Or.inr (Or.inr ⟨_, .head _, rfl⟩)) | exact Or.inr (Or.inr (Or.inl (by first | exact Mut.m0 _ | exact Mut.m1 _ | exact Mut.m2 _ | exact Mut.m3 _))), newsLive N9 (by k_mem)⟩
      · first | exact Or.inr ((newsOwn N9 (a := rl) (by k_mem)).1.trans h5.1.symm) | exact Or.inl ⟨by first | exact rfl | exact Or.inl rfl | exact Or.inr rfl | exact Or.inr (Or.inl rfl) | exact Or.inr (Or.inr rfl) | exact Or.inr (Or.inr (Or.inr ⟨_, .head _, rfl⟩)) | exact Or.inr (Or.inr (Or.inl (by first | exact Mut.m0 _ | exact Mut.m1 _ | exact Mut.m2 _ | exact Mut.m3 _))), newsLive N9 (by k_mem)⟩
      · first | exact Or.inr ((newsOwn N9 (a := a.gl) (by k_mem)).1.trans h6.1.symm) | exact Or.inl ⟨by first | exact rfl | exact Or.inl rfl | exact Or.inr rfl | exact Or.inr (Or.inl rfl) | exact Or.inr (Or.inr rfl) | exact Or.inr (Or.inr (Or.inr ⟨_, .head _, rfl⟩)) | exact Or.inr (Or.inr (Or.inl (by first | exact Mut.m0 _ | exact Mut.m1 _ | exact Mut.m2 _ | exact Mut.m3 _))), newsLive N9 (by k_mem)⟩
      · first | exact Or.inr ((newsOwn N9 (a := a.ga) (by k_mem)).1.trans h7.1.symm) | exact Or.inl ⟨by first | exact rfl | exact Or.inl rfl | exact Or.inr rfl | exact Or.inr (Or.inl rfl) | exact Or.inr (Or.inr rfl) | exact Or.inr (Or.inr (Or.inr ⟨_, .head _, rfl⟩)) | exact Or.inr (Or.inr (Or.inl (by first | exact Mut.m0 _ | exact Mut.m1 _ | exact Mut.m2 _ | exact Mut.m3 _))), newsLive N9 (by k_mem)⟩
      · first | exact Or.inr ((newsOwn N9 (a := a.wk) (by k_mem)).1.trans h8.1.symm) | exact Or.inl ⟨by first | exact rfl | exact Or.inl rfl | exact Or.inr rfl | exact Or.inr (Or.inl rfl) | exact Or.inr (Or.inr rfl) | exact Or.inr (Or.inr (Or.inr ⟨_, .head _, rfl⟩)) | exact Or.inr (Or.inr (Or.inl (by first | exact Mut.m0 _ | exact Mut.m1 _ | exact Mut.m2 _ | exact Mut.m3 _))), newsLive N9 (by k_mem)⟩
    · exact ⟨w1, w2, newsOwn N9 (by k_mem), newsOwn N9 (by k_mem), newsOwn N9 (by k_mem), fresh_of hR (newsOwn N9 (a := w1) (by k_mem)).2 (by repeat' (first | exact List.forall_mem_nil _ | refine allC ((by first | exact m1.1 | exact m1 | exact m1.2.1 | exact m1.2 | exact m1.2.2.1 | exact m1.2.2 | exact m1.2.2.2.1 | exact m1.2.2.2 | exact m1.2.2.2.2.1 | exact m1.2.2.2.2 | exact m1.2.2.2.2.2.1 | exact m1.2.2.2.2.2 | exact m1.2.2.2.2.2.2.1 | exact m1.2.2.2.2.2.2 | exact m1.2.2.2.2.2.2.2.1 | exact m1.2.2.2.2.2.2.2 | exact m1.2.2.2.2.2.2.2.2.1 | exact m1.2.2.2.2.2.2.2.2 | exact m1.2.2.2.2.2.2.2.2.2.1 | exact m1.2.2.2.2.2.2.2.2.2 | exact m1.2.2.2.2.2.2.2.2.2.2.1 | exact m1.2.2.2.2.2.2.2.2.2.2 | exact m1.2.2.2.2.2.2.2.2.2.2.2.1 | exact m1.2.2.2.2.2.2.2.2.2.2.2 | exact m1.2.2.2.2.2.2.2.2.2.2.2.2.1 | exact m1.2.2.2.2.2.2.2.2.2.2.2.2 | exact m1.2.2.2.2.2.2.2.2.2.2.2.2.2.1 | exact m1.2.2.2.2.2.2.2.2.2.2.2.2.2 | exact m1.2.2.2.2.2.2.2.2.2.2.2.2.2.2.1 | exact m1.2.2.2.2.2.2.2.2.2.2.2.2.2.2 | exact m1.2.2.2.2.2.2.2.2.2.2.2.2.2.2.2.1 | exact m1.2.2.2.2.2.2.2.2.2.2.2.2.2.2.2 | omega)) (?_))) m1.2.2.2.2.2.2.2.2, fresh_of hR (newsOwn N9 (a := w2) (by k_mem)).2 (by repeat' (first | exact List.forall_mem_nil _ | refine allC ((by first | exact m3.1 | exact m3 | exact m3.2.1 | exact m3.2 | exact m3.2.2.1 | exact m3.2.2 | exact m3.2.2.2.1 | exact m3.2.2.2 | exact m3.2.2.2.2.1 | exact m3.2.2.2.2 | exact m3.2.2.2.2.2.1 | exact m3.2.2.2.2.2 | exact m3.2.2.2.2.2.2.1 | exact m3.2.2.2.2.2.2 | exact m3.2.2.2.2.2.2.2.1 | exact m3.2.2.2.2.2.2.2 | exact m3.2.2.2.2.2.2.2.2.1 | exact m3.2.2.2.2.2.2.2.2 | exact m3.2.2.2.2.2.2.2.2.2.1 | exact m3.2.2.2.2.2.2.2.2.2 | exact m3.2.2.2.2.2.2.2.2.2.2.1 | exact m3.2.2.2.2.2.2.2.2.2.2 | exact m3.2.2.2.2.2.2.2.2.2.2.2.1 | exact m3.2.2.2.2.2.2.2.2.2.2.2 | exact m3.2.2.2.2.2.2.2.2.2.2.2.2.1 | exact m3.2.2.2.2.2.2.2.2.2.2.2.2 | exact m3.2.2.2.2.2.2.2.2.2.2.2.2.2.1 | exact m3.2.2.2.2.2.2.2.2.2.2.2.2.2 | exact m3.2.2.2.2.2.2.2.2.2.2.2.2.2.2.1 | exact m3.2.2.2.2.2.2.2.2.2.2.2.2.2.2 | exact m3.2.2.2.2.2.2.2.2.2.2.2.2.2.2.2.1 | exact m3.2.2.2.2.2.2.2.2.2.2.2.2.2.2.2 | omega)) (?_))) m3.2.2.2.2.2.2.2.2.2.2, Nat.ne_of_lt m3.2.1⟩
end
section
set_option maxRecDepth 100000
open PySem PySem.W PySem.Calls PyProof.Rows
theorem reset_L8 : True := by
  w_top off
  trivial
/-- what of a cycle never turns -/
structure Cfg where
  (ca cd od ma md rl fch cc1 fso cc cell tl : Addr) (kc km : Ky) (oo co : Obj) (nl nr : Nat) (total : Int) (szs : List Int)
/-- where its lists stand now, and the tokens -/
structure Mut where
  (gl ga wk ts : Addr) (ng na nw ns : Nat) (tw : Tok) (tc : CycT)
def Cfg.mk' (c : Cfg) (m : Mut) : MkA := ⟨c.fch, c.fso, m.gl, m.ga, m.wk⟩
def Cfg.cy (c : Cfg) (m : Mut) : CycA := ⟨c.od, c.ma, c.rl, m.ts⟩
def Cfg.fix (c : Cfg) : List Addr := [c.ca, c.cd, c.od, c.ma, c.md, c.rl, c.fch, c.cc1, c.fso, c.cc, c.cell, c.tl]
def Mut.lists (m : Mut) : List Addr := [m.gl, m.ga, m.wk, m.ts]
theorem Cfg.m0 (c : Cfg) : c.ca ∈ c.fix := (.head _)
theorem Cfg.m1 (c : Cfg) : c.cd ∈ c.fix := (.tail _ (.head _))
theorem Cfg.m2 (c : Cfg) : c.od ∈ c.fix := (.tail _ (.tail _ (.head _)))
theorem Cfg.m3 (c : Cfg) : c.ma ∈ c.fix := (.tail _ (.tail _ (.tail _ (.head _))))
theorem Cfg.m4 (c : Cfg) : c.md ∈ c.fix := (.tail _ (.tail _ (.tail _ (.tail _ (.head _)))))
theorem Cfg.m5 (c : Cfg) : c.rl ∈ c.fix := (.tail _ (.tail _ (.tail _ (.tail _ (.tail _ (.head _))))))
theorem Cfg.m6 (c : Cfg) : c.fch ∈ c.fix := (.tail _ (.tail _ (.tail _ (.tail _ (.tail _ (.tail _ (.head _)))))))
theorem Cfg.m7 (c : Cfg) : c.cc1 ∈ c.fix := (.tail _ (.tail _ (.tail _ (.tail _ (.tail _ (.tail _ (.tail _ (.head _))))))))
theorem Cfg.m8 (c : Cfg) : c.fso ∈ c.fix := (.tail _ (.tail _ (.tail _ (.tail _ (.tail _ (.tail _ (.tail _ (.tail _ (.head _)))))))))
theorem Cfg.m9 (c : Cfg) : c.cc ∈ c.fix := (.tail _ (.tail _ (.tail _ (.tail _ (.tail _ (.tail _ (.tail _ (.tail _ (.tail _ (.head _))))))))))
theorem Cfg.m10 (c : Cfg) : c.cell ∈ c.fix := (.tail _ (.tail _ (.tail _ (.tail _ (.tail _ (.tail _ (.tail _ (.tail _ (.tail _ (.tail _ (.head _)))))))))))
theorem Cfg.m11 (c : Cfg) : c.tl ∈ c.fix := (.tail _ (.tail _ (.tail _ (.tail _ (.tail _ (.tail _ (.tail _ (.tail _ (.tail _ (.tail _ (.tail _ (.head _))))))))))))
theorem Mut.m0 (m : Mut) : m.gl ∈ m.lists := (.head _)
theorem Mut.m1 (m : Mut) : m.ga ∈ m.lists := (.tail _ (.head _))
theorem Mut.m2 (m : Mut) : m.wk ∈ m.lists := (.tail _ (.tail _ (.head _)))
theorem Mut.m3 (m : Mut) : m.ts ∈ m.lists := (.tail _ (.tail _ (.tail _ (.head _))))
/-- all addresses but the things' own -/
structure Sep (c : Cfg) (m : Mut) (xs : List Th) : Prop where
  fix : Nd c.fix
  lists : Nd m.lists
  fl : ∀ a ∈ c.fix, ∀ b ∈ m.lists, NeN a b
  tf : ∀ x ∈ xs, ∀ a ∈ c.fix, NeN x.t a
  tl : ∀ x ∈ xs, ∀ a ∈ m.lists, NeN x.t a
  df : ∀ x ∈ xs, ∀ a ∈ c.fix, NeN x.td a
  dl : ∀ x ∈ xs, ∀ a ∈ m.lists, NeN x.td a
  td : ∀ x ∈ xs, ∀ y ∈ xs, NeN x.t y.td
  nd : (xs.map (·.td)).Nodup
/-- the fixed places and the lists are apart -/
structure Fx (c : Cfg) (m : Mut) : Prop where
  z0_1 : NeN c.ca c.cd
  z0_2 : NeN c.ca c.od
  z0_3 : NeN c.ca c.ma
  z0_4 : NeN c.ca c.md
  z0_5 : NeN c.ca c.rl
  z0_6 : NeN c.ca c.fch
  z0_7 : NeN c.ca c.cc1
  z0_8 : NeN c.ca c.fso
  z0_9 : NeN c.ca c.cc
  z0_10 : NeN c.ca c.cell
  z0_11 : NeN c.ca c.tl
  z1_2 : NeN c.cd c.od
  z1_3 : NeN c.cd c.ma
  z1_4 : NeN c.cd c.md
  z1_5 : NeN c.cd c.rl
  z1_6 : NeN c.cd c.fch
  z1_7 : NeN c.cd c.cc1
  z1_8 : NeN c.cd c.fso
  z1_9 : NeN c.cd c.cc
  z1_10 : NeN c.cd c.cell
  z1_11 : NeN c.cd c.tl
  z2_3 : NeN c.od c.ma
  z2_4 : NeN c.od c.md
  z2_5 : NeN c.od c.rl
  z2_6 : NeN c.od c.fch
  z2_7 : NeN c.od c.cc1
  z2_8 : NeN c.od c.fso
  z2_9 : NeN c.od c.cc
  z2_10 : NeN c.od c.cell
  z2_11 : NeN c.od c.tl
  z3_4 : NeN c.ma c.md
  z3_5 : NeN c.ma c.rl
  z3_6 : NeN c.ma c.fch
  z3_7 : NeN c.ma c.cc1
  z3_8 : NeN c.ma c.fso
  z3_9 : NeN c.ma c.cc
  z3_10 : NeN c.ma c.cell
  z3_11 : NeN c.ma c.tl
  z4_5 : NeN c.md c.rl
  z4_6 : NeN c.md c.fch
  z4_7 : NeN c.md c.cc1
  z4_8 : NeN c.md c.fso
  z4_9 : NeN c.md c.cc
  z4_10 : NeN c.md c.cell
  z4_11 : NeN c.md c.tl
  z5_6 : NeN c.rl c.fch
  z5_7 : NeN c.rl c.cc1
  z5_8 : NeN c.rl c.fso
  z5_9 : NeN c.rl c.cc
  z5_10 : NeN c.rl c.cell
  z5_11 : NeN c.rl c.tl
  z6_7 : NeN c.fch c.cc1
  z6_8 : NeN c.fch c.fso
  z6_9 : NeN c.fch c.cc
  z6_10 : NeN c.fch c.cell
  z6_11 : NeN c.fch c.tl
  z7_8 : NeN c.cc1 c.fso
  z7_9 : NeN c.cc1 c.cc
  z7_10 : NeN c.cc1 c.cell
  z7_11 : NeN c.cc1 c.tl
  z8_9 : NeN c.fso c.cc
  z8_10 : NeN c.fso c.cell
  z8_11 : NeN c.fso c.tl
  z9_10 : NeN c.cc c.cell
  z9_11 : NeN c.cc c.tl
  z10_11 : NeN c.cell c.tl
  y0_1 : NeN m.gl m.ga
  y0_2 : NeN m.gl m.wk
  y0_3 : NeN m.gl m.ts
  y1_2 : NeN m.ga m.wk
  y1_3 : NeN m.ga m.ts
  y2_3 : NeN m.wk m.ts
  w0_0 : NeN c.ca m.gl
  w0_1 : NeN c.ca m.ga
  w0_2 : NeN c.ca m.wk
  w0_3 : NeN c.ca m.ts
  w1_0 : NeN c.cd m.gl
  w1_1 : NeN c.cd m.ga
  w1_2 : NeN c.cd m.wk
  w1_3 : NeN c.cd m.ts
  w2_0 : NeN c.od m.gl
  w2_1 : NeN c.od m.ga
  w2_2 : NeN c.od m.wk
  w2_3 : NeN c.od m.ts
  w3_0 : NeN c.ma m.gl
  w3_1 : NeN c.ma m.ga
  w3_2 : NeN c.ma m.wk
  w3_3 : NeN c.ma m.ts
  w4_0 : NeN c.md m.gl
  w4_1 : NeN c.md m.ga
  w4_2 : NeN c.md m.wk
  w4_3 : NeN c.md m.ts
  w5_0 : NeN c.rl m.gl
  w5_1 : NeN c.rl m.ga
  w5_2 : NeN c.rl m.wk
  w5_3 : NeN c.rl m.ts
  w6_0 : NeN c.fch m.gl
  w6_1 : NeN c.fch m.ga
  w6_2 : NeN c.fch m.wk
  w6_3 : NeN c.fch m.ts
  w7_0 : NeN c.cc1 m.gl
  w7_1 : NeN c.cc1 m.ga
  w7_2 : NeN c.cc1 m.wk
  w7_3 : NeN c.cc1 m.ts
  w8_0 : NeN c.fso m.gl
  w8_1 : NeN c.fso m.ga
  w8_2 : NeN c.fso m.wk
  w8_3 : NeN c.fso m.ts
  w9_0 : NeN c.cc m.gl
  w9_1 : NeN c.cc m.ga
  w9_2 : NeN c.cc m.wk
  w9_3 : NeN c.cc m.ts
  w10_0 : NeN c.cell m.gl
  w10_1 : NeN c.cell m.ga
  w10_2 : NeN c.cell m.wk
  w10_3 : NeN c.cell m.ts
  w11_0 : NeN c.tl m.gl
  w11_1 : NeN c.tl m.ga
  w11_2 : NeN c.tl m.wk
  w11_3 : NeN c.tl m.ts
/-- a thing is apart from them -/
structure Tx (c : Cfg) (m : Mut) (x : Th) : Prop where
  f0 : NeN x.t c.ca
  f1 : NeN x.t c.cd
  f2 : NeN x.t c.od
  f3 : NeN x.t c.ma
  f4 : NeN x.t c.md
  f5 : NeN x.t c.rl
  f6 : NeN x.t c.fch
  f7 : NeN x.t c.cc1
  f8 : NeN x.t c.fso
  f9 : NeN x.t c.cc
  f10 : NeN x.t c.cell
  f11 : NeN x.t c.tl
  l0 : NeN x.t m.gl
  l1 : NeN x.t m.ga
  l2 : NeN x.t m.wk
  l3 : NeN x.t m.ts
  g0 : NeN x.td c.ca
  g1 : NeN x.td c.cd
  g2 : NeN x.td c.od
  g3 : NeN x.td c.ma
  g4 : NeN x.td c.md
  g5 : NeN x.td c.rl
  g6 : NeN x.td c.fch
  g7 : NeN x.td c.cc1
  g8 : NeN x.td c.fso
  g9 : NeN x.td c.cc
  g10 : NeN x.td c.cell
  g11 : NeN x.td c.tl
  k0 : NeN x.td m.gl
  k1 : NeN x.td m.ga
  k2 : NeN x.td m.wk
  k3 : NeN x.td m.ts
  tt : NeN x.t x.td
theorem Sep.fx {c : Cfg} {m : Mut} {xs : List Th} (p : Sep c m xs) : Fx c m := by
  have pf9 : (NeN c.ca c.cd ∧ NeN c.ca c.od ∧ NeN c.ca c.ma ∧ NeN c.ca c.md ∧ NeN c.ca c.rl ∧ NeN c.ca c.fch ∧ NeN c.ca c.cc1 ∧ NeN c.ca c.fso ∧ NeN c.ca c.cc ∧ NeN c.ca c.cell ∧ NeN c.ca c.tl ∧ True) ∧ (NeN c.cd c.od ∧ NeN c.cd c.ma ∧ NeN c.cd c.md ∧ NeN c.cd c.rl ∧ NeN c.cd c.fch ∧ NeN c.cd c.cc1 ∧ NeN c.cd c.fso ∧ NeN c.cd c.cc ∧ NeN c.cd c.cell ∧ NeN c.cd c.tl ∧ True) ∧ (NeN c.od c.ma ∧ NeN c.od c.md ∧ NeN c.od c.rl ∧ NeN c.od c.fch ∧ NeN c.od c.cc1 ∧ NeN c.od c.fso ∧ NeN c.od c.cc ∧ NeN c.od c.cell ∧ NeN c.od c.tl ∧ True) ∧ (NeN c.ma c.md ∧ NeN c.ma c.rl ∧ NeN c.ma c.fch ∧ NeN c.ma c.cc1 ∧ NeN c.ma c.fso ∧ NeN c.ma c.cc ∧ NeN c.ma c.cell ∧ NeN c.ma c.tl ∧ True) ∧ (NeN c.md c.rl ∧ NeN c.md c.fch ∧ NeN c.md c.cc1 ∧ NeN c.md c.fso ∧ NeN c.md c.cc ∧ NeN c.md c.cell ∧ NeN c.md c.tl ∧ True) ∧ (NeN c.rl c.fch ∧ NeN c.rl c.cc1 ∧ NeN c.rl c.fso ∧ NeN c.rl c.cc ∧ NeN c.rl c.cell ∧ NeN c.rl c.tl ∧ True) ∧ (NeN c.fch c.cc1 ∧ NeN c.fch c.fso ∧ NeN c.fch c.cc ∧ NeN c.fch c.cell ∧ NeN c.fch c.tl ∧ True) ∧ (NeN c.cc1 c.fso ∧ NeN c.cc1 c.cc ∧ NeN c.cc1 c.cell ∧ NeN c.cc1 c.tl ∧ True) ∧ (NeN c.fso c.cc ∧ NeN c.fso c.cell ∧ NeN c.fso c.tl ∧ True) ∧ (NeN c.cc c.cell ∧ NeN c.cc c.tl ∧ True) ∧ (NeN c.cell c.tl ∧ True) ∧ (True) ∧ True := p.fix
  have pl9 : (NeN m.gl m.ga ∧ NeN m.gl m.wk ∧ NeN m.gl m.ts ∧ True) ∧ (NeN m.ga m.wk ∧ NeN m.ga m.ts ∧ True) ∧ (NeN m.wk m.ts ∧ True) ∧ (True) ∧ True := p.lists
  have q9 : ∀ {a b : Addr}, a ∈ c.fix → b ∈ m.lists → NeN a b := fun ha hb => p.fl _ ha _ hb
  exact ⟨pf9.1.1, pf9.1.2.1, pf9.1.2.2.1, pf9.1.2.2.2.1, pf9.1.2.2.2.2.1, pf9.1.2.2.2.2.2.1, pf9.1.2.2.2.2.2.2.1, pf9.1.2.2.2.2.2.2.2.1, pf9.1.2.2.2.2.2.2.2.2.1, pf9.1.2.2.2.2.2.2.2.2.2.1, pf9.1.2.2.2.2.2.2.2.2.2.2.1, pf9.2.1.1, pf9.2.1.2.1, pf9.2.1.2.2.1, pf9.2.1.2.2.2.1, pf9.2.1.2.2.2.2.1, pf9.2.1.2.2.2.2.2.1, pf9.2.1.2.2.2.2.2.2.1, pf9.2.1.2.2.2.2.2.2.2.1, pf9.2.1.2.2.2.2.2.2.2.2.1, pf9.2.1.2.2.2.2.2.2.2.2.2.1, pf9.2.2.1.1, pf9.2.2.1.2.1, pf9.2.2.1.2.2.1, pf9.2.2.1.2.2.2.1, pf9.2.2.1.2.2.2.2.1, pf9.2.2.1.2.2.2.2.2.1, pf9.2.2.1.2.2.2.2.2.2.1, pf9.2.2.1.2.2.2.2.2.2.2.1, pf9.2.2.1.2.2.2.2.2.2.2.2.1, pf9.2.2.2.1.1, pf9.2.2.2.1.2.1, pf9.2.2.2.1.2.2.1, pf9.2.2.2.1.2.2.2.1, pf9.2.2.2.1.2.2.2.2.1, pf9.2.2.2.1.2.2.2.2.2.1, pf9.2.2.2.1.2.2.2.2.2.2.1, pf9.2.2.2.1.2.2.2.2.2.2.2.1, pf9.2.2.2.2.1.1, pf9.2.2.2.2.1.2.1, pf9.2.2.2.2.1.2.2.1, pf9.2.2.2.2.1.2.2.2.1, pf9.2.2.2.2.1.2.2.2.2.1, pf9.2.2.2.2.1.2.2.2.2.2.1, pf9.2.2.2.2.1.2.2.2.2.2.2.1, pf9.2.2.2.2.2.1.1, pf9.2.2.2.2.2.1.2.1, pf9.2.2.2.2.2.1.2.2.1, pf9.2.2.2.2.2.1.2.2.2.1, pf9.2.2.2.2.2.1.2.2.2.2.1, pf9.2.2.2.2.2.1.2.2.2.2.2.1, pf9.2.2.2.2.2.2.1.1, pf9.2.2.2.2.2.2.1.2.1, pf9.2.2.2.2.2.2.1.2.2.1, pf9.2.2.2.2.2.2.1.2.2.2.1, pf9.2.2.2.2.2.2.1.2.2.2.2.1, pf9.2.2.2.2.2.2.2.1.1, pf9.2.2.2.2.2.2.2.1.2.1, pf9.2.2.2.2.2.2.2.1.2.2.1, pf9.2.2.2.2.2.2.2.1.2.2.2.1, pf9.2.2.2.2.2.2.2.2.1.1, pf9.2.2.2.2.2.2.2.2.1.2.1, pf9.2.2.2.2.2.2.2.2.1.2.2.1, pf9.2.2.2.2.2.2.2.2.2.1.1, pf9.2.2.2.2.2.2.2.2.2.1.2.1, pf9.2.2.2.2.2.2.2.2.2.2.1.1, pl9.1.1, pl9.1.2.1, pl9.1.2.2.1, pl9.2.1.1, pl9.2.1.2.1, pl9.2.2.1.1, q9 (.head _) (.head _), q9 (.head _) (.tail _ (.head _)), q9 (.head _) (.tail _ (.tail _ (.head _))), q9 (.head _) (.tail _ (.tail _ (.tail _ (.head _)))), q9 (.tail _ (.head _)) (.head _), q9 (.tail _ (.head _)) (.tail _ (.head _)), q9 (.tail _ (.head _)) (.tail _ (.tail _ (.head _))), q9 (.tail _ (.head _)) (.tail _ (.tail _ (.tail _ (.head _)))), q9 (.tail _ (.tail _ (.head _))) (.head _), q9 (.tail _ (.tail _ (.head _))) (.tail _ (.head _)), q9 (.tail _ (.tail _ (.head _))) (.tail _ (.tail _ (.head _))), q9 (.tail _ (.tail _ (.head _))) (.tail _ (.tail _ (.tail _ (.head _)))), q9 (.tail _ (.tail _ (.tail _ (.head _)))) (.head _), q9 (.tail _ (.tail _ (.tail _ (.head _)))) (.tail _ (.head _)), q9 (.tail _ (.tail _ (.tail _ (.head _)))) (.tail _ (.tail _ (.head _))), q9 (.tail _ (.tail _ (.tail _ (.head _)))) (.tail _ (.tail _ (.tail _ (.head _)))), q9 (.tail _ (.tail _ (.tail _ (.tail _ (.head _))))) (.head _), q9 (.tail _ (.tail _ (.tail _ (.tail _ (.head _))))) (.tail _ (.head _)), q9 (.tail _ (.tail _ (.tail _ (.tail _ (.head _))))) (.tail _ (.tail _ (.head _))), q9 (.tail _ (.tail _ (.tail _ (.tail _ (.head _))))) (.tail _ (.tail _ (.tail _ (.head _)))), q9 (.tail _ (.tail _ (.tail _ (.tail _ (.tail _ (.head _)))))) (.head _), q9 (.tail _ (.tail _ (.tail _ (.tail _ (.tail _ (.head _)))))) (.tail _ (.head _)), q9 (.tail _ (.tail _ (.tail _ (.tail _ (.tail _ (.head _)))))) (.tail _ (.tail _ (.head _))), q9 (.tail _ (.tail _ (.tail _ (.tail _ (.tail _ (.head _)))))) (.tail _ (.tail _ (.tail _ (.head _)))), q9 (.tail _ (.tail _ (.tail _ (.tail _ (.tail _ (.tail _ (.head _))))))) (.head _), q9 (.tail _ (.tail _ (.tail _ (.tail _ (.tail _ (.tail _ (.head _))))))) (.tail _ (.head _)), q9 (.tail _ (.tail _ (.tail _ (.tail _ (.tail _ (.tail _ (.head _))))))) (.tail _ (.tail _ (.head _))), q9 (.tail _ (.tail _ (.tail _ (.tail _ (.tail _ (.tail _ (.head _))))))) (.tail _ (.tail _ (.tail _ (.head _)))), q9 (.tail _ (.tail _ (.tail _ (.tail _ (.tail _ (.tail _ (.tail _ (.head _)))))))) (.head _), q9 (.tail _ (.tail _ (.tail _ (.tail _ (.tail _ (.tail _ (.tail _ (.head _)))))))) (.tail _ (.head _)), q9 (.tail _ (.tail _ (.tail _ (.tail _ (.tail _ (.tail _ (.tail _ (.head _)))))))) (.tail _ (.tail _ (.head _))), q9 (.tail _ (.tail _ (.tail _ (.tail _ (.tail _ (.tail _ (.tail _ (.head _)))))))) (.tail _ (.tail _ (.tail _ (.head _)))), q9 (.tail _ (.tail _ (.tail _ (.tail _ (.tail _ (.tail _ (.tail _ (.tail _ (.head _))))))))) (.head _), q9 (.tail _ (.tail _ (.tail _ (.tail _ (.tail _ (.tail _ (.tail _ (.tail _ (.head _))))))))) (.tail _ (.head _)), q9 (.tail _ (.tail _ (.tail _ (.tail _ (.tail _ (.tail _ (.tail _ (.tail _ (.head _))))))))) (.tail _ (.tail _ (.head _))), q9 (.tail _ (.tail _ (.tail _ (.tail _ (.tail _ (.tail _ (.tail _ (.tail _ (.head _))))))))) (.tail _ (.tail _ (.tail _ (.head _)))), q9 (.tail _ (.tail _ (.tail _ (.tail _ (.tail _ (.tail _ (.tail _ (.tail _ (.tail _ (.head _)))))))))) (.head _), q9 (.tail _ (.tail _ (.tail _ (.tail _ (.tail _ (.tail _ (.tail _ (.tail _ (.tail _ (.head _)))))))))) (.tail _ (.head _)), q9 (.tail _ (.tail _ (.tail _ (.tail _ (.tail _ (.tail _ (.tail _ (.tail _ (.tail _ (.head _)))))))))) (.tail _ (.tail _ (.head _))), q9 (.tail _ (.tail _ (.tail _ (.tail _ (.tail _ (.tail _ (.tail _ (.tail _ (.tail _ (.head _)))))))))) (.tail _ (.tail _ (.tail _ (.head _)))), q9 (.tail _ (.tail _ (.tail _ (.tail _ (.tail _ (.tail _ (.tail _ (.tail _ (.tail _ (.tail _ (.head _))))))))))) (.head _), q9 (.tail _ (.tail _ (.tail _ (.tail _ (.tail _ (.tail _ (.tail _ (.tail _ (.tail _ (.tail _ (.head _))))))))))) (.tail _ (.head _)), q9 (.tail _ (.tail _ (.tail _ (.tail _ (.tail _ (.tail _ (.tail _ (.tail _ (.tail _ (.tail _ (.head _))))))))))) (.tail _ (.tail _ (.head _))), q9 (.tail _ (.tail _ (.tail _ (.tail _ (.tail _ (.tail _ (.tail _ (.tail _ (.tail _ (.tail _ (.head _))))))))))) (.tail _ (.tail _ (.tail _ (.head _)))), q9 (.tail _ (.tail _ (.tail _ (.tail _ (.tail _ (.tail _ (.tail _ (.tail _ (.tail _ (.tail _ (.tail _ (.head _)))))))))))) (.head _), q9 (.tail _ (.tail _ (.tail _ (.tail _ (.tail _ (.tail _ (.tail _ (.tail _ (.tail _ (.tail _ (.tail _ (.head _)))))))))))) (.tail _ (.head _)), q9 (.tail _ (.tail _ (.tail _ (.tail _ (.tail _ (.tail _ (.tail _ (.tail _ (.tail _ (.tail _ (.tail _ (.head _)))))))))))) (.tail _ (.tail _ (.head _))), q9 (.tail _ (.tail _ (.tail _ (.tail _ (.tail _ (.tail _ (.tail _ (.tail _ (.tail _ (.tail _ (.tail _ (.head _)))))))))))) (.tail _ (.tail _ (.tail _ (.head _))))⟩
theorem Sep.tx {c : Cfg} {m : Mut} {xs : List Th} {x : Th} (p : Sep c m xs) (hx : x ∈ xs) : Tx c m x :=
  ⟨p.tf x hx _ (.head _), p.tf x hx _ (.tail _ (.head _)), p.tf x hx _ (.tail _ (.tail _ (.head _))), p.tf x hx _ (.tail _ (.tail _ (.tail _ (.head _)))), p.tf x hx _ (.tail _ (.tail _ (.tail _ (.tail _ (.head _))))), p.tf x hx _ (.tail _ (.tail _ (.tail _ (.tail _ (.tail _ (.head _)))))), p.tf x hx _ (.tail _ (.tail _ (.tail _ (.tail _ (.tail _ (.tail _ (.head _))))))), p.tf x hx _ (.tail _ (.tail _ (.tail _ (.tail _ (.tail _ (.tail _ (.tail _ (.head _)))))))), p.tf x hx _ (.tail _ (.tail _ (.tail _ (.tail _ (.tail _ (.tail _ (.tail _ (.tail _ (.head _))))))))), p.tf x hx _ (.tail _ (.tail _ (.tail _ (.tail _ (.tail _ (.tail _ (.tail _ (.tail _ (.tail _ (.head _)))))))))), p.tf x hx _ (.tail _ (.tail _ (.tail _ (.tail _ (.tail _ (.tail _ (.tail _ (.tail _ (.tail _ (.tail _ (.head _))))))))))), p.tf x hx _ (.tail _ (.tail _ (.tail _ (.tail _ (.tail _ (.tail _ (.tail _ (.tail _ (.tail _ (.tail _ (.tail _ (.head _)))))))))))), p.tl x hx _ (.head _), p.tl x hx _ (.tail _ (.head _)), p.tl x hx _ (.tail _ (.tail _ (.head _))), p.tl x hx _ (.tail _ (.tail _ (.tail _ (.head _)))), p.df x hx _ (.head _), p.df x hx _ (.tail _ (.head _)), p.df x hx _ (.tail _ (.tail _ (.head _))), p.df x hx _ (.tail _ (.tail _ (.tail _ (.head _)))), p.df x hx _ (.tail _ (.tail _ (.tail _ (.tail _ (.head _))))), p.df x hx _ (.tail _ (.tail _ (.tail _ (.tail _ (.tail _ (.head _)))))), p.df x hx _ (.tail _ (.tail _ (.tail _ (.tail _ (.tail _ (.tail _ (.head _))))))), p.df x hx _ (.tail _ (.tail _ (.tail _ (.tail _ (.tail _ (.tail _ (.tail _ (.head _)))))))), p.df x hx _ (.tail _ (.tail _ (.tail _ (.tail _ (.tail _ (.tail _ (.tail _ (.tail _ (.head _))))))))), p.df x hx _ (.tail _ (.tail _ (.tail _ (.tail _ (.tail _ (.tail _ (.tail _ (.tail _ (.tail _ (.head _)))))))))), p.df x hx _ (.tail _ (.tail _ (.tail _ (.tail _ (.tail _ (.tail _ (.tail _ (.tail _ (.tail _ (.tail _ (.head _))))))))))), p.df x hx _ (.tail _ (.tail _ (.tail _ (.tail _ (.tail _ (.tail _ (.tail _ (.tail _ (.tail _ (.tail _ (.tail _ (.head _)))))))))))), p.dl x hx _ (.head _), p.dl x hx _ (.tail _ (.head _)), p.dl x hx _ (.tail _ (.tail _ (.head _))), p.dl x hx _ (.tail _ (.tail _ (.tail _ (.head _)))), p.td x hx x hx⟩
theorem Sep.ofLists {c : Cfg} {m m' : Mut} {xs : List Th} (p : Sep c m xs) (e : m'.lists = m.lists) : Sep c m' xs :=
  ⟨p.fix, e ▸ p.lists, fun a ha => e ▸ p.fl a ha, p.tf, fun x hx => e ▸ p.tl x hx, p.df, fun x hx => e ▸ p.dl x hx, p.td, p.nd⟩
/-- a cycle in a heap -/
structure CRep (w : World) (B h : Heap) (c : Cfg) (m : Mut) (v : CycI) (white : Int) (xs : List Th) (gv sv : List Value) : Prop where
  ca : Own B h c.ca (instObj 346 c.cd)
  cd : Own B h c.cd (dictOf (cycEs c.kc m.tc (c.cy m) v) 14)
  ma : Own B h c.ma (instObj 136 c.md)
  md : Own B h c.md (dictOf (mksEs c.km (c.mk' m) white m.tw) 6)
  od : Own B h c.od c.oo
  odd : c.oo.IsDictOf (PySem.intKind PySem.Challenge.rw_rh0162_01.row.prog w) (xs.map fun x => (x.num, x.ref))
  odn : (c.od == sysModules) = false
  rl : Own B h c.rl (listOf ((xs.take 1).map Th.ref).toArray c.nr)
  ch : LamAt B h chParams chBody chScope [("things", c.cell)] c.fch c.cc1
  so : LamAt B h soParams soBody soScope [] c.fso c.cc
  cell : Own B h c.cell c.co
  cod : c.co.data = .cell (some (.ref c.tl))
  tl : Own B h c.tl (listOf (xs.map Th.ref).toArray c.nl)
  gl : Own B h m.gl (listOf gv.toArray m.ng)
  ga : Own B h m.ga (listOf #[] m.na)
  wk : Own B h m.wk (listOf #[] m.nw)
  ts : Own B h m.ts (listOf sv.toArray m.ns)
  th : ∀ x ∈ xs, ThAt B h x
  num : ∀ (i : Nat) (x : Th), xs[i]? = some x → x.num = (i : Int) + 1
  szs : xs.map (·.sz) = c.szs
  len : 2 ≤ c.szs.length ∧ c.szs.length ≤ 9
  tot : v.total = c.total
  sep : Sep c m xs
/-- the same thing, of another mark perhaps -/
def SameTh (x y : Th) : Prop := y.t = x.t ∧ y.td = x.td ∧ y.num = x.num ∧ y.sz = x.sz
theorem SameTh.rfl' (x : Th) : SameTh x x := ⟨rfl, rfl, rfl, rfl⟩
theorem SameTh.mark (x : Th) (k : Int) (t : Tok) : SameTh x (x.mark k t) := ⟨rfl, rfl, rfl, rfl⟩
inductive Same : List Th → List Th → Prop
  | nil : Same [] []
  | cons {x y : Th} {xs ys : List Th} : SameTh x y → Same xs ys → Same (x :: xs) (y :: ys)
theorem Same.refl : ∀ xs : List Th, Same xs xs
  | [] => .nil
  | x :: r => .cons (SameTh.rfl' x) (Same.refl r)
theorem Same.length {xs ys : List Th} (s : Same xs ys) : ys.length = xs.length := by
  induction s with
  | nil => rfl
  | cons _ _ ih => simp [ih]
theorem Same.map {α : Type} {f : Th → α} (hf : ∀ x y, SameTh x y → f y = f x) {xs ys : List Th} (s : Same xs ys) : ys.map f = xs.map f := by
  induction s with
  | nil => rfl
  | cons h _ ih => simp [ih, hf _ _ h]
theorem Same.mem {xs ys : List Th} (s : Same xs ys) {y : Th} (hy : y ∈ ys) : ∃ x ∈ xs, SameTh x y := by
  induction s with
  | nil => cases hy
  | cons h _ ih =>
    rcases List.mem_cons.1 hy with rfl | hy
    · exact ⟨_, .head _, h⟩
    · refine hide fun P9 hP9 => ?_
      obtain ⟨x, a, b⟩ := ih hy
      refine hP9 ?_; clear hP9 P9
      exact ⟨x, .tail _ a, b⟩
theorem Same.get {xs ys : List Th} (s : Same xs ys) : ∀ {i : Nat} {y : Th}, ys[i]? = some y → ∃ x, xs[i]? = some x ∧ SameTh x y := by
  induction s with
  | nil => intro i y h; simp at h
  | cons h _ ih =>
    intro i y hy
    cases i with
    | zero => simp at hy; subst hy; exact ⟨_, rfl, h⟩
    | succ i => simp at hy; obtain ⟨x, a, b⟩ := ih hy; exact ⟨x, by simpa using a, b⟩
theorem Same.take {xs ys : List Th} (s : Same xs ys) : ∀ n, Same (xs.take n) (ys.take n) := by
  induction s with
  | nil => intro n; simp; exact .nil
  | cons h _ ih =>
    intro n
    cases n with
    | zero => exact .nil
    | succ n => exact .cons h (ih n)
theorem Same.sep {c : Cfg} {m : Mut} {xs ys : List Th} (s : Same xs ys) (p : Sep c m xs) : Sep c m ys := by
  refine ⟨p.fix, p.lists, p.fl, fun y hy => ?_, fun y hy => ?_, fun y hy => ?_, fun y hy => ?_, fun y hy z hz => ?_, ?_⟩
  · refine hide fun P9 hP9 => ?_
    obtain ⟨x, hx, e⟩ := s.mem hy
    refine hP9 ?_; clear hP9 P9
    rw [e.1]
    exact p.tf x hx
  · refine hide fun P9 hP9 => ?_
    obtain ⟨x, hx, e⟩ := s.mem hy
    refine hP9 ?_; clear hP9 P9
    rw [e.1]
    exact p.tl x hx
  · refine hide fun P9 hP9 => ?_
    obtain ⟨x, hx, e⟩ := s.mem hy
    refine hP9 ?_; clear hP9 P9
    rw [e.2.1]
    exact p.df x hx
  · refine hide fun P9 hP9 => ?_
    obtain ⟨x, hx, e⟩ := s.mem hy
    refine hP9 ?_; clear hP9 P9
    rw [e.2.1]
    exact p.dl x hx
  · refine hide fun P9 hP9 => ?_
    obtain ⟨x, hx, e⟩ := s.mem hy
    obtain ⟨x', hx', e'⟩ := s.mem hz
    refine hP9 ?_; clear hP9 P9
    rw [e.1, e'.2.1]
    exact p.td x hx x' hx'
  · rw [s.map fun _ _ h => h.2.1]; exact p.nd
/-- what a cycle may turn -/
def Foot (c : Cfg) (m : Mut) (xs : List Th) : Addr → Prop := fun a => a = c.cd ∨ a = c.md ∨ a ∈ m.lists ∨ ∃ x ∈ xs, a = x.td
theorem Foot.not_fix {c : Cfg} {m : Mut} {xs : List Th} (p : Sep c m xs) {a : Addr} (ha : a ∈ c.fix) (h1 : a ≠ c.cd) (h2 : a ≠ c.md) : ¬ Foot c m xs a := by
  rintro (e | e | e | ⟨x, hx, e⟩)
  · exact h1 e
  · exact h2 e
  · exact p.fl a ha a e rfl
  · exact (p.df x hx a ha) e.symm
theorem Foot.not_t {c : Cfg} {m : Mut} {xs : List Th} (p : Sep c m xs) {x : Th} (hx : x ∈ xs) : ¬ Foot c m xs x.t := by
  rintro (e | e | e | ⟨y, hy, e⟩)
  · exact p.tf x hx c.cd (by first | exact Cfg.m0 _ | exact Cfg.m1 _ | exact Cfg.m2 _ | exact Cfg.m3 _ | exact Cfg.m4 _ | exact Cfg.m5 _ | exact Cfg.m6 _ | exact Cfg.m7 _ | exact Cfg.m8 _ | exact Cfg.m9 _ | exact Cfg.m10 _ | exact Cfg.m11 _) e
  · exact p.tf x hx c.md (by first | exact Cfg.m0 _ | exact Cfg.m1 _ | exact Cfg.m2 _ | exact Cfg.m3 _ | exact Cfg.m4 _ | exact Cfg.m5 _ | exact Cfg.m6 _ | exact Cfg.m7 _ | exact Cfg.m8 _ | exact Cfg.m9 _ | exact Cfg.m10 _ | exact Cfg.m11 _) e
  · exact p.tl x hx _ e rfl
  · exact p.td x hx y hy e
theorem CRep.neT {w : World} {B h : Heap} {c : Cfg} {m : Mut} {v : CycI} {white : Int} {xs : List Th} {gv sv : List Value} (r : CRep w B h c m v white xs gv sv) {x : Th} (hx : x ∈ xs) : NeN x.t c.cd ∧ NeN x.t c.md ∧ NeN x.td c.cd ∧ NeN x.td c.md :=
  ⟨r.sep.tf x hx _ (by first | exact Cfg.m0 _ | exact Cfg.m1 _ | exact Cfg.m2 _ | exact Cfg.m3 _ | exact Cfg.m4 _ | exact Cfg.m5 _ | exact Cfg.m6 _ | exact Cfg.m7 _ | exact Cfg.m8 _ | exact Cfg.m9 _ | exact Cfg.m10 _ | exact Cfg.m11 _), r.sep.tf x hx _ (by first | exact Cfg.m0 _ | exact Cfg.m1 _ | exact Cfg.m2 _ | exact Cfg.m3 _ | exact Cfg.m4 _ | exact Cfg.m5 _ | exact Cfg.m6 _ | exact Cfg.m7 _ | exact Cfg.m8 _ | exact Cfg.m9 _ | exact Cfg.m10 _ | exact Cfg.m11 _), r.sep.df x hx _ (by first | exact Cfg.m0 _ | exact Cfg.m1 _ | exact Cfg.m2 _ | exact Cfg.m3 _ | exact Cfg.m4 _ | exact Cfg.m5 _ | exact Cfg.m6 _ | exact Cfg.m7 _ | exact Cfg.m8 _ | exact Cfg.m9 _ | exact Cfg.m10 _ | exact Cfg.m11 _), r.sep.df x hx _ (by first | exact Cfg.m0 _ | exact Cfg.m1 _ | exact Cfg.m2 _ | exact Cfg.m3 _ | exact Cfg.m4 _ | exact Cfg.m5 _ | exact Cfg.m6 _ | exact Cfg.m7 _ | exact Cfg.m8 _ | exact Cfg.m9 _ | exact Cfg.m10 _ | exact Cfg.m11 _)⟩
/-- the lists' new places are old ones of its own, or new in the heap -/
def Fresh (c : Cfg) (m m' : Mut) (h : Heap) : Prop := Nd m'.lists ∧ ∀ a ∈ m'.lists, a ∈ m.lists ∨ h.get? a = none
theorem CRep.fixLive {w : World} {B h : Heap} {c : Cfg} {m : Mut} {v : CycI} {white : Int} {xs : List Th} {gv sv : List Value} (r : CRep w B h c m v white xs gv sv) : ∀ a ∈ c.fix, ∃ o, Own B h a o := by
  refine hide fun P9 hP9 => ?_
  obtain ⟨_, _, _, _, _, _, _, o1, o2, _, _⟩ := r.ch
  obtain ⟨_, _, _, _, _, _, _, o3, o4, _, _⟩ := r.so
  refine hP9 ?_; clear hP9 P9
  exact allC (⟨_, r.ca⟩) (allC (⟨_, r.cd⟩) (allC (⟨_, r.od⟩) (allC (⟨_, r.ma⟩) (allC (⟨_, r.md⟩) (allC (⟨_, r.rl⟩) (allC (⟨_, o1⟩) (allC (⟨_, o2⟩) (allC (⟨_, o3⟩) (allC (⟨_, o4⟩) (allC (⟨_, r.cell⟩) (allC (⟨_, r.tl⟩) (List.forall_mem_nil _))))))))))))
theorem CRep.sep' {w : World} {B h : Heap} {c : Cfg} {m m' : Mut} {v : CycI} {white : Int} {xs ys : List Th} {gv sv : List Value} (r : CRep w B h c m v white xs gv sv) (s : Same xs ys) (f : Fresh c m m' h) : Sep c m' ys := by
  have p := r.sep
  have key : ∀ {b : Addr} {o : Obj}, Own B h b o → (∀ a ∈ m.lists, NeN b a) → ∀ a ∈ m'.lists, NeN b a := fun q k a ha => by
    rcases f.2 a ha with e | e
    · exact k a e
    · exact q.ne_fresh e
  exact s.sep ⟨p.fix, f.1, fun a ha => (by obtain ⟨o, ho⟩ := r.fixLive a ha; exact key ho (p.fl a ha)), p.tf, fun x hx => key (r.th x hx).o (p.tl x hx), p.df, fun x hx => key (r.th x hx).d (p.dl x hx), p.td, p.nd⟩
theorem CRep.next' {w : World} {B h h' : Heap} {c : Cfg} {m m' : Mut} {v v' : CycI} {white white' : Int} {xs ys : List Th} {gv sv gv' sv' : List Value} {S : Addr → Prop} (r : CRep w B h c m v white xs gv sv)
    (U : Upto S h h') (hS : ∀ a ∈ c.fix, a ≠ c.cd → a ≠ c.md → ¬ S a) (s : Same xs ys) (f : Fresh c m m' h) (htot : v'.total = c.total)
    (cd : Own B h' c.cd (dictOf (cycEs c.kc m'.tc (c.cy m') v') 14)) (md : Own B h' c.md (dictOf (mksEs c.km (c.mk' m') white' m'.tw) 6))
    (gl : Own B h' m'.gl (listOf gv'.toArray m'.ng)) (ga : Own B h' m'.ga (listOf #[] m'.na)) (wk : Own B h' m'.wk (listOf #[] m'.nw)) (ts : Own B h' m'.ts (listOf sv'.toArray m'.ns))
    (th : ∀ y ∈ ys, ThAt B h' y) : CRep w B h' c m' v' white' ys gv' sv' := by
  have p := r.sep
  have nf : ∀ {a : Addr} {o : Obj}, Own B h a o → a ∈ c.fix → a ≠ c.cd → a ≠ c.md → Own B h' a o := fun q ha h1 h2 => U.own q (hS _ ha h1 h2)
  have q9 := Sep.fx p
  have ch' : LamAt B h' chParams chBody chScope [("things", c.cell)] c.fch c.cc1 := r.ch.upto U (hS _ (by first | exact Cfg.m0 _ | exact Cfg.m1 _ | exact Cfg.m2 _ | exact Cfg.m3 _ | exact Cfg.m4 _ | exact Cfg.m5 _ | exact Cfg.m6 _ | exact Cfg.m7 _ | exact Cfg.m8 _ | exact Cfg.m9 _ | exact Cfg.m10 _ | exact Cfg.m11 _) q9.z1_6.symm q9.z4_6.symm) (hS _ (by first | exact Cfg.m0 _ | exact Cfg.m1 _ | exact Cfg.m2 _ | exact Cfg.m3 _ | exact Cfg.m4 _ | exact Cfg.m5 _ | exact Cfg.m6 _ | exact Cfg.m7 _ | exact Cfg.m8 _ | exact Cfg.m9 _ | exact Cfg.m10 _ | exact Cfg.m11 _) q9.z1_7.symm q9.z4_7.symm)
  have so' : LamAt B h' soParams soBody soScope [] c.fso c.cc := r.so.upto U (hS _ (by first | exact Cfg.m0 _ | exact Cfg.m1 _ | exact Cfg.m2 _ | exact Cfg.m3 _ | exact Cfg.m4 _ | exact Cfg.m5 _ | exact Cfg.m6 _ | exact Cfg.m7 _ | exact Cfg.m8 _ | exact Cfg.m9 _ | exact Cfg.m10 _ | exact Cfg.m11 _) q9.z1_8.symm q9.z4_8.symm) (hS _ (by first | exact Cfg.m0 _ | exact Cfg.m1 _ | exact Cfg.m2 _ | exact Cfg.m3 _ | exact Cfg.m4 _ | exact Cfg.m5 _ | exact Cfg.m6 _ | exact Cfg.m7 _ | exact Cfg.m8 _ | exact Cfg.m9 _ | exact Cfg.m10 _ | exact Cfg.m11 _) q9.z1_9.symm q9.z4_9.symm)
  exact {
    ca := nf r.ca (by first | exact Cfg.m0 _ | exact Cfg.m1 _ | exact Cfg.m2 _ | exact Cfg.m3 _ | exact Cfg.m4 _ | exact Cfg.m5 _ | exact Cfg.m6 _ | exact Cfg.m7 _ | exact Cfg.m8 _ | exact Cfg.m9 _ | exact Cfg.m10 _ | exact Cfg.m11 _) q9.z0_1 q9.z0_4, cd := cd, ma := nf r.ma (by first | exact Cfg.m0 _ | exact Cfg.m1 _ | exact Cfg.m2 _ | exact Cfg.m3 _ | exact Cfg.m4 _ | exact Cfg.m5 _ | exact Cfg.m6 _ | exact Cfg.m7 _ | exact Cfg.m8 _ | exact Cfg.m9 _ | exact Cfg.m10 _ | exact Cfg.m11 _) q9.z1_3.symm q9.z3_4, md := md, od := nf r.od (by first | exact Cfg.m0 _ | exact Cfg.m1 _ | exact Cfg.m2 _ | exact Cfg.m3 _ | exact Cfg.m4 _ | exact Cfg.m5 _ | exact Cfg.m6 _ | exact Cfg.m7 _ | exact Cfg.m8 _ | exact Cfg.m9 _ | exact Cfg.m10 _ | exact Cfg.m11 _) q9.z1_2.symm q9.z2_4
    odd := by rw [s.map fun x y q => by rw [Th.ref, Th.ref, q.2.2.1, q.1]]; exact r.odd
    odn := r.odn
    rl := by
      have := nf r.rl (by first | exact Cfg.m0 _ | exact Cfg.m1 _ | exact Cfg.m2 _ | exact Cfg.m3 _ | exact Cfg.m4 _ | exact Cfg.m5 _ | exact Cfg.m6 _ | exact Cfg.m7 _ | exact Cfg.m8 _ | exact Cfg.m9 _ | exact Cfg.m10 _ | exact Cfg.m11 _) q9.z1_5.symm q9.z4_5.symm
      rw [(s.take 1).map fun x y q => by rw [Th.ref, Th.ref, q.1]]; exact this
    ch := ch', so := so', cell := nf r.cell (by first | exact Cfg.m0 _ | exact Cfg.m1 _ | exact Cfg.m2 _ | exact Cfg.m3 _ | exact Cfg.m4 _ | exact Cfg.m5 _ | exact Cfg.m6 _ | exact Cfg.m7 _ | exact Cfg.m8 _ | exact Cfg.m9 _ | exact Cfg.m10 _ | exact Cfg.m11 _) q9.z1_10.symm q9.z4_10.symm, cod := r.cod
    tl := by
      have := nf r.tl (by first | exact Cfg.m0 _ | exact Cfg.m1 _ | exact Cfg.m2 _ | exact Cfg.m3 _ | exact Cfg.m4 _ | exact Cfg.m5 _ | exact Cfg.m6 _ | exact Cfg.m7 _ | exact Cfg.m8 _ | exact Cfg.m9 _ | exact Cfg.m10 _ | exact Cfg.m11 _) q9.z1_11.symm q9.z4_11.symm
      rw [s.map fun x y q => by rw [Th.ref, Th.ref, q.1]]; exact this
    gl := gl, ga := ga, wk := wk, ts := ts, th := th
    num := fun i y hy => by obtain ⟨x, hx, e⟩ := s.get hy; rw [e.2.2.1]; exact r.num i x hx
    szs := by rw [s.map fun x y q => q.2.2.2]; exact r.szs
    len := r.len, tot := htot, sep := r.sep' s f }
theorem CRep.next {w : World} {B h h' : Heap} {c : Cfg} {m m' : Mut} {v v' : CycI} {white white' : Int} {xs ys : List Th} {gv sv gv' sv' : List Value} {S : Addr → Prop} (r : CRep w B h c m v white xs gv sv)
    (U : Upto S h h') (hS : ∀ a, S a → (h.get? a).isSome → Foot c m xs a) (s : Same xs ys) (f : Fresh c m m' h) (htot : v'.total = c.total)
    (cd : Own B h' c.cd (dictOf (cycEs c.kc m'.tc (c.cy m') v') 14)) (md : Own B h' c.md (dictOf (mksEs c.km (c.mk' m') white' m'.tw) 6))
    (gl : Own B h' m'.gl (listOf gv'.toArray m'.ng)) (ga : Own B h' m'.ga (listOf #[] m'.na)) (wk : Own B h' m'.wk (listOf #[] m'.nw)) (ts : Own B h' m'.ts (listOf sv'.toArray m'.ns))
    (th : ∀ y ∈ ys, ThAt B h' y) : CRep w B h' c m' v' white' ys gv' sv' :=
  r.next' (U.mono hS) (fun a ha h1 h2 => Foot.not_fix r.sep ha h1 h2) s f htot cd md gl ga wk ts th
/-- nothing of a cycle is in S -/
structure Off (S : Addr → Prop) (c : Cfg) (m : Mut) (xs : List Th) : Prop where
  fix : ∀ a ∈ c.fix, ¬ S a
  lists : ∀ a ∈ m.lists, ¬ S a
  t : ∀ x ∈ xs, ¬ S x.t
  td : ∀ x ∈ xs, ¬ S x.td
theorem CRep.frame {w : World} {B h h' : Heap} {c : Cfg} {m : Mut} {v : CycI} {white : Int} {xs : List Th} {gv sv : List Value} {S : Addr → Prop} (r : CRep w B h c m v white xs gv sv) (U : Upto S h h') (o : Off S c m xs) : CRep w B h' c m v white xs gv sv where
  ca := U.own r.ca (o.fix _ (by first | exact Cfg.m0 _ | exact Cfg.m1 _ | exact Cfg.m2 _ | exact Cfg.m3 _ | exact Cfg.m4 _ | exact Cfg.m5 _ | exact Cfg.m6 _ | exact Cfg.m7 _ | exact Cfg.m8 _ | exact Cfg.m9 _ | exact Cfg.m10 _ | exact Cfg.m11 _))
  cd := U.own r.cd (o.fix _ (by first | exact Cfg.m0 _ | exact Cfg.m1 _ | exact Cfg.m2 _ | exact Cfg.m3 _ | exact Cfg.m4 _ | exact Cfg.m5 _ | exact Cfg.m6 _ | exact Cfg.m7 _ | exact Cfg.m8 _ | exact Cfg.m9 _ | exact Cfg.m10 _ | exact Cfg.m11 _))
  ma := U.own r.ma (o.fix _ (by first | exact Cfg.m0 _ | exact Cfg.m1 _ | exact Cfg.m2 _ | exact Cfg.m3 _ | exact Cfg.m4 _ | exact Cfg.m5 _ | exact Cfg.m6 _ | exact Cfg.m7 _ | exact Cfg.m8 _ | exact Cfg.m9 _ | exact Cfg.m10 _ | exact Cfg.m11 _))
  md := U.own r.md (o.fix _ (by first | exact Cfg.m0 _ | exact Cfg.m1 _ | exact Cfg.m2 _ | exact Cfg.m3 _ | exact Cfg.m4 _ | exact Cfg.m5 _ | exact Cfg.m6 _ | exact Cfg.m7 _ | exact Cfg.m8 _ | exact Cfg.m9 _ | exact Cfg.m10 _ | exact Cfg.m11 _))
  od := U.own r.od (o.fix _ (by first | exact Cfg.m0 _ | exact Cfg.m1 _ | exact Cfg.m2 _ | exact Cfg.m3 _ | exact Cfg.m4 _ | exact Cfg.m5 _ | exact Cfg.m6 _ | exact Cfg.m7 _ | exact Cfg.m8 _ | exact Cfg.m9 _ | exact Cfg.m10 _ | exact Cfg.m11 _))
  odd := r.odd
  odn := r.odn
  rl := U.own r.rl (o.fix _ (by first | exact Cfg.m0 _ | exact Cfg.m1 _ | exact Cfg.m2 _ | exact Cfg.m3 _ | exact Cfg.m4 _ | exact Cfg.m5 _ | exact Cfg.m6 _ | exact Cfg.m7 _ | exact Cfg.m8 _ | exact Cfg.m9 _ | exact Cfg.m10 _ | exact Cfg.m11 _))
  ch := r.ch.upto U (o.fix _ (by first | exact Cfg.m0 _ | exact Cfg.m1 _ | exact Cfg.m2 _ | exact Cfg.m3 _ | exact Cfg.m4 _ | exact Cfg.m5 _ | exact Cfg.m6 _ | exact Cfg.m7 _ | exact Cfg.m8 _ | exact Cfg.m9 _ | exact Cfg.m10 _ | exact Cfg.m11 _)) (o.fix _ (by first | exact Cfg.m0 _ | exact Cfg.m1 _ | exact Cfg.m2 _ | exact Cfg.m3 _ | exact Cfg.m4 _ | exact Cfg.m5 _ | exact Cfg.m6 _ | exact Cfg.m7 _ | exact Cfg.m8 _ | exact Cfg.m9 _ | exact Cfg.m10 _ | exact Cfg.m11 _))
  so := r.so.upto U (o.fix _ (by first | exact Cfg.m0 _ | exact Cfg.m1 _ | exact Cfg.m2 _ | exact Cfg.m3 _ | exact Cfg.m4 _ | exact Cfg.m5 _ | exact Cfg.m6 _ | exact Cfg.m7 _ | exact Cfg.m8 _ | exact Cfg.m9 _ | exact Cfg.m10 _ | exact Cfg.m11 _)) (o.fix _ (by first | exact Cfg.m0 _ | exact Cfg.m1 _ | exact Cfg.m2 _ | exact Cfg.m3 _ | exact Cfg.m4 _ | exact Cfg.m5 _ | exact Cfg.m6 _ | exact Cfg.m7 _ | exact Cfg.m8 _ | exact Cfg.m9 _ | exact Cfg.m10 _ | exact Cfg.m11 _))
  cell := U.own r.cell (o.fix _ (by first | exact Cfg.m0 _ | exact Cfg.m1 _ | exact Cfg.m2 _ | exact Cfg.m3 _ | exact Cfg.m4 _ | exact Cfg.m5 _ | exact Cfg.m6 _ | exact Cfg.m7 _ | exact Cfg.m8 _ | exact Cfg.m9 _ | exact Cfg.m10 _ | exact Cfg.m11 _))
  cod := r.cod
  tl := U.own r.tl (o.fix _ (by first | exact Cfg.m0 _ | exact Cfg.m1 _ | exact Cfg.m2 _ | exact Cfg.m3 _ | exact Cfg.m4 _ | exact Cfg.m5 _ | exact Cfg.m6 _ | exact Cfg.m7 _ | exact Cfg.m8 _ | exact Cfg.m9 _ | exact Cfg.m10 _ | exact Cfg.m11 _))
  gl := U.own r.gl (o.lists _ (by first | exact Mut.m0 _ | exact Mut.m1 _ | exact Mut.m2 _ | exact Mut.m3 _))
  ga := U.own r.ga (o.lists _ (by first | exact Mut.m0 _ | exact Mut.m1 _ | exact Mut.m2 _ | exact Mut.m3 _))
  wk := U.own r.wk (o.lists _ (by first | exact Mut.m0 _ | exact Mut.m1 _ | exact Mut.m2 _ | exact Mut.m3 _))
  ts := U.own r.ts (o.lists _ (by first | exact Mut.m0 _ | exact Mut.m1 _ | exact Mut.m2 _ | exact Mut.m3 _))
  th := fun x hx => (r.th x hx).upto U (o.t x hx) (o.td x hx)
  num := r.num
  szs := r.szs
  len := r.len
  tot := r.tot
  sep := r.sep
theorem CRep.frame0 {w : World} {B h h' : Heap} {c : Cfg} {m : Mut} {v : CycI} {white : Int} {xs : List Th} {gv sv : List Value} (r : CRep w B h c m v white xs gv sv) (U : Upto is0 h h') : CRep w B h' c m v white xs gv sv :=
  r.frame U ⟨fun _ _ => id, fun _ _ => id, fun _ _ => id, fun _ _ => id⟩
theorem CRep.footOwn {w : World} {B h : Heap} {c : Cfg} {m : Mut} {v : CycI} {white : Int} {xs : List Th} {gv sv : List Value} (r : CRep w B h c m v white xs gv sv) : ∀ a, Foot c m xs a → ∃ o, Own B h a o := by
  rintro a (e | e | e | ⟨x, hx, e⟩)
  · exact ⟨_, e ▸ r.cd⟩
  · exact ⟨_, e ▸ r.md⟩
  · have : ∀ b ∈ [m.gl, m.ga, m.wk, m.ts], ∃ o, Own B h b o := allC (⟨_, r.gl⟩) (allC (⟨_, r.ga⟩) (allC (⟨_, r.wk⟩) (allC (⟨_, r.ts⟩) (List.forall_mem_nil _))))
    exact this a e
  · exact ⟨_, e ▸ (r.th x hx).d⟩
theorem CRep.notFoot {w : World} {B h : Heap} {c : Cfg} {m : Mut} {v : CycI} {white : Int} {xs : List Th} {gv sv : List Value} (r : CRep w B h c m v white xs gv sv) {a : Addr} (e : h.get? a = none) : ¬ Foot c m xs a := fun q => by
  obtain ⟨o, q⟩ := r.footOwn a q
  have := q.1
  rw [e] at this; cases this
theorem CRep.footBase {w : World} {B h : Heap} {c : Cfg} {m : Mut} {v : CycI} {white : Int} {xs : List Th} {gv sv : List Value} (r : CRep w B h c m v white xs gv sv) : ∀ a, Foot c m xs a → B.get? a = none := fun a q => by
  obtain ⟨o, q⟩ := r.footOwn a q
  exact q.2
/-- a call that turned the cycle: the frame that called it stands -/
theorem CRep.fr {w : World} {B h h0 h' : Heap} {c : Cfg} {m : Mut} {v : CycI} {white : Int} {xs : List Th} {gv sv : List Value} {L : Addr} {mm : Str → Option Value} (r : CRep w B h0 c m v white xs gv sv) (F : Fr B L h mm) (hL : h0.objs.size ≤ L) (U : Upto (Foot c m xs) h h') : Fr B L h' mm :=
  frStep F U (r.notFoot (none_of_le hL)) r.footBase
end
section
set_option maxRecDepth 100000
open PySem PySem.W PySem.Calls PyProof.Rows
theorem reset_L10 : True := by
  w_top off
  trivial
variable {w : World} {B h : Heap}
set_option maxHeartbeats 1000000 in
theorem nextThr_con (W : Wd w B) (hB : Keep B h) {est pause : Int} {t1 t2 : Tok} (hb : -1000 ≤ pause ∧ pause ≤ 1000) (he : 0 ≤ est ∧ est ≤ 100000) :
    Con w B 2 168 [.int est t1, .int pause t2] is0 h (fun r _ => ∃ t, r = .int (est * pause / 100) t) := by
  have W0 := W; (first | (have X9 : ∀ w9 : World, (Mine.hd.heap_39 w9.params).In default → PySem.Challenge.rw_rh0162_01 = PySem.Challenge.rw_rh0162_01 := by (k_fill; fail)) | skip)
  k_dflt (refine' Con.start [("estimate", .int est t1), ("pause", .int pause t2)] W hB .nil rfl ?ho ?hcd ?bind ?loc ?a ?b ?c ?d ?_; (case ho => k_is); (case hcd => k_is); (case bind => exact fun _ => BindsTo.of_eq rfl); (case loc => exact locs rfl); (case a => exact rfl); (case b => exact rfl); (case c => exact rfl); (case d => decide))
  intro p0 loose0 mean0 mg0 mb0 dp9 fr9 gd9 un9 s RR h₁ L rest tk Q' X T C R post hL F N hR hQ hQn; clear C
  dsimp only [List.cons_append, List.nil_append] at N
  change Rest B h [] rest at hR
  have hh := R.handled
  k_steps
  dsimp only
  rw [Int.fdiv_eq_ediv_of_nonneg _ (by decide)]
  (with_reducible rename Fr _ _ _ _ => F9); (with_reducible rename News _ _ _ _ => N9)
  refine hQ _ _ (post _ _ _ (Keep.of_fr F9) (hR.upto hB F9 N9 (by intro p hp; repeat (first | exact hp | apply List.Mem.tail)) ?_) ?_)
  · refine List.forall_mem_nil _
  · exact ⟨_, rfl⟩
set_option maxHeartbeats 1000000 in
theorem debtAfter_con (W : Wd w B) (hB : Keep B h) {debt total thr : Int} {t1 t2 t3 : Tok} :
    Con w B 2 154 [.int debt t1, .int total t2, .int thr t3] is0 h (fun r _ => ∃ t, r = .int (debt + (if total > thr then total - thr else 0)) t) := by
  have W0 := W; (first | (have X9 : ∀ w9 : World, (Mine.hd.heap_39 w9.params).In default → PySem.Challenge.rw_rh0162_01 = PySem.Challenge.rw_rh0162_01 := by (k_fill; fail)) | skip)
  k_dflt (refine' Con.start [("debt", .int debt t1), ("total", .int total t2), ("threshold", .int thr t3)] W hB .nil rfl ?ho ?hcd ?bind ?loc ?a ?b ?c ?d ?_; (case ho => k_is); (case hcd => k_is); (case bind => exact fun _ => BindsTo.of_eq rfl); (case loc => exact locs rfl); (case a => exact rfl); (case b => exact rfl); (case c => exact rfl); (case d => decide))
  intro p0 loose0 mean0 mg0 mb0 dp9 fr9 gd9 un9 s RR h₁ L rest tk Q' X T C R post hL F N hR hQ hQn; clear C
  dsimp only [List.cons_append, List.nil_append] at N
  change Rest B h [] rest at hR
  have hh := R.handled
  k_steps
  · rename_i e
    dsimp only
    rw [show debt + (total - thr) = debt + (if total > thr then total - thr else 0) from by rw [if_pos e]]
    (with_reducible rename Fr _ _ _ _ => F9); (with_reducible rename News _ _ _ _ => N9)
    refine hQ _ _ (post _ _ _ (Keep.of_fr F9) (hR.upto hB F9 N9 (by intro p hp; repeat (first | exact hp | apply List.Mem.tail)) ?_) ?_)
    · refine List.forall_mem_nil _
    · exact ⟨_, rfl⟩
  · rename_i e
    dsimp only
    rw [show debt + 0 = debt + (if total > thr then total - thr else 0) from by rw [if_neg e]]
    (with_reducible rename Fr _ _ _ _ => F9); (with_reducible rename News _ _ _ _ => N9)
    refine hQ _ _ (post _ _ _ (Keep.of_fr F9) (hR.upto hB F9 N9 (by intro p hp; repeat (first | exact hp | apply List.Mem.tail)) ?_) ?_)
    · refine List.forall_mem_nil _
    · exact ⟨_, rfl⟩
set_option maxHeartbeats 1000000 in
theorem workOf_con (W : Wd w B) (hB : Keep B h) {size mul never : Int} {t1 t2 t3 : Tok} (hb : -1000 ≤ mul ∧ mul ≤ 1000) (he : 0 ≤ size ∧ size ≤ 1000) :
    Con w B 2 161 [.int size t1, .int mul t2, .int never t3] is0 h (fun r _ => ∃ t, r = .int (if mul = 0 then never else if mul > 0 then max 1 (size * mul / 100) else size * mul / 100) t) := by
  have W0 := W; (first | (have X9 : ∀ w9 : World, (Mine.hd.heap_39 w9.params).In default → PySem.Challenge.rw_rh0162_01 = PySem.Challenge.rw_rh0162_01 := by (k_fill; fail)) | skip)
  k_dflt (refine' Con.start [("step_size", .int size t1), ("step_mul", .int mul t2), ("never", .int never t3)] W hB .nil rfl ?ho ?hcd ?bind ?loc ?a ?b ?c ?d ?_; (case ho => k_is); (case hcd => k_is); (case bind => exact fun _ => BindsTo.of_eq rfl); (case loc => exact locs rfl); (case a => exact rfl); (case b => exact rfl); (case c => exact rfl); (case d => decide))
  intro p0 loose0 mean0 mg0 mb0 dp9 fr9 gd9 un9 s RR h₁ L rest tk Q' X T C R post hL F N hR hQ hQn; clear C
  dsimp only [List.cons_append, List.nil_append] at N
  change Rest B h [] rest at hR
  have hh := R.handled
  k_steps
  · rename_i e
    dsimp only
    (with_reducible rename Fr _ _ _ _ => F9); (with_reducible rename News _ _ _ _ => N9)
    refine hQ _ _ (post _ _ _ (Keep.of_fr F9) (hR.upto hB F9 N9 (by intro p hp; repeat (first | exact hp | apply List.Mem.tail)) ?_) ?_)
    · refine List.forall_mem_nil _
    · exact ⟨_, by rw [if_pos e]⟩
  · have e : mul ≠ 0 := by assumption
    have e2 : 0 < mul := by assumption
    dsimp only
    (with_reducible rename Fr _ _ _ _ => F9); (with_reducible rename News _ _ _ _ => N9)
    refine hQ _ _ (post _ _ _ (Keep.of_fr F9) (hR.upto hB F9 N9 (by intro p hp; repeat (first | exact hp | apply List.Mem.tail)) ?_) ?_)
    · refine List.forall_mem_nil _
    · exact ⟨_, by rw [if_neg e, if_pos (show mul > 0 from e2), Int.fdiv_eq_ediv_of_nonneg _ (by decide), show max 1 (size * mul / 100) = if size * mul / 100 > 1 then size * mul / 100 else 1 from by by_cases q : size * mul / 100 > 1 <;> simp [q] <;> omega]⟩
  · have e : mul ≠ 0 := by assumption
    have e2 : ¬ 0 < mul := by assumption
    dsimp only
    (with_reducible rename Fr _ _ _ _ => F9); (with_reducible rename News _ _ _ _ => N9)
    refine hQ _ _ (post _ _ _ (Keep.of_fr F9) (hR.upto hB F9 N9 (by intro p hp; repeat (first | exact hp | apply List.Mem.tail)) ?_) ?_)
    · refine List.forall_mem_nil _
    · exact ⟨_, by rw [if_neg e, if_neg (show ¬ mul > 0 from e2), Int.fdiv_eq_ediv_of_nonneg _ (by decide)]⟩
end
section
set_option maxRecDepth 100000
open PySem PySem.W PySem.Calls PyProof.Rows
theorem reset_L9 : True := by
  w_top off
  trivial
variable {w : World} {B h : Heap}
set_option maxHeartbeats 1000000 in
theorem roots_con (W : Wd w B) (hB : Keep B h) {ca cd : Addr} {k : Ky} {t : CycT} {a : CycA} {v : CycI}
    (h1 : Own B h ca (instObj 346 cd)) (h2 : Own B h cd (dictOf (cycEs k t a v) 14)) (hne : NeN ca cd) :
    Con w B 2 217 [.ref ca] is0 h (fun r _ => r = .ref a.rl) := by
  have W0 := W; (first | (have X9 : ∀ w9 : World, (Mine.hd.heap_39 w9.params).In default → PySem.Challenge.rw_rh0162_01 = PySem.Challenge.rw_rh0162_01 := by (k_fill; fail)) | skip)
  k_dflt (refine' Con.start [("self", .ref ca)] W hB (.cons h1 (.cons h2 .nil)) rfl ?ho ?hcd ?bind ?loc ?a ?b ?c ?d ?_; (case ho => k_is); (case hcd => k_is); (case bind => exact fun _ => BindsTo.of_eq rfl); (case loc => exact locs rfl); (case a => exact rfl); (case b => exact rfl); (case c => exact rfl); (case d => decide))
  intro p0 loose0 mean0 mg0 mb0 dp9 fr9 gd9 un9 s RR h₁ L rest tk Q' X T C R post hL F N hR hQ hQn; clear C
  dsimp only [List.cons_append, List.nil_append] at N
  change Rest B h [ca, cd] rest at hR
  have hr0 := hR.off ca (.head _)
  have hr1 := hR.off cd (.tail _ (.head _))
  have hh := R.handled
  k_steps
  (with_reducible rename Fr _ _ _ _ => F9); (with_reducible rename News _ _ _ _ => N9)
  refine hQ _ _ (post _ _ _ (Keep.of_fr F9) (hR.upto hB F9 N9 (by intro p hp; repeat (first | exact hp | apply List.Mem.tail)) ?_) ?_)
  · refine allC (?_) (allC (?_) (List.forall_mem_nil _))
    · first | exact Or.inr ((newsOwn N9 (a := ca) (by k_mem)).1.trans h1.1.symm) | exact Or.inl ⟨by first | exact rfl | exact Or.inl rfl | exact Or.inr rfl | exact Or.inr (Or.inl rfl) | exact Or.inr (Or.inr rfl) | exact Or.inr (Or.inr (Or.inr ⟨_, .head _, rfl⟩)) | exact Or.inr (Or.inr (Or.inl (by first | exact Mut.m0 _ | exact Mut.m1 _ | exact Mut.m2 _ | exact Mut.m3 _))), newsLive N9 (by k_mem)⟩
    · first | exact Or.inr ((newsOwn N9 (a := cd) (by k_mem)).1.trans h2.1.symm) | exact Or.inl ⟨by first | exact rfl | exact Or.inl rfl | exact Or.inr rfl | exact Or.inr (Or.inl rfl) | exact Or.inr (Or.inr rfl) | exact Or.inr (Or.inr (Or.inr ⟨_, .head _, rfl⟩)) | exact Or.inr (Or.inr (Or.inl (by first | exact Mut.m0 _ | exact Mut.m1 _ | exact Mut.m2 _ | exact Mut.m3 _))), newsLive N9 (by k_mem)⟩
  · exact rfl
set_option maxHeartbeats 1000000 in
theorem late_con (W : Wd w B) (hB : Keep B h) {ca cd : Addr} {k : Ky} {t : CycT} {a : CycA} {v : CycI} {th : Value}
    (h1 : Own B h ca (instObj 346 cd)) (h2 : Own B h cd (dictOf (cycEs k t a v) 14)) (hne : NeN ca cd) :
    Con w B 4 224 [.ref ca, th] is0 h (fun r _ => r = .ref a.rl) := by
  have W0 := W; (first | (have X9 : ∀ w9 : World, (Mine.hd.heap_39 w9.params).In default → PySem.Challenge.rw_rh0162_01 = PySem.Challenge.rw_rh0162_01 := by (k_fill; fail)) | skip)
  k_dflt (refine' Con.start [("self", .ref ca), ("thread", th)] W hB (.cons h1 (.cons h2 .nil)) rfl ?ho ?hcd ?bind ?loc ?a ?b ?c ?d ?_; (case ho => k_is); (case hcd => k_is); (case bind => exact fun _ => BindsTo.of_eq rfl); (case loc => exact locs rfl); (case a => exact rfl); (case b => exact rfl); (case c => exact rfl); (case d => decide))
  intro p0 loose0 mean0 mg0 mb0 dp9 fr9 gd9 un9 s RR h₁ L rest tk Q' X T C R post hL F N hR hQ hQn; clear C
  dsimp only [List.cons_append, List.nil_append] at N
  change Rest B h [ca, cd] rest at hR
  have hr0 := hR.off ca (.head _)
  have hr1 := hR.off cd (.tail _ (.head _))
  have hh := R.handled
  k_steps
  (with_reducible rename Fr _ _ _ _ => F9); (with_reducible rename News _ _ _ _ => N9)
  refine Con.call (roots_con W0 (Keep.of_fr F9) (newsOwn N9 (by k_mem)) (newsOwn N9 (by k_mem)) hne) rfl (Room.deeper (R.le (by decide))) ?_
  intro v9 H9 tk9 K9 U9 rfl
  replace N9 := newsKeep N9 U9 (fun _ _ x => x)
  replace F9 := frStep F9 U9 (fun x => x) base0
  dsimp only
  k_steps
  (with_reducible rename Fr _ _ _ _ => F9); (with_reducible rename News _ _ _ _ => N9)
  refine hQ _ _ (post _ _ _ (Keep.of_fr F9) (hR.upto hB F9 N9 (by intro p hp; repeat (first | exact hp | apply List.Mem.tail)) ?_) ?_)
  · refine allC (?_) (allC (?_) (List.forall_mem_nil _))
    · first | exact Or.inr ((newsOwn N9 (a := ca) (by k_mem)).1.trans h1.1.symm) | exact Or.inl ⟨by first | exact rfl | exact Or.inl rfl | exact Or.inr rfl | exact Or.inr (Or.inl rfl) | exact Or.inr (Or.inr rfl) | exact Or.inr (Or.inr (Or.inr ⟨_, .head _, rfl⟩)) | exact Or.inr (Or.inr (Or.inl (by first | exact Mut.m0 _ | exact Mut.m1 _ | exact Mut.m2 _ | exact Mut.m3 _))), newsLive N9 (by k_mem)⟩
    · first | exact Or.inr ((newsOwn N9 (a := cd) (by k_mem)).1.trans h2.1.symm) | exact Or.inl ⟨by first | exact rfl | exact Or.inl rfl | exact Or.inr rfl | exact Or.inr (Or.inl rfl) | exact Or.inr (Or.inr rfl) | exact Or.inr (Or.inr (Or.inr ⟨_, .head _, rfl⟩)) | exact Or.inr (Or.inr (Or.inl (by first | exact Mut.m0 _ | exact Mut.m1 _ | exact Mut.m2 _ | exact Mut.m3 _))), newsLive N9 (by k_mem)⟩
  · exact rfl
set_option maxHeartbeats 1000000 in
theorem atEnd_con (W : Wd w B) (hB : Keep B h) {ca : Addr} :
    Con w B 2 238 [.ref ca] is0 h (fun r _ => ∃ t, r = .int 0 t) := by
  have W0 := W; (first | (have X9 : ∀ w9 : World, (Mine.hd.heap_39 w9.params).In default → PySem.Challenge.rw_rh0162_01 = PySem.Challenge.rw_rh0162_01 := by (k_fill; fail)) | skip)
  k_dflt (refine' Con.start [("self", .ref ca)] W hB .nil rfl ?ho ?hcd ?bind ?loc ?a ?b ?c ?d ?_; (case ho => k_is); (case hcd => k_is); (case bind => exact fun _ => BindsTo.of_eq rfl); (case loc => exact locs rfl); (case a => exact rfl); (case b => exact rfl); (case c => exact rfl); (case d => decide))
  intro p0 loose0 mean0 mg0 mb0 dp9 fr9 gd9 un9 s RR h₁ L rest tk Q' X T C R post hL F N hR hQ hQn; clear C
  dsimp only [List.cons_append, List.nil_append] at N
  change Rest B h [] rest at hR
  have hh := R.handled
  k_steps
  (with_reducible rename Fr _ _ _ _ => F9); (with_reducible rename News _ _ _ _ => N9)
  refine hQ _ _ (post _ _ _ (Keep.of_fr F9) (hR.upto hB F9 N9 (by intro p hp; repeat (first | exact hp | apply List.Mem.tail)) ?_) ?_)
  · refine List.forall_mem_nil _
  · exact ⟨_, rfl⟩
set_option maxHeartbeats 1000000 in
theorem finalize_con (W : Wd w B) (hB : Keep B h) {ca cd : Addr} {k : Ky} {t : CycT} {a : CycA} {v : CycI} {th : Value}
    (h1 : Own B h ca (instObj 346 cd)) (h2 : Own B h cd (dictOf (cycEs k t a v) 14)) (hne : NeN ca cd) :
    Con w B 2 266 [.ref ca, th] (is1 cd) h (fun r h' => (∃ t, r = .int 0 t) ∧ ∃ t', Own B h' cd (dictOf (cycEs k t' a { v with phase := 0, debt := 0, cyc := v.cyc + 1 }) 14)) := by
  have W0 := W; (first | (have X9 : ∀ w9 : World, (Mine.hd.heap_39 w9.params).In default → PySem.Challenge.rw_rh0162_01 = PySem.Challenge.rw_rh0162_01 := by (k_fill; fail)) | skip)
  k_dflt (refine' Con.start [("self", .ref ca), ("thread", th)] W hB (.cons h1 (.cons h2 .nil)) rfl ?ho ?hcd ?bind ?loc ?a ?b ?c ?d ?_; (case ho => k_is); (case hcd => k_is); (case bind => exact fun _ => BindsTo.of_eq rfl); (case loc => exact locs rfl); (case a => exact rfl); (case b => exact rfl); (case c => exact rfl); (case d => decide))
  intro p0 loose0 mean0 mg0 mb0 dp9 fr9 gd9 un9 s RR h₁ L rest tk Q' X T C R post hL F N hR hQ hQn; clear C
  dsimp only [List.cons_append, List.nil_append] at N
  change Rest B h [ca, cd] rest at hR
  have hr0 := hR.off ca (.head _)
  have hr1 := hR.off cd (.tail _ (.head _))
  have hh := R.handled
  k_steps
  (with_reducible rename Fr _ _ _ _ => F9); (with_reducible rename News _ _ _ _ => N9)
  refine hQ _ _ (post _ _ _ (Keep.of_fr F9) (hR.upto hB F9 N9 (by intro p hp; repeat (first | exact hp | apply List.Mem.tail)) ?_) ?_)
  · refine allC (?_) (allC (?_) (List.forall_mem_nil _))
    · first | exact Or.inr ((newsOwn N9 (a := ca) (by k_mem)).1.trans h1.1.symm) | exact Or.inl ⟨by first | exact rfl | exact Or.inl rfl | exact Or.inr rfl | exact Or.inr (Or.inl rfl) | exact Or.inr (Or.inr rfl) | exact Or.inr (Or.inr (Or.inr ⟨_, .head _, rfl⟩)) | exact Or.inr (Or.inr (Or.inl (by first | exact Mut.m0 _ | exact Mut.m1 _ | exact Mut.m2 _ | exact Mut.m3 _))), newsLive N9 (by k_mem)⟩
    · first | exact Or.inr ((newsOwn N9 (a := cd) (by k_mem)).1.trans h2.1.symm) | exact Or.inl ⟨by first | exact rfl | exact Or.inl rfl | exact Or.inr rfl | exact Or.inr (Or.inl rfl) | exact Or.inr (Or.inr rfl) | exact Or.inr (Or.inr (Or.inr ⟨_, .head _, rfl⟩)) | exact Or.inr (Or.inr (Or.inl (by first | exact Mut.m0 _ | exact Mut.m1 _ | exact Mut.m2 _ | exact Mut.m3 _))), newsLive N9 (by k_mem)⟩
  · exact ⟨⟨_, rfl⟩, ⟨_, _, _, _, _, _, _, _, _, _⟩, newsOwn N9 (by k_mem)⟩
set_option maxHeartbeats 1000000 in
theorem setThr_con (W : Wd w B) (hB : Keep B h) {ca cd : Addr} {k : Ky} {t : CycT} {a : CycA} {v : CycI} (hb : -1000 ≤ v.pause ∧ v.pause ≤ 1000) (he : 0 ≤ v.est ∧ v.est ≤ 100000)
    (h1 : Own B h ca (instObj 346 cd)) (h2 : Own B h cd (dictOf (cycEs k t a v) 14)) (hne : NeN ca cd) :
    Con w B 4 280 [.ref ca] (is1 cd) h (fun _ h' => ∃ t', Own B h' cd (dictOf (cycEs k t' a { v with thr := if v.pause < 0 then 1000000000000000000 else v.est * v.pause / 100 }) 14)) := by
  have W0 := W; (first | (have X9 : ∀ w9 : World, (Mine.hd.heap_39 w9.params).In default → PySem.Challenge.rw_rh0162_01 = PySem.Challenge.rw_rh0162_01 := by (k_fill; fail)) | skip)
  k_dflt (refine' Con.start [("self", .ref ca)] W hB (.cons h1 (.cons h2 .nil)) rfl ?ho ?hcd ?bind ?loc ?a ?b ?c ?d ?_; (case ho => k_is); (case hcd => k_is); (case bind => exact fun _ => BindsTo.of_eq rfl); (case loc => exact locs rfl); (case a => exact rfl); (case b => exact rfl); (case c => exact rfl); (case d => decide))
  intro p0 loose0 mean0 mg0 mb0 dp9 fr9 gd9 un9 s RR h₁ L rest tk Q' X T C R post hL F N hR hQ hQn; clear C
  dsimp only [List.cons_append, List.nil_append] at N
  change Rest B h [ca, cd] rest at hR
  have hr0 := hR.off ca (.head _)
  have hr1 := hR.off cd (.tail _ (.head _))
  have hh := R.handled
  k_steps
  · rename_i e _ _ _
    have e9 : { v with thr := if v.pause < 0 then 1000000000000000000 else v.est * v.pause / 100 } = { v with thr := 1000000000000000000 } := by rw [if_pos e]
    rw [e9] at post
    (with_reducible rename Fr _ _ _ _ => F9); (with_reducible rename News _ _ _ _ => N9)
    refine hQn _ (post _ _ _ (Keep.of_fr F9) (hR.upto hB F9 N9 (by intro p hp; repeat (first | exact hp | apply List.Mem.tail)) ?_) ?_)
    · refine allC (?_) (allC (?_) (List.forall_mem_nil _))
      · first | exact Or.inr ((newsOwn N9 (a := ca) (by k_mem)).1.trans h1.1.symm) | exact Or.inl ⟨by first | exact rfl | exact Or.inl rfl | exact Or.inr rfl | exact Or.inr (Or.inl rfl) | exact Or.inr (Or.inr rfl) | exact Or.inr (Or.inr (Or.inr ⟨_, .head _, rfl⟩)) | exact Or.inr (Or.inr (Or.inl (by first | exact Mut.m0 _ | exact Mut.m1 _ | exact Mut.m2 _ | exact Mut.m3 _))), newsLive N9 (by k_mem)⟩
      · first | exact Or.inr ((newsOwn N9 (a := cd) (by k_mem)).1.trans h2.1.symm) | exact Or.inl ⟨by first | exact rfl | exact Or.inl rfl | exact Or.inr rfl | exact Or.inr (Or.inl rfl) | exact Or.inr (Or.inr rfl) | exact Or.inr (Or.inr (Or.inr ⟨_, .head _, rfl⟩)) | exact Or.inr (Or.inr (Or.inl (by first | exact Mut.m0 _ | exact Mut.m1 _ | exact Mut.m2 _ | exact Mut.m3 _))), newsLive N9 (by k_mem)⟩
    · exact ⟨{ t with thr := 423 }, newsOwn N9 (by k_mem)⟩
  · rename_i e
    (with_reducible rename Fr _ _ _ _ => F9); (with_reducible rename News _ _ _ _ => N9)
    refine Con.call (nextThr_con W0 (Keep.of_fr F9) hb he) rfl (Room.deeper (R.le (by decide))) ?_
    rintro v9 H9 tk9 K9 U9 ⟨t9, e9⟩
    replace N9 := newsKeep N9 U9 (fun _ _ x => x)
    replace F9 := frStep F9 U9 (fun x => x) base0
    dsimp only
    subst e9
    k_steps
    have e9 : { v with thr := if v.pause < 0 then 1000000000000000000 else v.est * v.pause / 100 } = { v with thr := v.est * v.pause / 100 } := by rw [if_neg e]
    rw [e9] at post
    (with_reducible rename Fr _ _ _ _ => F9); (with_reducible rename News _ _ _ _ => N9)
    refine hQn _ (post _ _ _ (Keep.of_fr F9) (hR.upto hB F9 N9 (by intro p hp; repeat (first | exact hp | apply List.Mem.tail)) ?_) ?_)
    · refine allC (?_) (allC (?_) (List.forall_mem_nil _))
      · first | exact Or.inr ((newsOwn N9 (a := ca) (by k_mem)).1.trans h1.1.symm) | exact Or.inl ⟨by first | exact rfl | exact Or.inl rfl | exact Or.inr rfl | exact Or.inr (Or.inl rfl) | exact Or.inr (Or.inr rfl) | exact Or.inr (Or.inr (Or.inr ⟨_, .head _, rfl⟩)) | exact Or.inr (Or.inr (Or.inl (by first | exact Mut.m0 _ | exact Mut.m1 _ | exact Mut.m2 _ | exact Mut.m3 _))), newsLive N9 (by k_mem)⟩
      · first | exact Or.inr ((newsOwn N9 (a := cd) (by k_mem)).1.trans h2.1.symm) | exact Or.inl ⟨by first | exact rfl | exact Or.inl rfl | exact Or.inr rfl | exact Or.inr (Or.inl rfl) | exact Or.inr (Or.inr rfl) | exact Or.inr (Or.inr (Or.inr ⟨_, .head _, rfl⟩)) | exact Or.inr (Or.inr (Or.inl (by first | exact Mut.m0 _ | exact Mut.m1 _ | exact Mut.m2 _ | exact Mut.m3 _))), newsLive N9 (by k_mem)⟩
    · exact ⟨{ t with thr := t9 }, newsOwn N9 (by k_mem)⟩
end
section
set_option maxRecDepth 100000
open PySem PySem.W PySem.Calls PyProof.Rows
theorem reset_L11 : True := by
  w_top off
  trivial
variable {w : World} {B h : Heap}
set_option maxHeartbeats 1000000 in
theorem markRoots_con (W : Wd w B) (hB : Keep B h) {c : Cfg} {m : Mut} {v : CycI} {white : Int} {x0 : Th} {xr : List Th} {gv sv : List Value} (r : CRep w B h c m v white (x0 :: xr) gv sv) (hm : x0.mrk < 2) :
    Con w B 8 231 [.ref c.ca] (Foot c m (x0 :: xr)) h (fun _ h' => ∃ m' t2, CRep w B h' c m' { v with phase := 1 } white (x0.mark 2 t2 :: xr) [x0.ref] sv ∧ Fresh c m m' h) := by
  refine hide fun P9 hP9 => ?_
  obtain ⟨z0_1, z0_2, z0_3, z0_4, z0_5, z0_6, z0_7, z0_8, z0_9, z0_10, z0_11, z1_2, z1_3, z1_4, z1_5, z1_6, z1_7, z1_8, z1_9, z1_10, z1_11, z2_3, z2_4, z2_5, z2_6, z2_7, z2_8, z2_9, z2_10, z2_11, z3_4, z3_5, z3_6, z3_7, z3_8, z3_9, z3_10, z3_11, z4_5, z4_6, z4_7, z4_8, z4_9, z4_10, z4_11, z5_6, z5_7, z5_8, z5_9, z5_10, z5_11, z6_7, z6_8, z6_9, z6_10, z6_11, z7_8, z7_9, z7_10, z7_11, z8_9, z8_10, z8_11, z9_10, z9_11, z10_11, y0_1, y0_2, y0_3, y1_2, y1_3, y2_3, w0_0, w0_1, w0_2, w0_3, w1_0, w1_1, w1_2, w1_3, w2_0, w2_1, w2_2, w2_3, w3_0, w3_1, w3_2, w3_3, w4_0, w4_1, w4_2, w4_3, w5_0, w5_1, w5_2, w5_3, w6_0, w6_1, w6_2, w6_3, w7_0, w7_1, w7_2, w7_3, w8_0, w8_1, w8_2, w8_3, w9_0, w9_1, w9_2, w9_3, w10_0, w10_1, w10_2, w10_3, w11_0, w11_1, w11_2, w11_3⟩ := (Sep.fx (Sep.ofLists r.sep rfl) : Fx c m)
  obtain ⟨f0_x0, f1_x0, f2_x0, f3_x0, f4_x0, f5_x0, f6_x0, f7_x0, f8_x0, f9_x0, f10_x0, f11_x0, l0_x0, l1_x0, l2_x0, l3_x0, g0_x0, g1_x0, g2_x0, g3_x0, g4_x0, g5_x0, g6_x0, g7_x0, g8_x0, g9_x0, g10_x0, g11_x0, k0_x0, k1_x0, k2_x0, k3_x0, tt_x0⟩ := (Sep.tx (Sep.ofLists r.sep rfl) (.head _) : Tx c m x0)
  obtain ⟨nm, ql, pm, ctv, oc, vs, tq, h8, h9, hd, hv⟩ := r.so
  refine hP9 ?_; clear hP9 P9
  have h1 := r.ca; have h2 := r.cd; have h3 := r.ma; have h4 := r.md; have h5 := (r.th x0 (.head _)).o; have h6 := (r.th x0 (.head _)).d; have h7 := r.rl
  have W0 := W; (first | (have X9 : ∀ w9 : World, (Mine.hd.heap_39 w9.params).In default → PySem.Challenge.rw_rh0162_01 = PySem.Challenge.rw_rh0162_01 := by (k_fill; fail)) | skip)
  k_dflt (refine' Con.start [("self", .ref c.ca)] W hB (.cons h1 (.cons h2 (.cons h3 (.cons h4 (.cons h5 (.cons h6 (.cons h7 (.cons h8 (.cons h9 .nil))))))))) rfl ?ho ?hcd ?bind ?loc ?a ?b ?c ?d ?_; (case ho => k_is); (case hcd => k_is); (case bind => exact fun _ => BindsTo.of_eq rfl); (case loc => exact locs rfl); (case a => exact rfl); (case b => exact rfl); (case c => exact rfl); (case d => decide))
  intro p0 loose0 mean0 mg0 mb0 dp9 fr9 gd9 un9 s RR h₁ L rest tk Q' X T C R post hL F N hR hQ hQn; clear C
  dsimp only [List.cons_append, List.nil_append] at N
  change Rest B h [c.ca, c.cd, c.ma, c.md, x0.t, x0.td, c.rl, c.fso, c.cc] rest at hR
  have hr0 := hR.off c.ca (.head _)
  have hr1 := hR.off c.cd (.tail _ (.head _))
  have hr2 := hR.off c.ma (.tail _ (.tail _ (.head _)))
  have hr3 := hR.off c.md (.tail _ (.tail _ (.tail _ (.head _))))
  have hr4 := hR.off x0.t (.tail _ (.tail _ (.tail _ (.tail _ (.head _)))))
  have hr5 := hR.off x0.td (.tail _ (.tail _ (.tail _ (.tail _ (.tail _ (.head _))))))
  have hr6 := hR.off c.rl (.tail _ (.tail _ (.tail _ (.tail _ (.tail _ (.tail _ (.head _)))))))
  have hr7 := hR.off c.fso (.tail _ (.tail _ (.tail _ (.tail _ (.tail _ (.tail _ (.tail _ (.head _))))))))
  have hr8 := hR.off c.cc (.tail _ (.tail _ (.tail _ (.tail _ (.tail _ (.tail _ (.tail _ (.tail _ (.head _)))))))))
  have hh := R.handled
  k_steps
  (with_reducible rename Fr _ _ _ _ => F9); (with_reducible rename News _ _ _ _ => N9)
  refine Con.call (roots_con W0 (Keep.of_fr F9) (newsOwn N9 (by k_mem)) (newsOwn N9 (by k_mem)) (by assumption)) rfl (Room.deeper (R.le (by decide))) ?_
  intro v9 H9 tk9 K9 U9 rfl
  replace N9 := newsKeep N9 U9 (fun _ _ x => x)
  replace F9 := frStep F9 U9 (fun x => x) base0
  dsimp only
  k_steps
  (with_reducible rename News _ _ _ _ => N9); (with_reducible rename Fr _ _ _ _ => F9)
  (with_reducible rename Fr _ _ _ _ => F9); (with_reducible rename News _ _ _ _ => N9)
  have hU0 := hR.upto (S := is0) hB F9 N9 (by intro p hp; repeat (first | exact hp | apply List.Mem.tail)) (by
    refine allC (?_) (allC (?_) (allC (?_) (allC (?_) (allC (?_) (allC (?_) (allC (?_) (allC (?_) (allC (?_) (List.forall_mem_nil _)))))))))
    · first | exact Or.inr ((newsOwn N9 (a := c.ca) (by k_mem)).1.trans h1.1.symm) | exact Or.inl ⟨by first | exact rfl | exact Or.inl rfl | exact Or.inr rfl | exact Or.inr (Or.inl rfl) | exact Or.inr (Or.inr rfl) | exact Or.inr (Or.inr (Or.inr ⟨_, .head _, rfl⟩)) | exact Or.inr (Or.inr (Or.inl (by first | exact Mut.m0 _ | exact Mut.m1 _ | exact Mut.m2 _ | exact Mut.m3 _))), newsLive N9 (by k_mem)⟩
    · first | exact Or.inr ((newsOwn N9 (a := c.cd) (by k_mem)).1.trans h2.1.symm) | exact Or.inl ⟨by first | exact rfl | exact Or.inl rfl | exact Or.inr rfl | exact Or.inr (Or.inl rfl) | exact Or.inr (Or.inr rfl) | exact Or.inr (Or.inr (Or.inr ⟨_, .head _, rfl⟩)) | exact Or.inr (Or.inr (Or.inl (by first | exact Mut.m0 _ | exact Mut.m1 _ | exact Mut.m2 _ | exact Mut.m3 _))), newsLive N9 (by k_mem)⟩
    · first | exact Or.inr ((newsOwn N9 (a := c.ma) (by k_mem)).1.trans h3.1.symm) | exact Or.inl ⟨by first | exact rfl | exact Or.inl rfl | exact Or.inr rfl | exact Or.inr (Or.inl rfl) | exact Or.inr (Or.inr rfl) | exact Or.inr (Or.inr (Or.inr ⟨_, .head _, rfl⟩)) | exact Or.inr (Or.inr (Or.inl (by first | exact Mut.m0 _ | exact Mut.m1 _ | exact Mut.m2 _ | exact Mut.m3 _))), newsLive N9 (by k_mem)⟩
    · first | exact Or.inr ((newsOwn N9 (a := c.md) (by k_mem)).1.trans h4.1.symm) | exact Or.inl ⟨by first | exact rfl | exact Or.inl rfl | exact Or.inr rfl | exact Or.inr (Or.inl rfl) | exact Or.inr (Or.inr rfl) | exact Or.inr (Or.inr (Or.inr ⟨_, .head _, rfl⟩)) | exact Or.inr (Or.inr (Or.inl (by first | exact Mut.m0 _ | exact Mut.m1 _ | exact Mut.m2 _ | exact Mut.m3 _))), newsLive N9 (by k_mem)⟩
    · first | exact Or.inr ((newsOwn N9 (a := x0.t) (by k_mem)).1.trans h5.1.symm) | exact Or.inl ⟨by first | exact rfl | exact Or.inl rfl | exact Or.inr rfl | exact Or.inr (Or.inl rfl) | exact Or.inr (Or.inr rfl) | exact Or.inr (Or.inr (Or.inr ⟨_, .head _, rfl⟩)) | exact Or.inr (Or.inr (Or.inl (by first | exact Mut.m0 _ | exact Mut.m1 _ | exact Mut.m2 _ | exact Mut.m3 _))), newsLive N9 (by k_mem)⟩
    · first | exact Or.inr ((newsOwn N9 (a := x0.td) (by k_mem)).1.trans h6.1.symm) | exact Or.inl ⟨by first | exact rfl | exact Or.inl rfl | exact Or.inr rfl | exact Or.inr (Or.inl rfl) | exact Or.inr (Or.inr rfl) | exact Or.inr (Or.inr (Or.inr ⟨_, .head _, rfl⟩)) | exact Or.inr (Or.inr (Or.inl (by first | exact Mut.m0 _ | exact Mut.m1 _ | exact Mut.m2 _ | exact Mut.m3 _))), newsLive N9 (by k_mem)⟩
    · first | exact Or.inr ((newsOwn N9 (a := c.rl) (by k_mem)).1.trans h7.1.symm) | exact Or.inl ⟨by first | exact rfl | exact Or.inl rfl | exact Or.inr rfl | exact Or.inr (Or.inl rfl) | exact Or.inr (Or.inr rfl) | exact Or.inr (Or.inr (Or.inr ⟨_, .head _, rfl⟩)) | exact Or.inr (Or.inr (Or.inl (by first | exact Mut.m0 _ | exact Mut.m1 _ | exact Mut.m2 _ | exact Mut.m3 _))), newsLive N9 (by k_mem)⟩
    · first | exact Or.inr ((newsOwn N9 (a := c.fso) (by k_mem)).1.trans h8.1.symm) | exact Or.inl ⟨by first | exact rfl | exact Or.inl rfl | exact Or.inr rfl | exact Or.inr (Or.inl rfl) | exact Or.inr (Or.inr rfl) | exact Or.inr (Or.inr (Or.inr ⟨_, .head _, rfl⟩)) | exact Or.inr (Or.inr (Or.inl (by first | exact Mut.m0 _ | exact Mut.m1 _ | exact Mut.m2 _ | exact Mut.m3 _))), newsLive N9 (by k_mem)⟩
    · first | exact Or.inr ((newsOwn N9 (a := c.cc) (by k_mem)).1.trans h9.1.symm) | exact Or.inl ⟨by first | exact rfl | exact Or.inl rfl | exact Or.inr rfl | exact Or.inr (Or.inl rfl) | exact Or.inr (Or.inr rfl) | exact Or.inr (Or.inr (Or.inr ⟨_, .head _, rfl⟩)) | exact Or.inr (Or.inr (Or.inl (by first | exact Mut.m0 _ | exact Mut.m1 _ | exact Mut.m2 _ | exact Mut.m3 _))), newsLive N9 (by k_mem)⟩)
  (with_reducible rename Fr _ _ _ _ => F9); (with_reducible rename News _ _ _ _ => N9)
  refine Con.call (begin_con (a := c.mk' m) (x := x0) W0 (Keep.of_fr F9) (newsOwn N9 (by k_mem)) (newsOwn N9 (by k_mem)) ⟨newsOwn N9 (by k_mem), newsOwn N9 (by k_mem)⟩ (newsOwn N9 (by k_mem)) ⟨nm, ql, pm, ctv, oc, vs, tq, newsOwn N9 (by k_mem), newsOwn N9 (by k_mem), hd, hv⟩ hm (by (first | refine Nd.m3 ?_ | refine Nd.m4 ?_ | refine Nd.m5 ?_ | refine Nd.m6 ?_ | refine Nd.m7 ?_ | refine Nd.m8 ?_ | refine Nd.m11 ?_) <;> constructor <;> first | assumption | (refine NeN.symm ?_; assumption))) rfl (Room.deeper (R.le (by decide))) ?_
  rintro v9 H9 tk9 K9 U9 t9_5
  refine hide fun P9 hP9 => ?_
  rcases t9_5 with ⟨gl, ga, wk, b1, ⟨t2, b2o, b2⟩, ⟨n', b3⟩, b4, b5, b6, b7, b8, b9⟩
  refine hP9 ?_; clear hP9 P9
  have N8 : News B L H9 ((c.ca, instObj 346 c.cd) :: (c.cd, dictOf (cycEs c.kc m.tc (c.cy m) v) 14) :: (c.ma, instObj 136 c.md) :: (c.md, dictOf (mksEs c.km { c.mk' m with gl := gl, ga := ga, wk := wk } white m.tw) 6) :: (x0.t, instObj 367 x0.td) :: (x0.td, dictOf (thEs x0.k x0.num 2 x0.sz x0.t1 t2 x0.t3) 3) :: (c.rl, listOf ((List.take 1 (x0 :: xr)).map Th.ref).toArray c.nr) :: (c.fso, kla_obj nm ql soParams soBody soScope [] pm c.cc ctv) :: (c.cc, oc) :: (gl, listOf #[x0.ref] n') :: (ga, listOf #[] 0) :: (wk, listOf #[] 0) :: rest) := by
    refine newsStep N9 U9 (allC (?_) (allC (?_) (allC (?_) (allC (?_) (allC (?_) (allC (?_) (allC (?_) (allC (?_) (allC (?_) (allC (?_) (allC (?_) (allC (?_) (fun p hp => .inl ⟨?_, ?_⟩)))))))))))))
    · first | exact .inl ⟨by k_mem, by ktr_rel⟩ | exact .inr ⟨by assumption, newsNeL N9 (by k_mem)⟩ | exact .inr ⟨by assumption, neL_of_new F9 (by assumption)⟩
    · first | exact .inl ⟨by k_mem, by ktr_rel⟩ | exact .inr ⟨by assumption, newsNeL N9 (by k_mem)⟩ | exact .inr ⟨by assumption, neL_of_new F9 (by assumption)⟩
    · first | exact .inl ⟨by k_mem, by ktr_rel⟩ | exact .inr ⟨by assumption, newsNeL N9 (by k_mem)⟩ | exact .inr ⟨by assumption, neL_of_new F9 (by assumption)⟩
    · first | exact .inl ⟨by k_mem, by ktr_rel⟩ | exact .inr ⟨by assumption, newsNeL N9 (by k_mem)⟩ | exact .inr ⟨by assumption, neL_of_new F9 (by assumption)⟩
    · first | exact .inl ⟨by k_mem, by ktr_rel⟩ | exact .inr ⟨by assumption, newsNeL N9 (by k_mem)⟩ | exact .inr ⟨by assumption, neL_of_new F9 (by assumption)⟩
    · first | exact .inl ⟨by k_mem, by ktr_rel⟩ | exact .inr ⟨by assumption, newsNeL N9 (by k_mem)⟩ | exact .inr ⟨by assumption, neL_of_new F9 (by assumption)⟩
    · first | exact .inl ⟨by k_mem, by ktr_rel⟩ | exact .inr ⟨by assumption, newsNeL N9 (by k_mem)⟩ | exact .inr ⟨by assumption, neL_of_new F9 (by assumption)⟩
    · first | exact .inl ⟨by k_mem, by ktr_rel⟩ | exact .inr ⟨by assumption, newsNeL N9 (by k_mem)⟩ | exact .inr ⟨by assumption, neL_of_new F9 (by assumption)⟩
    · first | exact .inl ⟨by k_mem, by ktr_rel⟩ | exact .inr ⟨by assumption, newsNeL N9 (by k_mem)⟩ | exact .inr ⟨by assumption, neL_of_new F9 (by assumption)⟩
    · first | exact .inl ⟨by k_mem, by ktr_rel⟩ | exact .inr ⟨by assumption, newsNeL N9 (by k_mem)⟩ | exact .inr ⟨by assumption, neL_of_new F9 (by assumption)⟩
    · first | exact .inl ⟨by k_mem, by ktr_rel⟩ | exact .inr ⟨by assumption, newsNeL N9 (by k_mem)⟩ | exact .inr ⟨by assumption, neL_of_new F9 (by assumption)⟩
    · first | exact .inl ⟨by k_mem, by ktr_rel⟩ | exact .inr ⟨by assumption, newsNeL N9 (by k_mem)⟩ | exact .inr ⟨by assumption, neL_of_new F9 (by assumption)⟩
    · repeat (first | exact hp | apply List.Mem.tail)
    · exact nosr2 (by k_all) (by k_all) p hp
  have F8 := frStep F9 U9 (nos2 (newsNeL N9 (by k_mem)).symm (newsNeL N9 (by k_mem)).symm) (base2 (newsOwn N9 (by k_mem)).2 (newsOwn N9 (by k_mem)).2)
  clear F9 N9; have F9 := F8; have N9 := N8; clear F8 N8
  dsimp only
  have fgl := hU0.dead b6
  have fga := hU0.dead b7
  have fwk := hU0.dead b8
  have n1 := h2.ne_fresh fgl; have n2 := h2.ne_fresh fga; have n3 := h2.ne_fresh fwk
  k_steps
  (with_reducible rename Fr _ _ _ _ => F9); (with_reducible rename News _ _ _ _ => N9)
  have U2 := hR.upto (S := is3 c.cd c.md x0.td) hB F9 N9 (by intro p hp; repeat (first | exact hp | apply List.Mem.tail)) (by
    refine allC (?_) (allC (?_) (allC (?_) (allC (?_) (allC (?_) (allC (?_) (allC (?_) (allC (?_) (allC (?_) (List.forall_mem_nil _)))))))))
    · first | exact Or.inr ((newsOwn N9 (a := c.ca) (by k_mem)).1.trans h1.1.symm) | exact Or.inl ⟨by first | exact rfl | exact Or.inl rfl | exact Or.inr rfl | exact Or.inr (Or.inl rfl) | exact Or.inr (Or.inr rfl) | exact Or.inr (Or.inr (Or.inr ⟨_, .head _, rfl⟩)) | exact Or.inr (Or.inr (Or.inl (by first | exact Mut.m0 _ | exact Mut.m1 _ | exact Mut.m2 _ | exact Mut.m3 _))), newsLive N9 (by k_mem)⟩
    · first | exact Or.inr ((newsOwn N9 (a := c.cd) (by k_mem)).1.trans h2.1.symm) | exact Or.inl ⟨by first | exact rfl | exact Or.inl rfl | exact Or.inr rfl | exact Or.inr (Or.inl rfl) | exact Or.inr (Or.inr rfl) | exact Or.inr (Or.inr (Or.inr ⟨_, .head _, rfl⟩)) | exact Or.inr (Or.inr (Or.inl (by first | exact Mut.m0 _ | exact Mut.m1 _ | exact Mut.m2 _ | exact Mut.m3 _))), newsLive N9 (by k_mem)⟩
    · first | exact Or.inr ((newsOwn N9 (a := c.ma) (by k_mem)).1.trans h3.1.symm) | exact Or.inl ⟨by first | exact rfl | exact Or.inl rfl | exact Or.inr rfl | exact Or.inr (Or.inl rfl) | exact Or.inr (Or.inr rfl) | exact Or.inr (Or.inr (Or.inr ⟨_, .head _, rfl⟩)) | exact Or.inr (Or.inr (Or.inl (by first | exact Mut.m0 _ | exact Mut.m1 _ | exact Mut.m2 _ | exact Mut.m3 _))), newsLive N9 (by k_mem)⟩
    · first | exact Or.inr ((newsOwn N9 (a := c.md) (by k_mem)).1.trans h4.1.symm) | exact Or.inl ⟨by first | exact rfl | exact Or.inl rfl | exact Or.inr rfl | exact Or.inr (Or.inl rfl) | exact Or.inr (Or.inr rfl) | exact Or.inr (Or.inr (Or.inr ⟨_, .head _, rfl⟩)) | exact Or.inr (Or.inr (Or.inl (by first | exact Mut.m0 _ | exact Mut.m1 _ | exact Mut.m2 _ | exact Mut.m3 _))), newsLive N9 (by k_mem)⟩
    · first | exact Or.inr ((newsOwn N9 (a := x0.t) (by k_mem)).1.trans h5.1.symm) | exact Or.inl ⟨by first | exact rfl | exact Or.inl rfl | exact Or.inr rfl | exact Or.inr (Or.inl rfl) | exact Or.inr (Or.inr rfl) | exact Or.inr (Or.inr (Or.inr ⟨_, .head _, rfl⟩)) | exact Or.inr (Or.inr (Or.inl (by first | exact Mut.m0 _ | exact Mut.m1 _ | exact Mut.m2 _ | exact Mut.m3 _))), newsLive N9 (by k_mem)⟩
    · first | exact Or.inr ((newsOwn N9 (a := x0.td) (by k_mem)).1.trans h6.1.symm) | exact Or.inl ⟨by first | exact rfl | exact Or.inl rfl | exact Or.inr rfl | exact Or.inr (Or.inl rfl) | exact Or.inr (Or.inr rfl) | exact Or.inr (Or.inr (Or.inr ⟨_, .head _, rfl⟩)) | exact Or.inr (Or.inr (Or.inl (by first | exact Mut.m0 _ | exact Mut.m1 _ | exact Mut.m2 _ | exact Mut.m3 _))), newsLive N9 (by k_mem)⟩
    · first | exact Or.inr ((newsOwn N9 (a := c.rl) (by k_mem)).1.trans h7.1.symm) | exact Or.inl ⟨by first | exact rfl | exact Or.inl rfl | exact Or.inr rfl | exact Or.inr (Or.inl rfl) | exact Or.inr (Or.inr rfl) | exact Or.inr (Or.inr (Or.inr ⟨_, .head _, rfl⟩)) | exact Or.inr (Or.inr (Or.inl (by first | exact Mut.m0 _ | exact Mut.m1 _ | exact Mut.m2 _ | exact Mut.m3 _))), newsLive N9 (by k_mem)⟩
    · first | exact Or.inr ((newsOwn N9 (a := c.fso) (by k_mem)).1.trans h8.1.symm) | exact Or.inl ⟨by first | exact rfl | exact Or.inl rfl | exact Or.inr rfl | exact Or.inr (Or.inl rfl) | exact Or.inr (Or.inr rfl) | exact Or.inr (Or.inr (Or.inr ⟨_, .head _, rfl⟩)) | exact Or.inr (Or.inr (Or.inl (by first | exact Mut.m0 _ | exact Mut.m1 _ | exact Mut.m2 _ | exact Mut.m3 _))), newsLive N9 (by k_mem)⟩
    · first | exact Or.inr ((newsOwn N9 (a := c.cc) (by k_mem)).1.trans h9.1.symm) | exact Or.inl ⟨by first | exact rfl | exact Or.inl rfl | exact Or.inr rfl | exact Or.inr (Or.inl rfl) | exact Or.inr (Or.inr rfl) | exact Or.inr (Or.inr (Or.inr ⟨_, .head _, rfl⟩)) | exact Or.inr (Or.inr (Or.inl (by first | exact Mut.m0 _ | exact Mut.m1 _ | exact Mut.m2 _ | exact Mut.m3 _))), newsLive N9 (by k_mem)⟩)
  have UU : Upto (Foot c m (x0 :: xr)) h _ := U2.mono (fun a e _ => e.elim .inl fun e => e.elim (fun e => .inr (.inl e)) fun e => .inr (.inr (.inr ⟨x0, .head _, e⟩)))
  have fr9 : Fresh c m ⟨gl, ga, wk, m.ts, n', 0, 0, m.ns, m.tw, ⟨415, m.tc.total, m.tc.est, m.tc.debt, m.tc.ssz, m.tc.smax, m.tc.thr, m.tc.pause, m.tc.mul, m.tc.cyc⟩⟩ h := by
    have k1 := r.ts.ne_fresh fgl; have k2 := r.ts.ne_fresh fga; have k3 := r.ts.ne_fresh fwk
    obtain ⟨b9_0_1, b9_0_2, b9_1_2⟩ := Nd.o3 b9
    refine ⟨?_, ?_⟩
    · show Nd [gl, ga, wk, m.ts]
      exact (by (first | refine Nd.m3 ?_ | refine Nd.m4 ?_ | refine Nd.m5 ?_ | refine Nd.m6 ?_ | refine Nd.m7 ?_ | refine Nd.m8 ?_ | refine Nd.m11 ?_) <;> constructor <;> first | assumption | (refine NeN.symm ?_; assumption))
    · show ∀ a ∈ [gl, ga, wk, m.ts], _
      exact allC (.inr fgl) (allC (.inr fga) (allC (.inr fwk) (allC (.inl (by first | exact Mut.m0 _ | exact Mut.m1 _ | exact Mut.m2 _ | exact Mut.m3 _)) (List.forall_mem_nil _))))
  refine hQn _ (post _ _ _ (Keep.of_fr F9) UU ⟨_, t2, r.next UU (fun _ q _ => q) (.cons (SameTh.mark x0 2 t2) (Same.refl xr)) fr9 r.tot (newsOwn N9 (by k_mem)) (newsOwn N9 (by k_mem)) (newsOwn N9 (by k_mem)) (newsOwn N9 (by k_mem)) (newsOwn N9 (by k_mem)) ?_ ?_, fr9⟩)
  · exact U2.own r.ts (nos3 (by k_ne) (by k_ne) (by k_ne))
  · intro y hy
    rcases List.mem_cons.1 hy with rfl | hy
    · exact ⟨newsOwn N9 (by k_mem), newsOwn N9 (by k_mem)⟩
    · refine hide fun P9 hP9 => ?_
      obtain ⟨q1, q2, q3, q4⟩ := r.neT (.tail _ hy)
      refine hP9 ?_; clear hP9 P9
      have q5 : NeN y.td x0.td := fun e => (List.nodup_cons.1 r.sep.nd).1 (List.mem_map.2 ⟨y, hy, e⟩)
      exact (r.th y (.tail _ hy)).upto U2 (nos3 q1 q2 (r.sep.td y (.tail _ hy) x0 (.head _))) (nos3 q3 q4 q5)
end
section
set_option maxRecDepth 100000
open PySem PySem.W PySem.Calls PyProof.Rows
theorem reset_L12 : True := by
  w_top off
  trivial
variable {w : World} {B h : Heap}
theorem choose_marks {B h : Heap} (f : Th → Int) : ∀ {xs : List Th}, (∀ x ∈ xs, ∃ t2, ThAt B h (x.mark (f x) t2)) → ∃ ys, Same xs ys ∧ (∀ y ∈ ys, ThAt B h y) ∧ ys.map (·.mrk) = xs.map f
  | [], _ => ⟨[], .nil, (fun _ hy => by cases hy), rfl⟩
  | x :: r, H => by
    refine hide fun P9 hP9 => ?_
    obtain ⟨t2, q⟩ := H x (.head _)
    obtain ⟨ys, a, b, e⟩ := choose_marks f (xs := r) fun y hy => H y (.tail _ hy)
    refine hP9 ?_; clear hP9 P9
    refine ⟨x.mark (f x) t2 :: ys, .cons (SameTh.mark ..) a, fun y hy => ?_, ?_⟩
    · rcases List.mem_cons.1 hy with rfl | hy
      · exact q
      · exact b y hy
    · rw [List.map_cons, List.map_cons, e]; rfl
theorem marks_get {f : Th → Int} {xs ys : List Th} (e : ys.map (·.mrk) = xs.map f) {i : Nat} {y : Th} (hy : ys[i]? = some y) : ∃ x, xs[i]? = some x ∧ y.mrk = f x := by
  have h := congrArg (fun l => l[i]?) e
  simp only [List.getElem?_map, hy, Option.map_some] at h
  cases hx : xs[i]? with
  | none => rw [hx] at h; cases h
  | some x => rw [hx] at h; exact ⟨x, rfl, Option.some.inj h⟩
theorem Same.trans {xs ys zs : List Th} (a : Same xs ys) (b : Same ys zs) : Same xs zs := by
  induction a generalizing zs with
  | nil => exact b
  | cons h _ ih =>
    cases b with
    | cons h' b' => exact .cons ⟨h'.1.trans h.1, h'.2.1.trans h.2.1, h'.2.2.1.trans h.2.2.1, h'.2.2.2.trans h.2.2.2⟩ (ih b')
theorem CRep.len' {c : Cfg} {m : Mut} {v : CycI} {white : Int} {xs : List Th} {gv sv : List Value} (r : CRep w B h c m v white xs gv sv) : xs.length = c.szs.length := by rw [← r.szs, List.length_map]
theorem CRep.num_inj {c : Cfg} {m : Mut} {v : CycI} {white : Int} {xs : List Th} {gv sv : List Value} (r : CRep w B h c m v white xs gv sv) {x y : Th} (hx : x ∈ xs) (hy : y ∈ xs) (e : x.num = y.num) : x = y := by
  refine hide fun P9 hP9 => ?_
  obtain ⟨i, hi⟩ := List.getElem?_of_mem hx
  obtain ⟨j, hj⟩ := List.getElem?_of_mem hy
  refine hP9 ?_; clear hP9 P9
  have a := r.num i x hi
  have b := r.num j y hj
  have : i = j := by omega
  subst this
  exact Option.some.inj (hi.symm.trans hj)
theorem CRep.td_ne {c : Cfg} {m : Mut} {v : CycI} {white : Int} {xs : List Th} {gv sv : List Value} (r : CRep w B h c m v white xs gv sv) {x y : Th} (hx : x ∈ xs) (hy : y ∈ xs) (e : x.num ≠ y.num) : NeN x.td y.td := by
  refine hide fun P9 hP9 => ?_
  obtain ⟨i, hi⟩ := List.getElem?_of_mem hx
  obtain ⟨j, hj⟩ := List.getElem?_of_mem hy
  refine hP9 ?_; clear hP9 P9
  have a := r.num i x hi
  have b := r.num j y hj
  intro q
  have nd := r.sep.nd
  have hij : i ≠ j := by omega
  have hi' := List.getElem?_eq_some_iff.1 hi
  have hj' := List.getElem?_eq_some_iff.1 hj
  refine hide fun P9 hP9 => ?_
  obtain ⟨li, ei⟩ := hi'
  obtain ⟨lj, ej⟩ := hj'
  refine hP9 ?_; clear hP9 P9
  have key := List.pairwise_iff_getElem.1 nd
  rcases Nat.lt_or_gt_of_ne hij with hlt | hlt
  · exact key i j (by simpa using li) (by simpa using lj) hlt (by simp [ei, ej]; exact q)
  · exact key j i (by simpa using lj) (by simpa using li) hlt (by simp [ei, ej]; exact q.symm)
/-- the marks behind one grey step from x -/
def greyed (x : Th) (y : Th) : Int := if y.num = x.num then 3 else if x.num = 1 then 2 else y.mrk
set_option maxHeartbeats 1000000 in
theorem propR_con (W : Wd w B) (hB : Keep B h) {c : Cfg} {m : Mut} {v : CycI} {white : Int} {xs : List Th} {p sv : List Value} {x : Th} (hx : x ∈ xs) (r : CRep w B h c m v white xs (p ++ [x.ref]) sv) (hp : p.length ≤ 40)
    (hw : x.num = 1 → ∀ y ∈ xs.drop 1, y.mrk < 2) :
    Con w B 6 91 [.ref c.ma] (Foot c m xs) h (fun rv h' => (∃ t, rv = .int (max 1 x.sz) t) ∧ ∃ m' ys, CRep w B h' c m' v white ys (p ++ if x.num = 1 then (xs.drop 1).map Th.ref else []) sv ∧ Fresh c m m' h ∧ Same xs ys ∧ ys.map (·.mrk) = xs.map (greyed x)) := by
  refine hide fun P9 hP9 => ?_
  obtain ⟨z0_1, z0_2, z0_3, z0_4, z0_5, z0_6, z0_7, z0_8, z0_9, z0_10, z0_11, z1_2, z1_3, z1_4, z1_5, z1_6, z1_7, z1_8, z1_9, z1_10, z1_11, z2_3, z2_4, z2_5, z2_6, z2_7, z2_8, z2_9, z2_10, z2_11, z3_4, z3_5, z3_6, z3_7, z3_8, z3_9, z3_10, z3_11, z4_5, z4_6, z4_7, z4_8, z4_9, z4_10, z4_11, z5_6, z5_7, z5_8, z5_9, z5_10, z5_11, z6_7, z6_8, z6_9, z6_10, z6_11, z7_8, z7_9, z7_10, z7_11, z8_9, z8_10, z8_11, z9_10, z9_11, z10_11, y0_1, y0_2, y0_3, y1_2, y1_3, y2_3, w0_0, w0_1, w0_2, w0_3, w1_0, w1_1, w1_2, w1_3, w2_0, w2_1, w2_2, w2_3, w3_0, w3_1, w3_2, w3_3, w4_0, w4_1, w4_2, w4_3, w5_0, w5_1, w5_2, w5_3, w6_0, w6_1, w6_2, w6_3, w7_0, w7_1, w7_2, w7_3, w8_0, w8_1, w8_2, w8_3, w9_0, w9_1, w9_2, w9_3, w10_0, w10_1, w10_2, w10_3, w11_0, w11_1, w11_2, w11_3⟩ := (Sep.fx (Sep.ofLists r.sep rfl) : Fx c m)
  obtain ⟨f0_x, f1_x, f2_x, f3_x, f4_x, f5_x, f6_x, f7_x, f8_x, f9_x, f10_x, f11_x, l0_x, l1_x, l2_x, l3_x, g0_x, g1_x, g2_x, g3_x, g4_x, g5_x, g6_x, g7_x, g8_x, g9_x, g10_x, g11_x, k0_x, k1_x, k2_x, k3_x, tt_x⟩ := (Sep.tx (Sep.ofLists r.sep rfl) hx : Tx c m x)
  refine hP9 ?_; clear hP9 P9
  have hlen := r.len'
  have hl := r.len
  have hin : ∀ y ∈ xs.drop 1, y ∈ xs := fun y hy => List.mem_of_mem_drop hy
  have key : ∀ (ys : List Th), (x.num = 1 ∧ ys = xs.drop 1) ∨ (x.num ≠ 1 ∧ ys = []) → Con w B 6 91 [.ref c.ma] (gS x m.gl ys) h (fun r h' => (∃ t, r = .int (max 1 x.sz) t) ∧ (∃ t2, ThAt B h' (x.mark 3 t2)) ∧ (∀ y ∈ ys, ∃ t2, ThAt B h' (y.mark 2 t2)) ∧ ∃ n', Own B h' m.gl (listOf (p ++ ys.map Th.ref).toArray n')) := by
    intro ys hys
    have hsub : ∀ y ∈ ys, y ∈ xs ∧ x.num = 1 ∧ y.mrk < 2 ∧ y.num ≠ 1 := by
      intro y hy
      rcases hys with ⟨e, rfl⟩ | ⟨_, rfl⟩
      · refine ⟨hin y hy, e, hw e y hy, ?_⟩
        obtain ⟨i, hi⟩ := List.getElem?_of_mem hy
        rw [List.getElem?_drop] at hi
        have := r.num _ _ hi
        omega
      · cases hy
    refine prop_con (a := c.mk' m) W hB r.ma r.md (r.th x hx) r.gl r.so r.ch r.cell r.cod r.tl ?_ ?_ ?_ ?_ ?_ ?_ ?_
    · simp; omega
    · have : ys.length ≤ xs.length := by
        rcases hys with ⟨_, rfl⟩ | ⟨_, rfl⟩
        · rw [List.length_drop]; omega
        · simp
      omega
    · rcases hys with ⟨e, rfl⟩ | e
      · left
        refine ⟨e, ?_⟩
        have := slicePick_from' (xs.map Th.ref).toArray 1
        rw [List.toList_toArray, ← List.map_drop] at this
        exact this
      · exact .inr e
    · exact (by (first | refine Nd.m3 ?_ | refine Nd.m4 ?_ | refine Nd.m5 ?_ | refine Nd.m6 ?_ | refine Nd.m7 ?_ | refine Nd.m8 ?_ | refine Nd.m11 ?_) <;> constructor <;> first | assumption | (refine NeN.symm ?_; assumption))
    · intro y hy
      refine hide fun P9 hP9 => ?_
      obtain ⟨q1, q2, q3, q4⟩ := hsub y hy
      obtain ⟨f0_y, f1_y, f2_y, f3_y, f4_y, f5_y, f6_y, f7_y, f8_y, f9_y, f10_y, f11_y, l0_y, l1_y, l2_y, l3_y, g0_y, g1_y, g2_y, g3_y, g4_y, g5_y, g6_y, g7_y, g8_y, g9_y, g10_y, g11_y, k0_y, k1_y, k2_y, k3_y, tt_y⟩ := (Sep.tx (Sep.ofLists r.sep rfl) q1 : Tx c m y)
      refine hP9 ?_; clear hP9 P9
      refine ⟨r.th y q1, q3, (by (first | refine Nd.m3 ?_ | refine Nd.m4 ?_ | refine Nd.m5 ?_ | refine Nd.m6 ?_ | refine Nd.m7 ?_ | refine Nd.m8 ?_ | refine Nd.m11 ?_) <;> constructor <;> first | assumption | (refine NeN.symm ?_; assumption)), (r.sep.td x hx y q1).symm, r.td_ne q1 hx (by omega), by assumption, by assumption⟩
    · exact fun y hy z hz => r.sep.td y (hsub y hy).1 z (hsub z hz).1
    · rcases hys with ⟨_, rfl⟩ | ⟨_, rfl⟩
      · rw [List.map_drop]; exact r.sep.nd.sublist (List.drop_sublist ..)
      · exact List.nodup_nil
  intro A s R hs Rm k
  have hys : (x.num = 1 ∧ (if x.num = 1 then xs.drop 1 else []) = xs.drop 1) ∨ (x.num ≠ 1 ∧ (if x.num = 1 then xs.drop 1 else []) = []) := by
    by_cases e : x.num = 1
    · exact .inl ⟨e, if_pos e⟩
    · exact .inr ⟨e, if_neg e⟩
  generalize hyy : (if x.num = 1 then xs.drop 1 else []) = ys at hys
  have hsub : ∀ y ∈ ys, y ∈ xs := by
    intro y hy
    rcases hys with ⟨_, rfl⟩ | ⟨_, rfl⟩
    · exact hin y hy
    · cases hy
  refine key ys hys A s R hs Rm ?_
  rintro rv h' tk' K U t9_5
  refine hide fun P9 hP9 => ?_
  rcases t9_5 with ⟨q1, q2, q3, n', q4⟩
  refine hP9 ?_; clear hP9 P9
  have hng : ∀ {a : Addr}, (∀ y ∈ xs, NeN y.td a) → NeN m.gl a → ¬ gS x m.gl ys a := fun h1 h2 e => by
    refine hide fun P9 hP9 => ?_
    (rcases e with e | e | ⟨y, hy, e⟩) <;> (refine hP9 ?_; clear hP9 P9)
    · exact h1 x hx e.symm
    · exact h2 e.symm
    · exact h1 y (hsub y hy) e.symm
  have hS : ∀ a, gS x m.gl ys a → (h.get? a).isSome → Foot c m xs a := fun a e _ => by
    refine hide fun P9 hP9 => ?_
    (rcases e with e | e | ⟨y, hy, e⟩) <;> (refine hP9 ?_; clear hP9 P9)
    · exact .inr (.inr (.inr ⟨x, hx, e⟩))
    · exact .inr (.inr (.inl (by rw [show a = m.gl from e]; simp [Mut.lists])))
    · exact .inr (.inr (.inr ⟨y, hsub y hy, e⟩))
  obtain ⟨zs, z1, z2, z3⟩ := choose_marks (B := B) (h := h') (greyed x) (xs := xs) fun y hy => by
    unfold greyed
    by_cases e : y.num = x.num
    · rw [if_pos e, r.num_inj hy hx e]; exact q2
    · rw [if_neg e]
      by_cases e1 : x.num = 1
      · rw [if_pos e1]
        refine q3 y ?_
        rw [← hyy, if_pos e1]
        obtain ⟨i, hi⟩ := List.getElem?_of_mem hy
        have := r.num i y hi
        cases i with
        | zero => omega
        | succ i => exact List.mem_of_getElem? (i := i) (by rw [List.getElem?_drop, Nat.add_comm]; exact hi)
      · rw [if_neg e1]
        refine ⟨y.t2, (r.th y hy).upto U (hng (fun z hz => (r.sep.td y hy z hz).symm) (r.sep.tl y hy _ (by first | exact Mut.m0 _ | exact Mut.m1 _ | exact Mut.m2 _ | exact Mut.m3 _)).symm) (fun q => ?_)⟩
        refine hide fun P9 hP9 => ?_
        (rcases q with q | q | ⟨z, hz, q⟩) <;> (refine hP9 ?_; clear hP9 P9)
        · exact r.td_ne hy hx e q
        · exact r.sep.dl y hy _ (by first | exact Mut.m0 _ | exact Mut.m1 _ | exact Mut.m2 _ | exact Mut.m3 _) q
        · refine hide fun P9 hP9 => ?_
          (rcases hys with ⟨e2, _⟩ | ⟨_, e2⟩) <;> (refine hP9 ?_; clear hP9 P9)
          · exact e1 e2
          · rw [e2] at hz; cases hz
  have fr : Fresh c m { m with ng := n' } h := ⟨r.sep.lists, fun a ha => .inl ha⟩
  have fx : ∀ {a : Addr}, a ∈ c.fix → ∀ y ∈ xs, NeN y.td a := fun ha y hy => r.sep.df y hy _ ha
  have fl : ∀ {a : Addr}, a ∈ m.lists → ∀ y ∈ xs, NeN y.td a := fun ha y hy => r.sep.dl y hy _ ha
  refine k rv h' tk' K (U.mono hS) ⟨q1, { m with ng := n' }, zs, ?_, fr, z1, z3⟩
  have hpe : (p ++ if x.num = 1 then (xs.drop 1).map Th.ref else []) = p ++ ys.map Th.ref := by
    rw [← hyy]; by_cases e : x.num = 1 <;> simp [e]
  rw [hpe]
  exact r.next U hS z1 fr r.tot (U.own r.cd (hng (fx (by first | exact Cfg.m0 _ | exact Cfg.m1 _ | exact Cfg.m2 _ | exact Cfg.m3 _ | exact Cfg.m4 _ | exact Cfg.m5 _ | exact Cfg.m6 _ | exact Cfg.m7 _ | exact Cfg.m8 _ | exact Cfg.m9 _ | exact Cfg.m10 _ | exact Cfg.m11 _)) (by k_ne))) (U.own r.md (hng (fx (by first | exact Cfg.m0 _ | exact Cfg.m1 _ | exact Cfg.m2 _ | exact Cfg.m3 _ | exact Cfg.m4 _ | exact Cfg.m5 _ | exact Cfg.m6 _ | exact Cfg.m7 _ | exact Cfg.m8 _ | exact Cfg.m9 _ | exact Cfg.m10 _ | exact Cfg.m11 _)) (by k_ne))) q4 (U.own r.ga (hng (fl (by first | exact Mut.m0 _ | exact Mut.m1 _ | exact Mut.m2 _ | exact Mut.m3 _)) (by k_ne))) (U.own r.wk (hng (fl (by first | exact Mut.m0 _ | exact Mut.m1 _ | exact Mut.m2 _ | exact Mut.m3 _)) (by k_ne))) (U.own r.ts (hng (fl (by first | exact Mut.m0 _ | exact Mut.m1 _ | exact Mut.m2 _ | exact Mut.m3 _)) (by k_ne))) z2
end
section
set_option maxRecDepth 100000
open PySem PySem.W PySem.Calls PyProof.Rows
theorem reset_L13 : True := by
  w_top off
  trivial
variable {w : World} {B h : Heap}
set_option maxHeartbeats 2000000 in
theorem atomic_con (W : Wd w B) (hB : Keep B h) {c : Cfg} {m : Mut} {v : CycI} {white : Int} {x0 : Th} {xr : List Th} {sv : List Value} {th : Value} (r : CRep w B h c m v white (x0 :: xr) [] sv) (hm : 2 ≤ x0.mrk) :
    Con w B 8 245 [.ref c.ca, th] (Foot c m (x0 :: xr)) h (fun _ h' => ∃ m' sv', CRep w B h' c m' { v with phase := 2, est := max 0 v.total } (1 - white) (x0 :: xr) [] sv' ∧ Fresh c m m' h ∧ IntKeys ((x0 :: xr).map fun x => (x.num, x.ref)) sv') := by
  refine hide fun P9 hP9 => ?_
  obtain ⟨z0_1, z0_2, z0_3, z0_4, z0_5, z0_6, z0_7, z0_8, z0_9, z0_10, z0_11, z1_2, z1_3, z1_4, z1_5, z1_6, z1_7, z1_8, z1_9, z1_10, z1_11, z2_3, z2_4, z2_5, z2_6, z2_7, z2_8, z2_9, z2_10, z2_11, z3_4, z3_5, z3_6, z3_7, z3_8, z3_9, z3_10, z3_11, z4_5, z4_6, z4_7, z4_8, z4_9, z4_10, z4_11, z5_6, z5_7, z5_8, z5_9, z5_10, z5_11, z6_7, z6_8, z6_9, z6_10, z6_11, z7_8, z7_9, z7_10, z7_11, z8_9, z8_10, z8_11, z9_10, z9_11, z10_11, y0_1, y0_2, y0_3, y1_2, y1_3, y2_3, w0_0, w0_1, w0_2, w0_3, w1_0, w1_1, w1_2, w1_3, w2_0, w2_1, w2_2, w2_3, w3_0, w3_1, w3_2, w3_3, w4_0, w4_1, w4_2, w4_3, w5_0, w5_1, w5_2, w5_3, w6_0, w6_1, w6_2, w6_3, w7_0, w7_1, w7_2, w7_3, w8_0, w8_1, w8_2, w8_3, w9_0, w9_1, w9_2, w9_3, w10_0, w10_1, w10_2, w10_3, w11_0, w11_1, w11_2, w11_3⟩ := (Sep.fx (Sep.ofLists r.sep rfl) : Fx c m)
  obtain ⟨f0_x0, f1_x0, f2_x0, f3_x0, f4_x0, f5_x0, f6_x0, f7_x0, f8_x0, f9_x0, f10_x0, f11_x0, l0_x0, l1_x0, l2_x0, l3_x0, g0_x0, g1_x0, g2_x0, g3_x0, g4_x0, g5_x0, g6_x0, g7_x0, g8_x0, g9_x0, g10_x0, g11_x0, k0_x0, k1_x0, k2_x0, k3_x0, tt_x0⟩ := (Sep.tx (Sep.ofLists r.sep rfl) (.head _) : Tx c m x0)
  refine hP9 ?_; clear hP9 P9
  have h1 := r.ca; have h2 := r.cd; have h3 := r.ma; have h4 := r.md; have h5 := (r.th x0 (.head _)).o; have h6 := (r.th x0 (.head _)).d; have h7 := r.rl; have h8 := r.gl; have h9 := r.ga; have h10 := r.wk; have h11 := r.od
  have d1 := r.odd; have d2 := r.odn
  have d3 : ((x0 :: xr).map fun x => (x.num, x.ref)).length ≤ 1000 := by rw [List.length_map]; have := r.len; have e := r.szs; rw [← e, List.length_map] at this; omega
  have W0 := W; (first | (have X9 : ∀ w9 : World, (Mine.hd.heap_39 w9.params).In default → PySem.Challenge.rw_rh0162_01 = PySem.Challenge.rw_rh0162_01 := by (k_fill; fail)) | skip)
  k_dflt (refine' Con.start [("self", .ref c.ca), ("thread", th)] W hB (.cons h1 (.cons h2 (.cons h3 (.cons h4 (.cons h5 (.cons h6 (.cons h7 (.cons h8 (.cons h9 (.cons h10 (.cons h11 .nil))))))))))) rfl ?ho ?hcd ?bind ?loc ?a ?b ?c ?d ?_; (case ho => k_is); (case hcd => k_is); (case bind => exact fun _ => BindsTo.of_eq rfl); (case loc => exact locs rfl); (case a => exact rfl); (case b => exact rfl); (case c => exact rfl); (case d => decide))
  intro p0 loose0 mean0 mg0 mb0 dp9 fr9 gd9 un9 s RR h₁ L rest tk Q' X T C R post hL F N hR hQ hQn; clear C
  dsimp only [List.cons_append, List.nil_append] at N
  change Rest B h [c.ca, c.cd, c.ma, c.md, x0.t, x0.td, c.rl, m.gl, m.ga, m.wk, c.od] rest at hR
  have hr0 := hR.off c.ca (.head _)
  have hr1 := hR.off c.cd (.tail _ (.head _))
  have hr2 := hR.off c.ma (.tail _ (.tail _ (.head _)))
  have hr3 := hR.off c.md (.tail _ (.tail _ (.tail _ (.head _))))
  have hr4 := hR.off x0.t (.tail _ (.tail _ (.tail _ (.tail _ (.head _)))))
  have hr5 := hR.off x0.td (.tail _ (.tail _ (.tail _ (.tail _ (.tail _ (.head _))))))
  have hr6 := hR.off c.rl (.tail _ (.tail _ (.tail _ (.tail _ (.tail _ (.tail _ (.head _)))))))
  have hr7 := hR.off m.gl (.tail _ (.tail _ (.tail _ (.tail _ (.tail _ (.tail _ (.tail _ (.head _))))))))
  have hr8 := hR.off m.ga (.tail _ (.tail _ (.tail _ (.tail _ (.tail _ (.tail _ (.tail _ (.tail _ (.head _)))))))))
  have hr9 := hR.off m.wk (.tail _ (.tail _ (.tail _ (.tail _ (.tail _ (.tail _ (.tail _ (.tail _ (.tail _ (.head _))))))))))
  have hr10 := hR.off c.od (.tail _ (.tail _ (.tail _ (.tail _ (.tail _ (.tail _ (.tail _ (.tail _ (.tail _ (.tail _ (.head _)))))))))))
  have hh := R.handled
  k_steps
  (with_reducible rename Fr _ _ _ _ => F9); (with_reducible rename News _ _ _ _ => N9)
  refine Con.call (late_con W0 (Keep.of_fr F9) (newsOwn N9 (by k_mem)) (newsOwn N9 (by k_mem)) (by assumption)) rfl (Room.deeper (R.le (by decide))) ?_
  intro v9 H9 tk9 K9 U9 rfl
  replace N9 := newsKeep N9 U9 (fun _ _ x => x)
  replace F9 := frStep F9 U9 (fun x => x) base0
  dsimp only
  k_steps
  (with_reducible rename News _ _ _ _ => N9); (with_reducible rename Fr _ _ _ _ => F9)
  (with_reducible rename Fr _ _ _ _ => F9); (with_reducible rename News _ _ _ _ => N9)
  have hU0 := hR.upto (S := is0) hB F9 N9 (by intro p hp; repeat (first | exact hp | apply List.Mem.tail)) (by
    refine allC (?_) (allC (?_) (allC (?_) (allC (?_) (allC (?_) (allC (?_) (allC (?_) (allC (?_) (allC (?_) (allC (?_) (allC (?_) (List.forall_mem_nil _)))))))))))
    · first | exact Or.inr ((newsOwn N9 (a := c.ca) (by k_mem)).1.trans h1.1.symm) | exact Or.inl ⟨by first | exact rfl | exact Or.inl rfl | exact Or.inr rfl | exact Or.inr (Or.inl rfl) | exact Or.inr (Or.inr rfl) | exact Or.inr (Or.inr (Or.inr ⟨_, .head _, rfl⟩)) | exact Or.inr (Or.inr (Or.inl (by first | exact Mut.m0 _ | exact Mut.m1 _ | exact Mut.m2 _ | exact Mut.m3 _))), newsLive N9 (by k_mem)⟩
    · first | exact Or.inr ((newsOwn N9 (a := c.cd) (by k_mem)).1.trans h2.1.symm) | exact Or.inl ⟨by first | exact rfl | exact Or.inl rfl | exact Or.inr rfl | exact Or.inr (Or.inl rfl) | exact Or.inr (Or.inr rfl) | exact Or.inr (Or.inr (Or.inr ⟨_, .head _, rfl⟩)) | exact Or.inr (Or.inr (Or.inl (by first | exact Mut.m0 _ | exact Mut.m1 _ | exact Mut.m2 _ | exact Mut.m3 _))), newsLive N9 (by k_mem)⟩
    · first | exact Or.inr ((newsOwn N9 (a := c.ma) (by k_mem)).1.trans h3.1.symm) | exact Or.inl ⟨by first | exact rfl | exact Or.inl rfl | exact Or.inr rfl | exact Or.inr (Or.inl rfl) | exact Or.inr (Or.inr rfl) | exact Or.inr (Or.inr (Or.inr ⟨_, .head _, rfl⟩)) | exact Or.inr (Or.inr (Or.inl (by first | exact Mut.m0 _ | exact Mut.m1 _ | exact Mut.m2 _ | exact Mut.m3 _))), newsLive N9 (by k_mem)⟩
    · first | exact Or.inr ((newsOwn N9 (a := c.md) (by k_mem)).1.trans h4.1.symm) | exact Or.inl ⟨by first | exact rfl | exact Or.inl rfl | exact Or.inr rfl | exact Or.inr (Or.inl rfl) | exact Or.inr (Or.inr rfl) | exact Or.inr (Or.inr (Or.inr ⟨_, .head _, rfl⟩)) | exact Or.inr (Or.inr (Or.inl (by first | exact Mut.m0 _ | exact Mut.m1 _ | exact Mut.m2 _ | exact Mut.m3 _))), newsLive N9 (by k_mem)⟩
    · first | exact Or.inr ((newsOwn N9 (a := x0.t) (by k_mem)).1.trans h5.1.symm) | exact Or.inl ⟨by first | exact rfl | exact Or.inl rfl | exact Or.inr rfl | exact Or.inr (Or.inl rfl) | exact Or.inr (Or.inr rfl) | exact Or.inr (Or.inr (Or.inr ⟨_, .head _, rfl⟩)) | exact Or.inr (Or.inr (Or.inl (by first | exact Mut.m0 _ | exact Mut.m1 _ | exact Mut.m2 _ | exact Mut.m3 _))), newsLive N9 (by k_mem)⟩
    · first | exact Or.inr ((newsOwn N9 (a := x0.td) (by k_mem)).1.trans h6.1.symm) | exact Or.inl ⟨by first | exact rfl | exact Or.inl rfl | exact Or.inr rfl | exact Or.inr (Or.inl rfl) | exact Or.inr (Or.inr rfl) | exact Or.inr (Or.inr (Or.inr ⟨_, .head _, rfl⟩)) | exact Or.inr (Or.inr (Or.inl (by first | exact Mut.m0 _ | exact Mut.m1 _ | exact Mut.m2 _ | exact Mut.m3 _))), newsLive N9 (by k_mem)⟩
    · first | exact Or.inr ((newsOwn N9 (a := c.rl) (by k_mem)).1.trans h7.1.symm) | exact Or.inl ⟨by first | exact rfl | exact Or.inl rfl | exact Or.inr rfl | exact Or.inr (Or.inl rfl) | exact Or.inr (Or.inr rfl) | exact Or.inr (Or.inr (Or.inr ⟨_, .head _, rfl⟩)) | exact Or.inr (Or.inr (Or.inl (by first | exact Mut.m0 _ | exact Mut.m1 _ | exact Mut.m2 _ | exact Mut.m3 _))), newsLive N9 (by k_mem)⟩
    · first | exact Or.inr ((newsOwn N9 (a := m.gl) (by k_mem)).1.trans h8.1.symm) | exact Or.inl ⟨by first | exact rfl | exact Or.inl rfl | exact Or.inr rfl | exact Or.inr (Or.inl rfl) | exact Or.inr (Or.inr rfl) | exact Or.inr (Or.inr (Or.inr ⟨_, .head _, rfl⟩)) | exact Or.inr (Or.inr (Or.inl (by first | exact Mut.m0 _ | exact Mut.m1 _ | exact Mut.m2 _ | exact Mut.m3 _))), newsLive N9 (by k_mem)⟩
    · first | exact Or.inr ((newsOwn N9 (a := m.ga) (by k_mem)).1.trans h9.1.symm) | exact Or.inl ⟨by first | exact rfl | exact Or.inl rfl | exact Or.inr rfl | exact Or.inr (Or.inl rfl) | exact Or.inr (Or.inr rfl) | exact Or.inr (Or.inr (Or.inr ⟨_, .head _, rfl⟩)) | exact Or.inr (Or.inr (Or.inl (by first | exact Mut.m0 _ | exact Mut.m1 _ | exact Mut.m2 _ | exact Mut.m3 _))), newsLive N9 (by k_mem)⟩
    · first | exact Or.inr ((newsOwn N9 (a := m.wk) (by k_mem)).1.trans h10.1.symm) | exact Or.inl ⟨by first | exact rfl | exact Or.inl rfl | exact Or.inr rfl | exact Or.inr (Or.inl rfl) | exact Or.inr (Or.inr rfl) | exact Or.inr (Or.inr (Or.inr ⟨_, .head _, rfl⟩)) | exact Or.inr (Or.inr (Or.inl (by first | exact Mut.m0 _ | exact Mut.m1 _ | exact Mut.m2 _ | exact Mut.m3 _))), newsLive N9 (by k_mem)⟩
    · first | exact Or.inr ((newsOwn N9 (a := c.od) (by k_mem)).1.trans h11.1.symm) | exact Or.inl ⟨by first | exact rfl | exact Or.inl rfl | exact Or.inr rfl | exact Or.inr (Or.inl rfl) | exact Or.inr (Or.inr rfl) | exact Or.inr (Or.inr (Or.inr ⟨_, .head _, rfl⟩)) | exact Or.inr (Or.inr (Or.inl (by first | exact Mut.m0 _ | exact Mut.m1 _ | exact Mut.m2 _ | exact Mut.m3 _))), newsLive N9 (by k_mem)⟩)
  (with_reducible rename Fr _ _ _ _ => F9); (with_reducible rename News _ _ _ _ => N9)
  refine Con.call (finish_con (a := c.mk' m) (x := x0) W0 (Keep.of_fr F9) (newsOwn N9 (by k_mem)) (newsOwn N9 (by k_mem)) ⟨newsOwn N9 (by k_mem), newsOwn N9 (by k_mem)⟩ (newsOwn N9 (by k_mem)) (newsOwn N9 (by k_mem)) (newsOwn N9 (by k_mem)) (newsOwn N9 (by k_mem)) hm (by (first | refine Nd.m3 ?_ | refine Nd.m4 ?_ | refine Nd.m5 ?_ | refine Nd.m6 ?_ | refine Nd.m7 ?_ | refine Nd.m8 ?_ | refine Nd.m11 ?_) <;> constructor <;> first | assumption | (refine NeN.symm ?_; assumption))) rfl (Room.deeper (R.le (by decide))) ?_
  rintro v9 H9 tk9 K9 U9 t9_5
  refine hide fun P9 hP9 => ?_
  rcases t9_5 with ⟨g1, g2, b1, b2, b3, b4, b5, b6⟩
  refine hP9 ?_; clear hP9 P9
  have N8 : News B L H9 ((c.ca, instObj 346 c.cd) :: (c.cd, dictOf (cycEs c.kc m.tc (c.cy m) v) 14) :: (c.ma, instObj 136 c.md) :: (c.md, dictOf (mksEs c.km { c.mk' m with gl := m.ga, ga := g2, wk := g1 } white m.tw) 6) :: (x0.t, instObj 367 x0.td) :: (x0.td, dictOf (thEs x0.k x0.num x0.mrk x0.sz x0.t1 x0.t2 x0.t3) 3) :: (c.rl, listOf ((List.take 1 (x0 :: xr)).map Th.ref).toArray c.nr) :: (m.gl, listOf #[] m.ng) :: (m.ga, listOf #[] m.na) :: (m.wk, listOf #[] m.nw) :: (c.od, c.oo) :: (g1, listOf #[] 0) :: (g2, listOf #[] 0) :: rest) := by
    refine newsStep N9 U9 (allC (?_) (allC (?_) (allC (?_) (allC (?_) (allC (?_) (allC (?_) (allC (?_) (allC (?_) (allC (?_) (allC (?_) (allC (?_) (allC (?_) (allC (?_) (fun p hp => .inl ⟨?_, ?_⟩))))))))))))))
    · first | exact .inl ⟨by k_mem, by ktr_rel⟩ | exact .inr ⟨by assumption, newsNeL N9 (by k_mem)⟩ | exact .inr ⟨by assumption, neL_of_new F9 (by assumption)⟩
    · first | exact .inl ⟨by k_mem, by ktr_rel⟩ | exact .inr ⟨by assumption, newsNeL N9 (by k_mem)⟩ | exact .inr ⟨by assumption, neL_of_new F9 (by assumption)⟩
    · first | exact .inl ⟨by k_mem, by ktr_rel⟩ | exact .inr ⟨by assumption, newsNeL N9 (by k_mem)⟩ | exact .inr ⟨by assumption, neL_of_new F9 (by assumption)⟩
    · first | exact .inl ⟨by k_mem, by ktr_rel⟩ | exact .inr ⟨by assumption, newsNeL N9 (by k_mem)⟩ | exact .inr ⟨by assumption, neL_of_new F9 (by assumption)⟩
    · first | exact .inl ⟨by k_mem, by ktr_rel⟩ | exact .inr ⟨by assumption, newsNeL N9 (by k_mem)⟩ | exact .inr ⟨by assumption, neL_of_new F9 (by assumption)⟩
    · first | exact .inl ⟨by k_mem, by ktr_rel⟩ | exact .inr ⟨by assumption, newsNeL N9 (by k_mem)⟩ | exact .inr ⟨by assumption, neL_of_new F9 (by assumption)⟩
    · first | exact .inl ⟨by k_mem, by ktr_rel⟩ | exact .inr ⟨by assumption, newsNeL N9 (by k_mem)⟩ | exact .inr ⟨by assumption, neL_of_new F9 (by assumption)⟩
    · first | exact .inl ⟨by k_mem, by ktr_rel⟩ | exact .inr ⟨by assumption, newsNeL N9 (by k_mem)⟩ | exact .inr ⟨by assumption, neL_of_new F9 (by assumption)⟩
    · first | exact .inl ⟨by k_mem, by ktr_rel⟩ | exact .inr ⟨by assumption, newsNeL N9 (by k_mem)⟩ | exact .inr ⟨by assumption, neL_of_new F9 (by assumption)⟩
    · first | exact .inl ⟨by k_mem, by ktr_rel⟩ | exact .inr ⟨by assumption, newsNeL N9 (by k_mem)⟩ | exact .inr ⟨by assumption, neL_of_new F9 (by assumption)⟩
    · first | exact .inl ⟨by k_mem, by ktr_rel⟩ | exact .inr ⟨by assumption, newsNeL N9 (by k_mem)⟩ | exact .inr ⟨by assumption, neL_of_new F9 (by assumption)⟩
    · first | exact .inl ⟨by k_mem, by ktr_rel⟩ | exact .inr ⟨by assumption, newsNeL N9 (by k_mem)⟩ | exact .inr ⟨by assumption, neL_of_new F9 (by assumption)⟩
    · first | exact .inl ⟨by k_mem, by ktr_rel⟩ | exact .inr ⟨by assumption, newsNeL N9 (by k_mem)⟩ | exact .inr ⟨by assumption, neL_of_new F9 (by assumption)⟩
    · repeat (first | exact hp | apply List.Mem.tail)
    · exact nosr1 (by k_all) p hp
  have F8 := frStep F9 U9 (nos1 (newsNeL N9 (by k_mem)).symm) (base1 (newsOwn N9 (by k_mem)).2)
  clear F9 N9; have F9 := F8; have N9 := N8; clear F8 N8
  dsimp only
  have f1 := hU0.dead b4
  have f2 := hU0.dead b5
  have n1 := h2.ne_fresh f1; have n2 := h2.ne_fresh f2; have n3 := h4.ne_fresh f1; have n4 := h4.ne_fresh f2
  k_steps
  (with_reducible rename Fr _ _ _ _ => F9); (with_reducible rename News _ _ _ _ => N9)
  refine Con.call (atEnd_con W0 (Keep.of_fr F9)) rfl (Room.deeper (R.le (by decide))) ?_
  rintro v9 H9 tk9 K9 U9 ⟨t9, e9⟩
  replace N9 := newsKeep N9 U9 (fun _ _ x => x)
  replace F9 := frStep F9 U9 (fun x => x) base0
  dsimp only
  subst e9
  k_steps
  (with_reducible rename Fr _ _ _ _ => F9); (with_reducible rename News _ _ _ _ => N9)
  refine Con.call (flip_con (a := { c.mk' m with gl := m.ga, ga := g2, wk := g1 }) W0 (Keep.of_fr F9) (newsOwn N9 (by k_mem)) (newsOwn N9 (by k_mem)) (by assumption)) rfl (Room.deeper (R.le (by decide))) ?_
  rintro v9 H9 tk9 K9 U9 ⟨tw', b7⟩
  have N8 : News B L H9 ((c.ca, instObj 346 c.cd) :: (c.cd, dictOf (cycEs c.kc m.tc (c.cy m) v) 14) :: (c.ma, instObj 136 c.md) :: (c.md, dictOf (mksEs c.km { c.mk' m with gl := m.ga, ga := g2, wk := g1 } (1 - white) tw') 6) :: (c.od, c.oo) :: (m.ga, listOf #[] m.na) :: (g1, listOf #[] 0) :: (g2, listOf #[] 0) :: (x0.t, instObj 367 x0.td) :: (x0.td, dictOf (thEs x0.k x0.num x0.mrk x0.sz x0.t1 x0.t2 x0.t3) 3) :: (c.rl, listOf ((List.take 1 (x0 :: xr)).map Th.ref).toArray c.nr) :: (m.gl, listOf #[] m.ng) :: (m.wk, listOf #[] m.nw) :: rest) := by
    refine newsStep N9 U9 (allC (?_) (allC (?_) (allC (?_) (allC (?_) (allC (?_) (allC (?_) (allC (?_) (allC (?_) (allC (?_) (allC (?_) (allC (?_) (allC (?_) (allC (?_) (fun p hp => .inl ⟨?_, ?_⟩))))))))))))))
    · first | exact .inl ⟨by k_mem, by ktr_rel⟩ | exact .inr ⟨by assumption, newsNeL N9 (by k_mem)⟩ | exact .inr ⟨by assumption, neL_of_new F9 (by assumption)⟩
    · first | exact .inl ⟨by k_mem, by ktr_rel⟩ | exact .inr ⟨by assumption, newsNeL N9 (by k_mem)⟩ | exact .inr ⟨by assumption, neL_of_new F9 (by assumption)⟩
    · first | exact .inl ⟨by k_mem, by ktr_rel⟩ | exact .inr ⟨by assumption, newsNeL N9 (by k_mem)⟩ | exact .inr ⟨by assumption, neL_of_new F9 (by assumption)⟩
    · first | exact .inl ⟨by k_mem, by ktr_rel⟩ | exact .inr ⟨by assumption, newsNeL N9 (by k_mem)⟩ | exact .inr ⟨by assumption, neL_of_new F9 (by assumption)⟩
    · first | exact .inl ⟨by k_mem, by ktr_rel⟩ | exact .inr ⟨by assumption, newsNeL N9 (by k_mem)⟩ | exact .inr ⟨by assumption, neL_of_new F9 (by assumption)⟩
    · first | exact .inl ⟨by k_mem, by ktr_rel⟩ | exact .inr ⟨by assumption, newsNeL N9 (by k_mem)⟩ | exact .inr ⟨by assumption, neL_of_new F9 (by assumption)⟩
    · first | exact .inl ⟨by k_mem, by ktr_rel⟩ | exact .inr ⟨by assumption, newsNeL N9 (by k_mem)⟩ | exact .inr ⟨by assumption, neL_of_new F9 (by assumption)⟩
    · first | exact .inl ⟨by k_mem, by ktr_rel⟩ | exact .inr ⟨by assumption, newsNeL N9 (by k_mem)⟩ | exact .inr ⟨by assumption, neL_of_new F9 (by assumption)⟩
    · first | exact .inl ⟨by k_mem, by ktr_rel⟩ | exact .inr ⟨by assumption, newsNeL N9 (by k_mem)⟩ | exact .inr ⟨by assumption, neL_of_new F9 (by assumption)⟩
    · first | exact .inl ⟨by k_mem, by ktr_rel⟩ | exact .inr ⟨by assumption, newsNeL N9 (by k_mem)⟩ | exact .inr ⟨by assumption, neL_of_new F9 (by assumption)⟩
    · first | exact .inl ⟨by k_mem, by ktr_rel⟩ | exact .inr ⟨by assumption, newsNeL N9 (by k_mem)⟩ | exact .inr ⟨by assumption, neL_of_new F9 (by assumption)⟩
    · first | exact .inl ⟨by k_mem, by ktr_rel⟩ | exact .inr ⟨by assumption, newsNeL N9 (by k_mem)⟩ | exact .inr ⟨by assumption, neL_of_new F9 (by assumption)⟩
    · first | exact .inl ⟨by k_mem, by ktr_rel⟩ | exact .inr ⟨by assumption, newsNeL N9 (by k_mem)⟩ | exact .inr ⟨by assumption, neL_of_new F9 (by assumption)⟩
    · repeat (first | exact hp | apply List.Mem.tail)
    · exact nosr1 (by k_all) p hp
  have F8 := frStep F9 U9 (nos1 (newsNeL N9 (by k_mem)).symm) (base1 (newsOwn N9 (by k_mem)).2)
  clear F9 N9; have F9 := F8; have N9 := N8; clear F8 N8
  dsimp only
  k_steps
  (with_reducible rename Fr _ _ _ _ => F9); (with_reducible rename News _ _ _ _ => N9)
  rename_i D1 q1 _ _ vs1 ik1 l1 _ tq1 _ _ _ _
  have hmx : (if v.total - 0 > 0 then v.total - 0 else 0) = max 0 v.total := by by_cases q : v.total > 0 <;> simp [q] <;> omega
  rw [hmx] at N9
  (with_reducible rename Fr _ _ _ _ => F9); (with_reducible rename News _ _ _ _ => N9)
  have U2 := hR.upto (S := is2 c.cd c.md) hB F9 N9 (by intro p hp; repeat (first | exact hp | apply List.Mem.tail)) (by
    refine allC (?_) (allC (?_) (allC (?_) (allC (?_) (allC (?_) (allC (?_) (allC (?_) (allC (?_) (allC (?_) (allC (?_) (allC (?_) (List.forall_mem_nil _)))))))))))
    · first | exact Or.inr ((newsOwn N9 (a := c.ca) (by k_mem)).1.trans h1.1.symm) | exact Or.inl ⟨by first | exact rfl | exact Or.inl rfl | exact Or.inr rfl | exact Or.inr (Or.inl rfl) | exact Or.inr (Or.inr rfl) | exact Or.inr (Or.inr (Or.inr ⟨_, .head _, rfl⟩)) | exact Or.inr (Or.inr (Or.inl (by first | exact Mut.m0 _ | exact Mut.m1 _ | exact Mut.m2 _ | exact Mut.m3 _))), newsLive N9 (by k_mem)⟩
    · first | exact Or.inr ((newsOwn N9 (a := c.cd) (by k_mem)).1.trans h2.1.symm) | exact Or.inl ⟨by first | exact rfl | exact Or.inl rfl | exact Or.inr rfl | exact Or.inr (Or.inl rfl) | exact Or.inr (Or.inr rfl) | exact Or.inr (Or.inr (Or.inr ⟨_, .head _, rfl⟩)) | exact Or.inr (Or.inr (Or.inl (by first | exact Mut.m0 _ | exact Mut.m1 _ | exact Mut.m2 _ | exact Mut.m3 _))), newsLive N9 (by k_mem)⟩
    · first | exact Or.inr ((newsOwn N9 (a := c.ma) (by k_mem)).1.trans h3.1.symm) | exact Or.inl ⟨by first | exact rfl | exact Or.inl rfl | exact Or.inr rfl | exact Or.inr (Or.inl rfl) | exact Or.inr (Or.inr rfl) | exact Or.inr (Or.inr (Or.inr ⟨_, .head _, rfl⟩)) | exact Or.inr (Or.inr (Or.inl (by first | exact Mut.m0 _ | exact Mut.m1 _ | exact Mut.m2 _ | exact Mut.m3 _))), newsLive N9 (by k_mem)⟩
    · first | exact Or.inr ((newsOwn N9 (a := c.md) (by k_mem)).1.trans h4.1.symm) | exact Or.inl ⟨by first | exact rfl | exact Or.inl rfl | exact Or.inr rfl | exact Or.inr (Or.inl rfl) | exact Or.inr (Or.inr rfl) | exact Or.inr (Or.inr (Or.inr ⟨_, .head _, rfl⟩)) | exact Or.inr (Or.inr (Or.inl (by first | exact Mut.m0 _ | exact Mut.m1 _ | exact Mut.m2 _ | exact Mut.m3 _))), newsLive N9 (by k_mem)⟩
    · first | exact Or.inr ((newsOwn N9 (a := x0.t) (by k_mem)).1.trans h5.1.symm) | exact Or.inl ⟨by first | exact rfl | exact Or.inl rfl | exact Or.inr rfl | exact Or.inr (Or.inl rfl) | exact Or.inr (Or.inr rfl) | exact Or.inr (Or.inr (Or.inr ⟨_, .head _, rfl⟩)) | exact Or.inr (Or.inr (Or.inl (by first | exact Mut.m0 _ | exact Mut.m1 _ | exact Mut.m2 _ | exact Mut.m3 _))), newsLive N9 (by k_mem)⟩
    · first | exact Or.inr ((newsOwn N9 (a := x0.td) (by k_mem)).1.trans h6.1.symm) | exact Or.inl ⟨by first | exact rfl | exact Or.inl rfl | exact Or.inr rfl | exact Or.inr (Or.inl rfl) | exact Or.inr (Or.inr rfl) | exact Or.inr (Or.inr (Or.inr ⟨_, .head _, rfl⟩)) | exact Or.inr (Or.inr (Or.inl (by first | exact Mut.m0 _ | exact Mut.m1 _ | exact Mut.m2 _ | exact Mut.m3 _))), newsLive N9 (by k_mem)⟩
    · first | exact Or.inr ((newsOwn N9 (a := c.rl) (by k_mem)).1.trans h7.1.symm) | exact Or.inl ⟨by first | exact rfl | exact Or.inl rfl | exact Or.inr rfl | exact Or.inr (Or.inl rfl) | exact Or.inr (Or.inr rfl) | exact Or.inr (Or.inr (Or.inr ⟨_, .head _, rfl⟩)) | exact Or.inr (Or.inr (Or.inl (by first | exact Mut.m0 _ | exact Mut.m1 _ | exact Mut.m2 _ | exact Mut.m3 _))), newsLive N9 (by k_mem)⟩
    · first | exact Or.inr ((newsOwn N9 (a := m.gl) (by k_mem)).1.trans h8.1.symm) | exact Or.inl ⟨by first | exact rfl | exact Or.inl rfl | exact Or.inr rfl | exact Or.inr (Or.inl rfl) | exact Or.inr (Or.inr rfl) | exact Or.inr (Or.inr (Or.inr ⟨_, .head _, rfl⟩)) | exact Or.inr (Or.inr (Or.inl (by first | exact Mut.m0 _ | exact Mut.m1 _ | exact Mut.m2 _ | exact Mut.m3 _))), newsLive N9 (by k_mem)⟩
    · first | exact Or.inr ((newsOwn N9 (a := m.ga) (by k_mem)).1.trans h9.1.symm) | exact Or.inl ⟨by first | exact rfl | exact Or.inl rfl | exact Or.inr rfl | exact Or.inr (Or.inl rfl) | exact Or.inr (Or.inr rfl) | exact Or.inr (Or.inr (Or.inr ⟨_, .head _, rfl⟩)) | exact Or.inr (Or.inr (Or.inl (by first | exact Mut.m0 _ | exact Mut.m1 _ | exact Mut.m2 _ | exact Mut.m3 _))), newsLive N9 (by k_mem)⟩
    · first | exact Or.inr ((newsOwn N9 (a := m.wk) (by k_mem)).1.trans h10.1.symm) | exact Or.inl ⟨by first | exact rfl | exact Or.inl rfl | exact Or.inr rfl | exact Or.inr (Or.inl rfl) | exact Or.inr (Or.inr rfl) | exact Or.inr (Or.inr (Or.inr ⟨_, .head _, rfl⟩)) | exact Or.inr (Or.inr (Or.inl (by first | exact Mut.m0 _ | exact Mut.m1 _ | exact Mut.m2 _ | exact Mut.m3 _))), newsLive N9 (by k_mem)⟩
    · first | exact Or.inr ((newsOwn N9 (a := c.od) (by k_mem)).1.trans h11.1.symm) | exact Or.inl ⟨by first | exact rfl | exact Or.inl rfl | exact Or.inr rfl | exact Or.inr (Or.inl rfl) | exact Or.inr (Or.inr rfl) | exact Or.inr (Or.inr (Or.inr ⟨_, .head _, rfl⟩)) | exact Or.inr (Or.inr (Or.inl (by first | exact Mut.m0 _ | exact Mut.m1 _ | exact Mut.m2 _ | exact Mut.m3 _))), newsLive N9 (by k_mem)⟩)
  have fD : h.get? D1 = none := fresh_of hR (newsOwn N9 (a := D1) (by k_mem)).2 (by repeat' (first | exact List.forall_mem_nil _ | refine allC ((by first | exact l1.1 | exact l1 | exact l1.2.1 | exact l1.2 | exact l1.2.2.1 | exact l1.2.2 | exact l1.2.2.2.1 | exact l1.2.2.2 | exact l1.2.2.2.2.1 | exact l1.2.2.2.2 | exact l1.2.2.2.2.2.1 | exact l1.2.2.2.2.2 | exact l1.2.2.2.2.2.2.1 | exact l1.2.2.2.2.2.2 | exact l1.2.2.2.2.2.2.2.1 | exact l1.2.2.2.2.2.2.2 | exact l1.2.2.2.2.2.2.2.2.1 | exact l1.2.2.2.2.2.2.2.2 | exact l1.2.2.2.2.2.2.2.2.2.1 | exact l1.2.2.2.2.2.2.2.2.2 | exact l1.2.2.2.2.2.2.2.2.2.2.1 | exact l1.2.2.2.2.2.2.2.2.2.2 | exact l1.2.2.2.2.2.2.2.2.2.2.2.1 | exact l1.2.2.2.2.2.2.2.2.2.2.2 | exact l1.2.2.2.2.2.2.2.2.2.2.2.2.1 | exact l1.2.2.2.2.2.2.2.2.2.2.2.2 | exact l1.2.2.2.2.2.2.2.2.2.2.2.2.2.1 | exact l1.2.2.2.2.2.2.2.2.2.2.2.2.2 | exact l1.2.2.2.2.2.2.2.2.2.2.2.2.2.2.1 | exact l1.2.2.2.2.2.2.2.2.2.2.2.2.2.2 | exact l1.2.2.2.2.2.2.2.2.2.2.2.2.2.2.2.1 | exact l1.2.2.2.2.2.2.2.2.2.2.2.2.2.2.2 | omega)) (?_))) l1.2.2.2.2.2.2.2.2.2.2.2.2.2
  have UU : Upto (Foot c m (x0 :: xr)) h _ := U2.mono (fun a e _ => e.elim .inl fun e => .inr (.inl e))
  have k1 := h9.ne_fresh f2; have k2 := h9.ne_fresh f1; have k3 := h9.ne_fresh fD
  have k4 : NeN g1 D1 := Nat.ne_of_lt (by omega)
  have k5 : NeN g2 D1 := Nat.ne_of_lt (by omega)
  have fr9 : Fresh c m ⟨m.ga, g2, g1, D1, m.na, 0, 0, q1, tw', ⟨417, m.tc.total, (if v.total - 0 > 0 then tq1 + 2 + 1 + 1 else tq1 + 2), m.tc.debt, m.tc.ssz, m.tc.smax, m.tc.thr, m.tc.pause, m.tc.mul, m.tc.cyc⟩⟩ h := by
    refine ⟨?_, ?_⟩
    · show Nd [m.ga, g2, g1, D1]
      exact (by (first | refine Nd.m3 ?_ | refine Nd.m4 ?_ | refine Nd.m5 ?_ | refine Nd.m6 ?_ | refine Nd.m7 ?_ | refine Nd.m8 ?_ | refine Nd.m11 ?_) <;> constructor <;> first | assumption | (refine NeN.symm ?_; assumption))
    · show ∀ a ∈ [m.ga, g2, g1, D1], _
      exact allC (.inl (by first | exact Mut.m0 _ | exact Mut.m1 _ | exact Mut.m2 _ | exact Mut.m3 _)) (allC (.inr f2) (allC (.inr f1) (allC (.inr fD) (List.forall_mem_nil _))))
  refine hQn _ (post _ _ _ (Keep.of_fr F9) UU ⟨_, vs1, r.next UU (fun _ q _ => q) (Same.refl _) fr9 r.tot (newsOwn N9 (by k_mem)) (newsOwn N9 (by k_mem)) (newsOwn N9 (by k_mem)) (newsOwn N9 (by k_mem)) (newsOwn N9 (by k_mem)) (newsOwn N9 (by k_mem)) ?_, fr9, ik1⟩)
  intro y hy
  refine hide fun P9 hP9 => ?_
  obtain ⟨q1, q2, q3, q4⟩ := r.neT hy
  refine hP9 ?_; clear hP9 P9
  exact (r.th y hy).upto U2 (nos2 q1 q2) (nos2 q3 q4)
end
section
set_option maxRecDepth 100000
open PySem PySem.W PySem.Calls PyProof.Rows
theorem reset_L14 : True := by
  w_top off
  trivial
variable {w : World} {B h : Heap}
/-- the locals of the sweep -/
def swM (c : Cfg) (m : Mut) (q1 q2 q3 : Addr) (tt : Tok) (many : Int) (tm : Tok) (u : Option Value) : Str → Option Value := fun y =>
  if y = PySem.Str.ofString "many" then some (.int many tm) else if y = PySem.Str.ofString "obj" then u else
    List.lookup y ([("waiting", .ref m.ts), ("objects", .ref c.od), ("most", .int 16 tt), ("is_dead", .ref q1), ("free", .ref q2), ("keep", .ref q3)] : List (Str × Value)).reverse
theorem swM0 {c : Cfg} {m : Mut} {q1 q2 q3 : Addr} {tt tm : Tok} : (fun y => if y = PySem.Str.ofString "many" then some (Value.int 0 tm) else List.lookup y ([("waiting", .ref m.ts), ("objects", .ref c.od), ("most", .int 16 tt), ("is_dead", .ref q1), ("free", .ref q2), ("keep", .ref q3)] : List (Str × Value)).reverse) = swM c m q1 q2 q3 tt 0 tm none := by
  funext y
  unfold swM
  by_cases h1 : y = PySem.Str.ofString "many"
  · rw [if_pos h1, if_pos h1]
  · rw [if_neg h1, if_neg h1]
    by_cases h2 : y = PySem.Str.ofString "obj"
    · rw [if_pos h2, h2]; rfl
    · rw [if_neg h2]
theorem swM1 {c : Cfg} {m : Mut} {q1 q2 q3 : Addr} {tt tm tm' : Tok} {a b : Int} {u o : Option Value} : (fun y => if y = PySem.Str.ofString "many" then some (Value.int b tm') else if y = PySem.Str.ofString "obj" then o else swM c m q1 q2 q3 tt a tm u y) = swM c m q1 q2 q3 tt b tm' o := by
  funext y
  unfold swM
  by_cases h1 : y = PySem.Str.ofString "many"
  · rw [if_pos h1, if_pos h1]
  · rw [if_neg h1, if_neg h1, if_neg h1]
    by_cases h2 : y = PySem.Str.ofString "obj"
    · rw [if_pos h2, if_pos h2]
    · rw [if_neg h2, if_neg h2, if_neg h2]
theorem swMF {B g : Heap} {L : Addr} {c : Cfg} {m : Mut} {q1 q2 q3 : Addr} {tt tm tm' : Tok} {a b : Int} {u o : Option Value} (F : Fr B L g (fun y => if y = PySem.Str.ofString "many" then some (Value.int b tm') else if y = PySem.Str.ofString "obj" then o else swM c m q1 q2 q3 tt a tm u y)) : Fr B L g (swM c m q1 q2 q3 tt b tm' o) := by
  rw [swM1] at F; exact F
def NumL (sv : List Value) : Prop := ∀ (j : Nat) (v : Value), sv[j]? = some v → ∃ t, v = Value.int ((j : Int) + 1) t
/-- between two turns of the sweep: k are to be looked at -/
inductive SwI (w : World) (B : Heap) (c : Cfg) (m : Mut) (v : CycI) (white : Int) (xs : List Th) (gv : List Value) (h0 : Heap) (s0 : Shared) (L q1 q2 q3 : Addr) (tt : Tok) (k : Nat) (s' : Shared) : Prop
  | mk (g tk u tm ys sv' ns : _) (p0 : s' = { s0 with heap := g, toks := tk }) (p1 : Fr B L g (swM c m q1 q2 q3 tt ((xs.length : Int) - k) tm u)) (p2 : CRep w B g c { m with ns := ns } v white ys gv sv') (p3 : sv'.length = k) (p4 : NumL sv') (p5 : Same xs ys) (p6 : (∀ y ∈ ys, y.mrk = white ∨ y.mrk = 2 ∨ y.mrk = 3)) (p7 : (∀ (i : Nat) (y : Th), k ≤ i → ys[i]? = some y → y.mrk = white)) (p8 : Upto (orL (Foot c m xs) L) h0 g) (p9 : k ≤ xs.length)
theorem valueAt_off : ∀ (xs : List Th) (o : Int), (∀ (i : Nat) (x : Th), xs[i]? = some x → x.num = (i : Int) + 1 + o) → ∀ {i : Nat} {x : Th}, xs[i]? = some x → valueAt (xs.map fun x => (x.num, x.ref)) ((i : Int) + 1 + o) = some x.ref
  | [], _, _, _, _, h => by simp at h
  | y :: r, o, H, 0, x, h => by
    simp at h; subst h
    have := H 0 y rfl
    rw [← this]
    simp [valueAt]
  | y :: r, o, H, i + 1, x, h => by
    have h0 := H 0 y rfl
    have ih := valueAt_off r (o + 1) (fun j z hz => by have := H (j + 1) z (by simpa using hz); rw [this]; push_cast; omega) (i := i) (x := x) (by simpa using h)
    have e : (((i + 1 : Nat) : Int) + 1 + o) = (i : Int) + 1 + (o + 1) := by push_cast; omega
    rw [e]
    have ne : y.num ≠ (i : Int) + 1 + (o + 1) := by omega
    unfold valueAt at ih ⊢
    rw [List.map_cons, List.find?_cons_of_neg (by simp [ne])]
    exact ih
theorem valueAt_num {c : Cfg} {m : Mut} {v : CycI} {white : Int} {xs : List Th} {gv sv : List Value} (r : CRep w B h c m v white xs gv sv) {i : Nat} {x : Th} (hx : xs[i]? = some x) : valueAt (xs.map fun x => (x.num, x.ref)) ((i : Int) + 1) = some x.ref := by
  have := valueAt_off xs 0 (fun i x h => by rw [r.num i x h]; omega) hx
  simpa using this
inductive SwP (w : World) (B : Heap) (c : Cfg) (m : Mut) (v : CycI) (white : Int) (xs : List Th) (gv : List Value) (h' : Heap) : Prop
  | mk (ys ns : _) (p0 : CRep w B h' c { m with ns := ns } v white ys gv []) (p1 : Same xs ys) (p2 : ∀ y ∈ ys, y.mrk = white)
set_option maxHeartbeats 2000000 in
theorem sweepSome_con (W : Wd w B) (hB : Keep B h) {c : Cfg} {m : Mut} {v : CycI} {white : Int} {xs : List Th} {gv sv : List Value} {q1 q2 q3 : Addr} {tt : Tok} (r : CRep w B h c m v white xs gv sv) (hsv : sv.length = xs.length) (hnum : NumL sv)
    (hal : ∀ y ∈ xs, y.mrk = white ∨ y.mrk = 2 ∨ y.mrk = 3) (hw : white = 0 ∨ white = 1)
    (o1 : Own B h q1 (methodObj (.ref 49) (.ref c.ma))) (o3 : Own B h q3 (methodObj (.ref 56) (.ref c.ma))) (f1 : ¬ Foot c m xs q1) (f3 : ¬ Foot c m xs q3) :
    Con w B 6 147 [.ref m.ts, .ref c.od, .int 16 tt, .ref q1, .ref q2, .ref q3] (Foot c m xs) h (fun _ h' => SwP w B c m v white xs gv h') := by
  have hlen := r.len'
  have hl := r.len
  have W0 := W; (first | (have X9 : ∀ w9 : World, (Mine.hd.heap_39 w9.params).In default → PySem.Challenge.rw_rh0162_01 = PySem.Challenge.rw_rh0162_01 := by (k_fill; fail)) | skip)
  k_dflt (refine' Con.start [("waiting", .ref m.ts), ("objects", .ref c.od), ("most", .int 16 tt), ("is_dead", .ref q1), ("free", .ref q2), ("keep", .ref q3)] W hB .nil rfl ?ho ?hcd ?bind ?loc ?a ?b ?c ?d ?_; (case ho => k_is); (case hcd => k_is); (case bind => exact fun _ => BindsTo.of_eq rfl); (case loc => exact locs rfl); (case a => exact rfl); (case b => exact rfl); (case c => exact rfl); (case d => decide))
  intro p0 loose0 mean0 mg0 mb0 dp9 fr9 gd9 un9 s RR h₁ L rest tk Q' X T C R post hL F N hR hQ hQn; clear C
  dsimp only [List.cons_append, List.nil_append] at N
  change Rest B h [] rest at hR
  have hh := R.handled
  k_steps
  (with_reducible rename Fr _ _ _ _ => F9); (with_reducible rename News _ _ _ _ => N9)
  have U0 := hR.upto (S := is0) hB F9 N9 (by intro p hp; repeat (first | exact hp | apply List.Mem.tail)) (by
    refine List.forall_mem_nil _)
  refine whileGo_inv (SwI w B c m v white xs gv h s L q1 q2 q3 tt) ?turn xs.length ?start
  case start =>
    rw [swM0] at F9
    have e0 : (xs.length : Int) - xs.length = 0 := by omega
    refine ⟨_, _, none, _, xs, sv, m.ns, rfl, e0 ▸ F9, ?_, hsv, hnum, Same.refl _, hal, ?_, U0.mono (fun _ e _ => e.elim), Nat.le_refl _⟩
    · exact r.frame0 U0
    · intro i y hi hy
      have := (List.getElem?_eq_some_iff.1 hy).1
      omega
  case turn =>
    clear F9 N9 hR U0
    rintro k s' ⟨g, tk2, u, tm, ys, sv', ns, rfl, F2, r2, hk, hn2, hsm, ha2, hd2, U2, hkn⟩
    have fq : ∀ {b : Addr} {o : Obj}, Own B h b o → ¬ Foot c m xs b → Own B g b o := fun q n => U2.own q (fun e => e.elim n fun e => q.lt hL e)
    have p1 := fq o1 f1
    have p3 := fq o3 f3
    have hLg : ∀ {b : Addr} {o : Obj}, Own B h b o → NeN b L := fun q => q.lt hL
    cases k with
    | zero =>
      obtain rfl : sv' = [] := List.eq_nil_of_length_eq_zero hk
      have t1 := r2.ts
      have U2f : Upto (Foot c m xs) h g := U2.mono (fun a e q => e.elim id fun e => by cases e; exact not_live (none_of_le hL) q)
      (try clear hR); (try clear N9); (try clear F9)
      have F9 := F2
      refine hide fun P9 hP9 => ?_
      obtain ⟨rest, hR, N9⟩ := refocus F9 (.cons t1 .nil) (allC ((hLg r.ts)) (List.forall_mem_nil _))
      refine hP9 ?_; clear hP9 P9
      dsimp only [List.cons_append, List.nil_append] at N9
      change Rest B _ [L, m.ts] rest at hR
      have hB9 := Keep.of_fr F9
      have hs0 := hR.off m.ts (.tail _ (.head _))
      unfold swM at F9
      k_steps
      (with_reducible rename Fr _ _ _ _ => F9); (with_reducible rename News _ _ _ _ => N9)
      have U6 := hR.upto (S := orL is0 L) hB9 F9 N9 (by intro p hp; repeat (first | exact hp | apply List.Mem.tail)) (by
        refine allC (.inl ⟨.inr rfl, Fr.liveL F9⟩) (allC (?_) (List.forall_mem_nil _))
        · first | exact Or.inr ((newsOwn N9 (a := m.ts) (by k_mem)).1.trans t1.1.symm) | exact Or.inl ⟨by first | exact rfl | exact Or.inl rfl | exact Or.inr rfl | exact Or.inr (Or.inl rfl) | exact Or.inr (Or.inr rfl) | exact Or.inr (Or.inr (Or.inr ⟨_, .head _, rfl⟩)) | exact Or.inr (Or.inr (Or.inl (by first | exact Mut.m0 _ | exact Mut.m1 _ | exact Mut.m2 _ | exact Mut.m3 _))), newsLive N9 (by k_mem)⟩)
      refine hQ _ _ (post _ _ _ (Keep.of_fr F9) (U2f.trans U6 (fun _ e => e) (fun a e q => e.elim False.elim fun e => by cases e; exact not_live (none_of_le hL) q)) ?_)
      refine ⟨ys, ns, r2, hsm, fun y hy => (by obtain ⟨i, hi⟩ := List.getElem?_of_mem hy; exact hd2 i y (Nat.zero_le _) hi)⟩
    | succ k =>
      have hne0 : sv' ≠ [] := fun e => by rw [e] at hk; cases hk
      refine hide fun P9 hP9 => ?_
      obtain ⟨p, lst, rfl⟩ : ∃ p lst, sv' = p ++ [lst] := ⟨sv'.dropLast, sv'.getLast hne0, (List.dropLast_concat_getLast hne0).symm⟩
      refine hP9 ?_; clear hP9 P9
      have hpl : p.length = k := by simpa using hk
      obtain ⟨tl, rfl⟩ := hn2 k lst (by rw [List.getElem?_append_right (by omega), hpl]; simp)
      have hyl : ys.length = xs.length := hsm.length
      refine hide fun P9 hP9 => ?_
      obtain ⟨x, hx⟩ : ∃ x, ys[k]? = some x := ⟨_, List.getElem?_eq_getElem (by omega)⟩
      have hxm := List.mem_of_getElem? hx
      have hval := valueAt_num r2 hx
      have dd := r2.odd; have dn := r2.odn
      obtain ⟨z0_1, z0_2, z0_3, z0_4, z0_5, z0_6, z0_7, z0_8, z0_9, z0_10, z0_11, z1_2, z1_3, z1_4, z1_5, z1_6, z1_7, z1_8, z1_9, z1_10, z1_11, z2_3, z2_4, z2_5, z2_6, z2_7, z2_8, z2_9, z2_10, z2_11, z3_4, z3_5, z3_6, z3_7, z3_8, z3_9, z3_10, z3_11, z4_5, z4_6, z4_7, z4_8, z4_9, z4_10, z4_11, z5_6, z5_7, z5_8, z5_9, z5_10, z5_11, z6_7, z6_8, z6_9, z6_10, z6_11, z7_8, z7_9, z7_10, z7_11, z8_9, z8_10, z8_11, z9_10, z9_11, z10_11, y0_1, y0_2, y0_3, y1_2, y1_3, y2_3, w0_0, w0_1, w0_2, w0_3, w1_0, w1_1, w1_2, w1_3, w2_0, w2_1, w2_2, w2_3, w3_0, w3_1, w3_2, w3_3, w4_0, w4_1, w4_2, w4_3, w5_0, w5_1, w5_2, w5_3, w6_0, w6_1, w6_2, w6_3, w7_0, w7_1, w7_2, w7_3, w8_0, w8_1, w8_2, w8_3, w9_0, w9_1, w9_2, w9_3, w10_0, w10_1, w10_2, w10_3, w11_0, w11_1, w11_2, w11_3⟩ := (Sep.fx (Sep.ofLists r2.sep rfl) : Fx c m)
      obtain ⟨f0_x, f1_x, f2_x, f3_x, f4_x, f5_x, f6_x, f7_x, f8_x, f9_x, f10_x, f11_x, l0_x, l1_x, l2_x, l3_x, g0_x, g1_x, g2_x, g3_x, g4_x, g5_x, g6_x, g7_x, g8_x, g9_x, g10_x, g11_x, k0_x, k1_x, k2_x, k3_x, tt_x⟩ := (Sep.tx (Sep.ofLists r2.sep rfl) hxm : Tx c m x)
      have e1 := r2.ts; have e2 := r2.od; have e3 := r2.ma; have e4 := r2.md; have e5 := (r2.th x hxm).o; have e6 := (r2.th x hxm).d
      have hpop : kl_last (p ++ [Value.int ((k : Int) + 1) tl]).toArray.toList = some (p, .int ((k : Int) + 1) tl) := kl_last_append p _
      have hzp : (p ++ [Value.int ((k : Int) + 1) tl]).toArray.toList.length ≤ sizeLine := by simp [sizeLine]; omega
      have hsz : (p ++ [Value.int ((k : Int) + 1) tl]).toArray.size = k + 1 := by simp; omega
      have nq1 : NeN q1 L := o1.lt hL
      have nq3 : NeN q3 L := o3.lt hL
      obtain ⟨x', hx', ex⟩ := hsm.get hx
      refine hP9 ?_; clear hP9 P9
      have hx'm := List.mem_of_getElem? hx'
      have nx1 : NeN x.t L := by rw [ex.1]; exact (r.th x' hx'm).o.lt hL
      have nx2 : NeN x.td L := by rw [ex.2.1]; exact (r.th x' hx'm).d.lt hL
      have j1 : NeN m.ts q1 := fun e => f1 (.inr (.inr (.inl (by rw [← (e : m.ts = q1)]; simp [Mut.lists]))))
      have j3 : NeN m.ts q3 := fun e => f3 (.inr (.inr (.inl (by rw [← (e : m.ts = q3)]; simp [Mut.lists]))))
      have j2 : NeN x.td q1 := fun e => f1 (.inr (.inr (.inr ⟨x', hx'm, by rw [← ex.2.1]; exact (e : x.td = q1).symm⟩)))
      have j4 : NeN x.td q3 := fun e => f3 (.inr (.inr (.inr ⟨x', hx'm, by rw [← ex.2.1]; exact (e : x.td = q3).symm⟩)))
      (try clear hR); (try clear N9); (try clear F9)
      have F9 := F2
      refine hide fun P9 hP9 => ?_
      obtain ⟨rest, hR, N9⟩ := refocus F9 (.cons e1 (.cons e2 (.cons e3 (.cons e4 (.cons e5 (.cons e6 (.cons p1 (.cons p3 .nil)))))))) (allC ((hLg r.ts)) (allC ((hLg r.od)) (allC ((hLg r.ma)) (allC ((hLg r.md)) (allC ((nx1)) (allC ((nx2)) (allC ((nq1)) (allC ((nq3)) (List.forall_mem_nil _)))))))))
      refine hP9 ?_; clear hP9 P9
      dsimp only [List.cons_append, List.nil_append] at N9
      change Rest B _ [L, m.ts, c.od, c.ma, c.md, x.t, x.td, q1, q3] rest at hR
      have hB9 := Keep.of_fr F9
      have hs0 := hR.off m.ts (.tail _ (.head _))
      have hs1 := hR.off c.od (.tail _ (.tail _ (.head _)))
      have hs2 := hR.off c.ma (.tail _ (.tail _ (.tail _ (.head _))))
      have hs3 := hR.off c.md (.tail _ (.tail _ (.tail _ (.tail _ (.head _)))))
      have hs4 := hR.off x.t (.tail _ (.tail _ (.tail _ (.tail _ (.tail _ (.head _))))))
      have hs5 := hR.off x.td (.tail _ (.tail _ (.tail _ (.tail _ (.tail _ (.tail _ (.head _)))))))
      have hs6 := hR.off q1 (.tail _ (.tail _ (.tail _ (.tail _ (.tail _ (.tail _ (.tail _ (.head _))))))))
      have hs7 := hR.off q3 (.tail _ (.tail _ (.tail _ (.tail _ (.tail _ (.tail _ (.tail _ (.tail _ (.head _)))))))))
      unfold swM at F9
      k_steps
      (with_reducible rename Fr _ _ _ _ => F9); (with_reducible rename News _ _ _ _ => N9)
      refine conMeth (isDead_con W0 (Keep.of_fr F9) (newsOwn N9 (by k_mem)) (newsOwn N9 (by k_mem)) (newsOwn N9 (by k_mem)) (newsOwn N9 (by k_mem)) (by (first | refine Nd.m3 ?_ | refine Nd.m4 ?_ | refine Nd.m5 ?_ | refine Nd.m6 ?_ | refine Nd.m7 ?_ | refine Nd.m8 ?_ | refine Nd.m11 ?_) <;> constructor <;> first | assumption | (refine NeN.symm ?_; assumption)) (ha2 x hxm) hw) N9 (by k_mem) rfl (Room.deeper (R.le (by decide))) ?_
      intro v9 H9 tk9 K9 U9 rfl
      replace N9 := newsKeep N9 U9 (fun _ _ x => x)
      replace F9 := frStep F9 U9 (fun x => x) base0
      dsimp only
      k_steps
      (with_reducible rename Fr _ _ _ _ => F9); (with_reducible rename News _ _ _ _ => N9)
      refine conMeth (makeWhite_con W0 (Keep.of_fr F9) (newsOwn N9 (by k_mem)) (newsOwn N9 (by k_mem)) (newsOwn N9 (by k_mem)) (newsOwn N9 (by k_mem)) (by (first | refine Nd.m3 ?_ | refine Nd.m4 ?_ | refine Nd.m5 ?_ | refine Nd.m6 ?_ | refine Nd.m7 ?_ | refine Nd.m8 ?_ | refine Nd.m11 ?_) <;> constructor <;> first | assumption | (refine NeN.symm ?_; assumption))) N9 (by k_mem) rfl (Room.deeper (R.le (by decide))) ?_
      rintro v9 H9 tk9 K9 U9 ⟨t2', b1⟩
      have N8 : News B L H9 ((m.ts, listOf p.toArray (ns + 1)) :: (c.od, c.oo) :: (c.ma, instObj 136 c.md) :: (c.md, dictOf (mksEs c.km (c.mk' { m with ns := ns }) white m.tw) 6) :: (x.t, instObj 367 x.td) :: (x.td, dictOf (thEs x.k x.num white x.sz x.t1 t2' x.t3) 3) :: (q1, methodObj (.ref 49) (.ref c.ma)) :: (q3, methodObj (.ref 56) (.ref c.ma)) :: rest) := by
        refine newsStep N9 U9 (allC (?_) (allC (?_) (allC (?_) (allC (?_) (allC (?_) (allC (?_) (allC (?_) (allC (?_) (fun p hp => .inl ⟨?_, ?_⟩)))))))))
        · first | exact .inl ⟨by k_mem, by ktr_rel⟩ | exact .inr ⟨by assumption, newsNeL N9 (by k_mem)⟩ | exact .inr ⟨by assumption, neL_of_new F9 (by assumption)⟩
        · first | exact .inl ⟨by k_mem, by ktr_rel⟩ | exact .inr ⟨by assumption, newsNeL N9 (by k_mem)⟩ | exact .inr ⟨by assumption, neL_of_new F9 (by assumption)⟩
        · first | exact .inl ⟨by k_mem, by ktr_rel⟩ | exact .inr ⟨by assumption, newsNeL N9 (by k_mem)⟩ | exact .inr ⟨by assumption, neL_of_new F9 (by assumption)⟩
        · first | exact .inl ⟨by k_mem, by ktr_rel⟩ | exact .inr ⟨by assumption, newsNeL N9 (by k_mem)⟩ | exact .inr ⟨by assumption, neL_of_new F9 (by assumption)⟩
        · first | exact .inl ⟨by k_mem, by ktr_rel⟩ | exact .inr ⟨by assumption, newsNeL N9 (by k_mem)⟩ | exact .inr ⟨by assumption, neL_of_new F9 (by assumption)⟩
        · first | exact .inl ⟨by k_mem, by ktr_rel⟩ | exact .inr ⟨by assumption, newsNeL N9 (by k_mem)⟩ | exact .inr ⟨by assumption, neL_of_new F9 (by assumption)⟩
        · first | exact .inl ⟨by k_mem, by ktr_rel⟩ | exact .inr ⟨by assumption, newsNeL N9 (by k_mem)⟩ | exact .inr ⟨by assumption, neL_of_new F9 (by assumption)⟩
        · first | exact .inl ⟨by k_mem, by ktr_rel⟩ | exact .inr ⟨by assumption, newsNeL N9 (by k_mem)⟩ | exact .inr ⟨by assumption, neL_of_new F9 (by assumption)⟩
        · repeat (first | exact hp | apply List.Mem.tail)
        · exact nosr1 (by k_all) p hp
      have F8 := frStep F9 U9 (nos1 (newsNeL N9 (by k_mem)).symm) (base1 (newsOwn N9 (by k_mem)).2)
      clear F9 N9; have F9 := F8; have N9 := N8; clear F8 N8
      dsimp only
      k_steps
      (with_reducible rename Fr _ _ _ _ => F9); (with_reducible rename News _ _ _ _ => N9)
      have U6 := hR.upto (S := orL (is2 m.ts x.td) L) hB9 F9 N9 (by intro p hp; repeat (first | exact hp | apply List.Mem.tail)) (by
        refine allC (.inl ⟨.inr rfl, Fr.liveL F9⟩) (allC (?_) (allC (?_) (allC (?_) (allC (?_) (allC (?_) (allC (?_) (allC (?_) (allC (?_) (List.forall_mem_nil _)))))))))
        · first | exact Or.inr ((newsOwn N9 (a := m.ts) (by k_mem)).1.trans e1.1.symm) | exact Or.inl ⟨Or.inl (by first | exact rfl | exact Or.inl rfl | exact Or.inr rfl | exact Or.inr (Or.inl rfl) | exact Or.inr (Or.inr rfl)), newsLive N9 (by k_mem)⟩
        · first | exact Or.inr ((newsOwn N9 (a := c.od) (by k_mem)).1.trans e2.1.symm) | exact Or.inl ⟨Or.inl (by first | exact rfl | exact Or.inl rfl | exact Or.inr rfl | exact Or.inr (Or.inl rfl) | exact Or.inr (Or.inr rfl)), newsLive N9 (by k_mem)⟩
        · first | exact Or.inr ((newsOwn N9 (a := c.ma) (by k_mem)).1.trans e3.1.symm) | exact Or.inl ⟨Or.inl (by first | exact rfl | exact Or.inl rfl | exact Or.inr rfl | exact Or.inr (Or.inl rfl) | exact Or.inr (Or.inr rfl)), newsLive N9 (by k_mem)⟩
        · first | exact Or.inr ((newsOwn N9 (a := c.md) (by k_mem)).1.trans e4.1.symm) | exact Or.inl ⟨Or.inl (by first | exact rfl | exact Or.inl rfl | exact Or.inr rfl | exact Or.inr (Or.inl rfl) | exact Or.inr (Or.inr rfl)), newsLive N9 (by k_mem)⟩
        · first | exact Or.inr ((newsOwn N9 (a := x.t) (by k_mem)).1.trans e5.1.symm) | exact Or.inl ⟨Or.inl (by first | exact rfl | exact Or.inl rfl | exact Or.inr rfl | exact Or.inr (Or.inl rfl) | exact Or.inr (Or.inr rfl)), newsLive N9 (by k_mem)⟩
        · first | exact Or.inr ((newsOwn N9 (a := x.td) (by k_mem)).1.trans e6.1.symm) | exact Or.inl ⟨Or.inl (by first | exact rfl | exact Or.inl rfl | exact Or.inr rfl | exact Or.inr (Or.inl rfl) | exact Or.inr (Or.inr rfl)), newsLive N9 (by k_mem)⟩
        · first | exact Or.inr ((newsOwn N9 (a := q1) (by k_mem)).1.trans p1.1.symm) | exact Or.inl ⟨Or.inl (by first | exact rfl | exact Or.inl rfl | exact Or.inr rfl | exact Or.inr (Or.inl rfl) | exact Or.inr (Or.inr rfl)), newsLive N9 (by k_mem)⟩
        · first | exact Or.inr ((newsOwn N9 (a := q3) (by k_mem)).1.trans p3.1.symm) | exact Or.inl ⟨Or.inl (by first | exact rfl | exact Or.inl rfl | exact Or.inr rfl | exact Or.inr (Or.inl rfl) | exact Or.inr (Or.inr rfl)), newsLive N9 (by k_mem)⟩)
      have nl : ∀ {b : Addr} {o : Obj}, Own B h b o → NeN b L := hLg
      obtain ⟨zs, z1, z2, z3⟩ := choose_marks (B := B) (h := H9) (fun z => if z.num = x.num then white else z.mrk) (xs := ys) fun z hz => by
        refine hide fun P9 hP9 => ?_
        obtain ⟨z', hz', ez⟩ := hsm.mem hz
        refine hP9 ?_; clear hP9 P9
        have n1 : NeN z.t L := by rw [ez.1]; exact (r.th z' hz').o.lt hL
        have n2 : NeN z.td L := by rw [ez.2.1]; exact (r.th z' hz').d.lt hL
        by_cases e : z.num = x.num
        · rw [if_pos e, r2.num_inj hz hxm e]
          exact ⟨t2', U6.own e5 (nosL2 (by k_ne) (by k_ne) nx1), b1⟩
        · rw [if_neg e]
          exact ⟨z.t2, (r2.th z hz).upto U6 (nosL2 (r2.sep.tl z hz _ (by first | exact Mut.m0 _ | exact Mut.m1 _ | exact Mut.m2 _ | exact Mut.m3 _)) (r2.sep.td z hz x hxm) n1) (nosL2 (r2.sep.dl z hz _ (by first | exact Mut.m0 _ | exact Mut.m1 _ | exact Mut.m2 _ | exact Mut.m3 _)) (r2.td_ne hz hxm e) n2)⟩
      have eb : (xs.length : Int) - (k : Nat) = xs.length - ((k + 1 : Nat) : Int) + 1 := by omega
      have zget : ∀ {i : Nat} {z : Th}, zs[i]? = some z → ∃ y, ys[i]? = some y ∧ z.mrk = if y.num = x.num then white else y.mrk := fun hz => marks_get z3 hz
      have fx : ∀ {a : Addr} {o : Obj}, a ∈ c.fix → Own B h a o → ¬ orL (is2 m.ts x.td) L a := fun ha q => nosL2 (r2.sep.fl _ ha _ (by first | exact Mut.m0 _ | exact Mut.m1 _ | exact Mut.m2 _ | exact Mut.m3 _)) (r2.sep.df x hxm _ ha).symm (q.lt hL)
      have F8 := swMF (c := c) (m := m) (q1 := q1) (q2 := q2) (q3 := q3) (tt := tt) (tm := tm) (a := (xs.length : Int) - ((k + 1 : Nat) : Int)) (u := u) (o := some x.ref) F9
      rw [← eb] at F8
      refine ⟨k, Nat.lt_succ_self _, H9, tk9, some x.ref, _, zs, p, ns + 1, rfl, F8, r2.next' (m' := { m with ns := ns + 1 }) U6 (fun a ha _ _ => by obtain ⟨o, q⟩ := r.fixLive a ha; exact fx ha q) z1 ⟨r.sep.lists, fun a ha => .inl ha⟩ r.tot (U6.own r2.cd (fx (by first | exact Cfg.m0 _ | exact Cfg.m1 _ | exact Cfg.m2 _ | exact Cfg.m3 _ | exact Cfg.m4 _ | exact Cfg.m5 _ | exact Cfg.m6 _ | exact Cfg.m7 _ | exact Cfg.m8 _ | exact Cfg.m9 _ | exact Cfg.m10 _ | exact Cfg.m11 _) r.cd)) (U6.own r2.md (fx (by first | exact Cfg.m0 _ | exact Cfg.m1 _ | exact Cfg.m2 _ | exact Cfg.m3 _ | exact Cfg.m4 _ | exact Cfg.m5 _ | exact Cfg.m6 _ | exact Cfg.m7 _ | exact Cfg.m8 _ | exact Cfg.m9 _ | exact Cfg.m10 _ | exact Cfg.m11 _) r.md)) (U6.own r2.gl (nosL2 y0_3 (by k_ne) (r.gl.lt hL))) (U6.own r2.ga (nosL2 y1_3 (by k_ne) (r.ga.lt hL))) (U6.own r2.wk (nosL2 y2_3 (by k_ne) (r.wk.lt hL))) (newsOwn N9 (by k_mem)) z2, hpl, ?_, hsm.trans z1, ?_, ?_, U2.trans U6 (fun _ e => e) (fun a e _ => ?_), by omega⟩
      · intro j v' hj
        exact hn2 j v' (by rw [List.getElem?_append_left (List.getElem?_eq_some_iff.1 hj).1]; exact hj)
      · intro z hz
        refine hide fun P9 hP9 => ?_
        obtain ⟨i, hi⟩ := List.getElem?_of_mem hz
        obtain ⟨y, hy, ey⟩ := zget hi
        refine hP9 ?_; clear hP9 P9
        by_cases e : y.num = x.num
        · rw [if_pos e] at ey; exact .inl ey
        · rw [if_neg e] at ey; rw [ey]; exact ha2 y (List.mem_of_getElem? hy)
      · intro i z hik hi
        refine hide fun P9 hP9 => ?_
        obtain ⟨y, hy, ey⟩ := zget hi
        refine hP9 ?_; clear hP9 P9
        by_cases e : y.num = x.num
        · rw [if_pos e] at ey; exact ey
        · rw [if_neg e] at ey
          rw [ey]
          refine hd2 i y ?_ hy
          have a1 := r2.num i y hy
          have a2 := r2.num k x hx
          omega
      · refine hide fun P9 hP9 => ?_
        (rcases e with (e | e) | e) <;> (refine hP9 ?_; clear hP9 P9)
        · exact .inl (.inr (.inr (.inl (by rw [show a = m.ts from e]; simp [Mut.lists]))))
        · exact .inl (.inr (.inr (.inr ⟨x', hx'm, by rw [← ex.2.1]; exact e⟩)))
        · exact .inr e
end
section
set_option maxRecDepth 100000
open PySem PySem.W PySem.Calls PyProof.Rows
theorem reset_L15 : True := by
  w_top off
  trivial
variable {w : World} {B h : Heap}
inductive SweepP (w : World) (B h : Heap) (c : Cfg) (m : Mut) (v : CycI) (white : Int) (xs : List Th) (gv : List Value) (rv : Value) (h' : Heap) : Prop
  | mk (p0 : (∃ t, rv = .int 32 t)) (m' ys : _) (p1 : CRep w B h' c m' { v with phase := 3, est := max 0 v.est } white ys gv []) (p2 : Fresh c m m' h) (p3 : Same xs ys) (p4 : ∀ y ∈ ys, y.mrk = white)
set_option maxHeartbeats 2000000 in
theorem sweep_con (W : Wd w B) (hB : Keep B h) {c : Cfg} {m : Mut} {v : CycI} {white : Int} {xs : List Th} {gv sv : List Value} (r : CRep w B h c m v white xs gv sv) (hsv : sv.length = xs.length) (hnum : NumL sv)
    (hal : ∀ y ∈ xs, y.mrk = white ∨ y.mrk = 2 ∨ y.mrk = 3) (hw : white = 0 ∨ white = 1) :
    Con w B 8 259 [.ref c.ca] (Foot c m xs) h (fun rv h' => SweepP w B h c m v white xs gv rv h') := by
  refine hide fun P9 hP9 => ?_
  obtain ⟨z0_1, z0_2, z0_3, z0_4, z0_5, z0_6, z0_7, z0_8, z0_9, z0_10, z0_11, z1_2, z1_3, z1_4, z1_5, z1_6, z1_7, z1_8, z1_9, z1_10, z1_11, z2_3, z2_4, z2_5, z2_6, z2_7, z2_8, z2_9, z2_10, z2_11, z3_4, z3_5, z3_6, z3_7, z3_8, z3_9, z3_10, z3_11, z4_5, z4_6, z4_7, z4_8, z4_9, z4_10, z4_11, z5_6, z5_7, z5_8, z5_9, z5_10, z5_11, z6_7, z6_8, z6_9, z6_10, z6_11, z7_8, z7_9, z7_10, z7_11, z8_9, z8_10, z8_11, z9_10, z9_11, z10_11, y0_1, y0_2, y0_3, y1_2, y1_3, y2_3, w0_0, w0_1, w0_2, w0_3, w1_0, w1_1, w1_2, w1_3, w2_0, w2_1, w2_2, w2_3, w3_0, w3_1, w3_2, w3_3, w4_0, w4_1, w4_2, w4_3, w5_0, w5_1, w5_2, w5_3, w6_0, w6_1, w6_2, w6_3, w7_0, w7_1, w7_2, w7_3, w8_0, w8_1, w8_2, w8_3, w9_0, w9_1, w9_2, w9_3, w10_0, w10_1, w10_2, w10_3, w11_0, w11_1, w11_2, w11_3⟩ := (Sep.fx (Sep.ofLists r.sep rfl) : Fx c m)
  refine hP9 ?_; clear hP9 P9
  have h1 := r.ca; have h2 := r.cd; have h3 := r.ma; have h4 := r.md
  have W0 := W; (first | (have X9 : ∀ w9 : World, (Mine.hd.heap_39 w9.params).In default → PySem.Challenge.rw_rh0162_01 = PySem.Challenge.rw_rh0162_01 := by (k_fill; fail)) | skip)
  k_dflt (refine' Con.start [("self", .ref c.ca)] W hB (.cons h1 (.cons h2 (.cons h3 (.cons h4 .nil)))) rfl ?ho ?hcd ?bind ?loc ?a ?b ?c ?d ?_; (case ho => k_is); (case hcd => k_is); (case bind => exact fun _ => BindsTo.of_eq rfl); (case loc => exact locs rfl); (case a => exact rfl); (case b => exact rfl); (case c => exact rfl); (case d => decide))
  intro p0 loose0 mean0 mg0 mb0 dp9 fr9 gd9 un9 s RR h₁ L rest tk Q' X T C R post hL F N hR hQ hQn; clear C
  dsimp only [List.cons_append, List.nil_append] at N
  change Rest B h [c.ca, c.cd, c.ma, c.md] rest at hR
  have hr0 := hR.off c.ca (.head _)
  have hr1 := hR.off c.cd (.tail _ (.head _))
  have hr2 := hR.off c.ma (.tail _ (.tail _ (.head _)))
  have hr3 := hR.off c.md (.tail _ (.tail _ (.tail _ (.head _))))
  have hh := R.handled
  k_steps
  (with_reducible rename Fr _ _ _ _ => F9); (with_reducible rename News _ _ _ _ => N9)
  rename_i _ q1 _ l1 q2 _ l2 q3 _ l3
  (with_reducible rename Fr _ _ _ _ => F9); (with_reducible rename News _ _ _ _ => N9)
  have U0 := hR.upto (S := is0) hB F9 N9 (by intro p hp; repeat (first | exact hp | apply List.Mem.tail)) (by
    refine allC (?_) (allC (?_) (allC (?_) (allC (?_) (List.forall_mem_nil _))))
    · first | exact Or.inr ((newsOwn N9 (a := c.ca) (by k_mem)).1.trans h1.1.symm) | exact Or.inl ⟨by first | exact rfl | exact Or.inl rfl | exact Or.inr rfl | exact Or.inr (Or.inl rfl) | exact Or.inr (Or.inr rfl) | exact Or.inr (Or.inr (Or.inr ⟨_, .head _, rfl⟩)) | exact Or.inr (Or.inr (Or.inl (by first | exact Mut.m0 _ | exact Mut.m1 _ | exact Mut.m2 _ | exact Mut.m3 _))), newsLive N9 (by k_mem)⟩
    · first | exact Or.inr ((newsOwn N9 (a := c.cd) (by k_mem)).1.trans h2.1.symm) | exact Or.inl ⟨by first | exact rfl | exact Or.inl rfl | exact Or.inr rfl | exact Or.inr (Or.inl rfl) | exact Or.inr (Or.inr rfl) | exact Or.inr (Or.inr (Or.inr ⟨_, .head _, rfl⟩)) | exact Or.inr (Or.inr (Or.inl (by first | exact Mut.m0 _ | exact Mut.m1 _ | exact Mut.m2 _ | exact Mut.m3 _))), newsLive N9 (by k_mem)⟩
    · first | exact Or.inr ((newsOwn N9 (a := c.ma) (by k_mem)).1.trans h3.1.symm) | exact Or.inl ⟨by first | exact rfl | exact Or.inl rfl | exact Or.inr rfl | exact Or.inr (Or.inl rfl) | exact Or.inr (Or.inr rfl) | exact Or.inr (Or.inr (Or.inr ⟨_, .head _, rfl⟩)) | exact Or.inr (Or.inr (Or.inl (by first | exact Mut.m0 _ | exact Mut.m1 _ | exact Mut.m2 _ | exact Mut.m3 _))), newsLive N9 (by k_mem)⟩
    · first | exact Or.inr ((newsOwn N9 (a := c.md) (by k_mem)).1.trans h4.1.symm) | exact Or.inl ⟨by first | exact rfl | exact Or.inl rfl | exact Or.inr rfl | exact Or.inr (Or.inl rfl) | exact Or.inr (Or.inr rfl) | exact Or.inr (Or.inr (Or.inr ⟨_, .head _, rfl⟩)) | exact Or.inr (Or.inr (Or.inl (by first | exact Mut.m0 _ | exact Mut.m1 _ | exact Mut.m2 _ | exact Mut.m3 _))), newsLive N9 (by k_mem)⟩)
  have r1 := r.frame0 U0
  have f1 : ¬ Foot c m xs q1 := r.notFoot (fresh_of hR (newsOwn N9 (a := q1) (by k_mem)).2 (by repeat' (first | exact List.forall_mem_nil _ | refine allC ((by first | exact l1.1 | exact l1 | exact l1.2.1 | exact l1.2 | exact l1.2.2.1 | exact l1.2.2 | exact l1.2.2.2.1 | exact l1.2.2.2 | exact l1.2.2.2.2.1 | exact l1.2.2.2.2 | exact l1.2.2.2.2.2.1 | exact l1.2.2.2.2.2 | exact l1.2.2.2.2.2.2.1 | exact l1.2.2.2.2.2.2 | exact l1.2.2.2.2.2.2.2.1 | exact l1.2.2.2.2.2.2.2 | exact l1.2.2.2.2.2.2.2.2.1 | exact l1.2.2.2.2.2.2.2.2 | exact l1.2.2.2.2.2.2.2.2.2.1 | exact l1.2.2.2.2.2.2.2.2.2 | exact l1.2.2.2.2.2.2.2.2.2.2.1 | exact l1.2.2.2.2.2.2.2.2.2.2 | exact l1.2.2.2.2.2.2.2.2.2.2.2.1 | exact l1.2.2.2.2.2.2.2.2.2.2.2 | exact l1.2.2.2.2.2.2.2.2.2.2.2.2.1 | exact l1.2.2.2.2.2.2.2.2.2.2.2.2 | exact l1.2.2.2.2.2.2.2.2.2.2.2.2.2.1 | exact l1.2.2.2.2.2.2.2.2.2.2.2.2.2 | exact l1.2.2.2.2.2.2.2.2.2.2.2.2.2.2.1 | exact l1.2.2.2.2.2.2.2.2.2.2.2.2.2.2 | exact l1.2.2.2.2.2.2.2.2.2.2.2.2.2.2.2.1 | exact l1.2.2.2.2.2.2.2.2.2.2.2.2.2.2.2 | omega)) (?_))) l1.2.2.2.2)
  have f3 : ¬ Foot c m xs q3 := r.notFoot (fresh_of hR (newsOwn N9 (a := q3) (by k_mem)).2 (by repeat' (first | exact List.forall_mem_nil _ | refine allC ((by first | exact l3.1 | exact l3 | exact l3.2.1 | exact l3.2 | exact l3.2.2.1 | exact l3.2.2 | exact l3.2.2.2.1 | exact l3.2.2.2 | exact l3.2.2.2.2.1 | exact l3.2.2.2.2 | exact l3.2.2.2.2.2.1 | exact l3.2.2.2.2.2 | exact l3.2.2.2.2.2.2.1 | exact l3.2.2.2.2.2.2 | exact l3.2.2.2.2.2.2.2.1 | exact l3.2.2.2.2.2.2.2 | exact l3.2.2.2.2.2.2.2.2.1 | exact l3.2.2.2.2.2.2.2.2 | exact l3.2.2.2.2.2.2.2.2.2.1 | exact l3.2.2.2.2.2.2.2.2.2 | exact l3.2.2.2.2.2.2.2.2.2.2.1 | exact l3.2.2.2.2.2.2.2.2.2.2 | exact l3.2.2.2.2.2.2.2.2.2.2.2.1 | exact l3.2.2.2.2.2.2.2.2.2.2.2 | exact l3.2.2.2.2.2.2.2.2.2.2.2.2.1 | exact l3.2.2.2.2.2.2.2.2.2.2.2.2 | exact l3.2.2.2.2.2.2.2.2.2.2.2.2.2.1 | exact l3.2.2.2.2.2.2.2.2.2.2.2.2.2 | exact l3.2.2.2.2.2.2.2.2.2.2.2.2.2.2.1 | exact l3.2.2.2.2.2.2.2.2.2.2.2.2.2.2 | exact l3.2.2.2.2.2.2.2.2.2.2.2.2.2.2.2.1 | exact l3.2.2.2.2.2.2.2.2.2.2.2.2.2.2.2 | omega)) (?_))) l3.2.2.2.2.2.2)
  refine Con.call (sweepSome_con W0 (Keep.of_fr F9) r1 hsv hnum hal hw (newsOwn N9 (by k_mem)) (newsOwn N9 (by k_mem)) f1 f3) rfl (Room.deeper (R.le (by decide))) ?_
  rintro v9 H9 tk9 K9 U9 ⟨ys, ns, r2, s2, a2⟩
  have F8 := r.fr F9 hL U9
  have UA : Upto (Foot c m xs) h H9 := U0.trans U9 (fun _ e => e.elim) (fun _ e _ => e)
  have e1 := r2.ca; have e2 := r2.cd; have e3 := r2.ts
  have hLg : ∀ {b : Addr} {o : Obj}, Own B h b o → NeN b L := fun q => q.lt hL
  have hsz : ([] : List Value).toArray.size = 0 := rfl
  clear N9 hR
  (try clear hR); (try clear N9); (try clear F9)
  have F9 := F8
  refine hide fun P9 hP9 => ?_
  obtain ⟨rest, hR, N9⟩ := refocus F9 (.cons e1 (.cons e2 (.cons e3 .nil))) (allC ((hLg r.ca)) (allC ((hLg r.cd)) (allC ((hLg r.ts)) (List.forall_mem_nil _))))
  refine hP9 ?_; clear hP9 P9
  dsimp only [List.cons_append, List.nil_append] at N9
  change Rest B _ [L, c.ca, c.cd, m.ts] rest at hR
  have hB9 := Keep.of_fr F9
  have hs0 := hR.off c.ca (.tail _ (.head _))
  have hs1 := hR.off c.cd (.tail _ (.tail _ (.head _)))
  have hs2 := hR.off m.ts (.tail _ (.tail _ (.tail _ (.head _))))
  dsimp only
  k_steps
  (with_reducible rename Fr _ _ _ _ => F9); (with_reducible rename News _ _ _ _ => N9)
  have U6 := hR.upto (S := orL (is1 c.cd) L) hB9 F9 N9 (by intro p hp; repeat (first | exact hp | apply List.Mem.tail)) (by
    refine allC (.inl ⟨.inr rfl, Fr.liveL F9⟩) (allC (?_) (allC (?_) (allC (?_) (List.forall_mem_nil _))))
    · first | exact Or.inr ((newsOwn N9 (a := c.ca) (by k_mem)).1.trans e1.1.symm) | exact Or.inl ⟨Or.inl (by first | exact rfl | exact Or.inl rfl | exact Or.inr rfl | exact Or.inr (Or.inl rfl) | exact Or.inr (Or.inr rfl)), newsLive N9 (by k_mem)⟩
    · first | exact Or.inr ((newsOwn N9 (a := c.cd) (by k_mem)).1.trans e2.1.symm) | exact Or.inl ⟨Or.inl (by first | exact rfl | exact Or.inl rfl | exact Or.inr rfl | exact Or.inr (Or.inl rfl) | exact Or.inr (Or.inr rfl)), newsLive N9 (by k_mem)⟩
    · first | exact Or.inr ((newsOwn N9 (a := m.ts) (by k_mem)).1.trans e3.1.symm) | exact Or.inl ⟨Or.inl (by first | exact rfl | exact Or.inl rfl | exact Or.inr rfl | exact Or.inr (Or.inl rfl) | exact Or.inr (Or.inr rfl)), newsLive N9 (by k_mem)⟩)
  have hmx : (if v.est - (v.total - v.total) > 0 then v.est - (v.total - v.total) else 0) = max 0 v.est := by by_cases q : v.est > 0 <;> simp [q] <;> omega
  rw [hmx] at N9
  refine hide fun P9 hP9 => ?_
  obtain ⟨t', cd'⟩ : ∃ t', Own B _ c.cd (dictOf (cycEs c.kc t' (c.cy m) { v with phase := 3, est := max 0 v.est }) 14) := ⟨⟨_, _, _, _, _, _, _, _, _, _⟩, newsOwn N9 (by k_mem)⟩
  refine hP9 ?_; clear hP9 P9
  have fx : ∀ {a : Addr} {o : Obj}, Own B h a o → NeN a c.cd → ¬ orL (is1 c.cd) L a := fun q n => nosL1 n (q.lt hL)
  have r3 := r2.next' (m' := { m with ns := ns, tc := t' }) (v' := { v with phase := 3, est := max 0 v.est }) U6 (fun a ha h1 _ => by obtain ⟨o, q⟩ := r.fixLive a ha; exact fx q h1) (Same.refl ys) ⟨r.sep.lists, fun a ha => .inl ha⟩ r.tot cd' (U6.own r2.md (fx r.md (by k_ne))) (U6.own r2.gl (fx r.gl (by k_ne))) (U6.own r2.ga (fx r.ga (by k_ne))) (U6.own r2.wk (fx r.wk (by k_ne))) (U6.own r2.ts (fx r.ts (by k_ne))) (fun y hy => by
    refine hide fun P9 hP9 => ?_
    obtain ⟨y', hy', ey⟩ := s2.mem hy
    obtain ⟨n1, _, n2, _⟩ := r2.neT hy
    refine hP9 ?_; clear hP9 P9
    refine (r2.th y hy).upto U6 (nosL1 n1 ?_) (nosL1 n2 ?_)
    · rw [ey.1]; exact (r.th y' hy').o.lt hL
    · rw [ey.2.1]; exact (r.th y' hy').d.lt hL)
  exact hQ _ _ (post _ _ _ (Keep.of_fr F9) (UA.trans U6 (fun _ e => e) (fun a e q => e.elim .inl fun e => by cases e; exact not_live (none_of_le hL) q)) ⟨⟨_, rfl⟩, _, ys, r3, ⟨r.sep.lists, fun a ha => .inl ha⟩, s2, a2⟩)
end
section
set_option maxRecDepth 100000
open PySem PySem.W PySem.Calls PyProof.Rows
theorem reset_L16 : True := by
  w_top off
  trivial
variable {w : World} {B h : Heap}
/-- where a cycle stands -/
inductive Pos where
  | pause | root | prop (j : Nat) | sweep | fin
/-- what a cycle holds, its objects' places apart -/
structure Sg where
  (pos : Pos) (white est debt thr pause mul cyc : Int)
def Pos.phase : Pos → Int
  | .pause => 0
  | .root => 1
  | .prop _ => 1
  | .sweep => 2
  | .fin => 3
def Sg.v (c : Cfg) (g : Sg) : CycI := ⟨g.pos.phase, c.total, g.est, g.debt, g.thr, g.pause, g.mul, g.cyc⟩
def markOf (white : Int) : Pos → Nat → Int
  | .pause, _ => white
  | .root, i => if i = 0 then 2 else white
  | .prop j, i => if i = 0 then 3 else if i ≤ j then 2 else 3
  | .sweep, _ => 3
  | .fin, _ => white
def greyOf (xs : List Th) : Pos → List Value
  | .root => (xs.take 1).map Th.ref
  | .prop j => ((xs.drop 1).take j).map Th.ref
  | _ => []
structure SR (w : World) (B h : Heap) (c : Cfg) (m : Mut) (xs : List Th) (g : Sg) : Prop where
  rep : ∃ sv, CRep w B h c m (g.v c) g.white xs (greyOf xs g.pos) sv ∧ (g.pos = .sweep → sv.length = xs.length ∧ NumL sv)
  marks : ∀ (i : Nat) (x : Th), xs[i]? = some x → x.mrk = markOf g.white g.pos i
  white : g.white = 0 ∨ g.white = 1
  j : ∀ j, g.pos = .prop j → j < xs.length
theorem Fresh.back {c : Cfg} {m m' : Mut} {h h' : Heap} {S : Addr → Prop} (f : Fresh c m m' h') (U : Upto S h h') : Fresh c m m' h := ⟨f.1, fun a ha => (f.2 a ha).imp id U.dead⟩
/-- one small step -/
def single (c : Cfg) (g : Sg) : Sg × Int := match g.pos with
  | .pause => ({ g with pos := .root }, 0)
  | .root => ({ g with pos := .prop (c.szs.length - 1) }, max 1 (c.szs.getD 0 0))
  | .prop (j + 1) => ({ g with pos := .prop j }, max 1 (c.szs.getD (j + 1) 0))
  | .prop 0 => ({ g with pos := .sweep, white := 1 - g.white, est := max 0 c.total }, 0)
  | .sweep => ({ g with pos := .fin, est := max 0 g.est }, 32)
  | .fin => ({ g with pos := .pause, debt := 0, cyc := g.cyc + 1 }, 0)
inductive SingP (w : World) (B h : Heap) (c : Cfg) (m : Mut) (xs : List Th) (g : Sg) (rv : Value) (h' : Heap) : Prop
  | mk (p0 : (∃ t, rv = .int (single c g).2 t)) (m' ys : _) (p1 : SR w B h' c m' ys (single c g).1) (p2 : Fresh c m m' h) (p3 : Same xs ys)
def SingleSays (w : World) (B h : Heap) (c : Cfg) (m : Mut) (xs : List Th) (g : Sg) (th : Value) : Prop :=
  Con w B 10 273 [.ref c.ca, th] (Foot c m xs) h (fun rv h' => SingP w B h c m xs g rv h')
set_option maxHeartbeats 2000000 in
theorem single_pause (W : Wd w B) (hB : Keep B h) {c : Cfg} {m : Mut} {xs : List Th} {g : Sg} {th : Value} (q : SR w B h c m xs g) (e : g.pos = .pause) : SingleSays w B h c m xs g th := by
  unfold SingleSays
  refine hide fun P9 hP9 => ?_
  obtain ⟨sv, r, hsv⟩ := q.rep
  refine hP9 ?_; clear hP9 P9
  have hl := r.len; have hlen := r.len'
  obtain ⟨x0, xr, rfl⟩ : ∃ x0 xr, xs = x0 :: xr := by cases xs with | nil => simp at hlen; omega | cons a b => exact ⟨a, b, rfl⟩
  have hm0 := q.marks 0 x0 rfl
  have hwh := q.white
  have hmk := q.marks
  refine hide fun P9 hP9 => ?_
  obtain ⟨pos, white, est, debt, thr, pause, mul, cyc⟩ := g
  refine hP9 ?_; clear hP9 P9
  cases e
  simp only [markOf] at hm0 hmk
  dsimp only at hwh
  have z0_1 := (Sep.fx r.sep).z0_1
  have h1 := r.ca; have h2 := r.cd
  have W0 := W; (first | (have X9 : ∀ w9 : World, (Mine.hd.heap_39 w9.params).In default → PySem.Challenge.rw_rh0162_01 = PySem.Challenge.rw_rh0162_01 := by (k_fill; fail)) | skip)
  k_dflt (refine' Con.start [("self", .ref c.ca), ("thread", th)] W hB (.cons h1 (.cons h2 .nil)) rfl ?ho ?hcd ?bind ?loc ?a ?b ?c ?d ?_; (case ho => k_is); (case hcd => k_is); (case bind => exact fun _ => BindsTo.of_eq rfl); (case loc => exact locs rfl); (case a => exact rfl); (case b => exact rfl); (case c => exact rfl); (case d => decide))
  intro p0 loose0 mean0 mg0 mb0 dp9 fr9 gd9 un9 s RR h₁ L rest tk Q' X T C R post hL F N hR hQ hQn; clear C
  dsimp only [List.cons_append, List.nil_append] at N
  change Rest B h [c.ca, c.cd] rest at hR
  have hr0 := hR.off c.ca (.head _)
  have hr1 := hR.off c.cd (.tail _ (.head _))
  have hh := R.handled
  dsimp only [cycEs, Sg.v, Pos.phase] at N
  k_steps
  (with_reducible rename Fr _ _ _ _ => F9); (with_reducible rename News _ _ _ _ => N9)
  (with_reducible rename Fr _ _ _ _ => F9); (with_reducible rename News _ _ _ _ => N9)
  have U0 := hR.upto (S := is0) hB F9 N9 (by intro p hp; repeat (first | exact hp | apply List.Mem.tail)) (by
    refine allC (?_) (allC (?_) (List.forall_mem_nil _))
    · first | exact Or.inr ((newsOwn N9 (a := c.ca) (by k_mem)).1.trans h1.1.symm) | exact Or.inl ⟨by first | exact rfl | exact Or.inl rfl | exact Or.inr rfl | exact Or.inr (Or.inl rfl) | exact Or.inr (Or.inr rfl) | exact Or.inr (Or.inr (Or.inr ⟨_, .head _, rfl⟩)) | exact Or.inr (Or.inr (Or.inl (by first | exact Mut.m0 _ | exact Mut.m1 _ | exact Mut.m2 _ | exact Mut.m3 _))), newsLive N9 (by k_mem)⟩
    · first | exact Or.inr ((newsOwn N9 (a := c.cd) (by k_mem)).1.trans h2.1.symm) | exact Or.inl ⟨by first | exact rfl | exact Or.inl rfl | exact Or.inr rfl | exact Or.inr (Or.inl rfl) | exact Or.inr (Or.inr rfl) | exact Or.inr (Or.inr (Or.inr ⟨_, .head _, rfl⟩)) | exact Or.inr (Or.inr (Or.inl (by first | exact Mut.m0 _ | exact Mut.m1 _ | exact Mut.m2 _ | exact Mut.m3 _))), newsLive N9 (by k_mem)⟩)
  refine Con.call (markRoots_con W0 (Keep.of_fr F9) (r.frame0 U0) (by omega)) rfl (Room.deeper (R.le (by decide))) ?_
  rintro v9 H9 tk9 K9 U9 t9_5
  refine hide fun P9 hP9 => ?_
  rcases t9_5 with ⟨m', t2, r2, f2⟩
  refine hP9 ?_; clear hP9 P9
  have F8 := r.fr F9 hL U9
  clear F9 N9
  dsimp only
  k_steps
  refine hQ _ _ (post _ _ _ K9 (U0.trans U9 (fun _ e => e.elim) (fun _ e _ => e)) ⟨⟨_, rfl⟩, m', _, ⟨⟨sv, r2, nofun⟩, ?_, hwh, nofun⟩, f2.back U0, .cons (SameTh.mark x0 2 t2) (Same.refl xr)⟩)
  intro i x hx
  cases i with
  | zero => simp at hx; subst hx; rfl
  | succ i => exact hmk (i + 1) x hx
set_option maxHeartbeats 2000000 in
theorem single_root (W : Wd w B) (hB : Keep B h) {c : Cfg} {m : Mut} {xs : List Th} {g : Sg} {th : Value} (q : SR w B h c m xs g) (e : g.pos = .root) : SingleSays w B h c m xs g th := by
  unfold SingleSays
  refine hide fun P9 hP9 => ?_
  obtain ⟨sv, r, hsv⟩ := q.rep
  refine hP9 ?_; clear hP9 P9
  have hl := r.len; have hlen := r.len'
  obtain ⟨x0, xr, rfl⟩ : ∃ x0 xr, xs = x0 :: xr := by cases xs with | nil => simp at hlen; omega | cons a b => exact ⟨a, b, rfl⟩
  have hm0 := q.marks 0 x0 rfl
  have hwh := q.white
  have hmk := q.marks
  refine hide fun P9 hP9 => ?_
  obtain ⟨pos, white, est, debt, thr, pause, mul, cyc⟩ := g
  refine hP9 ?_; clear hP9 P9
  cases e
  simp only [markOf] at hm0 hmk
  dsimp only at hwh
  have z0_1 := (Sep.fx r.sep).z0_1
  have hx0 : x0.num = 1 := by have := r.num 0 x0 rfl; omega
  have hsz0 : x0.sz = c.szs.getD 0 0 := by rw [← r.szs]; rfl
  have h1 := r.ca; have h2 := r.cd; have h3 := r.ma; have h4 := r.md; have h5 := r.gl
  have hz : (greyOf (x0 :: xr) .root).toArray.size = 1 := rfl
  have W0 := W; (first | (have X9 : ∀ w9 : World, (Mine.hd.heap_39 w9.params).In default → PySem.Challenge.rw_rh0162_01 = PySem.Challenge.rw_rh0162_01 := by (k_fill; fail)) | skip)
  k_dflt (refine' Con.start [("self", .ref c.ca), ("thread", th)] W hB (.cons h1 (.cons h2 (.cons h3 (.cons h4 (.cons h5 .nil))))) rfl ?ho ?hcd ?bind ?loc ?a ?b ?c ?d ?_; (case ho => k_is); (case hcd => k_is); (case bind => exact fun _ => BindsTo.of_eq rfl); (case loc => exact locs rfl); (case a => exact rfl); (case b => exact rfl); (case c => exact rfl); (case d => decide))
  intro p0 loose0 mean0 mg0 mb0 dp9 fr9 gd9 un9 s RR h₁ L rest tk Q' X T C R post hL F N hR hQ hQn; clear C
  dsimp only [List.cons_append, List.nil_append] at N
  change Rest B h [c.ca, c.cd, c.ma, c.md, m.gl] rest at hR
  have hr0 := hR.off c.ca (.head _)
  have hr1 := hR.off c.cd (.tail _ (.head _))
  have hr2 := hR.off c.ma (.tail _ (.tail _ (.head _)))
  have hr3 := hR.off c.md (.tail _ (.tail _ (.tail _ (.head _))))
  have hr4 := hR.off m.gl (.tail _ (.tail _ (.tail _ (.tail _ (.head _)))))
  have hh := R.handled
  dsimp only [cycEs, Sg.v, Pos.phase] at N
  k_steps
  (with_reducible rename Fr _ _ _ _ => F9); (with_reducible rename News _ _ _ _ => N9)
  (with_reducible rename Fr _ _ _ _ => F9); (with_reducible rename News _ _ _ _ => N9)
  have U0 := hR.upto (S := is0) hB F9 N9 (by intro p hp; repeat (first | exact hp | apply List.Mem.tail)) (by
    refine allC (?_) (allC (?_) (allC (?_) (allC (?_) (allC (?_) (List.forall_mem_nil _)))))
    · first | exact Or.inr ((newsOwn N9 (a := c.ca) (by k_mem)).1.trans h1.1.symm) | exact Or.inl ⟨by first | exact rfl | exact Or.inl rfl | exact Or.inr rfl | exact Or.inr (Or.inl rfl) | exact Or.inr (Or.inr rfl) | exact Or.inr (Or.inr (Or.inr ⟨_, .head _, rfl⟩)) | exact Or.inr (Or.inr (Or.inl (by first | exact Mut.m0 _ | exact Mut.m1 _ | exact Mut.m2 _ | exact Mut.m3 _))), newsLive N9 (by k_mem)⟩
    · first | exact Or.inr ((newsOwn N9 (a := c.cd) (by k_mem)).1.trans h2.1.symm) | exact Or.inl ⟨by first | exact rfl | exact Or.inl rfl | exact Or.inr rfl | exact Or.inr (Or.inl rfl) | exact Or.inr (Or.inr rfl) | exact Or.inr (Or.inr (Or.inr ⟨_, .head _, rfl⟩)) | exact Or.inr (Or.inr (Or.inl (by first | exact Mut.m0 _ | exact Mut.m1 _ | exact Mut.m2 _ | exact Mut.m3 _))), newsLive N9 (by k_mem)⟩
    · first | exact Or.inr ((newsOwn N9 (a := c.ma) (by k_mem)).1.trans h3.1.symm) | exact Or.inl ⟨by first | exact rfl | exact Or.inl rfl | exact Or.inr rfl | exact Or.inr (Or.inl rfl) | exact Or.inr (Or.inr rfl) | exact Or.inr (Or.inr (Or.inr ⟨_, .head _, rfl⟩)) | exact Or.inr (Or.inr (Or.inl (by first | exact Mut.m0 _ | exact Mut.m1 _ | exact Mut.m2 _ | exact Mut.m3 _))), newsLive N9 (by k_mem)⟩
    · first | exact Or.inr ((newsOwn N9 (a := c.md) (by k_mem)).1.trans h4.1.symm) | exact Or.inl ⟨by first | exact rfl | exact Or.inl rfl | exact Or.inr rfl | exact Or.inr (Or.inl rfl) | exact Or.inr (Or.inr rfl) | exact Or.inr (Or.inr (Or.inr ⟨_, .head _, rfl⟩)) | exact Or.inr (Or.inr (Or.inl (by first | exact Mut.m0 _ | exact Mut.m1 _ | exact Mut.m2 _ | exact Mut.m3 _))), newsLive N9 (by k_mem)⟩
    · first | exact Or.inr ((newsOwn N9 (a := m.gl) (by k_mem)).1.trans h5.1.symm) | exact Or.inl ⟨by first | exact rfl | exact Or.inl rfl | exact Or.inr rfl | exact Or.inr (Or.inl rfl) | exact Or.inr (Or.inr rfl) | exact Or.inr (Or.inr (Or.inr ⟨_, .head _, rfl⟩)) | exact Or.inr (Or.inr (Or.inl (by first | exact Mut.m0 _ | exact Mut.m1 _ | exact Mut.m2 _ | exact Mut.m3 _))), newsLive N9 (by k_mem)⟩)
  have r1 := r.frame0 U0
  refine Con.call (propR_con (x := x0) (p := []) W0 (Keep.of_fr F9) (.head _) r1 (by simp) ?_) rfl (Room.deeper (R.le (by decide))) ?_
  · intro _ y hy
    obtain ⟨i, hi⟩ := List.getElem?_of_mem hy
    rw [List.drop_succ_cons, List.drop_zero] at hi
    have := hmk (i + 1) y hi
    simp at this
    omega
  rintro v9 H9 tk9 K9 U9 t9_5
  refine hide fun P9 hP9 => ?_
  rcases t9_5 with ⟨⟨t9, e9⟩, m', ys, r2, f2, s2, k2⟩
  refine hP9 ?_; clear hP9 P9
  subst e9
  clear F9 N9
  dsimp only
  k_steps
  have ea : ([] ++ if x0.num = 1 then List.map Th.ref (List.drop 1 (x0 :: xr)) else []) = greyOf ys (.prop (c.szs.length - 1)) := by
    rw [if_pos hx0, List.nil_append]
    show _ = ((ys.drop 1).take _).map Th.ref
    have e1 : (ys.drop 1).take (c.szs.length - 1) = ys.drop 1 := List.take_of_length_le (by rw [List.length_drop, s2.length]; omega)
    rw [e1, List.map_drop, List.map_drop, s2.map fun x y q => by rw [Th.ref, Th.ref, q.1]]
  rw [ea] at r2
  refine hQ _ _ (post _ _ _ K9 (U0.trans U9 (fun _ e => e.elim) (fun _ e _ => e)) ⟨⟨_, by rw [hsz0]; rfl⟩, m', ys, ⟨⟨sv, r2, nofun⟩, ?_, hwh, fun j e => by cases e; rw [s2.length]; omega⟩, f2.back U0, s2⟩)
  intro i y hy
  refine hide fun P9 hP9 => ?_
  obtain ⟨x, hx, ex⟩ := marks_get k2 hy
  refine hP9 ?_; clear hP9 P9
  rw [ex]
  have hn := r.num i x hx
  have hi := (List.getElem?_eq_some_iff.1 hx).1
  show greyed x0 x = markOf white (.prop _) i
  unfold greyed markOf
  cases i with
  | zero => rw [if_pos (by omega)]; rfl
  | succ i => rw [if_neg (by omega), if_pos hx0]; simp; omega
set_option maxHeartbeats 2000000 in
theorem single_prop (W : Wd w B) (hB : Keep B h) {c : Cfg} {m : Mut} {xs : List Th} {g : Sg} {th : Value} {j : Nat} (q : SR w B h c m xs g) (e : g.pos = .prop (j + 1)) : SingleSays w B h c m xs g th := by
  unfold SingleSays
  refine hide fun P9 hP9 => ?_
  obtain ⟨sv, r, hsv⟩ := q.rep
  have hl := r.len; have hlen := r.len'
  have hwh := q.white
  have hmk := q.marks
  have hj := q.j
  obtain ⟨pos, white, est, debt, thr, pause, mul, cyc⟩ := g
  refine hP9 ?_; clear hP9 P9
  cases e
  simp only [markOf] at hmk
  dsimp only at hwh
  have z0_1 := (Sep.fx r.sep).z0_1
  have hj' := hj (j + 1) rfl
  refine hide fun P9 hP9 => ?_
  obtain ⟨x, hx⟩ : ∃ x, xs[j + 1]? = some x := ⟨_, List.getElem?_eq_getElem hj'⟩
  refine hP9 ?_; clear hP9 P9
  have hxm := List.mem_of_getElem? hx
  have hnx := r.num _ x hx
  have hx1 : ¬ x.num = 1 := by push_cast at hnx; omega
  have hszx : x.sz = c.szs.getD (j + 1) 0 := by rw [← r.szs, List.getD_eq_getElem?_getD, List.getElem?_map, hx]; rfl
  have hg : greyOf xs (.prop (j + 1)) = ((xs.drop 1).take j).map Th.ref ++ [x.ref] := by
    show ((xs.drop 1).take (j + 1)).map Th.ref = _
    rw [List.take_add_one, List.getElem?_drop, Nat.add_comm 1 j, hx]; simp
  have hpl : (((xs.drop 1).take j).map Th.ref).length ≤ 40 := by rw [List.length_map, List.length_take, List.length_drop]; omega
  have hz : (greyOf xs (.prop (j + 1))).toArray.size = j + 1 := by
    rw [hg, List.size_toArray, List.length_append, List.length_map, List.length_take, List.length_drop, List.length_singleton]; omega
  have h1 := r.ca; have h2 := r.cd; have h3 := r.ma; have h4 := r.md; have h5 := r.gl
  have W0 := W; (first | (have X9 : ∀ w9 : World, (Mine.hd.heap_39 w9.params).In default → PySem.Challenge.rw_rh0162_01 = PySem.Challenge.rw_rh0162_01 := by (k_fill; fail)) | skip)
  k_dflt (refine' Con.start [("self", .ref c.ca), ("thread", th)] W hB (.cons h1 (.cons h2 (.cons h3 (.cons h4 (.cons h5 .nil))))) rfl ?ho ?hcd ?bind ?loc ?a ?b ?c ?d ?_; (case ho => k_is); (case hcd => k_is); (case bind => exact fun _ => BindsTo.of_eq rfl); (case loc => exact locs rfl); (case a => exact rfl); (case b => exact rfl); (case c => exact rfl); (case d => decide))
  intro p0 loose0 mean0 mg0 mb0 dp9 fr9 gd9 un9 s RR h₁ L rest tk Q' X T C R post hL F N hR hQ hQn; clear C
  dsimp only [List.cons_append, List.nil_append] at N
  change Rest B h [c.ca, c.cd, c.ma, c.md, m.gl] rest at hR
  have hr0 := hR.off c.ca (.head _)
  have hr1 := hR.off c.cd (.tail _ (.head _))
  have hr2 := hR.off c.ma (.tail _ (.tail _ (.head _)))
  have hr3 := hR.off c.md (.tail _ (.tail _ (.tail _ (.head _))))
  have hr4 := hR.off m.gl (.tail _ (.tail _ (.tail _ (.tail _ (.head _)))))
  have hh := R.handled
  dsimp only [cycEs, Sg.v, Pos.phase] at N
  k_steps
  (with_reducible rename Fr _ _ _ _ => F9); (with_reducible rename News _ _ _ _ => N9)
  (with_reducible rename Fr _ _ _ _ => F9); (with_reducible rename News _ _ _ _ => N9)
  have U0 := hR.upto (S := is0) hB F9 N9 (by intro p hp; repeat (first | exact hp | apply List.Mem.tail)) (by
    refine allC (?_) (allC (?_) (allC (?_) (allC (?_) (allC (?_) (List.forall_mem_nil _)))))
    · first | exact Or.inr ((newsOwn N9 (a := c.ca) (by k_mem)).1.trans h1.1.symm) | exact Or.inl ⟨by first | exact rfl | exact Or.inl rfl | exact Or.inr rfl | exact Or.inr (Or.inl rfl) | exact Or.inr (Or.inr rfl) | exact Or.inr (Or.inr (Or.inr ⟨_, .head _, rfl⟩)) | exact Or.inr (Or.inr (Or.inl (by first | exact Mut.m0 _ | exact Mut.m1 _ | exact Mut.m2 _ | exact Mut.m3 _))), newsLive N9 (by k_mem)⟩
    · first | exact Or.inr ((newsOwn N9 (a := c.cd) (by k_mem)).1.trans h2.1.symm) | exact Or.inl ⟨by first | exact rfl | exact Or.inl rfl | exact Or.inr rfl | exact Or.inr (Or.inl rfl) | exact Or.inr (Or.inr rfl) | exact Or.inr (Or.inr (Or.inr ⟨_, .head _, rfl⟩)) | exact Or.inr (Or.inr (Or.inl (by first | exact Mut.m0 _ | exact Mut.m1 _ | exact Mut.m2 _ | exact Mut.m3 _))), newsLive N9 (by k_mem)⟩
    · first | exact Or.inr ((newsOwn N9 (a := c.ma) (by k_mem)).1.trans h3.1.symm) | exact Or.inl ⟨by first | exact rfl | exact Or.inl rfl | exact Or.inr rfl | exact Or.inr (Or.inl rfl) | exact Or.inr (Or.inr rfl) | exact Or.inr (Or.inr (Or.inr ⟨_, .head _, rfl⟩)) | exact Or.inr (Or.inr (Or.inl (by first | exact Mut.m0 _ | exact Mut.m1 _ | exact Mut.m2 _ | exact Mut.m3 _))), newsLive N9 (by k_mem)⟩
    · first | exact Or.inr ((newsOwn N9 (a := c.md) (by k_mem)).1.trans h4.1.symm) | exact Or.inl ⟨by first | exact rfl | exact Or.inl rfl | exact Or.inr rfl | exact Or.inr (Or.inl rfl) | exact Or.inr (Or.inr rfl) | exact Or.inr (Or.inr (Or.inr ⟨_, .head _, rfl⟩)) | exact Or.inr (Or.inr (Or.inl (by first | exact Mut.m0 _ | exact Mut.m1 _ | exact Mut.m2 _ | exact Mut.m3 _))), newsLive N9 (by k_mem)⟩
    · first | exact Or.inr ((newsOwn N9 (a := m.gl) (by k_mem)).1.trans h5.1.symm) | exact Or.inl ⟨by first | exact rfl | exact Or.inl rfl | exact Or.inr rfl | exact Or.inr (Or.inl rfl) | exact Or.inr (Or.inr rfl) | exact Or.inr (Or.inr (Or.inr ⟨_, .head _, rfl⟩)) | exact Or.inr (Or.inr (Or.inl (by first | exact Mut.m0 _ | exact Mut.m1 _ | exact Mut.m2 _ | exact Mut.m3 _))), newsLive N9 (by k_mem)⟩)
  have r1 := r.frame0 U0
  dsimp only at r1
  rw [hg] at r1
  refine Con.call (propR_con (x := x) W0 (Keep.of_fr F9) hxm r1 hpl (fun e => absurd e hx1)) rfl (Room.deeper (R.le (by decide))) ?_
  rintro v9 H9 tk9 K9 U9 t9_5
  refine hide fun P9 hP9 => ?_
  rcases t9_5 with ⟨⟨t9, e9⟩, m', ys, r2, f2, s2, k2⟩
  refine hP9 ?_; clear hP9 P9
  subst e9
  clear F9 N9
  dsimp only
  k_steps
  have ea : (((xs.drop 1).take j).map Th.ref ++ if x.num = 1 then List.map Th.ref (List.drop 1 xs) else []) = greyOf ys (.prop j) := by
    rw [if_neg hx1, List.append_nil]
    show _ = ((ys.drop 1).take _).map Th.ref
    rw [List.map_take, List.map_take, List.map_drop, List.map_drop, s2.map fun x y q => by rw [Th.ref, Th.ref, q.1]]
  rw [ea] at r2
  refine hQ _ _ (post _ _ _ K9 (U0.trans U9 (fun _ e => e.elim) (fun _ e _ => e)) ⟨⟨_, by rw [hszx]; rfl⟩, m', ys, ⟨⟨sv, r2, nofun⟩, ?_, hwh, fun j' e => by cases e; rw [s2.length]; omega⟩, f2.back U0, s2⟩)
  intro i y hy
  refine hide fun P9 hP9 => ?_
  obtain ⟨z, hzz, ez⟩ := marks_get k2 hy
  refine hP9 ?_; clear hP9 P9
  rw [ez]
  have hn := r.num i z hzz
  have hmz := hmk i z hzz
  show greyed x z = markOf white (.prop j) i
  unfold greyed markOf
  rw [if_neg hx1]
  by_cases e : z.num = x.num
  · rw [if_pos e]
    have : i = j + 1 := by omega
    subst this
    simp
  · rw [if_neg e, hmz]
    by_cases e0 : i = 0
    · simp [e0]
    · simp only [if_neg e0]
      by_cases e1 : i ≤ j
      · rw [if_pos e1, if_pos (by omega)]
      · rw [if_neg e1, if_neg (by omega)]
set_option maxHeartbeats 2000000 in
theorem single_atomic (W : Wd w B) (hB : Keep B h) {c : Cfg} {m : Mut} {xs : List Th} {g : Sg} {th : Value} (q : SR w B h c m xs g) (e : g.pos = .prop 0) : SingleSays w B h c m xs g th := by
  unfold SingleSays
  refine hide fun P9 hP9 => ?_
  obtain ⟨sv, r, hsv⟩ := q.rep
  have hl := r.len; have hlen := r.len'
  have hwh := q.white
  have hmk := q.marks
  have hj := q.j
  obtain ⟨pos, white, est, debt, thr, pause, mul, cyc⟩ := g
  refine hP9 ?_; clear hP9 P9
  cases e
  simp only [markOf] at hmk
  dsimp only at hwh
  have z0_1 := (Sep.fx r.sep).z0_1
  obtain ⟨x0, xr, rfl⟩ : ∃ x0 xr, xs = x0 :: xr := by cases xs with | nil => simp at hlen; omega | cons a b => exact ⟨a, b, rfl⟩
  have hm0 : x0.mrk = 3 := by have := hmk 0 x0 rfl; simpa using this
  have hg : greyOf (x0 :: xr) (.prop 0) = [] := rfl
  have hz : (greyOf (x0 :: xr) (.prop 0)).toArray.size = 0 := rfl
  have h1 := r.ca; have h2 := r.cd; have h3 := r.ma; have h4 := r.md; have h5 := r.gl
  have W0 := W; (first | (have X9 : ∀ w9 : World, (Mine.hd.heap_39 w9.params).In default → PySem.Challenge.rw_rh0162_01 = PySem.Challenge.rw_rh0162_01 := by (k_fill; fail)) | skip)
  k_dflt (refine' Con.start [("self", .ref c.ca), ("thread", th)] W hB (.cons h1 (.cons h2 (.cons h3 (.cons h4 (.cons h5 .nil))))) rfl ?ho ?hcd ?bind ?loc ?a ?b ?c ?d ?_; (case ho => k_is); (case hcd => k_is); (case bind => exact fun _ => BindsTo.of_eq rfl); (case loc => exact locs rfl); (case a => exact rfl); (case b => exact rfl); (case c => exact rfl); (case d => decide))
  intro p0 loose0 mean0 mg0 mb0 dp9 fr9 gd9 un9 s RR h₁ L rest tk Q' X T C R post hL F N hR hQ hQn; clear C
  dsimp only [List.cons_append, List.nil_append] at N
  change Rest B h [c.ca, c.cd, c.ma, c.md, m.gl] rest at hR
  have hr0 := hR.off c.ca (.head _)
  have hr1 := hR.off c.cd (.tail _ (.head _))
  have hr2 := hR.off c.ma (.tail _ (.tail _ (.head _)))
  have hr3 := hR.off c.md (.tail _ (.tail _ (.tail _ (.head _))))
  have hr4 := hR.off m.gl (.tail _ (.tail _ (.tail _ (.tail _ (.head _)))))
  have hh := R.handled
  dsimp only [cycEs, Sg.v, Pos.phase] at N
  k_steps
  (with_reducible rename Fr _ _ _ _ => F9); (with_reducible rename News _ _ _ _ => N9)
  (with_reducible rename Fr _ _ _ _ => F9); (with_reducible rename News _ _ _ _ => N9)
  have U0 := hR.upto (S := is0) hB F9 N9 (by intro p hp; repeat (first | exact hp | apply List.Mem.tail)) (by
    refine allC (?_) (allC (?_) (allC (?_) (allC (?_) (allC (?_) (List.forall_mem_nil _)))))
    · first | exact Or.inr ((newsOwn N9 (a := c.ca) (by k_mem)).1.trans h1.1.symm) | exact Or.inl ⟨by first | exact rfl | exact Or.inl rfl | exact Or.inr rfl | exact Or.inr (Or.inl rfl) | exact Or.inr (Or.inr rfl) | exact Or.inr (Or.inr (Or.inr ⟨_, .head _, rfl⟩)) | exact Or.inr (Or.inr (Or.inl (by first | exact Mut.m0 _ | exact Mut.m1 _ | exact Mut.m2 _ | exact Mut.m3 _))), newsLive N9 (by k_mem)⟩
    · first | exact Or.inr ((newsOwn N9 (a := c.cd) (by k_mem)).1.trans h2.1.symm) | exact Or.inl ⟨by first | exact rfl | exact Or.inl rfl | exact Or.inr rfl | exact Or.inr (Or.inl rfl) | exact Or.inr (Or.inr rfl) | exact Or.inr (Or.inr (Or.inr ⟨_, .head _, rfl⟩)) | exact Or.inr (Or.inr (Or.inl (by first | exact Mut.m0 _ | exact Mut.m1 _ | exact Mut.m2 _ | exact Mut.m3 _))), newsLive N9 (by k_mem)⟩
    · first | exact Or.inr ((newsOwn N9 (a := c.ma) (by k_mem)).1.trans h3.1.symm) | exact Or.inl ⟨by first | exact rfl | exact Or.inl rfl | exact Or.inr rfl | exact Or.inr (Or.inl rfl) | exact Or.inr (Or.inr rfl) | exact Or.inr (Or.inr (Or.inr ⟨_, .head _, rfl⟩)) | exact Or.inr (Or.inr (Or.inl (by first | exact Mut.m0 _ | exact Mut.m1 _ | exact Mut.m2 _ | exact Mut.m3 _))), newsLive N9 (by k_mem)⟩
    · first | exact Or.inr ((newsOwn N9 (a := c.md) (by k_mem)).1.trans h4.1.symm) | exact Or.inl ⟨by first | exact rfl | exact Or.inl rfl | exact Or.inr rfl | exact Or.inr (Or.inl rfl) | exact Or.inr (Or.inr rfl) | exact Or.inr (Or.inr (Or.inr ⟨_, .head _, rfl⟩)) | exact Or.inr (Or.inr (Or.inl (by first | exact Mut.m0 _ | exact Mut.m1 _ | exact Mut.m2 _ | exact Mut.m3 _))), newsLive N9 (by k_mem)⟩
    · first | exact Or.inr ((newsOwn N9 (a := m.gl) (by k_mem)).1.trans h5.1.symm) | exact Or.inl ⟨by first | exact rfl | exact Or.inl rfl | exact Or.inr rfl | exact Or.inr (Or.inl rfl) | exact Or.inr (Or.inr rfl) | exact Or.inr (Or.inr (Or.inr ⟨_, .head _, rfl⟩)) | exact Or.inr (Or.inr (Or.inl (by first | exact Mut.m0 _ | exact Mut.m1 _ | exact Mut.m2 _ | exact Mut.m3 _))), newsLive N9 (by k_mem)⟩)
  have r1 := r.frame0 U0
  refine Con.call (atomic_con W0 (Keep.of_fr F9) r1 (by omega)) rfl (Room.deeper (R.le (by decide))) ?_
  rintro v9 H9 tk9 K9 U9 t9_5
  refine hide fun P9 hP9 => ?_
  rcases t9_5 with ⟨m', sv', r2, f2, ik⟩
  refine hP9 ?_; clear hP9 P9
  have F8 := r.fr F9 hL U9
  clear F9 N9
  dsimp only
  k_steps
  refine hQ _ _ (post _ _ _ K9 (U0.trans U9 (fun _ e => e.elim) (fun _ e _ => e)) ⟨⟨_, rfl⟩, m', x0 :: xr, ⟨⟨sv', r2, fun _ => ⟨?_, ?_⟩⟩, ?_, ?_, nofun⟩, f2.back U0, Same.refl _⟩)
  · rw [ik.1, List.length_map]
  · intro j v' hv'
    refine hide fun P9 hP9 => ?_
    obtain ⟨k, x, t, hk, e⟩ := ik.2 j v' hv'
    refine hP9 ?_; clear hP9 P9
    rw [List.getElem?_map] at hk
    refine hide fun P9 hP9 => ?_
    obtain ⟨y, hy, ey⟩ := Option.map_eq_some_iff.1 hk
    refine hP9 ?_; clear hP9 P9
    cases ey
    exact ⟨t, by rw [e, r.num j y hy]⟩
  · intro i x hx
    have := hmk i x hx
    show x.mrk = 3
    rw [this]
    by_cases e0 : i = 0
    · simp [e0]
    · rw [if_neg e0, if_neg (by omega)]
  · show (1 - white = 0 ∨ 1 - white = 1); omega
set_option maxHeartbeats 2000000 in
theorem single_sweep (W : Wd w B) (hB : Keep B h) {c : Cfg} {m : Mut} {xs : List Th} {g : Sg} {th : Value} (q : SR w B h c m xs g) (e : g.pos = .sweep) : SingleSays w B h c m xs g th := by
  unfold SingleSays
  refine hide fun P9 hP9 => ?_
  obtain ⟨sv, r, hsv⟩ := q.rep
  have hl := r.len; have hlen := r.len'
  have hwh := q.white
  have hmk := q.marks
  have hj := q.j
  obtain ⟨pos, white, est, debt, thr, pause, mul, cyc⟩ := g
  refine hP9 ?_; clear hP9 P9
  cases e
  simp only [markOf] at hmk
  dsimp only at hwh
  have z0_1 := (Sep.fx r.sep).z0_1
  obtain ⟨hs1, hs2⟩ := hsv rfl
  have h1 := r.ca; have h2 := r.cd
  have W0 := W; (first | (have X9 : ∀ w9 : World, (Mine.hd.heap_39 w9.params).In default → PySem.Challenge.rw_rh0162_01 = PySem.Challenge.rw_rh0162_01 := by (k_fill; fail)) | skip)
  k_dflt (refine' Con.start [("self", .ref c.ca), ("thread", th)] W hB (.cons h1 (.cons h2 .nil)) rfl ?ho ?hcd ?bind ?loc ?a ?b ?c ?d ?_; (case ho => k_is); (case hcd => k_is); (case bind => exact fun _ => BindsTo.of_eq rfl); (case loc => exact locs rfl); (case a => exact rfl); (case b => exact rfl); (case c => exact rfl); (case d => decide))
  intro p0 loose0 mean0 mg0 mb0 dp9 fr9 gd9 un9 s RR h₁ L rest tk Q' X T C R post hL F N hR hQ hQn; clear C
  dsimp only [List.cons_append, List.nil_append] at N
  change Rest B h [c.ca, c.cd] rest at hR
  have hr0 := hR.off c.ca (.head _)
  have hr1 := hR.off c.cd (.tail _ (.head _))
  have hh := R.handled
  dsimp only [cycEs, Sg.v, Pos.phase] at N
  k_steps
  (with_reducible rename Fr _ _ _ _ => F9); (with_reducible rename News _ _ _ _ => N9)
  (with_reducible rename Fr _ _ _ _ => F9); (with_reducible rename News _ _ _ _ => N9)
  have U0 := hR.upto (S := is0) hB F9 N9 (by intro p hp; repeat (first | exact hp | apply List.Mem.tail)) (by
    refine allC (?_) (allC (?_) (List.forall_mem_nil _))
    · first | exact Or.inr ((newsOwn N9 (a := c.ca) (by k_mem)).1.trans h1.1.symm) | exact Or.inl ⟨by first | exact rfl | exact Or.inl rfl | exact Or.inr rfl | exact Or.inr (Or.inl rfl) | exact Or.inr (Or.inr rfl) | exact Or.inr (Or.inr (Or.inr ⟨_, .head _, rfl⟩)) | exact Or.inr (Or.inr (Or.inl (by first | exact Mut.m0 _ | exact Mut.m1 _ | exact Mut.m2 _ | exact Mut.m3 _))), newsLive N9 (by k_mem)⟩
    · first | exact Or.inr ((newsOwn N9 (a := c.cd) (by k_mem)).1.trans h2.1.symm) | exact Or.inl ⟨by first | exact rfl | exact Or.inl rfl | exact Or.inr rfl | exact Or.inr (Or.inl rfl) | exact Or.inr (Or.inr rfl) | exact Or.inr (Or.inr (Or.inr ⟨_, .head _, rfl⟩)) | exact Or.inr (Or.inr (Or.inl (by first | exact Mut.m0 _ | exact Mut.m1 _ | exact Mut.m2 _ | exact Mut.m3 _))), newsLive N9 (by k_mem)⟩)
  have r1 := r.frame0 U0
  refine Con.call (sweep_con W0 (Keep.of_fr F9) r1 hs1 hs2 ?_ hwh) rfl (Room.deeper (R.le (by decide))) ?_
  · intro y hy
    obtain ⟨i, hi⟩ := List.getElem?_of_mem hy
    exact .inr (.inr (hmk i y hi))
  rintro v9 H9 tk9 K9 U9 t9_5
  refine hide fun P9 hP9 => ?_
  rcases t9_5 with ⟨⟨t9, e9⟩, m', ys, r2, f2, s2, k2⟩
  refine hP9 ?_; clear hP9 P9
  subst e9
  clear F9 N9
  dsimp only
  k_steps
  refine hQ _ _ (post _ _ _ K9 (U0.trans U9 (fun _ e => e.elim) (fun _ e _ => e)) ⟨⟨_, rfl⟩, m', ys, ⟨⟨[], r2, nofun⟩, fun i y hy => k2 y (List.mem_of_getElem? hy), hwh, nofun⟩, f2.back U0, s2⟩)
set_option maxHeartbeats 2000000 in
theorem single_fin (W : Wd w B) (hB : Keep B h) {c : Cfg} {m : Mut} {xs : List Th} {g : Sg} {th : Value} (q : SR w B h c m xs g) (e : g.pos = .fin) : SingleSays w B h c m xs g th := by
  unfold SingleSays
  refine hide fun P9 hP9 => ?_
  obtain ⟨sv, r, hsv⟩ := q.rep
  have hl := r.len; have hlen := r.len'
  have hwh := q.white
  have hmk := q.marks
  have hj := q.j
  obtain ⟨pos, white, est, debt, thr, pause, mul, cyc⟩ := g
  refine hP9 ?_; clear hP9 P9
  cases e
  simp only [markOf] at hmk
  dsimp only at hwh
  refine hide fun P9 hP9 => ?_
  obtain ⟨z0_1, z0_2, z0_3, z0_4, z0_5, z0_6, z0_7, z0_8, z0_9, z0_10, z0_11, z1_2, z1_3, z1_4, z1_5, z1_6, z1_7, z1_8, z1_9, z1_10, z1_11, z2_3, z2_4, z2_5, z2_6, z2_7, z2_8, z2_9, z2_10, z2_11, z3_4, z3_5, z3_6, z3_7, z3_8, z3_9, z3_10, z3_11, z4_5, z4_6, z4_7, z4_8, z4_9, z4_10, z4_11, z5_6, z5_7, z5_8, z5_9, z5_10, z5_11, z6_7, z6_8, z6_9, z6_10, z6_11, z7_8, z7_9, z7_10, z7_11, z8_9, z8_10, z8_11, z9_10, z9_11, z10_11, y0_1, y0_2, y0_3, y1_2, y1_3, y2_3, w0_0, w0_1, w0_2, w0_3, w1_0, w1_1, w1_2, w1_3, w2_0, w2_1, w2_2, w2_3, w3_0, w3_1, w3_2, w3_3, w4_0, w4_1, w4_2, w4_3, w5_0, w5_1, w5_2, w5_3, w6_0, w6_1, w6_2, w6_3, w7_0, w7_1, w7_2, w7_3, w8_0, w8_1, w8_2, w8_3, w9_0, w9_1, w9_2, w9_3, w10_0, w10_1, w10_2, w10_3, w11_0, w11_1, w11_2, w11_3⟩ := (Sep.fx (Sep.ofLists r.sep rfl) : Fx c m)
  refine hP9 ?_; clear hP9 P9
  have h1 := r.ca; have h2 := r.cd
  have W0 := W; (first | (have X9 : ∀ w9 : World, (Mine.hd.heap_39 w9.params).In default → PySem.Challenge.rw_rh0162_01 = PySem.Challenge.rw_rh0162_01 := by (k_fill; fail)) | skip)
  k_dflt (refine' Con.start [("self", .ref c.ca), ("thread", th)] W hB (.cons h1 (.cons h2 .nil)) rfl ?ho ?hcd ?bind ?loc ?a ?b ?c ?d ?_; (case ho => k_is); (case hcd => k_is); (case bind => exact fun _ => BindsTo.of_eq rfl); (case loc => exact locs rfl); (case a => exact rfl); (case b => exact rfl); (case c => exact rfl); (case d => decide))
  intro p0 loose0 mean0 mg0 mb0 dp9 fr9 gd9 un9 s RR h₁ L rest tk Q' X T C R post hL F N hR hQ hQn; clear C
  dsimp only [List.cons_append, List.nil_append] at N
  change Rest B h [c.ca, c.cd] rest at hR
  have hr0 := hR.off c.ca (.head _)
  have hr1 := hR.off c.cd (.tail _ (.head _))
  have hh := R.handled
  dsimp only [cycEs, Sg.v, Pos.phase] at N
  k_steps
  (with_reducible rename Fr _ _ _ _ => F9); (with_reducible rename News _ _ _ _ => N9)
  (with_reducible rename Fr _ _ _ _ => F9); (with_reducible rename News _ _ _ _ => N9)
  have U0 := hR.upto (S := is0) hB F9 N9 (by intro p hp; repeat (first | exact hp | apply List.Mem.tail)) (by
    refine allC (?_) (allC (?_) (List.forall_mem_nil _))
    · first | exact Or.inr ((newsOwn N9 (a := c.ca) (by k_mem)).1.trans h1.1.symm) | exact Or.inl ⟨by first | exact rfl | exact Or.inl rfl | exact Or.inr rfl | exact Or.inr (Or.inl rfl) | exact Or.inr (Or.inr rfl) | exact Or.inr (Or.inr (Or.inr ⟨_, .head _, rfl⟩)) | exact Or.inr (Or.inr (Or.inl (by first | exact Mut.m0 _ | exact Mut.m1 _ | exact Mut.m2 _ | exact Mut.m3 _))), newsLive N9 (by k_mem)⟩
    · first | exact Or.inr ((newsOwn N9 (a := c.cd) (by k_mem)).1.trans h2.1.symm) | exact Or.inl ⟨by first | exact rfl | exact Or.inl rfl | exact Or.inr rfl | exact Or.inr (Or.inl rfl) | exact Or.inr (Or.inr rfl) | exact Or.inr (Or.inr (Or.inr ⟨_, .head _, rfl⟩)) | exact Or.inr (Or.inr (Or.inl (by first | exact Mut.m0 _ | exact Mut.m1 _ | exact Mut.m2 _ | exact Mut.m3 _))), newsLive N9 (by k_mem)⟩)
  have r1 := r.frame0 U0
  refine Con.call (finalize_con W0 (Keep.of_fr F9) r1.ca r1.cd (by assumption)) rfl (Room.deeper (R.le (by decide))) ?_
  rintro v9 H9 tk9 K9 U9 t9_5
  refine hide fun P9 hP9 => ?_
  rcases t9_5 with ⟨⟨t9, e9⟩, t', cd'⟩
  refine hP9 ?_; clear hP9 P9
  subst e9
  clear F9 N9
  dsimp only
  k_steps
  have fx : ∀ {a : Addr}, NeN a c.cd → ¬ is1 c.cd a := fun n => n
  have fr9 : Fresh c m { m with tc := t' } h₁ := ⟨r.sep.lists, fun a ha => .inl ha⟩
  have r2 := r1.next' (m' := { m with tc := t' }) (v' := { Sg.v c ⟨.fin, white, est, debt, thr, pause, mul, cyc⟩ with phase := 0, debt := 0, cyc := cyc + 1 }) U9 (fun a _ h1 _ => h1) (Same.refl xs) fr9 r.tot cd' (U9.own r1.md (by k_ne)) (U9.own r1.gl (by k_ne)) (U9.own r1.ga (by k_ne)) (U9.own r1.wk (by k_ne)) (U9.own r1.ts (by k_ne)) (fun y hy => (r1.th y hy).upto U9 (r.neT hy).1 (r.neT hy).2.2.1)
  refine hQ _ _ (post _ _ _ K9 (U0.trans U9 (fun _ e => e.elim) (fun _ e _ => .inl e)) ⟨⟨_, rfl⟩, _, xs, ⟨⟨sv, r2, nofun⟩, hmk, hwh, nofun⟩, fr9.back U0, Same.refl _⟩)
theorem single_con (W : Wd w B) (hB : Keep B h) {c : Cfg} {m : Mut} {xs : List Th} {g : Sg} {th : Value} (q : SR w B h c m xs g) : SingleSays w B h c m xs g th := by
  cases e : g.pos with
  | pause => exact single_pause W hB q e
  | root => exact single_root W hB q e
  | prop j => cases j with
    | zero => exact single_atomic W hB q e
    | succ j => exact single_prop W hB q e
  | sweep => exact single_sweep W hB q e
  | fin => exact single_fin W hB q e
end
section
set_option maxRecDepth 100000
open PySem PySem.W PySem.Calls PyProof.Rows
theorem reset_L17 : True := by
  w_top off
  trivial
variable {w : World} {B h : Heap}
/-- how many turns are left -/
def rk (c : Cfg) : Pos → Nat
  | .pause => c.szs.length + 4
  | .root => c.szs.length + 3
  | .prop j => j + 3
  | .sweep => 2
  | .fin => 1
def goG (c : Cfg) : Nat → Sg → Int → Sg
  | 0, g, _ => g
  | k + 1, g, wl => if (single c g).1.pos.phase ≠ 0 ∧ wl - (single c g).2 > 0 then goG c k (single c g).1 (wl - (single c g).2) else (single c g).1
def workG (mul : Int) : Int := if mul = 0 then 1000000000000000000 else if mul > 0 then max 1 (64 * mul / 100) else 64 * mul / 100
def debtG (c : Cfg) (g : Sg) : Sg := { g with debt := g.debt + if c.total > g.thr then c.total - g.thr else 0 }
def afterG (c : Cfg) (g : Sg) : Sg :=
  if g.pos.phase = 0 then { g with thr := if g.pause < 0 then 1000000000000000000 else g.est * g.pause / 100 }
  else if g.debt < 64 then { g with thr := c.total + 64 } else { g with debt := g.debt - 64, thr := c.total }
def stepG (c : Cfg) (g : Sg) : Sg := afterG c (goG c (c.szs.length + 5) (debtG c g) (workG g.mul))
structure OkG (c : Cfg) (g : Sg) : Prop where
  pause : -1000 ≤ g.pause ∧ g.pause ≤ 1000
  mul : -1000 ≤ g.mul ∧ g.mul ≤ 1000
  est : 0 ≤ g.est ∧ g.est ≤ 100000
  tot : 0 ≤ c.total ∧ c.total ≤ 100000
  j : ∀ j, g.pos = .prop j → j < c.szs.length
  n : 2 ≤ c.szs.length
theorem OkG.single {c : Cfg} {g : Sg} (o : OkG c g) : OkG c (single c g).1 := by
  refine hide fun P9 hP9 => ?_
  obtain ⟨pos, white, est, debt, thr, pause, mul, cyc⟩ := g
  refine hP9 ?_; clear hP9 P9
  have := o.tot; have := o.est; have := o.n
  cases pos with
  | pause => exact ⟨o.pause, o.mul, o.est, o.tot, nofun, o.n⟩
  | root => exact ⟨o.pause, o.mul, o.est, o.tot, fun j e => by cases e; omega, o.n⟩
  | prop j =>
    have := o.j j rfl
    cases j with
    | zero => exact ⟨o.pause, o.mul, by show 0 ≤ max 0 c.total ∧ max 0 c.total ≤ 100000; omega, o.tot, nofun, o.n⟩
    | succ j => exact ⟨o.pause, o.mul, o.est, o.tot, fun j e => by cases e; omega, o.n⟩
  | sweep => exact ⟨o.pause, o.mul, by show 0 ≤ max 0 est ∧ max 0 est ≤ 100000; dsimp only at *; omega, o.tot, nofun, o.n⟩
  | fin => exact ⟨o.pause, o.mul, o.est, o.tot, nofun, o.n⟩
theorem rk_single {c : Cfg} {g : Sg} (o : OkG c g) (h : (single c g).1.pos.phase ≠ 0) : rk c (single c g).1.pos + 1 ≤ rk c g.pos := by
  refine hide fun P9 hP9 => ?_
  obtain ⟨pos, white, est, debt, thr, pause, mul, cyc⟩ := g
  refine hP9 ?_; clear hP9 P9
  have := o.n
  cases pos with
  | prop j => cases j <;> simp [single, rk]
  | fin => exact absurd rfl h
  | root => simp [single, rk]; omega
  | _ => simp [single, rk]
theorem rk_pos {c : Cfg} {p : Pos} : 0 < rk c p := by cases p <;> simp [rk]
theorem goG_ok {c : Cfg} : ∀ (k : Nat) (g : Sg) (wl : Int), OkG c g → OkG c (goG c k g wl)
  | 0, _, _, o => o
  | k + 1, g, wl, o => by
    unfold goG
    split
    · exact goG_ok k _ _ o.single
    · exact o.single
theorem afterG_ok {c : Cfg} {g : Sg} (o : OkG c g) : OkG c (afterG c g) := by
  unfold afterG
  split
  · exact ⟨o.pause, o.mul, o.est, o.tot, o.j, o.n⟩
  · split <;> exact ⟨o.pause, o.mul, o.est, o.tot, o.j, o.n⟩
theorem cycTok {k : Ky} {a : CycA} {cd : Addr} {v1 v2 v3 v4 v5 v6 v7 v8 : Int} {t1 t2 t3 t4 t5 t6 t7 t8 t9 t0 : Tok} (q : Own B h cd (dictOf [
    ⟨(k 0).1, .str "objects" (k 0).2, .ref a.od⟩, ⟨(k 1).1, .str "marks" (k 1).2, .ref a.ma⟩, ⟨(k 2).1, .str "root_list" (k 2).2, .ref a.rl⟩,
    ⟨(k 3).1, .str "phase" (k 3).2, .int v1 t1⟩, ⟨(k 4).1, .str "to_sweep" (k 4).2, .ref a.ts⟩, ⟨(k 5).1, .str "total" (k 5).2, .int v2 t2⟩,
    ⟨(k 6).1, .str "estimate" (k 6).2, .int v3 t3⟩, ⟨(k 7).1, .str "debt" (k 7).2, .int v4 t4⟩, ⟨(k 8).1, .str "step_size" (k 8).2, .int 64 t5⟩,
    ⟨(k 9).1, .str "sweep_max" (k 9).2, .int 16 t6⟩, ⟨(k 10).1, .str "threshold" (k 10).2, .int v5 t7⟩, ⟨(k 11).1, .str "pause" (k 11).2, .int v6 t8⟩,
    ⟨(k 12).1, .str "step_mul" (k 12).2, .int v7 t9⟩, ⟨(k 13).1, .str "cycles" (k 13).2, .int v8 t0⟩] 14)) :
    ∃ t', Own B h cd (dictOf (cycEs k t' a ⟨v1, v2, v3, v4, v5, v6, v7, v8⟩) 14) := ⟨⟨t1, t2, t3, t4, t5, t6, t7, t8, t9, t0⟩, q⟩
/-- nothing of the cycle is the frame L -/
theorem SR.notL {c : Cfg} {m : Mut} {xs : List Th} {g : Sg} (q : SR w B h c m xs g) {L : Addr} (hL : h.objs.size ≤ L) : Off (is1 L) c m xs := by
  refine hide fun P9 hP9 => ?_
  obtain ⟨sv, r, _⟩ := q.rep
  refine hP9 ?_; clear hP9 P9
  refine ⟨fun a ha => ?_, ?_, fun x hx => (r.th x hx).o.lt hL, fun x hx => (r.th x hx).d.lt hL⟩
  · obtain ⟨o, ho⟩ := r.fixLive a ha; exact ho.lt hL
  · exact allC (r.gl.lt hL) (allC (r.ga.lt hL) (allC (r.wk.lt hL) (allC (r.ts.lt hL) (List.forall_mem_nil _))))
theorem Off.fresh {S : Addr → Prop} {c : Cfg} {m m' : Mut} {xs ys : List Th} (o : Off S c m xs) (f : Fresh c m m' h) (hS : ∀ a, S a → (h.get? a).isSome) (s : Same xs ys) : Off S c m' ys := by
  refine ⟨o.fix, fun a ha q => ?_, fun y hy => ?_, fun y hy => ?_⟩
  · rcases f.2 a ha with e | e
    · exact o.lists a e q
    · exact not_live e (hS a q)
  · refine hide fun P9 hP9 => ?_
    obtain ⟨x, hx, e⟩ := s.mem hy
    refine hP9 ?_; clear hP9 P9
    rw [e.1]
    exact o.t x hx
  · refine hide fun P9 hP9 => ?_
    obtain ⟨x, hx, e⟩ := s.mem hy
    refine hP9 ?_; clear hP9 P9
    rw [e.2.1]
    exact o.td x hx
theorem Fr.is1live {h : Heap} {L : Addr} {mm : Str → Option Value} (F : Fr B L h mm) : ∀ a, is1 L a → (h.get? a).isSome := fun a e => by cases e; exact Fr.liveL F
/-- the ints alone are turned -/
theorem SR.set {h' : Heap} {c : Cfg} {m : Mut} {xs : List Th} {g g' : Sg} (q : SR w B h c m xs g) {L : Addr} (o : Off (is1 L) c m xs) (U : Upto (orL (is1 c.cd) L) h h') (k : ∃ t', Own B h' c.cd (dictOf (cycEs c.kc t' (c.cy m) (g'.v c)) 14))
    (e1 : g'.pos = g.pos) (e2 : g'.white = g.white) : ∃ t', SR w B h' c { m with tc := t' } xs g' := by
  refine hide fun P9 hP9 => ?_
  obtain ⟨sv, r, hsv⟩ := q.rep
  obtain ⟨t', cd'⟩ := k
  refine hP9 ?_; clear hP9 P9
  refine ⟨t', ⟨⟨sv, ?_, by rw [e1]; exact hsv⟩, by rw [e1, e2]; exact q.marks, by rw [e2]; exact q.white, by rw [e1]; exact q.j⟩⟩
  have p := r.sep
  have fl := p.fl c.cd (by first | exact Cfg.m0 _ | exact Cfg.m1 _ | exact Cfg.m2 _ | exact Cfg.m3 _ | exact Cfg.m4 _ | exact Cfg.m5 _ | exact Cfg.m6 _ | exact Cfg.m7 _ | exact Cfg.m8 _ | exact Cfg.m9 _ | exact Cfg.m10 _ | exact Cfg.m11 _)
  have pl : ∀ {a : Addr}, a ∈ m.lists → ¬ orL (is1 c.cd) L a := fun ha => nosL1 (fl _ ha).symm (o.lists _ ha)
  have md : NeN c.md c.cd := (Sep.fx p).z1_4.symm
  rw [e1, e2]
  exact r.next' (m' := { m with tc := t' }) U (fun a ha h1 _ => nosL1 h1 (o.fix a ha)) (Same.refl xs) ⟨p.lists, fun a ha => .inl ha⟩ rfl cd' (U.own r.md (nosL1 md (o.fix _ (by first | exact Cfg.m0 _ | exact Cfg.m1 _ | exact Cfg.m2 _ | exact Cfg.m3 _ | exact Cfg.m4 _ | exact Cfg.m5 _ | exact Cfg.m6 _ | exact Cfg.m7 _ | exact Cfg.m8 _ | exact Cfg.m9 _ | exact Cfg.m10 _ | exact Cfg.m11 _)))) (U.own r.gl (pl (by first | exact Mut.m0 _ | exact Mut.m1 _ | exact Mut.m2 _ | exact Mut.m3 _))) (U.own r.ga (pl (by first | exact Mut.m0 _ | exact Mut.m1 _ | exact Mut.m2 _ | exact Mut.m3 _))) (U.own r.wk (pl (by first | exact Mut.m0 _ | exact Mut.m1 _ | exact Mut.m2 _ | exact Mut.m3 _))) (U.own r.ts (pl (by first | exact Mut.m0 _ | exact Mut.m1 _ | exact Mut.m2 _ | exact Mut.m3 _)))
    (fun y hy => (r.th y hy).upto U (nosL1 (r.neT hy).1 (o.t y hy)) (nosL1 (r.neT hy).2.2.1 (o.td y hy)))
theorem SR.ca {c : Cfg} {m : Mut} {xs : List Th} {g : Sg} (q : SR w B h c m xs g) : Own B h c.ca (instObj 346 c.cd) := by obtain ⟨sv, r, hsv⟩ := q.rep; exact r.ca
theorem SR.cd {c : Cfg} {m : Mut} {xs : List Th} {g : Sg} (q : SR w B h c m xs g) : Own B h c.cd (dictOf (cycEs c.kc m.tc (c.cy m) (g.v c)) 14) := by obtain ⟨sv, r, hsv⟩ := q.rep; exact r.cd
theorem SR.nacd {c : Cfg} {m : Mut} {xs : List Th} {g : Sg} (q : SR w B h c m xs g) : NeN c.ca c.cd := q.ca.ne_id q.cd
theorem SR.fr {h0 h' : Heap} {c : Cfg} {m : Mut} {xs : List Th} {g : Sg} {L : Addr} {mm : Str → Option Value} (q : SR w B h0 c m xs g) (F : Fr B L h mm) (o : Off (is1 L) c m xs) (U : Upto (Foot c m xs) h h') : Fr B L h' mm := by
  refine hide fun P9 hP9 => ?_
  obtain ⟨sv, r, _⟩ := q.rep
  refine hP9 ?_; clear hP9 P9
  refine frStep F U (fun e => ?_) r.footBase
  refine hide fun P9 hP9 => ?_
  (rcases e with e | e | e | ⟨x, hx, e⟩) <;> (refine hP9 ?_; clear hP9 P9)
  · exact o.fix c.cd (by first | exact Cfg.m0 _ | exact Cfg.m1 _ | exact Cfg.m2 _ | exact Cfg.m3 _ | exact Cfg.m4 _ | exact Cfg.m5 _ | exact Cfg.m6 _ | exact Cfg.m7 _ | exact Cfg.m8 _ | exact Cfg.m9 _ | exact Cfg.m10 _ | exact Cfg.m11 _) e.symm
  · exact o.fix c.md (by first | exact Cfg.m0 _ | exact Cfg.m1 _ | exact Cfg.m2 _ | exact Cfg.m3 _ | exact Cfg.m4 _ | exact Cfg.m5 _ | exact Cfg.m6 _ | exact Cfg.m7 _ | exact Cfg.m8 _ | exact Cfg.m9 _ | exact Cfg.m10 _ | exact Cfg.m11 _) e.symm
  · exact o.lists _ e rfl
  · exact o.td x hx e.symm
theorem SR.foot {h0 : Heap} {c : Cfg} {m m' : Mut} {xs ys : List Th} (f : Fresh c m m' h0) (s : Same xs ys) {a : Addr} (q : Foot c m' ys a) (l : (h0.get? a).isSome) : Foot c m xs a := by
  refine hide fun P9 hP9 => ?_
  (rcases q with e | e | e | ⟨y, hy, e⟩) <;> (refine hP9 ?_; clear hP9 P9)
  · exact .inl e
  · exact .inr (.inl e)
  · rcases f.2 a e with e | e
    · exact .inr (.inr (.inl e))
    · exact not_live e l
  · refine hide fun P9 hP9 => ?_
    obtain ⟨x, hx, k⟩ := s.mem hy
    refine hP9 ?_; clear hP9 P9
    exact .inr (.inr (.inr ⟨x, hx, by rw [← k.2.1]; exact e⟩))
theorem SR.lists {c : Cfg} {m : Mut} {xs : List Th} {g : Sg} (q : SR w B h c m xs g) : Nd m.lists := by obtain ⟨sv, r, hsv⟩ := q.rep; exact r.sep.lists
theorem SR.frame {h' : Heap} {S : Addr → Prop} {c : Cfg} {m : Mut} {xs : List Th} {g : Sg} (q : SR w B h c m xs g) (U : Upto S h h') (o : Off S c m xs) : SR w B h' c m xs g := by
  refine hide fun P9 hP9 => ?_
  obtain ⟨⟨sv, r, hsv⟩, q2, q3, q4⟩ := q
  refine hP9 ?_; clear hP9 P9
  exact ⟨⟨sv, r.frame U o, hsv⟩, q2, q3, q4⟩
theorem Off.orL {c : Cfg} {m : Mut} {xs : List Th} {L : Addr} (o : Off (is1 L) c m xs) : Off (orL is0 L) c m xs :=
  ⟨fun a ha e => e.elim id (o.fix a ha), fun a ha e => e.elim id (o.lists a ha), fun a ha e => e.elim id (o.t a ha), fun a ha e => e.elim id (o.td a ha)⟩
theorem SR.okn {c : Cfg} {m : Mut} {xs : List Th} {g : Sg} (q : SR w B h c m xs g) : 2 ≤ c.szs.length ∧ c.szs.length ≤ 9 ∧ xs.length = c.szs.length := by
  refine hide fun P9 hP9 => ?_
  obtain ⟨sv, r, _⟩ := q.rep
  refine hP9 ?_; clear hP9 P9
  have := r.len; have := r.len'
  omega
/-- the locals of step -/
def stM (ca : Addr) (th : Value) (wl : Int) (t : Tok) (b : Bool) : Str → Option Value := fun y =>
  if y = PySem.Str.ofString "is_going" then some (.bool b) else if y = PySem.Str.ofString "work_left" then some (.int wl t) else
    List.lookup y ([("self", .ref ca), ("thread", th)] : List (Str × Value)).reverse
theorem stM1 {ca : Addr} {th : Value} {wl wl' : Int} {t t' : Tok} {b b' : Bool} : (fun y => if y = PySem.Str.ofString "is_going" then some (Value.bool b') else if y = PySem.Str.ofString "work_left" then some (Value.int wl' t') else stM ca th wl t b y) = stM ca th wl' t' b' := by
  funext y
  unfold stM
  by_cases h1 : y = PySem.Str.ofString "is_going"
  · rw [if_pos h1, if_pos h1]
  · rw [if_neg h1, if_neg h1, if_neg h1]
    by_cases h2 : y = PySem.Str.ofString "work_left"
    · rw [if_pos h2, if_pos h2]
    · rw [if_neg h2, if_neg h2, if_neg h2]
theorem Fresh.trans {h0 : Heap} {c : Cfg} {m m' m'' : Mut} {h : Heap} {S : Addr → Prop} (f : Fresh c m m' h0) (g : Fresh c m' m'' h) (U : Upto S h0 h) : Fresh c m m'' h0 :=
  ⟨g.1, fun a ha => (g.2 a ha).elim (f.2 a) fun e => .inr (U.dead e)⟩
theorem stMF {g : Heap} {L : Addr} {ca : Addr} {th : Value} {wl wl' : Int} {t t' : Tok} {b b' : Bool} (F : Fr B L g (fun y => if y = PySem.Str.ofString "is_going" then some (Value.bool b') else if y = PySem.Str.ofString "work_left" then some (Value.int wl' t') else stM ca th wl t b y)) : Fr B L g (stM ca th wl' t' b') := by
  rw [stM1] at F; exact F
inductive StI (w : World) (B : Heap) (c : Cfg) (m : Mut) (xs : List Th) (tgt : Sg) (h0 : Heap) (s0 : Shared) (L : Addr) (th : Value) (k : Nat) (s' : Shared) : Prop
  | mk (h' tk m' ys g' wl t b : _) (p0 : s' = { s0 with heap := h', toks := tk }) (p1 : Fr B L h' (stM c.ca th wl t b)) (p2 : Upto (orL (Foot c m xs) L) h0 h') (p3 : SR w B h' c m' ys g') (p4 : Fresh c m m' h0) (p5 : Same xs ys) (p6 : Off (is1 L) c m' ys) (p7 : OkG c g') (p8 : (b = true → rk c g'.pos ≤ k ∧ 0 < k ∧ goG c k g' wl = tgt)) (p9 : (b = false → g' = tgt))
inductive SRP (w : World) (B h : Heap) (c : Cfg) (m : Mut) (xs : List Th) (g : Sg) (h' : Heap) : Prop
  | mk (m' ys : _) (p0 : SR w B h' c m' ys g) (p1 : Fresh c m m' h) (p2 : Same xs ys) (p3 : OkG c g)
set_option maxHeartbeats 4000000 in
theorem step_con (W : Wd w B) (hB : Keep B h) {c : Cfg} {m : Mut} {xs : List Th} {g : Sg} {th : Value} (q : SR w B h c m xs g) (ok : OkG c g) :
    Con w B 12 287 [.ref c.ca, th] (Foot c m xs) h (fun _ h' => SRP w B h c m xs (stepG c g) h') := by
  have h1 := q.ca; have h2 := q.cd; have hne := q.nacd
  have W0 := W; (first | (have X9 : ∀ w9 : World, (Mine.hd.heap_39 w9.params).In default → PySem.Challenge.rw_rh0162_01 = PySem.Challenge.rw_rh0162_01 := by (k_fill; fail)) | skip)
  k_dflt (refine' Con.start [("self", .ref c.ca), ("thread", th)] W hB (.cons h1 (.cons h2 .nil)) rfl ?ho ?hcd ?bind ?loc ?a ?b ?c ?d ?_; (case ho => k_is); (case hcd => k_is); (case bind => exact fun _ => BindsTo.of_eq rfl); (case loc => exact locs rfl); (case a => exact rfl); (case b => exact rfl); (case c => exact rfl); (case d => decide))
  intro p0 loose0 mean0 mg0 mb0 dp9 fr9 gd9 un9 s RR h₁ L rest tk Q' X T C R post hL F N hR hQ hQn; clear C
  dsimp only [List.cons_append, List.nil_append] at N
  change Rest B h [c.ca, c.cd] rest at hR
  have hr0 := hR.off c.ca (.head _)
  have hr1 := hR.off c.cd (.tail _ (.head _))
  have hh := R.handled
  dsimp only [cycEs, Sg.v] at N
  k_steps
  (with_reducible rename Fr _ _ _ _ => F9); (with_reducible rename News _ _ _ _ => N9)
  refine Con.call (workOf_con W0 (Keep.of_fr F9) ok.mul ⟨by decide, by decide⟩) rfl (Room.deeper (R.le (by decide))) ?_
  rintro v9 H9 tk9 K9 U9 ⟨t9, e9⟩
  replace N9 := newsKeep N9 U9 (fun _ _ x => x)
  replace F9 := frStep F9 U9 (fun x => x) base0
  dsimp only
  subst e9
  k_steps
  (with_reducible rename Fr _ _ _ _ => F9); (with_reducible rename News _ _ _ _ => N9)
  refine Con.call (debtAfter_con W0 (Keep.of_fr F9)) rfl (Room.deeper (R.le (by decide))) ?_
  rintro v9 H9 tk9 K9 U9 ⟨t8, e8⟩
  replace N9 := newsKeep N9 U9 (fun _ _ x => x)
  replace F9 := frStep F9 U9 (fun x => x) base0
  dsimp only
  subst e8
  k_steps
  (with_reducible rename Fr _ _ _ _ => F9); (with_reducible rename News _ _ _ _ => N9)
  have U2 := hR.upto (S := is1 c.cd) hB F9 N9 (by intro p hp; repeat (first | exact hp | apply List.Mem.tail)) (by
    refine allC (?_) (allC (?_) (List.forall_mem_nil _))
    · first | exact Or.inr ((newsOwn N9 (a := c.ca) (by k_mem)).1.trans h1.1.symm) | exact Or.inl ⟨by first | exact rfl | exact Or.inl rfl | exact Or.inr rfl | exact Or.inr (Or.inl rfl) | exact Or.inr (Or.inr rfl) | exact Or.inr (Or.inr (Or.inr ⟨_, .head _, rfl⟩)) | exact Or.inr (Or.inr (Or.inl (by first | exact Mut.m0 _ | exact Mut.m1 _ | exact Mut.m2 _ | exact Mut.m3 _))), newsLive N9 (by k_mem)⟩
    · first | exact Or.inr ((newsOwn N9 (a := c.cd) (by k_mem)).1.trans h2.1.symm) | exact Or.inl ⟨by first | exact rfl | exact Or.inl rfl | exact Or.inr rfl | exact Or.inr (Or.inl rfl) | exact Or.inr (Or.inr rfl) | exact Or.inr (Or.inr (Or.inr ⟨_, .head _, rfl⟩)) | exact Or.inr (Or.inr (Or.inl (by first | exact Mut.m0 _ | exact Mut.m1 _ | exact Mut.m2 _ | exact Mut.m3 _))), newsLive N9 (by k_mem)⟩)
  have oL := q.notL hL
  have k8 := newsOwn N9 (.tail _ (.head _))
  obtain ⟨t2, q2⟩ := q.set (g' := debtG c g) oL (U2.mono fun _ e _ => .inl e) ⟨⟨m.tc.phase, m.tc.total, m.tc.est, t8, m.tc.ssz, m.tc.smax, m.tc.thr, m.tc.pause, m.tc.mul, m.tc.cyc⟩, k8⟩ rfl rfl
  have ok2 : OkG c (debtG c g) := ⟨ok.pause, ok.mul, ok.est, ok.tot, ok.j, ok.n⟩
  refine whileGo_inv (StI w B c m xs (goG c (c.szs.length + 5) (debtG c g) (workG g.mul)) h s L th) ?turn (c.szs.length + 5) ?start
  case start =>
    refine ⟨_, _, _, xs, debtG c g, workG g.mul, _, true, rfl, F9, U2.mono (fun _ e _ => .inl (.inl e)), q2, ⟨q2.lists, fun a ha => .inl ha⟩, Same.refl xs, ⟨oL.fix, oL.lists, oL.t, oL.td⟩, ok2, fun _ => ⟨?_, by omega, rfl⟩, nofun⟩
    have : ∀ p : Pos, (∀ j, p = .prop j → j < c.szs.length) → rk c p ≤ c.szs.length + 5 := by
      intro p hp
      cases p with
      | prop j => have := hp j rfl; show j + 3 ≤ _; omega
      | _ => simp [rk]
    exact this _ ok2.j
  case turn =>
    clear F9 N9 hR U2 q2 k8
    rintro k s' ⟨g1, tk2, m', ys, g', wl, t, b, rfl, F2, U2, q2, f2, s2, o2, ok3, hb, hb'⟩
    have e1 := q2.ca; have e2 := q2.cd
    have n1 : NeN c.ca L := o2.fix c.ca (by first | exact Cfg.m0 _ | exact Cfg.m1 _ | exact Cfg.m2 _ | exact Cfg.m3 _ | exact Cfg.m4 _ | exact Cfg.m5 _ | exact Cfg.m6 _ | exact Cfg.m7 _ | exact Cfg.m8 _ | exact Cfg.m9 _ | exact Cfg.m10 _ | exact Cfg.m11 _)
    have n2 : NeN c.cd L := o2.fix c.cd (by first | exact Cfg.m0 _ | exact Cfg.m1 _ | exact Cfg.m2 _ | exact Cfg.m3 _ | exact Cfg.m4 _ | exact Cfg.m5 _ | exact Cfg.m6 _ | exact Cfg.m7 _ | exact Cfg.m8 _ | exact Cfg.m9 _ | exact Cfg.m10 _ | exact Cfg.m11 _)
    have U2f : Upto (Foot c m xs) h g1 := U2.mono (fun a e q => e.elim id fun e => by cases e; exact not_live (none_of_le hL) q)
    cases b with
    | false =>
      have hst : stepG c g = afterG c g' := by rw [stepG, hb' rfl]
      have oks : OkG c (afterG c g') := afterG_ok ok3
      have hs9 : 2 ≤ c.szs.length := ok.n
      rw [hst] at post
      clear hb hb' hst
      (try clear hR); (try clear N9); (try clear F9)
      have F9 := F2
      refine hide fun P9 hP9 => ?_
      obtain ⟨rest, hR, N9⟩ := refocus F9 (.cons e1 (.cons e2 .nil)) (allC ((n1)) (allC ((n2)) (List.forall_mem_nil _)))
      refine hP9 ?_; clear hP9 P9
      dsimp only [List.cons_append, List.nil_append] at N9
      change Rest B _ [L, c.ca, c.cd] rest at hR
      have hB9 := Keep.of_fr F9
      have hs0 := hR.off c.ca (.tail _ (.head _))
      have hs1 := hR.off c.cd (.tail _ (.tail _ (.head _)))
      unfold stM at F9
      k_steps
      · have hp : g'.pos.phase = 0 := by assumption
        have ea : afterG c g' = { g' with thr := if g'.pause < 0 then 1000000000000000000 else g'.est * g'.pause / 100 } := by rw [afterG, if_pos hp]
        (with_reducible rename Fr _ _ _ _ => F9); (with_reducible rename News _ _ _ _ => N9)
        refine Con.call (setThr_con (v := g'.v c) W0 (Keep.of_fr F9) ok3.pause ok3.est (newsOwn N9 (by k_mem)) (newsOwn N9 (by k_mem)) hne) rfl (Room.deeper (R.le (by decide))) ?_
        rintro v9 H9 tk9 K9 U9 ⟨t7, b7⟩
        have N8 : News B L H9 ((c.ca, instObj 346 c.cd) :: (c.cd, dictOf (cycEs c.kc t7 (c.cy m') { g'.v c with thr := if g'.pause < 0 then 1000000000000000000 else g'.est * g'.pause / 100 }) 14) :: rest) := by
          refine newsStep N9 U9 (allC (?_) (allC (?_) (fun p hp => .inl ⟨?_, ?_⟩)))
          · first | exact .inl ⟨by k_mem, by ktr_rel⟩ | exact .inr ⟨by assumption, newsNeL N9 (by k_mem)⟩ | exact .inr ⟨by assumption, neL_of_new F9 (by assumption)⟩
          · first | exact .inl ⟨by k_mem, by ktr_rel⟩ | exact .inr ⟨by assumption, newsNeL N9 (by k_mem)⟩ | exact .inr ⟨by assumption, neL_of_new F9 (by assumption)⟩
          · repeat (first | exact hp | apply List.Mem.tail)
          · exact nosr1 (by k_all) p hp
        have F8 := frStep F9 U9 (nos1 (newsNeL N9 (by k_mem)).symm) (base1 (newsOwn N9 (by k_mem)).2)
        clear F9 N9; have F9 := F8; have N9 := N8; clear F8 N8
        dsimp only
        k_steps
        (with_reducible rename Fr _ _ _ _ => F9); (with_reducible rename News _ _ _ _ => N9)
        have U7 := hR.upto (S := orL (is1 c.cd) L) hB9 F9 N9 (by intro p hp; repeat (first | exact hp | apply List.Mem.tail)) (by
          refine allC (.inl ⟨.inr rfl, Fr.liveL F9⟩) (allC (?_) (allC (?_) (List.forall_mem_nil _)))
          · first | exact Or.inr ((newsOwn N9 (a := c.ca) (by k_mem)).1.trans e1.1.symm) | exact Or.inl ⟨Or.inl (by first | exact rfl | exact Or.inl rfl | exact Or.inr rfl | exact Or.inr (Or.inl rfl) | exact Or.inr (Or.inr rfl)), newsLive N9 (by k_mem)⟩
          · first | exact Or.inr ((newsOwn N9 (a := c.cd) (by k_mem)).1.trans e2.1.symm) | exact Or.inl ⟨Or.inl (by first | exact rfl | exact Or.inl rfl | exact Or.inr rfl | exact Or.inr (Or.inl rfl) | exact Or.inr (Or.inr rfl)), newsLive N9 (by k_mem)⟩)
        rw [ea] at post oks
        obtain ⟨t3, q3⟩ := q2.set (g' := { g' with thr := if g'.pause < 0 then 1000000000000000000 else g'.est * g'.pause / 100 }) o2 U7 ⟨t7, newsOwn N9 (by k_mem)⟩ rfl rfl
        exact hQn _ (post _ _ _ (Keep.of_fr F9) (U2f.trans U7 (fun _ e => e) (fun a e l => e.elim .inl fun e => by cases e; exact not_live (none_of_le hL) l)) ⟨_, ys, q3, ⟨q3.lists, f2.2⟩, s2, oks⟩)
      · have hp : g'.pos.phase ≠ 0 := by assumption
        have hd : g'.debt < 64 := by assumption
        have ea : afterG c g' = { g' with thr := c.total + 64 } := by rw [afterG, if_neg hp, if_pos hd]
        (with_reducible rename Fr _ _ _ _ => F9); (with_reducible rename News _ _ _ _ => N9)
        have U7 := hR.upto (S := orL (is1 c.cd) L) hB9 F9 N9 (by intro p hp; repeat (first | exact hp | apply List.Mem.tail)) (by
          refine allC (.inl ⟨.inr rfl, Fr.liveL F9⟩) (allC (?_) (allC (?_) (List.forall_mem_nil _)))
          · first | exact Or.inr ((newsOwn N9 (a := c.ca) (by k_mem)).1.trans e1.1.symm) | exact Or.inl ⟨Or.inl (by first | exact rfl | exact Or.inl rfl | exact Or.inr rfl | exact Or.inr (Or.inl rfl) | exact Or.inr (Or.inr rfl)), newsLive N9 (by k_mem)⟩
          · first | exact Or.inr ((newsOwn N9 (a := c.cd) (by k_mem)).1.trans e2.1.symm) | exact Or.inl ⟨Or.inl (by first | exact rfl | exact Or.inl rfl | exact Or.inr rfl | exact Or.inr (Or.inl rfl) | exact Or.inr (Or.inr rfl)), newsLive N9 (by k_mem)⟩)
        rw [ea] at post oks
        have k8 := newsOwn N9 (.tail _ (.head _))
        obtain ⟨t3, q3⟩ := q2.set (g' := { g' with thr := c.total + 64 }) o2 U7 (cycTok k8) rfl rfl
        exact hQn _ (post _ _ _ (Keep.of_fr F9) (U2f.trans U7 (fun _ e => e) (fun a e l => e.elim .inl fun e => by cases e; exact not_live (none_of_le hL) l)) ⟨_, ys, q3, ⟨q3.lists, f2.2⟩, s2, oks⟩)
      · have hp : g'.pos.phase ≠ 0 := by assumption
        have hd : ¬ g'.debt < 64 := by assumption
        have ea : afterG c g' = { g' with debt := g'.debt - 64, thr := c.total } := by rw [afterG, if_neg hp, if_neg hd]
        (with_reducible rename Fr _ _ _ _ => F9); (with_reducible rename News _ _ _ _ => N9)
        have U7 := hR.upto (S := orL (is1 c.cd) L) hB9 F9 N9 (by intro p hp; repeat (first | exact hp | apply List.Mem.tail)) (by
          refine allC (.inl ⟨.inr rfl, Fr.liveL F9⟩) (allC (?_) (allC (?_) (List.forall_mem_nil _)))
          · first | exact Or.inr ((newsOwn N9 (a := c.ca) (by k_mem)).1.trans e1.1.symm) | exact Or.inl ⟨Or.inl (by first | exact rfl | exact Or.inl rfl | exact Or.inr rfl | exact Or.inr (Or.inl rfl) | exact Or.inr (Or.inr rfl)), newsLive N9 (by k_mem)⟩
          · first | exact Or.inr ((newsOwn N9 (a := c.cd) (by k_mem)).1.trans e2.1.symm) | exact Or.inl ⟨Or.inl (by first | exact rfl | exact Or.inl rfl | exact Or.inr rfl | exact Or.inr (Or.inl rfl) | exact Or.inr (Or.inr rfl)), newsLive N9 (by k_mem)⟩)
        rw [ea] at post oks
        have k8 := newsOwn N9 (.tail _ (.head _))
        obtain ⟨t3, q3⟩ := q2.set (g' := { g' with debt := g'.debt - 64, thr := c.total }) o2 U7 (cycTok k8) rfl rfl
        exact hQn _ (post _ _ _ (Keep.of_fr F9) (U2f.trans U7 (fun _ e => e) (fun a e l => e.elim .inl fun e => by cases e; exact not_live (none_of_le hL) l)) ⟨_, ys, q3, ⟨q3.lists, f2.2⟩, s2, oks⟩)
    | true =>
      refine hide fun P9 hP9 => ?_
      obtain ⟨b1, b2, b3⟩ := hb rfl
      refine hP9 ?_; clear hP9 P9
      obtain ⟨k, rfl⟩ : ∃ k', k = k' + 1 := ⟨k - 1, by omega⟩
      (try clear hR); (try clear N9); (try clear F9)
      have F9 := F2
      refine hide fun P9 hP9 => ?_
      obtain ⟨rest, hR, N9⟩ := refocus F9 (.cons e1 (.cons e2 .nil)) (allC ((n1)) (allC ((n2)) (List.forall_mem_nil _)))
      refine hP9 ?_; clear hP9 P9
      dsimp only [List.cons_append, List.nil_append] at N9
      change Rest B _ [L, c.ca, c.cd] rest at hR
      have hB9 := Keep.of_fr F9
      have hs0 := hR.off c.ca (.tail _ (.head _))
      have hs1 := hR.off c.cd (.tail _ (.tail _ (.head _)))
      unfold stM at F9
      dsimp only [cycEs, Sg.v] at N9
      k_steps
      (with_reducible rename Fr _ _ _ _ => F9); (with_reducible rename News _ _ _ _ => N9)
      have U6 := hR.upto (S := orL (is0) L) hB9 F9 N9 (by intro p hp; repeat (first | exact hp | apply List.Mem.tail)) (by
        refine allC (.inl ⟨.inr rfl, Fr.liveL F9⟩) (allC (?_) (allC (?_) (List.forall_mem_nil _)))
        · first | exact Or.inr ((newsOwn N9 (a := c.ca) (by k_mem)).1.trans e1.1.symm) | exact Or.inl ⟨Or.inl (by first | exact rfl | exact Or.inl rfl | exact Or.inr rfl | exact Or.inr (Or.inl rfl) | exact Or.inr (Or.inr rfl)), newsLive N9 (by k_mem)⟩
        · first | exact Or.inr ((newsOwn N9 (a := c.cd) (by k_mem)).1.trans e2.1.symm) | exact Or.inl ⟨Or.inl (by first | exact rfl | exact Or.inl rfl | exact Or.inr rfl | exact Or.inr (Or.inl rfl) | exact Or.inr (Or.inr rfl)), newsLive N9 (by k_mem)⟩)
      have q3 := q2.frame U6 o2.orL
      refine Con.call (single_con (th := th) W0 (Keep.of_fr F9) q3) rfl (Room.deeper (R.le (by decide))) ?_
      rintro v9 H9 tk9 K9 U9 t9_5
      refine hide fun P9 hP9 => ?_
      rcases t9_5 with ⟨⟨t9, e9⟩, m'', zs, q4, f4, s4⟩
      refine hP9 ?_; clear hP9 P9
      subst e9
      have F8 := q3.fr F9 o2 U9
      have o4 : Off (is1 L) c m'' zs := o2.fresh f4 (Fr.is1live F9) s4
      have d1 := q4.ca; have d2 := q4.cd
      clear F9 N9 hR
      have UA : Upto (orL (Foot c m xs) L) h H9 := U2.trans (U6.trans U9 (U := orL (Foot c m' ys) L) (fun _ e => e.elim (fun e => e.elim) .inr) (fun _ e _ => .inl e)) (fun _ e => e) (fun a e l => e.imp (fun e => SR.foot f2 s2 e l) id)
      (try clear hR); (try clear N9); (try clear F9)
      have F9 := F8
      refine hide fun P9 hP9 => ?_
      obtain ⟨rest, hR, N9⟩ := refocus F9 (.cons d1 (.cons d2 .nil)) (allC ((n1)) (allC ((n2)) (List.forall_mem_nil _)))
      refine hP9 ?_; clear hP9 P9
      dsimp only [List.cons_append, List.nil_append] at N9
      change Rest B _ [L, c.ca, c.cd] rest at hR
      have hB9 := Keep.of_fr F9
      have hs0 := hR.off c.ca (.tail _ (.head _))
      have hs1 := hR.off c.cd (.tail _ (.tail _ (.head _)))
      dsimp only [cycEs, Sg.v] at N9
      dsimp only
      k_steps
      · have hp : (single c g').1.pos.phase ≠ 0 := by assumption
        (with_reducible rename Fr _ _ _ _ => F9); (with_reducible rename News _ _ _ _ => N9)
        have U7 := hR.upto (S := orL (is0) L) hB9 F9 N9 (by intro p hp; repeat (first | exact hp | apply List.Mem.tail)) (by
          refine allC (.inl ⟨.inr rfl, Fr.liveL F9⟩) (allC (?_) (allC (?_) (List.forall_mem_nil _)))
          · first | exact Or.inr ((newsOwn N9 (a := c.ca) (by k_mem)).1.trans d1.1.symm) | exact Or.inl ⟨Or.inl (by first | exact rfl | exact Or.inl rfl | exact Or.inr rfl | exact Or.inr (Or.inl rfl) | exact Or.inr (Or.inr rfl)), newsLive N9 (by k_mem)⟩
          · first | exact Or.inr ((newsOwn N9 (a := c.cd) (by k_mem)).1.trans d2.1.symm) | exact Or.inl ⟨Or.inl (by first | exact rfl | exact Or.inl rfl | exact Or.inr rfl | exact Or.inr (Or.inl rfl) | exact Or.inr (Or.inr rfl)), newsLive N9 (by k_mem)⟩)
        refine ⟨k, Nat.lt_succ_self _, _, _, m'', zs, _, wl - (single c g').2, _, _, rfl, stMF (t := t) (wl := wl) (b := true) F9, UA.trans U7 (fun _ e => e) (fun _ e _ => e.elim (fun e => e.elim) .inr), q4.frame U7 o4.orL, f2.trans (f4.back U6) U2, s2.trans s4, o4, ok3.single, fun e => ?_, fun e => ?_⟩
        · have e1 := of_decide_eq_true e
          have e2 := rk_single ok3 hp
          have e3 : 0 < rk c (single c g').1.pos := rk_pos
          refine ⟨by omega, by omega, ?_⟩
          rw [goG, if_pos ⟨hp, e1⟩] at b3
          exact b3
        · have e1 := of_decide_eq_false e
          rw [goG, if_neg (fun q => e1 q.2)] at b3
          exact b3
      · have hp : (single c g').1.pos.phase = 0 := by assumption
        (with_reducible rename Fr _ _ _ _ => F9); (with_reducible rename News _ _ _ _ => N9)
        have U7 := hR.upto (S := orL (is0) L) hB9 F9 N9 (by intro p hp; repeat (first | exact hp | apply List.Mem.tail)) (by
          refine allC (.inl ⟨.inr rfl, Fr.liveL F9⟩) (allC (?_) (allC (?_) (List.forall_mem_nil _)))
          · first | exact Or.inr ((newsOwn N9 (a := c.ca) (by k_mem)).1.trans d1.1.symm) | exact Or.inl ⟨Or.inl (by first | exact rfl | exact Or.inl rfl | exact Or.inr rfl | exact Or.inr (Or.inl rfl) | exact Or.inr (Or.inr rfl)), newsLive N9 (by k_mem)⟩
          · first | exact Or.inr ((newsOwn N9 (a := c.cd) (by k_mem)).1.trans d2.1.symm) | exact Or.inl ⟨Or.inl (by first | exact rfl | exact Or.inl rfl | exact Or.inr rfl | exact Or.inr (Or.inl rfl) | exact Or.inr (Or.inr rfl)), newsLive N9 (by k_mem)⟩)
        refine ⟨k, Nat.lt_succ_self _, _, _, m'', zs, _, wl - (single c g').2, _, _, rfl, stMF (t := t) (wl := wl) (b := true) F9, UA.trans U7 (fun _ e => e) (fun _ e _ => e.elim (fun e => e.elim) .inr), q4.frame U7 o4.orL, f2.trans (f4.back U6) U2, s2.trans s4, o4, ok3.single, fun e => ?_, fun e => ?_⟩
        · rw [hp] at e; exact absurd e (by decide)
        · rw [goG, if_neg (fun q => q.1 hp)] at b3
          exact b3
end
section
set_option maxRecDepth 100000
open PySem PySem.W PySem.Calls PyProof.Rows
theorem reset_L18 : True := by
  w_top off
  trivial
variable {w : World} {B h : Heap}
theorem Con.mono {D : Nat} {f : Addr} {args : List Value} {S S' : Addr → Prop} {P P' : Value → Heap → Prop} (c : Con w B D f args S h P) (hS : ∀ a, S a → S' a) (hP : ∀ v h', Keep B h' → Upto S h h' → P v h' → P' v h') : Con w B D f args S' h P' :=
  fun A s R e r k => c A s R e r fun v h' tk' K U p => k v h' tk' K (by subst e; exact U.mono fun a x _ => hS a x) (hP v h' K (by subst e; exact U) p)
theorem SR.set1 {h' : Heap} {c : Cfg} {m : Mut} {xs : List Th} {g g' : Sg} (q : SR w B h c m xs g) (U : Upto (is1 c.cd) h h') (k : ∃ t', Own B h' c.cd (dictOf (cycEs c.kc t' (c.cy m) (g'.v c)) 14))
    (e1 : g'.pos = g.pos) (e2 : g'.white = g.white) : ∃ m', SR w B h' c m' xs g' ∧ Fresh c m m' h := by
  obtain ⟨t', x⟩ := q.set (q.notL (Nat.le_refl _)) (U.mono fun _ e _ => .inl e) k e1 e2
  exact ⟨_, x, q.lists, fun a ha => .inl ha⟩
theorem setMul_con (W : Wd w B) (hB : Keep B h) {c : Cfg} {m : Mut} {xs : List Th} {g : Sg} {new : Int} {t : Tok} (q : SR w B h c m xs g) :
    Con w B 1 336 [.ref c.ca, .int new t] (Foot c m xs) h (fun r h' => (∃ t, r = .int g.mul t) ∧ ∃ m', SR w B h' c m' xs { g with mul := new } ∧ Fresh c m m' h) :=
  Con.mono (stepMul_con W hB q.ca q.cd q.nacd) (fun _ e => .inl e) fun _ _ _ U p => ⟨p.1, q.set1 (g' := { g with mul := new }) U p.2 rfl rfl⟩
theorem setPause_con (W : Wd w B) (hB : Keep B h) {c : Cfg} {m : Mut} {xs : List Th} {g : Sg} {new : Int} {t : Tok} (q : SR w B h c m xs g) :
    Con w B 1 329 [.ref c.ca, .int new t] (Foot c m xs) h (fun _ h' => ∃ m', SR w B h' c m' xs { g with pause := new } ∧ Fresh c m m' h) :=
  Con.mono (pause_con W hB q.ca q.cd q.nacd) (fun _ e => .inl e) fun _ _ _ U p => q.set1 (g' := { g with pause := new }) U p rfl rfl
theorem rk_goG {c : Cfg} : ∀ (k : Nat) (g : Sg) (wl : Int), OkG c g → (goG c (k + 1) g wl).pos.phase ≠ 0 → rk c (goG c (k + 1) g wl).pos + 1 ≤ rk c g.pos
  | 0, g, wl, o, h => by
    unfold goG at h ⊢
    split at h
    · rename_i e; rw [if_pos e]; exact rk_single o e.1
    · rename_i e; rw [if_neg e]; exact rk_single o h
  | k + 1, g, wl, o, h => by
    rw [goG] at h ⊢
    split at h
    · rename_i e; rw [if_pos e]
      have := rk_goG k _ _ o.single h
      have := rk_single o e.1
      omega
    · rename_i e; rw [if_neg e]; exact rk_single o h
theorem afterG_pos {c : Cfg} {g : Sg} : (afterG c g).pos = g.pos := by
  unfold afterG
  split
  · rfl
  · split <;> rfl
theorem debtG_ok {c : Cfg} {g : Sg} (o : OkG c g) : OkG c (debtG c g) := ⟨o.pause, o.mul, o.est, o.tot, o.j, o.n⟩
theorem stepG_ok {c : Cfg} {g : Sg} (o : OkG c g) : OkG c (stepG c g) := afterG_ok (goG_ok _ _ _ (debtG_ok o))
theorem rk_stepG {c : Cfg} {g : Sg} (o : OkG c g) (h : (stepG c g).pos.phase ≠ 0) : rk c (stepG c g).pos + 1 ≤ rk c g.pos := by
  unfold stepG at h ⊢
  rw [afterG_pos] at h ⊢
  exact rk_goG (c.szs.length + 4) (debtG c g) _ (debtG_ok o) h
def checkG (c : Cfg) (g : Sg) : Sg := if g.thr ≤ c.total then stepG c g else g
def stepsG (c : Cfg) : Nat → Sg → Sg × Bool
  | 0, g => (g, false)
  | k + 1, g => if g.thr ≤ c.total then (if (stepG c g).pos.phase = 0 then (stepG c g, true) else stepsG c k (stepG c g)) else (g, false)
set_option maxHeartbeats 4000000 in
theorem check_con (W : Wd w B) (hB : Keep B h) {c : Cfg} {m : Mut} {xs : List Th} {g : Sg} {th : Value} (q : SR w B h c m xs g) (ok : OkG c g) :
    Con w B 14 294 [.ref c.ca, th] (Foot c m xs) h (fun _ h' => SRP w B h c m xs (checkG c g) h') := by
  have h1 := q.ca; have h2 := q.cd; have hne := q.nacd
  have W0 := W; (first | (have X9 : ∀ w9 : World, (Mine.hd.heap_39 w9.params).In default → PySem.Challenge.rw_rh0162_01 = PySem.Challenge.rw_rh0162_01 := by (k_fill; fail)) | skip)
  k_dflt (refine' Con.start [("self", .ref c.ca), ("thread", th)] W hB (.cons h1 (.cons h2 .nil)) rfl ?ho ?hcd ?bind ?loc ?a ?b ?c ?d ?_; (case ho => k_is); (case hcd => k_is); (case bind => exact fun _ => BindsTo.of_eq rfl); (case loc => exact locs rfl); (case a => exact rfl); (case b => exact rfl); (case c => exact rfl); (case d => decide))
  intro p0 loose0 mean0 mg0 mb0 dp9 fr9 gd9 un9 s RR h₁ L rest tk Q' X T C R post hL F N hR hQ hQn; clear C
  dsimp only [List.cons_append, List.nil_append] at N
  change Rest B h [c.ca, c.cd] rest at hR
  have hr0 := hR.off c.ca (.head _)
  have hr1 := hR.off c.cd (.tail _ (.head _))
  have hh := R.handled
  dsimp only [cycEs, Sg.v] at N
  k_steps
  · have hp : g.thr ≤ c.total := by assumption
    have ea : checkG c g = stepG c g := by rw [checkG, if_pos hp]
    (with_reducible rename Fr _ _ _ _ => F9); (with_reducible rename News _ _ _ _ => N9)
    have U0 := hR.upto (S := is0) hB F9 N9 (by intro p hp; repeat (first | exact hp | apply List.Mem.tail)) (by
      refine allC (?_) (allC (?_) (List.forall_mem_nil _))
      · first | exact Or.inr ((newsOwn N9 (a := c.ca) (by k_mem)).1.trans h1.1.symm) | exact Or.inl ⟨by first | exact rfl | exact Or.inl rfl | exact Or.inr rfl | exact Or.inr (Or.inl rfl) | exact Or.inr (Or.inr rfl) | exact Or.inr (Or.inr (Or.inr ⟨_, .head _, rfl⟩)) | exact Or.inr (Or.inr (Or.inl (by first | exact Mut.m0 _ | exact Mut.m1 _ | exact Mut.m2 _ | exact Mut.m3 _))), newsLive N9 (by k_mem)⟩
      · first | exact Or.inr ((newsOwn N9 (a := c.cd) (by k_mem)).1.trans h2.1.symm) | exact Or.inl ⟨by first | exact rfl | exact Or.inl rfl | exact Or.inr rfl | exact Or.inr (Or.inl rfl) | exact Or.inr (Or.inr rfl) | exact Or.inr (Or.inr (Or.inr ⟨_, .head _, rfl⟩)) | exact Or.inr (Or.inr (Or.inl (by first | exact Mut.m0 _ | exact Mut.m1 _ | exact Mut.m2 _ | exact Mut.m3 _))), newsLive N9 (by k_mem)⟩)
    have q1 := q.frame U0 ⟨fun _ _ => id, fun _ _ => id, fun _ _ => id, fun _ _ => id⟩
    refine Con.call (step_con W0 (Keep.of_fr F9) q1 ok) rfl (Room.deeper (R.le (by decide))) ?_
    rintro v9 H9 tk9 K9 U9 ⟨m', ys, q2, f2, s2, o2⟩
    have F8 := q1.fr F9 (q.notL hL) U9
    clear F9 N9
    dsimp only
    k_steps
    rw [ea] at post
    exact hQn _ (post _ _ _ K9 (U0.trans U9 (fun _ e => e.elim) (fun _ e _ => e)) ⟨m', ys, q2, f2.back U0, s2, o2⟩)
  · have hp : ¬ g.thr ≤ c.total := by assumption
    have ea : checkG c g = g := by rw [checkG, if_neg hp]
    (with_reducible rename Fr _ _ _ _ => F9); (with_reducible rename News _ _ _ _ => N9)
    have U0 := hR.upto (S := is0) hB F9 N9 (by intro p hp; repeat (first | exact hp | apply List.Mem.tail)) (by
      refine allC (?_) (allC (?_) (List.forall_mem_nil _))
      · first | exact Or.inr ((newsOwn N9 (a := c.ca) (by k_mem)).1.trans h1.1.symm) | exact Or.inl ⟨by first | exact rfl | exact Or.inl rfl | exact Or.inr rfl | exact Or.inr (Or.inl rfl) | exact Or.inr (Or.inr rfl) | exact Or.inr (Or.inr (Or.inr ⟨_, .head _, rfl⟩)) | exact Or.inr (Or.inr (Or.inl (by first | exact Mut.m0 _ | exact Mut.m1 _ | exact Mut.m2 _ | exact Mut.m3 _))), newsLive N9 (by k_mem)⟩
      · first | exact Or.inr ((newsOwn N9 (a := c.cd) (by k_mem)).1.trans h2.1.symm) | exact Or.inl ⟨by first | exact rfl | exact Or.inl rfl | exact Or.inr rfl | exact Or.inr (Or.inl rfl) | exact Or.inr (Or.inr rfl) | exact Or.inr (Or.inr (Or.inr ⟨_, .head _, rfl⟩)) | exact Or.inr (Or.inr (Or.inl (by first | exact Mut.m0 _ | exact Mut.m1 _ | exact Mut.m2 _ | exact Mut.m3 _))), newsLive N9 (by k_mem)⟩)
    have q1 := q.frame U0 ⟨fun _ _ => id, fun _ _ => id, fun _ _ => id, fun _ _ => id⟩
    rw [ea] at post
    exact hQn _ (post _ _ _ (Keep.of_fr F9) (U0.mono fun _ e _ => e.elim) ⟨m, xs, q1, ⟨q.lists, fun a ha => .inl ha⟩, Same.refl xs, ok⟩)
inductive TsI (w : World) (B : Heap) (c : Cfg) (m : Mut) (xs : List Th) (tgt : Sg × Bool) (h0 : Heap) (s0 : Shared) (L : Addr) (mm : Str → Option Value) (k : Nat) (s' : Shared) : Prop
  | mk (h' tk m' ys g' : _) (p0 : s' = { s0 with heap := h', toks := tk }) (p1 : Fr B L h' mm) (p2 : Upto (orL (Foot c m xs) L) h0 h') (p3 : SR w B h' c m' ys g') (p4 : Fresh c m m' h0) (p5 : Same xs ys) (p6 : Off (is1 L) c m' ys) (p7 : OkG c g') (p8 : rk c g'.pos ≤ k) (p9 : stepsG c k g' = tgt)
theorem rk_le {c : Cfg} {g : Sg} (o : OkG c g) : rk c g.pos ≤ c.szs.length + 5 := by
  have : ∀ p : Pos, (∀ j, p = .prop j → j < c.szs.length) → rk c p ≤ c.szs.length + 5 := by
    intro p hp
    have := o.n
    cases p with
    | prop j => have := hp j rfl; show j + 3 ≤ _; omega
    | _ => simp [rk] <;> omega
  exact this _ o.j
set_option maxHeartbeats 4000000 in
theorem steps_con (W : Wd w B) (hB : Keep B h) {c : Cfg} {m : Mut} {xs : List Th} {g : Sg} {th : Value} {many : Int} {tm : Tok} (q : SR w B h c m xs g) (ok : OkG c g) (hmany : many < 0 ∨ c.total ≤ many * 64) :
    Con w B 14 301 [.ref c.ca, th, .int many tm] (Foot c m xs) h (fun rv h' => rv = .bool (stepsG c (c.szs.length + 5) { g with thr := 0 }).2 ∧ SRP w B h c m xs (stepsG c (c.szs.length + 5) { g with thr := 0 }).1 h') := by
  have h1 := q.ca; have h2 := q.cd; have hne := q.nacd
  have ok0 : OkG c { g with thr := 0 } := ⟨ok.pause, ok.mul, ok.est, ok.tot, ok.j, ok.n⟩
  have W0 := W; (first | (have X9 : ∀ w9 : World, (Mine.hd.heap_39 w9.params).In default → PySem.Challenge.rw_rh0162_01 = PySem.Challenge.rw_rh0162_01 := by (k_fill; fail)) | skip)
  k_dflt (refine' Con.start [("self", .ref c.ca), ("thread", th), ("many", .int many tm)] W hB (.cons h1 (.cons h2 .nil)) rfl ?ho ?hcd ?bind ?loc ?a ?b ?c ?d ?_; (case ho => k_is); (case hcd => k_is); (case bind => exact fun _ => BindsTo.of_eq rfl); (case loc => exact locs rfl); (case a => exact rfl); (case b => exact rfl); (case c => exact rfl); (case d => decide))
  intro p0 loose0 mean0 mg0 mb0 dp9 fr9 gd9 un9 s RR h₁ L rest tk Q' X T C R post hL F N hR hQ hQn; clear C
  dsimp only [List.cons_append, List.nil_append] at N
  change Rest B h [c.ca, c.cd] rest at hR
  have hr0 := hR.off c.ca (.head _)
  have hr1 := hR.off c.cd (.tail _ (.head _))
  have hh := R.handled
  dsimp only [cycEs, Sg.v] at N
  k_steps
  · have hm0 : 0 ≤ many := by assumption
    (with_reducible rename Fr _ _ _ _ => F9); (with_reducible rename News _ _ _ _ => N9)
    have k8 := newsOwn N9 (.tail _ (.head _))
    have k9 := cycTok k8
    rw [show (if c.total - many * 64 > 0 then c.total - many * 64 else 0) = 0 from if_neg (by omega)] at k9
    (with_reducible rename Fr _ _ _ _ => F9); (with_reducible rename News _ _ _ _ => N9)
    have U2 := hR.upto (S := is1 c.cd) hB F9 N9 (by intro p hp; repeat (first | exact hp | apply List.Mem.tail)) (by
      refine allC (?_) (allC (?_) (List.forall_mem_nil _))
      · first | exact Or.inr ((newsOwn N9 (a := c.ca) (by k_mem)).1.trans h1.1.symm) | exact Or.inl ⟨by first | exact rfl | exact Or.inl rfl | exact Or.inr rfl | exact Or.inr (Or.inl rfl) | exact Or.inr (Or.inr rfl) | exact Or.inr (Or.inr (Or.inr ⟨_, .head _, rfl⟩)) | exact Or.inr (Or.inr (Or.inl (by first | exact Mut.m0 _ | exact Mut.m1 _ | exact Mut.m2 _ | exact Mut.m3 _))), newsLive N9 (by k_mem)⟩
      · first | exact Or.inr ((newsOwn N9 (a := c.cd) (by k_mem)).1.trans h2.1.symm) | exact Or.inl ⟨by first | exact rfl | exact Or.inl rfl | exact Or.inr rfl | exact Or.inr (Or.inl rfl) | exact Or.inr (Or.inr rfl) | exact Or.inr (Or.inr (Or.inr ⟨_, .head _, rfl⟩)) | exact Or.inr (Or.inr (Or.inl (by first | exact Mut.m0 _ | exact Mut.m1 _ | exact Mut.m2 _ | exact Mut.m3 _))), newsLive N9 (by k_mem)⟩)
    have oL := q.notL hL
    obtain ⟨t2, q2⟩ := q.set (g' := { g with thr := 0 }) oL (U2.mono fun _ e _ => .inl e) k9 rfl rfl
    refine whileGo_inv (TsI w B c m xs (stepsG c (c.szs.length + 5) { g with thr := 0 }) h s L _) ?turn (c.szs.length + 5) ⟨_, _, _, xs, { g with thr := 0 }, rfl, F9, U2.mono (fun _ e _ => .inl (.inl e)), q2, ⟨q2.lists, fun a ha => .inl ha⟩, Same.refl xs, ⟨oL.fix, oL.lists, oL.t, oL.td⟩, ok0, rk_le ok0, rfl⟩
    case turn =>
      clear F9 N9 hR U2 q2 k8 k9
      rintro k s' ⟨g1, tk2, m', ys, g', rfl, F2, U2, q2, f2, s2, o2, ok3, hk, hb⟩
      have e1 := q2.ca; have e2 := q2.cd
      have n1 : NeN c.ca L := o2.fix c.ca (by first | exact Cfg.m0 _ | exact Cfg.m1 _ | exact Cfg.m2 _ | exact Cfg.m3 _ | exact Cfg.m4 _ | exact Cfg.m5 _ | exact Cfg.m6 _ | exact Cfg.m7 _ | exact Cfg.m8 _ | exact Cfg.m9 _ | exact Cfg.m10 _ | exact Cfg.m11 _)
      have n2 : NeN c.cd L := o2.fix c.cd (by first | exact Cfg.m0 _ | exact Cfg.m1 _ | exact Cfg.m2 _ | exact Cfg.m3 _ | exact Cfg.m4 _ | exact Cfg.m5 _ | exact Cfg.m6 _ | exact Cfg.m7 _ | exact Cfg.m8 _ | exact Cfg.m9 _ | exact Cfg.m10 _ | exact Cfg.m11 _)
      have U2f : Upto (Foot c m xs) h g1 := U2.mono (fun a e q => e.elim id fun e => by cases e; exact not_live (none_of_le hL) q)
      have hk0 : 0 < rk c g'.pos := rk_pos
      obtain ⟨k, rfl⟩ : ∃ k', k = k' + 1 := ⟨k - 1, by omega⟩
      (try clear hR); (try clear N9); (try clear F9)
      have F9 := F2
      refine hide fun P9 hP9 => ?_
      obtain ⟨rest, hR, N9⟩ := refocus F9 (.cons e1 (.cons e2 .nil)) (allC ((n1)) (allC ((n2)) (List.forall_mem_nil _)))
      refine hP9 ?_; clear hP9 P9
      dsimp only [List.cons_append, List.nil_append] at N9
      change Rest B _ [L, c.ca, c.cd] rest at hR
      have hB9 := Keep.of_fr F9
      have hs0 := hR.off c.ca (.tail _ (.head _))
      have hs1 := hR.off c.cd (.tail _ (.tail _ (.head _)))
      dsimp only [cycEs, Sg.v] at N9
      k_steps
      · have hp : g'.thr ≤ c.total := by assumption
        (with_reducible rename Fr _ _ _ _ => F9); (with_reducible rename News _ _ _ _ => N9)
        have U6 := hR.upto (S := orL (is0) L) hB9 F9 N9 (by intro p hp; repeat (first | exact hp | apply List.Mem.tail)) (by
          refine allC (.inl ⟨.inr rfl, Fr.liveL F9⟩) (allC (?_) (allC (?_) (List.forall_mem_nil _)))
          · first | exact Or.inr ((newsOwn N9 (a := c.ca) (by k_mem)).1.trans e1.1.symm) | exact Or.inl ⟨Or.inl (by first | exact rfl | exact Or.inl rfl | exact Or.inr rfl | exact Or.inr (Or.inl rfl) | exact Or.inr (Or.inr rfl)), newsLive N9 (by k_mem)⟩
          · first | exact Or.inr ((newsOwn N9 (a := c.cd) (by k_mem)).1.trans e2.1.symm) | exact Or.inl ⟨Or.inl (by first | exact rfl | exact Or.inl rfl | exact Or.inr rfl | exact Or.inr (Or.inl rfl) | exact Or.inr (Or.inr rfl)), newsLive N9 (by k_mem)⟩)
        have q3 := q2.frame U6 o2.orL
        refine Con.call (step_con (th := th) W0 (Keep.of_fr F9) q3 ok3) rfl (Room.deeper (R.le (by decide))) ?_
        rintro v9 H9 tk9 K9 U9 ⟨m'', zs, q4, f4, s4, ok4⟩
        have F8 := q3.fr F9 o2 U9
        have o4 : Off (is1 L) c m'' zs := o2.fresh f4 (Fr.is1live F9) s4
        have d1 := q4.ca; have d2 := q4.cd
        have UA : Upto (orL (Foot c m xs) L) h H9 := U2.trans (U6.trans U9 (U := orL (Foot c m' ys) L) (fun _ e => e.elim (fun e => e.elim) .inr) (fun _ e _ => .inl e)) (fun _ e => e) (fun a e l => e.imp (fun e => SR.foot f2 s2 e l) id)
        have UAf : Upto (Foot c m xs) h H9 := UA.mono (fun a e q => e.elim id fun e => by cases e; exact not_live (none_of_le hL) q)
        have f5 := f2.trans (f4.back U6) U2
        clear F9 N9 hR
        (try clear hR); (try clear N9); (try clear F9)
        have F9 := F8
        refine hide fun P9 hP9 => ?_
        obtain ⟨rest, hR, N9⟩ := refocus F9 (.cons d1 (.cons d2 .nil)) (allC ((n1)) (allC ((n2)) (List.forall_mem_nil _)))
        refine hP9 ?_; clear hP9 P9
        dsimp only [List.cons_append, List.nil_append] at N9
        change Rest B _ [L, c.ca, c.cd] rest at hR
        have hB9 := Keep.of_fr F9
        have hs0 := hR.off c.ca (.tail _ (.head _))
        have hs1 := hR.off c.cd (.tail _ (.tail _ (.head _)))
        dsimp only [cycEs, Sg.v] at N9
        dsimp only
        k_steps
        · have hp2 : (stepG c g').pos.phase = 0 := by assumption
          rw [stepsG, if_pos hp, if_pos hp2] at hb
          (with_reducible rename Fr _ _ _ _ => F9); (with_reducible rename News _ _ _ _ => N9)
          have U7 := hR.upto (S := orL (is0) L) hB9 F9 N9 (by intro p hp; repeat (first | exact hp | apply List.Mem.tail)) (by
            refine allC (.inl ⟨.inr rfl, Fr.liveL F9⟩) (allC (?_) (allC (?_) (List.forall_mem_nil _)))
            · first | exact Or.inr ((newsOwn N9 (a := c.ca) (by k_mem)).1.trans d1.1.symm) | exact Or.inl ⟨Or.inl (by first | exact rfl | exact Or.inl rfl | exact Or.inr rfl | exact Or.inr (Or.inl rfl) | exact Or.inr (Or.inr rfl)), newsLive N9 (by k_mem)⟩
            · first | exact Or.inr ((newsOwn N9 (a := c.cd) (by k_mem)).1.trans d2.1.symm) | exact Or.inl ⟨Or.inl (by first | exact rfl | exact Or.inl rfl | exact Or.inr rfl | exact Or.inr (Or.inl rfl) | exact Or.inr (Or.inr rfl)), newsLive N9 (by k_mem)⟩)
          rw [← hb] at post
          exact hQ _ _ (post _ _ _ (Keep.of_fr F9) (UAf.trans U7 (fun _ e => e) (fun a e q => e.elim (fun e => e.elim) fun e => by cases e; exact not_live (none_of_le hL) q)) ⟨rfl, m'', zs, q4.frame U7 o4.orL, f5, s2.trans s4, ok4⟩)
        · have hp2 : ¬ (stepG c g').pos.phase = 0 := by assumption
          rw [stepsG, if_pos hp, if_neg hp2] at hb
          (with_reducible rename Fr _ _ _ _ => F9); (with_reducible rename News _ _ _ _ => N9)
          have U7 := hR.upto (S := orL (is0) L) hB9 F9 N9 (by intro p hp; repeat (first | exact hp | apply List.Mem.tail)) (by
            refine allC (.inl ⟨.inr rfl, Fr.liveL F9⟩) (allC (?_) (allC (?_) (List.forall_mem_nil _)))
            · first | exact Or.inr ((newsOwn N9 (a := c.ca) (by k_mem)).1.trans d1.1.symm) | exact Or.inl ⟨Or.inl (by first | exact rfl | exact Or.inl rfl | exact Or.inr rfl | exact Or.inr (Or.inl rfl) | exact Or.inr (Or.inr rfl)), newsLive N9 (by k_mem)⟩
            · first | exact Or.inr ((newsOwn N9 (a := c.cd) (by k_mem)).1.trans d2.1.symm) | exact Or.inl ⟨Or.inl (by first | exact rfl | exact Or.inl rfl | exact Or.inr rfl | exact Or.inr (Or.inl rfl) | exact Or.inr (Or.inr rfl)), newsLive N9 (by k_mem)⟩)
          have e3 := rk_stepG ok3 hp2
          exact ⟨k, Nat.lt_succ_self _, _, _, m'', zs, _, rfl, F9, UA.trans U7 (fun _ e => e) (fun _ e _ => e.elim (fun e => e.elim) .inr), q4.frame U7 o4.orL, f5, s2.trans s4, o4, ok4, by omega, hb⟩
      · have hp : ¬ g'.thr ≤ c.total := by assumption
        rw [stepsG, if_neg hp] at hb
        (with_reducible rename Fr _ _ _ _ => F9); (with_reducible rename News _ _ _ _ => N9)
        have U7 := hR.upto (S := orL (is0) L) hB9 F9 N9 (by intro p hp; repeat (first | exact hp | apply List.Mem.tail)) (by
          refine allC (.inl ⟨.inr rfl, Fr.liveL F9⟩) (allC (?_) (allC (?_) (List.forall_mem_nil _)))
          · first | exact Or.inr ((newsOwn N9 (a := c.ca) (by k_mem)).1.trans e1.1.symm) | exact Or.inl ⟨Or.inl (by first | exact rfl | exact Or.inl rfl | exact Or.inr rfl | exact Or.inr (Or.inl rfl) | exact Or.inr (Or.inr rfl)), newsLive N9 (by k_mem)⟩
          · first | exact Or.inr ((newsOwn N9 (a := c.cd) (by k_mem)).1.trans e2.1.symm) | exact Or.inl ⟨Or.inl (by first | exact rfl | exact Or.inl rfl | exact Or.inr rfl | exact Or.inr (Or.inl rfl) | exact Or.inr (Or.inr rfl)), newsLive N9 (by k_mem)⟩)
        rw [← hb] at post
        exact hQ _ _ (post _ _ _ (Keep.of_fr F9) (U2f.trans U7 (fun _ e => e) (fun a e q => e.elim (fun e => e.elim) fun e => by cases e; exact not_live (none_of_le hL) q)) ⟨rfl, m', ys, q2.frame U7 o2.orL, f2, s2, ok3⟩)
  · have hm0 : ¬ 0 ≤ many := by assumption
    (with_reducible rename Fr _ _ _ _ => F9); (with_reducible rename News _ _ _ _ => N9)
    have k8 := newsOwn N9 (.tail _ (.head _))
    have k9 := cycTok k8
    (with_reducible rename Fr _ _ _ _ => F9); (with_reducible rename News _ _ _ _ => N9)
    have U2 := hR.upto (S := is1 c.cd) hB F9 N9 (by intro p hp; repeat (first | exact hp | apply List.Mem.tail)) (by
      refine allC (?_) (allC (?_) (List.forall_mem_nil _))
      · first | exact Or.inr ((newsOwn N9 (a := c.ca) (by k_mem)).1.trans h1.1.symm) | exact Or.inl ⟨by first | exact rfl | exact Or.inl rfl | exact Or.inr rfl | exact Or.inr (Or.inl rfl) | exact Or.inr (Or.inr rfl) | exact Or.inr (Or.inr (Or.inr ⟨_, .head _, rfl⟩)) | exact Or.inr (Or.inr (Or.inl (by first | exact Mut.m0 _ | exact Mut.m1 _ | exact Mut.m2 _ | exact Mut.m3 _))), newsLive N9 (by k_mem)⟩
      · first | exact Or.inr ((newsOwn N9 (a := c.cd) (by k_mem)).1.trans h2.1.symm) | exact Or.inl ⟨by first | exact rfl | exact Or.inl rfl | exact Or.inr rfl | exact Or.inr (Or.inl rfl) | exact Or.inr (Or.inr rfl) | exact Or.inr (Or.inr (Or.inr ⟨_, .head _, rfl⟩)) | exact Or.inr (Or.inr (Or.inl (by first | exact Mut.m0 _ | exact Mut.m1 _ | exact Mut.m2 _ | exact Mut.m3 _))), newsLive N9 (by k_mem)⟩)
    have oL := q.notL hL
    obtain ⟨t2, q2⟩ := q.set (g' := { g with thr := 0 }) oL (U2.mono fun _ e _ => .inl e) k9 rfl rfl
    refine whileGo_inv (TsI w B c m xs (stepsG c (c.szs.length + 5) { g with thr := 0 }) h s L _) ?turn (c.szs.length + 5) ⟨_, _, _, xs, { g with thr := 0 }, rfl, F9, U2.mono (fun _ e _ => .inl (.inl e)), q2, ⟨q2.lists, fun a ha => .inl ha⟩, Same.refl xs, ⟨oL.fix, oL.lists, oL.t, oL.td⟩, ok0, rk_le ok0, rfl⟩
    case turn =>
      clear F9 N9 hR U2 q2 k8 k9
      rintro k s' ⟨g1, tk2, m', ys, g', rfl, F2, U2, q2, f2, s2, o2, ok3, hk, hb⟩
      have e1 := q2.ca; have e2 := q2.cd
      have n1 : NeN c.ca L := o2.fix c.ca (by first | exact Cfg.m0 _ | exact Cfg.m1 _ | exact Cfg.m2 _ | exact Cfg.m3 _ | exact Cfg.m4 _ | exact Cfg.m5 _ | exact Cfg.m6 _ | exact Cfg.m7 _ | exact Cfg.m8 _ | exact Cfg.m9 _ | exact Cfg.m10 _ | exact Cfg.m11 _)
      have n2 : NeN c.cd L := o2.fix c.cd (by first | exact Cfg.m0 _ | exact Cfg.m1 _ | exact Cfg.m2 _ | exact Cfg.m3 _ | exact Cfg.m4 _ | exact Cfg.m5 _ | exact Cfg.m6 _ | exact Cfg.m7 _ | exact Cfg.m8 _ | exact Cfg.m9 _ | exact Cfg.m10 _ | exact Cfg.m11 _)
      have U2f : Upto (Foot c m xs) h g1 := U2.mono (fun a e q => e.elim id fun e => by cases e; exact not_live (none_of_le hL) q)
      have hk0 : 0 < rk c g'.pos := rk_pos
      obtain ⟨k, rfl⟩ : ∃ k', k = k' + 1 := ⟨k - 1, by omega⟩
      (try clear hR); (try clear N9); (try clear F9)
      have F9 := F2
      refine hide fun P9 hP9 => ?_
      obtain ⟨rest, hR, N9⟩ := refocus F9 (.cons e1 (.cons e2 .nil)) (allC ((n1)) (allC ((n2)) (List.forall_mem_nil _)))
      refine hP9 ?_; clear hP9 P9
      dsimp only [List.cons_append, List.nil_append] at N9
      change Rest B _ [L, c.ca, c.cd] rest at hR
      have hB9 := Keep.of_fr F9
      have hs0 := hR.off c.ca (.tail _ (.head _))
      have hs1 := hR.off c.cd (.tail _ (.tail _ (.head _)))
      dsimp only [cycEs, Sg.v] at N9
      k_steps
      · have hp : g'.thr ≤ c.total := by assumption
        (with_reducible rename Fr _ _ _ _ => F9); (with_reducible rename News _ _ _ _ => N9)
        have U6 := hR.upto (S := orL (is0) L) hB9 F9 N9 (by intro p hp; repeat (first | exact hp | apply List.Mem.tail)) (by
          refine allC (.inl ⟨.inr rfl, Fr.liveL F9⟩) (allC (?_) (allC (?_) (List.forall_mem_nil _)))
          · first | exact Or.inr ((newsOwn N9 (a := c.ca) (by k_mem)).1.trans e1.1.symm) | exact Or.inl ⟨Or.inl (by first | exact rfl | exact Or.inl rfl | exact Or.inr rfl | exact Or.inr (Or.inl rfl) | exact Or.inr (Or.inr rfl)), newsLive N9 (by k_mem)⟩
          · first | exact Or.inr ((newsOwn N9 (a := c.cd) (by k_mem)).1.trans e2.1.symm) | exact Or.inl ⟨Or.inl (by first | exact rfl | exact Or.inl rfl | exact Or.inr rfl | exact Or.inr (Or.inl rfl) | exact Or.inr (Or.inr rfl)), newsLive N9 (by k_mem)⟩)
        have q3 := q2.frame U6 o2.orL
        refine Con.call (step_con (th := th) W0 (Keep.of_fr F9) q3 ok3) rfl (Room.deeper (R.le (by decide))) ?_
        rintro v9 H9 tk9 K9 U9 ⟨m'', zs, q4, f4, s4, ok4⟩
        have F8 := q3.fr F9 o2 U9
        have o4 : Off (is1 L) c m'' zs := o2.fresh f4 (Fr.is1live F9) s4
        have d1 := q4.ca; have d2 := q4.cd
        have UA : Upto (orL (Foot c m xs) L) h H9 := U2.trans (U6.trans U9 (U := orL (Foot c m' ys) L) (fun _ e => e.elim (fun e => e.elim) .inr) (fun _ e _ => .inl e)) (fun _ e => e) (fun a e l => e.imp (fun e => SR.foot f2 s2 e l) id)
        have UAf : Upto (Foot c m xs) h H9 := UA.mono (fun a e q => e.elim id fun e => by cases e; exact not_live (none_of_le hL) q)
        have f5 := f2.trans (f4.back U6) U2
        clear F9 N9 hR
        (try clear hR); (try clear N9); (try clear F9)
        have F9 := F8
        refine hide fun P9 hP9 => ?_
        obtain ⟨rest, hR, N9⟩ := refocus F9 (.cons d1 (.cons d2 .nil)) (allC ((n1)) (allC ((n2)) (List.forall_mem_nil _)))
        refine hP9 ?_; clear hP9 P9
        dsimp only [List.cons_append, List.nil_append] at N9
        change Rest B _ [L, c.ca, c.cd] rest at hR
        have hB9 := Keep.of_fr F9
        have hs0 := hR.off c.ca (.tail _ (.head _))
        have hs1 := hR.off c.cd (.tail _ (.tail _ (.head _)))
        dsimp only [cycEs, Sg.v] at N9
        dsimp only
        k_steps
        · have hp2 : (stepG c g').pos.phase = 0 := by assumption
          rw [stepsG, if_pos hp, if_pos hp2] at hb
          (with_reducible rename Fr _ _ _ _ => F9); (with_reducible rename News _ _ _ _ => N9)
          have U7 := hR.upto (S := orL (is0) L) hB9 F9 N9 (by intro p hp; repeat (first | exact hp | apply List.Mem.tail)) (by
            refine allC (.inl ⟨.inr rfl, Fr.liveL F9⟩) (allC (?_) (allC (?_) (List.forall_mem_nil _)))
            · first | exact Or.inr ((newsOwn N9 (a := c.ca) (by k_mem)).1.trans d1.1.symm) | exact Or.inl ⟨Or.inl (by first | exact rfl | exact Or.inl rfl | exact Or.inr rfl | exact Or.inr (Or.inl rfl) | exact Or.inr (Or.inr rfl)), newsLive N9 (by k_mem)⟩
            · first | exact Or.inr ((newsOwn N9 (a := c.cd) (by k_mem)).1.trans d2.1.symm) | exact Or.inl ⟨Or.inl (by first | exact rfl | exact Or.inl rfl | exact Or.inr rfl | exact Or.inr (Or.inl rfl) | exact Or.inr (Or.inr rfl)), newsLive N9 (by k_mem)⟩)
          rw [← hb] at post
          exact hQ _ _ (post _ _ _ (Keep.of_fr F9) (UAf.trans U7 (fun _ e => e) (fun a e q => e.elim (fun e => e.elim) fun e => by cases e; exact not_live (none_of_le hL) q)) ⟨rfl, m'', zs, q4.frame U7 o4.orL, f5, s2.trans s4, ok4⟩)
        · have hp2 : ¬ (stepG c g').pos.phase = 0 := by assumption
          rw [stepsG, if_pos hp, if_neg hp2] at hb
          (with_reducible rename Fr _ _ _ _ => F9); (with_reducible rename News _ _ _ _ => N9)
          have U7 := hR.upto (S := orL (is0) L) hB9 F9 N9 (by intro p hp; repeat (first | exact hp | apply List.Mem.tail)) (by
            refine allC (.inl ⟨.inr rfl, Fr.liveL F9⟩) (allC (?_) (allC (?_) (List.forall_mem_nil _)))
            · first | exact Or.inr ((newsOwn N9 (a := c.ca) (by k_mem)).1.trans d1.1.symm) | exact Or.inl ⟨Or.inl (by first | exact rfl | exact Or.inl rfl | exact Or.inr rfl | exact Or.inr (Or.inl rfl) | exact Or.inr (Or.inr rfl)), newsLive N9 (by k_mem)⟩
            · first | exact Or.inr ((newsOwn N9 (a := c.cd) (by k_mem)).1.trans d2.1.symm) | exact Or.inl ⟨Or.inl (by first | exact rfl | exact Or.inl rfl | exact Or.inr rfl | exact Or.inr (Or.inl rfl) | exact Or.inr (Or.inr rfl)), newsLive N9 (by k_mem)⟩)
          have e3 := rk_stepG ok3 hp2
          exact ⟨k, Nat.lt_succ_self _, _, _, m'', zs, _, rfl, F9, UA.trans U7 (fun _ e => e) (fun _ e _ => e.elim (fun e => e.elim) .inr), q4.frame U7 o4.orL, f5, s2.trans s4, o4, ok4, by omega, hb⟩
      · have hp : ¬ g'.thr ≤ c.total := by assumption
        rw [stepsG, if_neg hp] at hb
        (with_reducible rename Fr _ _ _ _ => F9); (with_reducible rename News _ _ _ _ => N9)
        have U7 := hR.upto (S := orL (is0) L) hB9 F9 N9 (by intro p hp; repeat (first | exact hp | apply List.Mem.tail)) (by
          refine allC (.inl ⟨.inr rfl, Fr.liveL F9⟩) (allC (?_) (allC (?_) (List.forall_mem_nil _)))
          · first | exact Or.inr ((newsOwn N9 (a := c.ca) (by k_mem)).1.trans e1.1.symm) | exact Or.inl ⟨Or.inl (by first | exact rfl | exact Or.inl rfl | exact Or.inr rfl | exact Or.inr (Or.inl rfl) | exact Or.inr (Or.inr rfl)), newsLive N9 (by k_mem)⟩
          · first | exact Or.inr ((newsOwn N9 (a := c.cd) (by k_mem)).1.trans e2.1.symm) | exact Or.inl ⟨Or.inl (by first | exact rfl | exact Or.inl rfl | exact Or.inr rfl | exact Or.inr (Or.inl rfl) | exact Or.inr (Or.inr rfl)), newsLive N9 (by k_mem)⟩)
        rw [← hb] at post
        exact hQ _ _ (post _ _ _ (Keep.of_fr F9) (U2f.trans U7 (fun _ e => e) (fun a e q => e.elim (fun e => e.elim) fun e => by cases e; exact not_live (none_of_le hL) q)) ⟨rfl, m', ys, q2.frame U7 o2.orL, f2, s2, ok3⟩)
end
section
set_option maxRecDepth 100000
open PySem PySem.W PySem.Calls PyProof.Rows
theorem reset_L19 : True := by
  w_top off
  trivial
variable {w : World} {B h : Heap}
theorem markOf_in {white : Int} {p : Pos} {i : Nat} : markOf white p i = white ∨ markOf white p i = 2 ∨ markOf white p i = 3 := by
  unfold markOf
  split
  · exact .inl rfl
  · split
    · exact .inr (.inl rfl)
    · exact .inl rfl
  · split
    · exact .inr (.inr rfl)
    · split
      · exact .inr (.inl rfl)
      · exact .inr (.inr rfl)
  · exact .inr (.inr rfl)
  · exact .inl rfl
theorem phase0 {p : Pos} (h : p.phase = 0) : p = .pause := by cases p <;> first | rfl | cases h
/-- a cycle whose sweep is to come, of marks of any kind -/
structure SX (w : World) (B h : Heap) (c : Cfg) (m : Mut) (xs : List Th) (g : Sg) : Prop where
  rep : ∃ sv, CRep w B h c m (g.v c) g.white xs [] sv ∧ sv.length = xs.length ∧ NumL sv
  marks : ∀ y ∈ xs, y.mrk = g.white ∨ y.mrk = 2 ∨ y.mrk = 3
  white : g.white = 0 ∨ g.white = 1
  pos : g.pos = .sweep
theorem SR.sx {c : Cfg} {m : Mut} {xs : List Th} {g : Sg} (q : SR w B h c m xs g) (e : g.pos = .sweep) : SX w B h c m xs g := by
  refine hide fun P9 hP9 => ?_
  obtain ⟨⟨sv, r, hsv⟩, q2, q3, q4⟩ := q
  refine hP9 ?_; clear hP9 P9
  refine ⟨⟨sv, by rw [e] at r; exact r, hsv e⟩, fun y hy => ?_, q3, e⟩
  obtain ⟨i, hi⟩ := List.getElem?_of_mem hy
  rw [q2 i y hi]; exact markOf_in
theorem SX.frame {h' : Heap} {S : Addr → Prop} {c : Cfg} {m : Mut} {xs : List Th} {g : Sg} (q : SX w B h c m xs g) (U : Upto S h h') (o : Off S c m xs) : SX w B h' c m xs g := by
  refine hide fun P9 hP9 => ?_
  obtain ⟨⟨sv, r, hsv⟩, q2, q3, q4⟩ := q
  refine hP9 ?_; clear hP9 P9
  exact ⟨⟨sv, r.frame U o, hsv⟩, q2, q3, q4⟩
set_option maxHeartbeats 2000000 in
theorem single_mix (W : Wd w B) (hB : Keep B h) {c : Cfg} {m : Mut} {xs : List Th} {g : Sg} {th : Value} (q : SX w B h c m xs g) : SingleSays w B h c m xs g th := by
  unfold SingleSays
  refine hide fun P9 hP9 => ?_
  obtain ⟨⟨sv, r, hs1, hs2⟩, hmk, hwh, e⟩ := q
  have hl := r.len; have hlen := r.len'
  obtain ⟨pos, white, est, debt, thr, pause, mul, cyc⟩ := g
  refine hP9 ?_; clear hP9 P9
  cases e
  dsimp only at hwh hmk
  have z0_1 := (Sep.fx r.sep).z0_1
  have h1 := r.ca; have h2 := r.cd
  have W0 := W; (first | (have X9 : ∀ w9 : World, (Mine.hd.heap_39 w9.params).In default → PySem.Challenge.rw_rh0162_01 = PySem.Challenge.rw_rh0162_01 := by (k_fill; fail)) | skip)
  k_dflt (refine' Con.start [("self", .ref c.ca), ("thread", th)] W hB (.cons h1 (.cons h2 .nil)) rfl ?ho ?hcd ?bind ?loc ?a ?b ?c ?d ?_; (case ho => k_is); (case hcd => k_is); (case bind => exact fun _ => BindsTo.of_eq rfl); (case loc => exact locs rfl); (case a => exact rfl); (case b => exact rfl); (case c => exact rfl); (case d => decide))
  intro p0 loose0 mean0 mg0 mb0 dp9 fr9 gd9 un9 s RR h₁ L rest tk Q' X T C R post hL F N hR hQ hQn; clear C
  dsimp only [List.cons_append, List.nil_append] at N
  change Rest B h [c.ca, c.cd] rest at hR
  have hr0 := hR.off c.ca (.head _)
  have hr1 := hR.off c.cd (.tail _ (.head _))
  have hh := R.handled
  dsimp only [cycEs, Sg.v, Pos.phase] at N
  k_steps
  (with_reducible rename Fr _ _ _ _ => F9); (with_reducible rename News _ _ _ _ => N9)
  (with_reducible rename Fr _ _ _ _ => F9); (with_reducible rename News _ _ _ _ => N9)
  have U0 := hR.upto (S := is0) hB F9 N9 (by intro p hp; repeat (first | exact hp | apply List.Mem.tail)) (by
    refine allC (?_) (allC (?_) (List.forall_mem_nil _))
    · first | exact Or.inr ((newsOwn N9 (a := c.ca) (by k_mem)).1.trans h1.1.symm) | exact Or.inl ⟨by first | exact rfl | exact Or.inl rfl | exact Or.inr rfl | exact Or.inr (Or.inl rfl) | exact Or.inr (Or.inr rfl) | exact Or.inr (Or.inr (Or.inr ⟨_, .head _, rfl⟩)) | exact Or.inr (Or.inr (Or.inl (by first | exact Mut.m0 _ | exact Mut.m1 _ | exact Mut.m2 _ | exact Mut.m3 _))), newsLive N9 (by k_mem)⟩
    · first | exact Or.inr ((newsOwn N9 (a := c.cd) (by k_mem)).1.trans h2.1.symm) | exact Or.inl ⟨by first | exact rfl | exact Or.inl rfl | exact Or.inr rfl | exact Or.inr (Or.inl rfl) | exact Or.inr (Or.inr rfl) | exact Or.inr (Or.inr (Or.inr ⟨_, .head _, rfl⟩)) | exact Or.inr (Or.inr (Or.inl (by first | exact Mut.m0 _ | exact Mut.m1 _ | exact Mut.m2 _ | exact Mut.m3 _))), newsLive N9 (by k_mem)⟩)
  have r1 := r.frame0 U0
  refine Con.call (sweep_con W0 (Keep.of_fr F9) r1 hs1 hs2 hmk hwh) rfl (Room.deeper (R.le (by decide))) ?_
  rintro v9 H9 tk9 K9 U9 t9_5
  refine hide fun P9 hP9 => ?_
  rcases t9_5 with ⟨⟨t9, e9⟩, m', ys, r2, f2, s2, k2⟩
  refine hP9 ?_; clear hP9 P9
  subst e9
  clear F9 N9
  dsimp only
  k_steps
  refine hQ _ _ (post _ _ _ K9 (U0.trans U9 (fun _ e => e.elim) (fun _ e _ => e)) ⟨⟨_, rfl⟩, m', ys, ⟨⟨[], r2, nofun⟩, fun i y hy => k2 y (List.mem_of_getElem? hy), hwh, nofun⟩, f2.back U0, s2⟩)
inductive RootsP (w : World) (B h : Heap) (c : Cfg) (m : Mut) (xs : List Th) (g : Sg) (h' : Heap) : Prop
  | mk (m' ys : _) (p0 : SR w B h' c m' ys { g with pos := .root }) (p1 : Fresh c m m' h) (p2 : Same xs ys)
theorem roots_sr (W : Wd w B) (hB : Keep B h) {c : Cfg} {m : Mut} {xs : List Th} {g : Sg} (q : SR w B h c m xs g) (e : g.pos = .fin) :
    Con w B 8 231 [.ref c.ca] (Foot c m xs) h (fun _ h' => RootsP w B h c m xs g h') := by
  refine hide fun P9 hP9 => ?_
  obtain ⟨sv, r, hsv⟩ := q.rep
  refine hP9 ?_; clear hP9 P9
  have hl := r.len; have hlen := r.len'
  obtain ⟨x0, xr, rfl⟩ : ∃ x0 xr, xs = x0 :: xr := by cases xs with | nil => simp at hlen; omega | cons a b => exact ⟨a, b, rfl⟩
  have hm0 := q.marks 0 x0 rfl
  have hwh := q.white
  have hmk := q.marks
  refine hide fun P9 hP9 => ?_
  obtain ⟨pos, white, est, debt, thr, pause, mul, cyc⟩ := g
  refine hP9 ?_; clear hP9 P9
  cases e
  simp only [markOf] at hm0 hmk
  dsimp only at hwh
  refine Con.mono (markRoots_con W hB r (by omega)) (fun _ e => e) ?_
  rintro v h' K U t9_4
  refine hide fun P9 hP9 => ?_
  rcases t9_4 with ⟨m', t2, r2, f2⟩
  refine hP9 ?_; clear hP9 P9
  refine ⟨m', _, ⟨⟨sv, r2, nofun⟩, ?_, hwh, nofun⟩, f2, .cons (SameTh.mark x0 2 t2) (Same.refl xr)⟩
  intro i x hx
  cases i with
  | zero => simp at hx; subst hx; rfl
  | succ i => exact hmk (i + 1) x hx
theorem single_keeps {c : Cfg} {g : Sg} : (single c g).1.mul = g.mul ∧ (single c g).1.pause = g.pause := by
  refine hide fun P9 hP9 => ?_
  obtain ⟨pos, white, est, debt, thr, pause, mul, cyc⟩ := g
  refine hP9 ?_; clear hP9 P9
  cases pos with
  | prop j => cases j <;> exact ⟨rfl, rfl⟩
  | _ => exact ⟨rfl, rfl⟩
def EstOk (c : Cfg) (g : Sg) : Prop := match g.pos with
  | .root | .prop _ => True
  | _ => g.est = c.total
theorem EstOk.single {c : Cfg} {g : Sg} (e : EstOk c g) (h : g.pos.phase ≠ 0) (o : OkG c g) : EstOk c (single c g).1 := by
  have := o.tot
  refine hide fun P9 hP9 => ?_
  obtain ⟨pos, white, est, debt, thr, pause, mul, cyc⟩ := g
  refine hP9 ?_; clear hP9 P9
  cases pos with
  | prop j => cases j with
    | zero => show max 0 c.total = c.total; omega
    | succ j => exact trivial
  | pause => exact absurd rfl h
  | root => exact trivial
  | sweep => have e1 : est = c.total := e; show max 0 est = c.total; omega
  | fin => exact e
def rk0 (c : Cfg) (p : Pos) : Nat := if p.phase = 0 then 0 else rk c p
theorem rk0_single {c : Cfg} {g : Sg} (o : OkG c g) (h : g.pos.phase ≠ 0) : rk0 c (single c g).1.pos + 1 ≤ rk0 c g.pos := by
  unfold rk0
  rw [if_neg h]
  split
  · exact rk_pos
  · rename_i e; exact rk_single o e
/-- the first loop of full -/
inductive F1I (w : World) (B : Heap) (c : Cfg) (m : Mut) (xs : List Th) (g : Sg) (h0 : Heap) (s0 : Shared) (L : Addr) (mm : Str → Option Value) (k : Nat) (s' : Shared) : Prop
  | mk (h' tk m' ys g' : _) (p0 : s' = { s0 with heap := h', toks := tk }) (p1 : Fr B L h' mm) (p2 : Upto (orL (Foot c m xs) L) h0 h') (p3 : Fresh c m m' h0) (p4 : Same xs ys) (p5 : Off (is1 L) c m' ys) (p6 : OkG c g') (p7 : g'.mul = g.mul) (p8 : g'.pause = g.pause) (p9 : (match k with | 0 => SR w B h' c m' ys g' ∧ g'.pos = .fin | _ + 1 => SX w B h' c m' ys g'))
theorem F1start {c : Cfg} {m : Mut} {xs : List Th} {g : Sg} (q : SR w B h c m xs g) (hp : ¬ g.pos.phase ≤ 1) : ∃ k0 : Nat, (match k0 with | 0 => SR w B h c m xs g ∧ g.pos = .fin | _ + 1 => SX w B h c m xs g) := by
  cases e : g.pos with
  | pause => rw [e] at hp; exact absurd (by show (0 : Int) ≤ 1; decide) hp
  | root => rw [e] at hp; exact absurd (by show (1 : Int) ≤ 1; decide) hp
  | prop j => rw [e] at hp; exact absurd (by show (1 : Int) ≤ 1; decide) hp
  | sweep => exact ⟨1, q.sx e⟩
  | fin => exact ⟨0, q, rfl⟩
/-- the second -/
inductive F2I (w : World) (B : Heap) (c : Cfg) (m : Mut) (xs : List Th) (g : Sg) (h0 : Heap) (s0 : Shared) (L : Addr) (mm : Str → Option Value) (k : Nat) (s' : Shared) : Prop
  | mk (h' tk m' ys g' : _) (p0 : s' = { s0 with heap := h', toks := tk }) (p1 : Fr B L h' mm) (p2 : Upto (orL (Foot c m xs) L) h0 h') (p3 : SR w B h' c m' ys g') (p4 : Fresh c m m' h0) (p5 : Same xs ys) (p6 : Off (is1 L) c m' ys) (p7 : OkG c g') (p8 : g'.mul = g.mul) (p9 : g'.pause = g.pause) (p10 : rk0 c g'.pos ≤ k) (p11 : EstOk c g')
inductive FullPost (w : World) (B h : Heap) (c : Cfg) (m : Mut) (xs : List Th) (g : Sg) (h' : Heap) : Prop
  | mk (m' ys g' : _) (p0 : SR w B h' c m' ys g') (p1 : Fresh c m m' h) (p2 : Same xs ys) (p3 : OkG c g') (p4 : g'.mul = g.mul) (p5 : g'.pause = g.pause) (p6 : g'.pos = .pause) (p7 : g'.est = c.total) (p8 : g'.thr = if g.pause < 0 then 1000000000000000000 else c.total * g.pause / 100)
theorem SX.ca {c : Cfg} {m : Mut} {xs : List Th} {g : Sg} (q : SX w B h c m xs g) : Own B h c.ca (instObj 346 c.cd) := by obtain ⟨sv, r, hsv⟩ := q.rep; exact r.ca
theorem SX.cd {c : Cfg} {m : Mut} {xs : List Th} {g : Sg} (q : SX w B h c m xs g) : Own B h c.cd (dictOf (cycEs c.kc m.tc (c.cy m) (g.v c)) 14) := by obtain ⟨sv, r, hsv⟩ := q.rep; exact r.cd
theorem SX.fr {h0 h' : Heap} {c : Cfg} {m : Mut} {xs : List Th} {g : Sg} {L : Addr} {mm : Str → Option Value} (q : SX w B h0 c m xs g) (F : Fr B L h mm) (o : Off (is1 L) c m xs) (U : Upto (Foot c m xs) h h') : Fr B L h' mm := by
  refine hide fun P9 hP9 => ?_
  obtain ⟨sv, r, _⟩ := q.rep
  refine hP9 ?_; clear hP9 P9
  refine frStep F U (fun e => ?_) r.footBase
  refine hide fun P9 hP9 => ?_
  (rcases e with e | e | e | ⟨x, hx, e⟩) <;> (refine hP9 ?_; clear hP9 P9)
  · exact o.fix c.cd (by first | exact Cfg.m0 _ | exact Cfg.m1 _ | exact Cfg.m2 _ | exact Cfg.m3 _ | exact Cfg.m4 _ | exact Cfg.m5 _ | exact Cfg.m6 _ | exact Cfg.m7 _ | exact Cfg.m8 _ | exact Cfg.m9 _ | exact Cfg.m10 _ | exact Cfg.m11 _) e.symm
  · exact o.fix c.md (by first | exact Cfg.m0 _ | exact Cfg.m1 _ | exact Cfg.m2 _ | exact Cfg.m3 _ | exact Cfg.m4 _ | exact Cfg.m5 _ | exact Cfg.m6 _ | exact Cfg.m7 _ | exact Cfg.m8 _ | exact Cfg.m9 _ | exact Cfg.m10 _ | exact Cfg.m11 _) e.symm
  · exact o.lists _ e rfl
  · exact o.td x hx e.symm
set_option maxHeartbeats 4000000 in
theorem full_con (W : Wd w B) (hB : Keep B h) {c : Cfg} {m : Mut} {xs : List Th} {g : Sg} {th : Value} (q : SR w B h c m xs g) (ok : OkG c g) :
    Con w B 14 308 [.ref c.ca, th] (Foot c m xs) h (fun _ h' => FullPost w B h c m xs g h') := by
  have hne := q.nacd
  have hn9 := q.okn
  refine hide fun P9 hP9 => ?_
  obtain ⟨sv, r, hsv⟩ := q.rep
  obtain ⟨z0_1, z0_2, z0_3, z0_4, z0_5, z0_6, z0_7, z0_8, z0_9, z0_10, z0_11, z1_2, z1_3, z1_4, z1_5, z1_6, z1_7, z1_8, z1_9, z1_10, z1_11, z2_3, z2_4, z2_5, z2_6, z2_7, z2_8, z2_9, z2_10, z2_11, z3_4, z3_5, z3_6, z3_7, z3_8, z3_9, z3_10, z3_11, z4_5, z4_6, z4_7, z4_8, z4_9, z4_10, z4_11, z5_6, z5_7, z5_8, z5_9, z5_10, z5_11, z6_7, z6_8, z6_9, z6_10, z6_11, z7_8, z7_9, z7_10, z7_11, z8_9, z8_10, z8_11, z9_10, z9_11, z10_11, y0_1, y0_2, y0_3, y1_2, y1_3, y2_3, w0_0, w0_1, w0_2, w0_3, w1_0, w1_1, w1_2, w1_3, w2_0, w2_1, w2_2, w2_3, w3_0, w3_1, w3_2, w3_3, w4_0, w4_1, w4_2, w4_3, w5_0, w5_1, w5_2, w5_3, w6_0, w6_1, w6_2, w6_3, w7_0, w7_1, w7_2, w7_3, w8_0, w8_1, w8_2, w8_3, w9_0, w9_1, w9_2, w9_3, w10_0, w10_1, w10_2, w10_3, w11_0, w11_1, w11_2, w11_3⟩ := (Sep.fx (Sep.ofLists r.sep rfl) : Fx c m)
  refine hP9 ?_; clear hP9 P9
  have h1 := r.ca; have h2 := r.cd; have h3 := r.ma; have h4 := r.md; have h5 := r.od
  have d1 := r.odd; have d2 := r.odn
  have d3 : (xs.map fun x => (x.num, x.ref)).length ≤ 1000 := by rw [List.length_map]; omega
  have W0 := W; (first | (have X9 : ∀ w9 : World, (Mine.hd.heap_39 w9.params).In default → PySem.Challenge.rw_rh0162_01 = PySem.Challenge.rw_rh0162_01 := by (k_fill; fail)) | skip)
  k_dflt (refine' Con.start [("self", .ref c.ca), ("thread", th)] W hB (.cons h1 (.cons h2 (.cons h3 (.cons h4 (.cons h5 .nil))))) rfl ?ho ?hcd ?bind ?loc ?a ?b ?c ?d ?_; (case ho => k_is); (case hcd => k_is); (case bind => exact fun _ => BindsTo.of_eq rfl); (case loc => exact locs rfl); (case a => exact rfl); (case b => exact rfl); (case c => exact rfl); (case d => decide))
  intro p0 loose0 mean0 mg0 mb0 dp9 fr9 gd9 un9 s RR h₁ L rest tk Q' X T C R post hL F N hR hQ hQn; clear C
  dsimp only [List.cons_append, List.nil_append] at N
  change Rest B h [c.ca, c.cd, c.ma, c.md, c.od] rest at hR
  have hr0 := hR.off c.ca (.head _)
  have hr1 := hR.off c.cd (.tail _ (.head _))
  have hr2 := hR.off c.ma (.tail _ (.tail _ (.head _)))
  have hr3 := hR.off c.md (.tail _ (.tail _ (.tail _ (.head _))))
  have hr4 := hR.off c.od (.tail _ (.tail _ (.tail _ (.tail _ (.head _)))))
  have hh := R.handled
  dsimp only [cycEs, Sg.v] at N
  k_steps
  · have hp : g.pos.phase ≤ 1 := by assumption
    (with_reducible rename News _ _ _ _ => N9); (with_reducible rename Fr _ _ _ _ => F9)
    (with_reducible rename Fr _ _ _ _ => F9); (with_reducible rename News _ _ _ _ => N9)
    have hU0 := hR.upto (S := is0) hB F9 N9 (by intro p hp; repeat (first | exact hp | apply List.Mem.tail)) (by
      refine allC (?_) (allC (?_) (allC (?_) (allC (?_) (allC (?_) (List.forall_mem_nil _)))))
      · first | exact Or.inr ((newsOwn N9 (a := c.ca) (by k_mem)).1.trans h1.1.symm) | exact Or.inl ⟨by first | exact rfl | exact Or.inl rfl | exact Or.inr rfl | exact Or.inr (Or.inl rfl) | exact Or.inr (Or.inr rfl) | exact Or.inr (Or.inr (Or.inr ⟨_, .head _, rfl⟩)) | exact Or.inr (Or.inr (Or.inl (by first | exact Mut.m0 _ | exact Mut.m1 _ | exact Mut.m2 _ | exact Mut.m3 _))), newsLive N9 (by k_mem)⟩
      · first | exact Or.inr ((newsOwn N9 (a := c.cd) (by k_mem)).1.trans h2.1.symm) | exact Or.inl ⟨by first | exact rfl | exact Or.inl rfl | exact Or.inr rfl | exact Or.inr (Or.inl rfl) | exact Or.inr (Or.inr rfl) | exact Or.inr (Or.inr (Or.inr ⟨_, .head _, rfl⟩)) | exact Or.inr (Or.inr (Or.inl (by first | exact Mut.m0 _ | exact Mut.m1 _ | exact Mut.m2 _ | exact Mut.m3 _))), newsLive N9 (by k_mem)⟩
      · first | exact Or.inr ((newsOwn N9 (a := c.ma) (by k_mem)).1.trans h3.1.symm) | exact Or.inl ⟨by first | exact rfl | exact Or.inl rfl | exact Or.inr rfl | exact Or.inr (Or.inl rfl) | exact Or.inr (Or.inr rfl) | exact Or.inr (Or.inr (Or.inr ⟨_, .head _, rfl⟩)) | exact Or.inr (Or.inr (Or.inl (by first | exact Mut.m0 _ | exact Mut.m1 _ | exact Mut.m2 _ | exact Mut.m3 _))), newsLive N9 (by k_mem)⟩
      · first | exact Or.inr ((newsOwn N9 (a := c.md) (by k_mem)).1.trans h4.1.symm) | exact Or.inl ⟨by first | exact rfl | exact Or.inl rfl | exact Or.inr rfl | exact Or.inr (Or.inl rfl) | exact Or.inr (Or.inr rfl) | exact Or.inr (Or.inr (Or.inr ⟨_, .head _, rfl⟩)) | exact Or.inr (Or.inr (Or.inl (by first | exact Mut.m0 _ | exact Mut.m1 _ | exact Mut.m2 _ | exact Mut.m3 _))), newsLive N9 (by k_mem)⟩
      · first | exact Or.inr ((newsOwn N9 (a := c.od) (by k_mem)).1.trans h5.1.symm) | exact Or.inl ⟨by first | exact rfl | exact Or.inl rfl | exact Or.inr rfl | exact Or.inr (Or.inl rfl) | exact Or.inr (Or.inr rfl) | exact Or.inr (Or.inr (Or.inr ⟨_, .head _, rfl⟩)) | exact Or.inr (Or.inr (Or.inl (by first | exact Mut.m0 _ | exact Mut.m1 _ | exact Mut.m2 _ | exact Mut.m3 _))), newsLive N9 (by k_mem)⟩)
    (with_reducible rename Fr _ _ _ _ => F9); (with_reducible rename News _ _ _ _ => N9)
    refine Con.call (forget_con (a := c.mk' m) W0 (Keep.of_fr F9) (newsOwn N9 (by k_mem)) (newsOwn N9 (by k_mem)) (by assumption)) rfl (Room.deeper (R.le (by decide))) ?_
    rintro v9 H9 tk9 K9 U9 t9_5
    refine hide fun P9 hP9 => ?_
    rcases t9_5 with ⟨gl, ga, wk, b1, b2, b3, b4, b5, b6, b7, b8⟩
    refine hP9 ?_; clear hP9 P9
    have N8 : News B L H9 ((c.ca, instObj 346 c.cd) :: (c.cd, dictOf (cycEs c.kc m.tc (c.cy m) (g.v c)) 14) :: (c.ma, instObj 136 c.md) :: (c.md, dictOf (mksEs c.km { c.mk' m with gl := gl, ga := ga, wk := wk } g.white m.tw) 6) :: (c.od, c.oo) :: (gl, listOf #[] 0) :: (ga, listOf #[] 0) :: (wk, listOf #[] 0) :: rest) := by
      refine newsStep N9 U9 (allC (?_) (allC (?_) (allC (?_) (allC (?_) (allC (?_) (allC (?_) (allC (?_) (allC (?_) (fun p hp => .inl ⟨?_, ?_⟩)))))))))
      · first | exact .inl ⟨by k_mem, by ktr_rel⟩ | exact .inr ⟨by assumption, newsNeL N9 (by k_mem)⟩ | exact .inr ⟨by assumption, neL_of_new F9 (by assumption)⟩
      · first | exact .inl ⟨by k_mem, by ktr_rel⟩ | exact .inr ⟨by assumption, newsNeL N9 (by k_mem)⟩ | exact .inr ⟨by assumption, neL_of_new F9 (by assumption)⟩
      · first | exact .inl ⟨by k_mem, by ktr_rel⟩ | exact .inr ⟨by assumption, newsNeL N9 (by k_mem)⟩ | exact .inr ⟨by assumption, neL_of_new F9 (by assumption)⟩
      · first | exact .inl ⟨by k_mem, by ktr_rel⟩ | exact .inr ⟨by assumption, newsNeL N9 (by k_mem)⟩ | exact .inr ⟨by assumption, neL_of_new F9 (by assumption)⟩
      · first | exact .inl ⟨by k_mem, by ktr_rel⟩ | exact .inr ⟨by assumption, newsNeL N9 (by k_mem)⟩ | exact .inr ⟨by assumption, neL_of_new F9 (by assumption)⟩
      · first | exact .inl ⟨by k_mem, by ktr_rel⟩ | exact .inr ⟨by assumption, newsNeL N9 (by k_mem)⟩ | exact .inr ⟨by assumption, neL_of_new F9 (by assumption)⟩
      · first | exact .inl ⟨by k_mem, by ktr_rel⟩ | exact .inr ⟨by assumption, newsNeL N9 (by k_mem)⟩ | exact .inr ⟨by assumption, neL_of_new F9 (by assumption)⟩
      · first | exact .inl ⟨by k_mem, by ktr_rel⟩ | exact .inr ⟨by assumption, newsNeL N9 (by k_mem)⟩ | exact .inr ⟨by assumption, neL_of_new F9 (by assumption)⟩
      · repeat (first | exact hp | apply List.Mem.tail)
      · exact nosr1 (by k_all) p hp
    have F8 := frStep F9 U9 (nos1 (newsNeL N9 (by k_mem)).symm) (base1 (newsOwn N9 (by k_mem)).2)
    clear F9 N9; have F9 := F8; have N9 := N8; clear F8 N8
    dsimp only
    have fgl := hU0.dead b5
    have fga := hU0.dead b6
    have fwk := hU0.dead b7
    have n1 := h2.ne_fresh fgl; have n2 := h2.ne_fresh fga; have n3 := h2.ne_fresh fwk
    dsimp only [cycEs, Sg.v] at N9
    k_steps
    (with_reducible rename Fr _ _ _ _ => F9); (with_reducible rename News _ _ _ _ => N9)
    rename_i D1 q1 _ _ vs1 ik1 l1 _ _
    (with_reducible rename Fr _ _ _ _ => F9); (with_reducible rename News _ _ _ _ => N9)
    have U2 := hR.upto (S := is2 c.cd c.md) hB F9 N9 (by intro p hp; repeat (first | exact hp | apply List.Mem.tail)) (by
      refine allC (?_) (allC (?_) (allC (?_) (allC (?_) (allC (?_) (List.forall_mem_nil _)))))
      · first | exact Or.inr ((newsOwn N9 (a := c.ca) (by k_mem)).1.trans h1.1.symm) | exact Or.inl ⟨by first | exact rfl | exact Or.inl rfl | exact Or.inr rfl | exact Or.inr (Or.inl rfl) | exact Or.inr (Or.inr rfl) | exact Or.inr (Or.inr (Or.inr ⟨_, .head _, rfl⟩)) | exact Or.inr (Or.inr (Or.inl (by first | exact Mut.m0 _ | exact Mut.m1 _ | exact Mut.m2 _ | exact Mut.m3 _))), newsLive N9 (by k_mem)⟩
      · first | exact Or.inr ((newsOwn N9 (a := c.cd) (by k_mem)).1.trans h2.1.symm) | exact Or.inl ⟨by first | exact rfl | exact Or.inl rfl | exact Or.inr rfl | exact Or.inr (Or.inl rfl) | exact Or.inr (Or.inr rfl) | exact Or.inr (Or.inr (Or.inr ⟨_, .head _, rfl⟩)) | exact Or.inr (Or.inr (Or.inl (by first | exact Mut.m0 _ | exact Mut.m1 _ | exact Mut.m2 _ | exact Mut.m3 _))), newsLive N9 (by k_mem)⟩
      · first | exact Or.inr ((newsOwn N9 (a := c.ma) (by k_mem)).1.trans h3.1.symm) | exact Or.inl ⟨by first | exact rfl | exact Or.inl rfl | exact Or.inr rfl | exact Or.inr (Or.inl rfl) | exact Or.inr (Or.inr rfl) | exact Or.inr (Or.inr (Or.inr ⟨_, .head _, rfl⟩)) | exact Or.inr (Or.inr (Or.inl (by first | exact Mut.m0 _ | exact Mut.m1 _ | exact Mut.m2 _ | exact Mut.m3 _))), newsLive N9 (by k_mem)⟩
      · first | exact Or.inr ((newsOwn N9 (a := c.md) (by k_mem)).1.trans h4.1.symm) | exact Or.inl ⟨by first | exact rfl | exact Or.inl rfl | exact Or.inr rfl | exact Or.inr (Or.inl rfl) | exact Or.inr (Or.inr rfl) | exact Or.inr (Or.inr (Or.inr ⟨_, .head _, rfl⟩)) | exact Or.inr (Or.inr (Or.inl (by first | exact Mut.m0 _ | exact Mut.m1 _ | exact Mut.m2 _ | exact Mut.m3 _))), newsLive N9 (by k_mem)⟩
      · first | exact Or.inr ((newsOwn N9 (a := c.od) (by k_mem)).1.trans h5.1.symm) | exact Or.inl ⟨by first | exact rfl | exact Or.inl rfl | exact Or.inr rfl | exact Or.inr (Or.inl rfl) | exact Or.inr (Or.inr rfl) | exact Or.inr (Or.inr (Or.inr ⟨_, .head _, rfl⟩)) | exact Or.inr (Or.inr (Or.inl (by first | exact Mut.m0 _ | exact Mut.m1 _ | exact Mut.m2 _ | exact Mut.m3 _))), newsLive N9 (by k_mem)⟩)
    have fD : h.get? D1 = none := fresh_of hR (newsOwn N9 (a := D1) (by k_mem)).2 (by repeat' (first | exact List.forall_mem_nil _ | refine allC ((by first | exact l1.1 | exact l1 | exact l1.2.1 | exact l1.2 | exact l1.2.2.1 | exact l1.2.2 | exact l1.2.2.2.1 | exact l1.2.2.2 | exact l1.2.2.2.2.1 | exact l1.2.2.2.2 | exact l1.2.2.2.2.2.1 | exact l1.2.2.2.2.2 | exact l1.2.2.2.2.2.2.1 | exact l1.2.2.2.2.2.2 | exact l1.2.2.2.2.2.2.2.1 | exact l1.2.2.2.2.2.2.2 | exact l1.2.2.2.2.2.2.2.2.1 | exact l1.2.2.2.2.2.2.2.2 | exact l1.2.2.2.2.2.2.2.2.2.1 | exact l1.2.2.2.2.2.2.2.2.2 | exact l1.2.2.2.2.2.2.2.2.2.2.1 | exact l1.2.2.2.2.2.2.2.2.2.2 | exact l1.2.2.2.2.2.2.2.2.2.2.2.1 | exact l1.2.2.2.2.2.2.2.2.2.2.2 | exact l1.2.2.2.2.2.2.2.2.2.2.2.2.1 | exact l1.2.2.2.2.2.2.2.2.2.2.2.2 | exact l1.2.2.2.2.2.2.2.2.2.2.2.2.2.1 | exact l1.2.2.2.2.2.2.2.2.2.2.2.2.2 | exact l1.2.2.2.2.2.2.2.2.2.2.2.2.2.2.1 | exact l1.2.2.2.2.2.2.2.2.2.2.2.2.2.2 | exact l1.2.2.2.2.2.2.2.2.2.2.2.2.2.2.2.1 | exact l1.2.2.2.2.2.2.2.2.2.2.2.2.2.2.2 | omega)) (?_))) l1.2.2.2.2.2.2.2.2
    have k8 := newsOwn N9 (.tail _ (.tail _ (.head _)))
    obtain ⟨t9, k9⟩ := cycTok (a := { c.cy m with ts := D1 }) k8
    have UU : Upto (Foot c m xs) h _ := U2.mono (fun a e _ => e.elim .inl fun e => .inr (.inl e))
    have k1 : NeN gl D1 := Nat.ne_of_lt (by omega)
    have k2 : NeN ga D1 := Nat.ne_of_lt (by omega)
    have k3 : NeN wk D1 := Nat.ne_of_lt (by omega)
    have fr9 : Fresh c m ⟨gl, ga, wk, D1, 0, 0, 0, q1, m.tw, t9⟩ h := by
      obtain ⟨b8_0_1, b8_0_2, b8_1_2⟩ := Nd.o3 b8
      refine ⟨?_, ?_⟩
      · show Nd [gl, ga, wk, D1]
        exact (by (first | refine Nd.m3 ?_ | refine Nd.m4 ?_ | refine Nd.m5 ?_ | refine Nd.m6 ?_ | refine Nd.m7 ?_ | refine Nd.m8 ?_ | refine Nd.m11 ?_) <;> constructor <;> first | assumption | (refine NeN.symm ?_; assumption))
      · show ∀ a ∈ [gl, ga, wk, D1], _
        exact allC (.inr fgl) (allC (.inr fga) (allC (.inr fwk) (allC (.inr fD) (List.forall_mem_nil _))))
    have r2 := r.next (v' := Sg.v c { g with pos := .sweep }) (white' := g.white) UU (fun _ q _ => q) (Same.refl _) fr9 rfl k9 (newsOwn N9 (by k_mem)) (gv' := []) (newsOwn N9 (by k_mem)) (newsOwn N9 (by k_mem)) (newsOwn N9 (by k_mem)) (sv' := vs1) (newsOwn N9 (by k_mem)) (fun y hy => by
      refine hide fun P9 hP9 => ?_
      obtain ⟨q1, q2, q3, q4⟩ := r.neT hy
      refine hP9 ?_; clear hP9 P9
      exact (r.th y hy).upto U2 (nos2 q1 q2) (nos2 q3 q4))
    have hl1 : vs1.length = xs.length := by rw [ik1.1, List.length_map]
    have hn1 : NumL vs1 := by
      intro j v' hv'
      refine hide fun P9 hP9 => ?_
      obtain ⟨k, x, t, hk, e⟩ := ik1.2 j v' hv'
      refine hP9 ?_; clear hP9 P9
      rw [List.getElem?_map] at hk
      refine hide fun P9 hP9 => ?_
      obtain ⟨y, hy, ey⟩ := Option.map_eq_some_iff.1 hk
      refine hP9 ?_; clear hP9 P9
      cases ey
      exact ⟨t, by rw [e, r.num j y hy]⟩
    have hm1 : ∀ y ∈ xs, y.mrk = g.white ∨ y.mrk = 2 ∨ y.mrk = 3 := by
      intro y hy
      obtain ⟨i, hi⟩ := List.getElem?_of_mem hy
      rw [q.marks i y hi]; exact markOf_in
    have q2 := SX.mk (g := { g with pos := .sweep }) ⟨vs1, r2, hl1, hn1⟩ hm1 q.white rfl
    have oL : Off (is1 L) c ⟨gl, ga, wk, D1, 0, 0, 0, q1, m.tw, t9⟩ xs := ⟨(q.notL hL).fix, allC (newsNeL N9 (by k_mem)) (allC (newsNeL N9 (by k_mem)) (allC (newsNeL N9 (by k_mem)) (allC (newsNeL N9 (by k_mem)) (List.forall_mem_nil _)))), (q.notL hL).t, (q.notL hL).td⟩
    have ok2 : OkG c { g with pos := .sweep } := ⟨ok.pause, ok.mul, ok.est, ok.tot, nofun, ok.n⟩
    refine whileGo_inv (F1I w B c m xs g h s L _) ?turn1 1 ⟨_, _, _, xs, { g with pos := .sweep }, rfl, F9, UU.mono (fun _ e _ => .inl e), fr9, Same.refl xs, oL, ok2, rfl, rfl, q2⟩
    case turn1 =>
      clear F9 N9 hR U2 q2 UU k8 k9 r2 fr9 oL ok2 n1 n2 n3
      rintro k s' ⟨g1, tk2, m', ys, g', rfl, F2, U2, f2, s2, o2, ok3, em, ep, hk⟩
      have n1 : NeN c.ca L := o2.fix c.ca (by first | exact Cfg.m0 _ | exact Cfg.m1 _ | exact Cfg.m2 _ | exact Cfg.m3 _ | exact Cfg.m4 _ | exact Cfg.m5 _ | exact Cfg.m6 _ | exact Cfg.m7 _ | exact Cfg.m8 _ | exact Cfg.m9 _ | exact Cfg.m10 _ | exact Cfg.m11 _)
      have n2 : NeN c.cd L := o2.fix c.cd (by first | exact Cfg.m0 _ | exact Cfg.m1 _ | exact Cfg.m2 _ | exact Cfg.m3 _ | exact Cfg.m4 _ | exact Cfg.m5 _ | exact Cfg.m6 _ | exact Cfg.m7 _ | exact Cfg.m8 _ | exact Cfg.m9 _ | exact Cfg.m10 _ | exact Cfg.m11 _)
      have U2f : Upto (Foot c m xs) h g1 := U2.mono (fun a e q => e.elim id fun e => by cases e; exact not_live (none_of_le hL) q)
      cases k with
      | succ k =>
        have q2 : SX w B g1 c m' ys g' := hk
        have hph : g'.pos.phase = 2 := by rw [q2.pos]; rfl
        have e1 := q2.ca; have e2 := q2.cd
        dsimp only [cycEs, Sg.v] at e2
        rw [hph] at e2
        (try clear hR); (try clear N9); (try clear F9)
        have F9 := F2
        refine hide fun P9 hP9 => ?_
        obtain ⟨rest, hR, N9⟩ := refocus F9 (.cons e1 (.cons e2 .nil)) (allC ((n1)) (allC ((n2)) (List.forall_mem_nil _)))
        refine hP9 ?_; clear hP9 P9
        dsimp only [List.cons_append, List.nil_append] at N9
        change Rest B _ [L, c.ca, c.cd] rest at hR
        have hB9 := Keep.of_fr F9
        have hs0 := hR.off c.ca (.tail _ (.head _))
        have hs1 := hR.off c.cd (.tail _ (.tail _ (.head _)))
        k_steps
        (with_reducible rename Fr _ _ _ _ => F9); (with_reducible rename News _ _ _ _ => N9)
        have U6 := hR.upto (S := orL (is0) L) hB9 F9 N9 (by intro p hp; repeat (first | exact hp | apply List.Mem.tail)) (by
          refine allC (.inl ⟨.inr rfl, Fr.liveL F9⟩) (allC (?_) (allC (?_) (List.forall_mem_nil _)))
          · first | exact Or.inr ((newsOwn N9 (a := c.ca) (by k_mem)).1.trans e1.1.symm) | exact Or.inl ⟨Or.inl (by first | exact rfl | exact Or.inl rfl | exact Or.inr rfl | exact Or.inr (Or.inl rfl) | exact Or.inr (Or.inr rfl)), newsLive N9 (by k_mem)⟩
          · first | exact Or.inr ((newsOwn N9 (a := c.cd) (by k_mem)).1.trans e2.1.symm) | exact Or.inl ⟨Or.inl (by first | exact rfl | exact Or.inl rfl | exact Or.inr rfl | exact Or.inr (Or.inl rfl) | exact Or.inr (Or.inr rfl)), newsLive N9 (by k_mem)⟩)
        have q3 := q2.frame U6 o2.orL
        refine Con.call (single_mix (th := th) W0 (Keep.of_fr F9) q3) rfl (Room.deeper (R.le (by decide))) ?_
        rintro v9 H9 tk9 K9 U9 t9_5
        refine hide fun P9 hP9 => ?_
        rcases t9_5 with ⟨⟨t9, e9⟩, m'', zs, q4, f4, s4⟩
        refine hP9 ?_; clear hP9 P9
        subst e9
        have F8 := q3.fr F9 o2 U9
        have o4 : Off (is1 L) c m'' zs := o2.fresh f4 (Fr.is1live F9) s4
        have UA : Upto (orL (Foot c m xs) L) h H9 := U2.trans (U6.trans U9 (U := orL (Foot c m' ys) L) (fun _ e => e.elim (fun e => e.elim) .inr) (fun _ e _ => .inl e)) (fun _ e => e) (fun a e l => e.imp (fun e => SR.foot f2 s2 e l) id)
        have f5 := f2.trans (f4.back U6) U2
        clear F9 N9 hR
        dsimp only
        k_steps
        exact ⟨0, Nat.succ_pos _, _, _, m'', zs, _, rfl, F8, UA, f5, s2.trans s4, o4, ok3.single, single_keeps.1.trans em, single_keeps.2.trans ep, q4, by rw [single, q2.pos]⟩
      | zero =>
        obtain ⟨q2, hpos⟩ : SR w B g1 c m' ys g' ∧ g'.pos = .fin := hk
        have hph : g'.pos.phase = 3 := by rw [hpos]; rfl
        have e1 := q2.ca; have e2 := q2.cd
        dsimp only [cycEs, Sg.v] at e2
        rw [hph] at e2
        (try clear hR); (try clear N9); (try clear F9)
        have F9 := F2
        refine hide fun P9 hP9 => ?_
        obtain ⟨rest, hR, N9⟩ := refocus F9 (.cons e1 (.cons e2 .nil)) (allC ((n1)) (allC ((n2)) (List.forall_mem_nil _)))
        refine hP9 ?_; clear hP9 P9
        dsimp only [List.cons_append, List.nil_append] at N9
        change Rest B _ [L, c.ca, c.cd] rest at hR
        have hB9 := Keep.of_fr F9
        have hs0 := hR.off c.ca (.tail _ (.head _))
        have hs1 := hR.off c.cd (.tail _ (.tail _ (.head _)))
        k_steps
        (with_reducible rename Fr _ _ _ _ => F9); (with_reducible rename News _ _ _ _ => N9)
        have U6 := hR.upto (S := orL (is0) L) hB9 F9 N9 (by intro p hp; repeat (first | exact hp | apply List.Mem.tail)) (by
          refine allC (.inl ⟨.inr rfl, Fr.liveL F9⟩) (allC (?_) (allC (?_) (List.forall_mem_nil _)))
          · first | exact Or.inr ((newsOwn N9 (a := c.ca) (by k_mem)).1.trans e1.1.symm) | exact Or.inl ⟨Or.inl (by first | exact rfl | exact Or.inl rfl | exact Or.inr rfl | exact Or.inr (Or.inl rfl) | exact Or.inr (Or.inr rfl)), newsLive N9 (by k_mem)⟩
          · first | exact Or.inr ((newsOwn N9 (a := c.cd) (by k_mem)).1.trans e2.1.symm) | exact Or.inl ⟨Or.inl (by first | exact rfl | exact Or.inl rfl | exact Or.inr rfl | exact Or.inr (Or.inl rfl) | exact Or.inr (Or.inr rfl)), newsLive N9 (by k_mem)⟩)
        have q3 := q2.frame U6 o2.orL
        refine Con.call (roots_sr W0 (Keep.of_fr F9) q3 hpos) rfl (Room.deeper (R.le (by decide))) ?_
        rintro v9 H9 tk9 K9 U9 ⟨m'', zs, q4, f4, s4⟩
        have F8 := q3.fr F9 o2 U9
        have o4 : Off (is1 L) c m'' zs := o2.fresh f4 (Fr.is1live F9) s4
        have UA : Upto (orL (Foot c m xs) L) h H9 := U2.trans (U6.trans U9 (U := orL (Foot c m' ys) L) (fun _ e => e.elim (fun e => e.elim) .inr) (fun _ e _ => .inl e)) (fun _ e => e) (fun a e l => e.imp (fun e => SR.foot f2 s2 e l) id)
        have f5 := f2.trans (f4.back U6) U2
        have s5 := s2.trans s4
        have ok5 : OkG c { g' with pos := .root } := ⟨ok3.pause, ok3.mul, ok3.est, ok3.tot, nofun, ok3.n⟩
        clear F9 N9 hR F2 U2 U6 U9 U2f q2 q3 e1 e2
        dsimp only
        k_steps
        refine whileGo_inv (F2I w B c m xs g h s L _) ?_ (c.szs.length + 3) ⟨_, _, m'', zs, _, rfl, F8, UA, q4, f5, s5, o4, ok5, em, ep, Nat.le_refl _, trivial⟩
        clear F8 UA q4 f5 s5 o4 ok5 em ep f2 s2 o2 ok3 hpos hph f4 s4
        rintro k s' ⟨g1, tk2, m', ys, g', rfl, F2, U2, q2, f2, s2, o2, ok3, em, ep, hk, es⟩
        have e1 := q2.ca; have e2 := q2.cd
        have n1 : NeN c.ca L := o2.fix c.ca (by first | exact Cfg.m0 _ | exact Cfg.m1 _ | exact Cfg.m2 _ | exact Cfg.m3 _ | exact Cfg.m4 _ | exact Cfg.m5 _ | exact Cfg.m6 _ | exact Cfg.m7 _ | exact Cfg.m8 _ | exact Cfg.m9 _ | exact Cfg.m10 _ | exact Cfg.m11 _)
        have n2 : NeN c.cd L := o2.fix c.cd (by first | exact Cfg.m0 _ | exact Cfg.m1 _ | exact Cfg.m2 _ | exact Cfg.m3 _ | exact Cfg.m4 _ | exact Cfg.m5 _ | exact Cfg.m6 _ | exact Cfg.m7 _ | exact Cfg.m8 _ | exact Cfg.m9 _ | exact Cfg.m10 _ | exact Cfg.m11 _)
        have U2f : Upto (Foot c m xs) h g1 := U2.mono (fun a e q => e.elim id fun e => by cases e; exact not_live (none_of_le hL) q)
        (try clear hR); (try clear N9); (try clear F9)
        have F9 := F2
        refine hide fun P9 hP9 => ?_
        obtain ⟨rest, hR, N9⟩ := refocus F9 (.cons e1 (.cons e2 .nil)) (allC ((n1)) (allC ((n2)) (List.forall_mem_nil _)))
        refine hP9 ?_; clear hP9 P9
        dsimp only [List.cons_append, List.nil_append] at N9
        change Rest B _ [L, c.ca, c.cd] rest at hR
        have hB9 := Keep.of_fr F9
        have hs0 := hR.off c.ca (.tail _ (.head _))
        have hs1 := hR.off c.cd (.tail _ (.tail _ (.head _)))
        k_steps
        · have hp : g'.pos.phase ≠ 0 := by assumption
          (with_reducible rename Fr _ _ _ _ => F9); (with_reducible rename News _ _ _ _ => N9)
          have U6 := hR.upto (S := orL (is0) L) hB9 F9 N9 (by intro p hp; repeat (first | exact hp | apply List.Mem.tail)) (by
            refine allC (.inl ⟨.inr rfl, Fr.liveL F9⟩) (allC (?_) (allC (?_) (List.forall_mem_nil _)))
            · first | exact Or.inr ((newsOwn N9 (a := c.ca) (by k_mem)).1.trans e1.1.symm) | exact Or.inl ⟨Or.inl (by first | exact rfl | exact Or.inl rfl | exact Or.inr rfl | exact Or.inr (Or.inl rfl) | exact Or.inr (Or.inr rfl)), newsLive N9 (by k_mem)⟩
            · first | exact Or.inr ((newsOwn N9 (a := c.cd) (by k_mem)).1.trans e2.1.symm) | exact Or.inl ⟨Or.inl (by first | exact rfl | exact Or.inl rfl | exact Or.inr rfl | exact Or.inr (Or.inl rfl) | exact Or.inr (Or.inr rfl)), newsLive N9 (by k_mem)⟩)
          have q3 := q2.frame U6 o2.orL
          refine Con.call (single_con (th := th) W0 (Keep.of_fr F9) q3) rfl (Room.deeper (R.le (by decide))) ?_
          rintro v9 H9 tk9 K9 U9 t9_5
          refine hide fun P9 hP9 => ?_
          rcases t9_5 with ⟨⟨t9, e9⟩, m'', zs, q4, f4, s4⟩
          refine hP9 ?_; clear hP9 P9
          subst e9
          have F8 := q3.fr F9 o2 U9
          have o4 : Off (is1 L) c m'' zs := o2.fresh f4 (Fr.is1live F9) s4
          have UA : Upto (orL (Foot c m xs) L) h H9 := U2.trans (U6.trans U9 (U := orL (Foot c m' ys) L) (fun _ e => e.elim (fun e => e.elim) .inr) (fun _ e _ => .inl e)) (fun _ e => e) (fun a e l => e.imp (fun e => SR.foot f2 s2 e l) id)
          have f5 := f2.trans (f4.back U6) U2
          have e3 := rk0_single ok3 hp
          clear F9 N9 hR
          dsimp only
          k_steps
          exact ⟨k - 1, by omega, _, _, m'', zs, _, rfl, F8, UA, q4, f5, s2.trans s4, o4, ok3.single, single_keeps.1.trans em, single_keeps.2.trans ep, by omega, es.single hp ok3⟩
        · have hp : g'.pos.phase = 0 := by assumption
          have hpp := phase0 hp
          have het : g'.est = c.total := by unfold EstOk at es; rw [hpp] at es; exact es
          (with_reducible rename Fr _ _ _ _ => F9); (with_reducible rename News _ _ _ _ => N9)
          refine Con.call (setThr_con (v := g'.v c) W0 (Keep.of_fr F9) ok3.pause ok3.est (newsOwn N9 (by k_mem)) (newsOwn N9 (by k_mem)) hne) rfl (Room.deeper (R.le (by decide))) ?_
          rintro v9 H9 tk9 K9 U9 ⟨t7, b7⟩
          have N8 : News B L H9 ((c.ca, instObj 346 c.cd) :: (c.cd, dictOf (cycEs c.kc t7 (c.cy m') { g'.v c with thr := if g'.pause < 0 then 1000000000000000000 else g'.est * g'.pause / 100 }) 14) :: rest) := by
            refine newsStep N9 U9 (allC (?_) (allC (?_) (fun p hp => .inl ⟨?_, ?_⟩)))
            · first | exact .inl ⟨by k_mem, by ktr_rel⟩ | exact .inr ⟨by assumption, newsNeL N9 (by k_mem)⟩ | exact .inr ⟨by assumption, neL_of_new F9 (by assumption)⟩
            · first | exact .inl ⟨by k_mem, by ktr_rel⟩ | exact .inr ⟨by assumption, newsNeL N9 (by k_mem)⟩ | exact .inr ⟨by assumption, neL_of_new F9 (by assumption)⟩
            · repeat (first | exact hp | apply List.Mem.tail)
            · exact nosr1 (by k_all) p hp
          have F8 := frStep F9 U9 (nos1 (newsNeL N9 (by k_mem)).symm) (base1 (newsOwn N9 (by k_mem)).2)
          clear F9 N9; have F9 := F8; have N9 := N8; clear F8 N8
          dsimp only
          k_steps
          (with_reducible rename Fr _ _ _ _ => F9); (with_reducible rename News _ _ _ _ => N9)
          have U7 := hR.upto (S := orL (is1 c.cd) L) hB9 F9 N9 (by intro p hp; repeat (first | exact hp | apply List.Mem.tail)) (by
            refine allC (.inl ⟨.inr rfl, Fr.liveL F9⟩) (allC (?_) (allC (?_) (List.forall_mem_nil _)))
            · first | exact Or.inr ((newsOwn N9 (a := c.ca) (by k_mem)).1.trans e1.1.symm) | exact Or.inl ⟨Or.inl (by first | exact rfl | exact Or.inl rfl | exact Or.inr rfl | exact Or.inr (Or.inl rfl) | exact Or.inr (Or.inr rfl)), newsLive N9 (by k_mem)⟩
            · first | exact Or.inr ((newsOwn N9 (a := c.cd) (by k_mem)).1.trans e2.1.symm) | exact Or.inl ⟨Or.inl (by first | exact rfl | exact Or.inl rfl | exact Or.inr rfl | exact Or.inr (Or.inl rfl) | exact Or.inr (Or.inr rfl)), newsLive N9 (by k_mem)⟩)
          obtain ⟨t3, q3⟩ := q2.set (g' := { g' with thr := if g'.pause < 0 then 1000000000000000000 else g'.est * g'.pause / 100 }) o2 U7 ⟨t7, newsOwn N9 (by k_mem)⟩ rfl rfl
          exact hQn _ (post _ _ _ (Keep.of_fr F9) (U2f.trans U7 (fun _ e => e) (fun a e l => e.elim .inl fun e => by cases e; exact not_live (none_of_le hL) l)) ⟨_, ys, _, q3, ⟨q3.lists, f2.2⟩, s2, ⟨ok3.pause, ok3.mul, ok3.est, ok3.tot, ok3.j, ok3.n⟩, em, ep, hpp, het, by dsimp only; rw [ep, het]⟩)
  · have hp : ¬ g.pos.phase ≤ 1 := by assumption
    (with_reducible rename Fr _ _ _ _ => F9); (with_reducible rename News _ _ _ _ => N9)
    (with_reducible rename Fr _ _ _ _ => F9); (with_reducible rename News _ _ _ _ => N9)
    have U2 := hR.upto (S := is0) hB F9 N9 (by intro p hp; repeat (first | exact hp | apply List.Mem.tail)) (by
      refine allC (?_) (allC (?_) (allC (?_) (allC (?_) (allC (?_) (List.forall_mem_nil _)))))
      · first | exact Or.inr ((newsOwn N9 (a := c.ca) (by k_mem)).1.trans h1.1.symm) | exact Or.inl ⟨by first | exact rfl | exact Or.inl rfl | exact Or.inr rfl | exact Or.inr (Or.inl rfl) | exact Or.inr (Or.inr rfl) | exact Or.inr (Or.inr (Or.inr ⟨_, .head _, rfl⟩)) | exact Or.inr (Or.inr (Or.inl (by first | exact Mut.m0 _ | exact Mut.m1 _ | exact Mut.m2 _ | exact Mut.m3 _))), newsLive N9 (by k_mem)⟩
      · first | exact Or.inr ((newsOwn N9 (a := c.cd) (by k_mem)).1.trans h2.1.symm) | exact Or.inl ⟨by first | exact rfl | exact Or.inl rfl | exact Or.inr rfl | exact Or.inr (Or.inl rfl) | exact Or.inr (Or.inr rfl) | exact Or.inr (Or.inr (Or.inr ⟨_, .head _, rfl⟩)) | exact Or.inr (Or.inr (Or.inl (by first | exact Mut.m0 _ | exact Mut.m1 _ | exact Mut.m2 _ | exact Mut.m3 _))), newsLive N9 (by k_mem)⟩
      · first | exact Or.inr ((newsOwn N9 (a := c.ma) (by k_mem)).1.trans h3.1.symm) | exact Or.inl ⟨by first | exact rfl | exact Or.inl rfl | exact Or.inr rfl | exact Or.inr (Or.inl rfl) | exact Or.inr (Or.inr rfl) | exact Or.inr (Or.inr (Or.inr ⟨_, .head _, rfl⟩)) | exact Or.inr (Or.inr (Or.inl (by first | exact Mut.m0 _ | exact Mut.m1 _ | exact Mut.m2 _ | exact Mut.m3 _))), newsLive N9 (by k_mem)⟩
      · first | exact Or.inr ((newsOwn N9 (a := c.md) (by k_mem)).1.trans h4.1.symm) | exact Or.inl ⟨by first | exact rfl | exact Or.inl rfl | exact Or.inr rfl | exact Or.inr (Or.inl rfl) | exact Or.inr (Or.inr rfl) | exact Or.inr (Or.inr (Or.inr ⟨_, .head _, rfl⟩)) | exact Or.inr (Or.inr (Or.inl (by first | exact Mut.m0 _ | exact Mut.m1 _ | exact Mut.m2 _ | exact Mut.m3 _))), newsLive N9 (by k_mem)⟩
      · first | exact Or.inr ((newsOwn N9 (a := c.od) (by k_mem)).1.trans h5.1.symm) | exact Or.inl ⟨by first | exact rfl | exact Or.inl rfl | exact Or.inr rfl | exact Or.inr (Or.inl rfl) | exact Or.inr (Or.inr rfl) | exact Or.inr (Or.inr (Or.inr ⟨_, .head _, rfl⟩)) | exact Or.inr (Or.inr (Or.inl (by first | exact Mut.m0 _ | exact Mut.m1 _ | exact Mut.m2 _ | exact Mut.m3 _))), newsLive N9 (by k_mem)⟩)
    have oL := q.notL hL
    have q2 := q.frame U2 ⟨fun _ _ => id, fun _ _ => id, fun _ _ => id, fun _ _ => id⟩
    obtain ⟨k0, hk0⟩ := F1start q2 hp
    refine whileGo_inv (F1I w B c m xs g h s L _) ?turn1 k0 ⟨_, _, m, xs, g, rfl, F9, U2.mono (fun _ e _ => e.elim), ⟨q.lists, fun a ha => .inl ha⟩, Same.refl xs, oL, ok, rfl, rfl, hk0⟩
    case turn1 =>
      clear F9 N9 hR U2 q2 hk0
      rintro k s' ⟨g1, tk2, m', ys, g', rfl, F2, U2, f2, s2, o2, ok3, em, ep, hk⟩
      have n1 : NeN c.ca L := o2.fix c.ca (by first | exact Cfg.m0 _ | exact Cfg.m1 _ | exact Cfg.m2 _ | exact Cfg.m3 _ | exact Cfg.m4 _ | exact Cfg.m5 _ | exact Cfg.m6 _ | exact Cfg.m7 _ | exact Cfg.m8 _ | exact Cfg.m9 _ | exact Cfg.m10 _ | exact Cfg.m11 _)
      have n2 : NeN c.cd L := o2.fix c.cd (by first | exact Cfg.m0 _ | exact Cfg.m1 _ | exact Cfg.m2 _ | exact Cfg.m3 _ | exact Cfg.m4 _ | exact Cfg.m5 _ | exact Cfg.m6 _ | exact Cfg.m7 _ | exact Cfg.m8 _ | exact Cfg.m9 _ | exact Cfg.m10 _ | exact Cfg.m11 _)
      have U2f : Upto (Foot c m xs) h g1 := U2.mono (fun a e q => e.elim id fun e => by cases e; exact not_live (none_of_le hL) q)
      cases k with
      | succ k =>
        have q2 : SX w B g1 c m' ys g' := hk
        have hph : g'.pos.phase = 2 := by rw [q2.pos]; rfl
        have e1 := q2.ca; have e2 := q2.cd
        dsimp only [cycEs, Sg.v] at e2
        rw [hph] at e2
        (try clear hR); (try clear N9); (try clear F9)
        have F9 := F2
        refine hide fun P9 hP9 => ?_
        obtain ⟨rest, hR, N9⟩ := refocus F9 (.cons e1 (.cons e2 .nil)) (allC ((n1)) (allC ((n2)) (List.forall_mem_nil _)))
        refine hP9 ?_; clear hP9 P9
        dsimp only [List.cons_append, List.nil_append] at N9
        change Rest B _ [L, c.ca, c.cd] rest at hR
        have hB9 := Keep.of_fr F9
        have hs0 := hR.off c.ca (.tail _ (.head _))
        have hs1 := hR.off c.cd (.tail _ (.tail _ (.head _)))
        k_steps
        (with_reducible rename Fr _ _ _ _ => F9); (with_reducible rename News _ _ _ _ => N9)
        have U6 := hR.upto (S := orL (is0) L) hB9 F9 N9 (by intro p hp; repeat (first | exact hp | apply List.Mem.tail)) (by
          refine allC (.inl ⟨.inr rfl, Fr.liveL F9⟩) (allC (?_) (allC (?_) (List.forall_mem_nil _)))
          · first | exact Or.inr ((newsOwn N9 (a := c.ca) (by k_mem)).1.trans e1.1.symm) | exact Or.inl ⟨Or.inl (by first | exact rfl | exact Or.inl rfl | exact Or.inr rfl | exact Or.inr (Or.inl rfl) | exact Or.inr (Or.inr rfl)), newsLive N9 (by k_mem)⟩
          · first | exact Or.inr ((newsOwn N9 (a := c.cd) (by k_mem)).1.trans e2.1.symm) | exact Or.inl ⟨Or.inl (by first | exact rfl | exact Or.inl rfl | exact Or.inr rfl | exact Or.inr (Or.inl rfl) | exact Or.inr (Or.inr rfl)), newsLive N9 (by k_mem)⟩)
        have q3 := q2.frame U6 o2.orL
        refine Con.call (single_mix (th := th) W0 (Keep.of_fr F9) q3) rfl (Room.deeper (R.le (by decide))) ?_
        rintro v9 H9 tk9 K9 U9 t9_5
        refine hide fun P9 hP9 => ?_
        rcases t9_5 with ⟨⟨t9, e9⟩, m'', zs, q4, f4, s4⟩
        refine hP9 ?_; clear hP9 P9
        subst e9
        have F8 := q3.fr F9 o2 U9
        have o4 : Off (is1 L) c m'' zs := o2.fresh f4 (Fr.is1live F9) s4
        have UA : Upto (orL (Foot c m xs) L) h H9 := U2.trans (U6.trans U9 (U := orL (Foot c m' ys) L) (fun _ e => e.elim (fun e => e.elim) .inr) (fun _ e _ => .inl e)) (fun _ e => e) (fun a e l => e.imp (fun e => SR.foot f2 s2 e l) id)
        have f5 := f2.trans (f4.back U6) U2
        clear F9 N9 hR
        dsimp only
        k_steps
        exact ⟨0, Nat.succ_pos _, _, _, m'', zs, _, rfl, F8, UA, f5, s2.trans s4, o4, ok3.single, single_keeps.1.trans em, single_keeps.2.trans ep, q4, by rw [single, q2.pos]⟩
      | zero =>
        obtain ⟨q2, hpos⟩ : SR w B g1 c m' ys g' ∧ g'.pos = .fin := hk
        have hph : g'.pos.phase = 3 := by rw [hpos]; rfl
        have e1 := q2.ca; have e2 := q2.cd
        dsimp only [cycEs, Sg.v] at e2
        rw [hph] at e2
        (try clear hR); (try clear N9); (try clear F9)
        have F9 := F2
        refine hide fun P9 hP9 => ?_
        obtain ⟨rest, hR, N9⟩ := refocus F9 (.cons e1 (.cons e2 .nil)) (allC ((n1)) (allC ((n2)) (List.forall_mem_nil _)))
        refine hP9 ?_; clear hP9 P9
        dsimp only [List.cons_append, List.nil_append] at N9
        change Rest B _ [L, c.ca, c.cd] rest at hR
        have hB9 := Keep.of_fr F9
        have hs0 := hR.off c.ca (.tail _ (.head _))
        have hs1 := hR.off c.cd (.tail _ (.tail _ (.head _)))
        k_steps
        (with_reducible rename Fr _ _ _ _ => F9); (with_reducible rename News _ _ _ _ => N9)
        have U6 := hR.upto (S := orL (is0) L) hB9 F9 N9 (by intro p hp; repeat (first | exact hp | apply List.Mem.tail)) (by
          refine allC (.inl ⟨.inr rfl, Fr.liveL F9⟩) (allC (?_) (allC (?_) (List.forall_mem_nil _)))
          · first | exact Or.inr ((newsOwn N9 (a := c.ca) (by k_mem)).1.trans e1.1.symm) | exact Or.inl ⟨Or.inl (by first | exact rfl | exact Or.inl rfl | exact Or.inr rfl | exact Or.inr (Or.inl rfl) | exact Or.inr (Or.inr rfl)), newsLive N9 (by k_mem)⟩
          · first | exact Or.inr ((newsOwn N9 (a := c.cd) (by k_mem)).1.trans e2.1.symm) | exact Or.inl ⟨Or.inl (by first | exact rfl | exact Or.inl rfl | exact Or.inr rfl | exact Or.inr (Or.inl rfl) | exact Or.inr (Or.inr rfl)), newsLive N9 (by k_mem)⟩)
        have q3 := q2.frame U6 o2.orL
        refine Con.call (roots_sr W0 (Keep.of_fr F9) q3 hpos) rfl (Room.deeper (R.le (by decide))) ?_
        rintro v9 H9 tk9 K9 U9 ⟨m'', zs, q4, f4, s4⟩
        have F8 := q3.fr F9 o2 U9
        have o4 : Off (is1 L) c m'' zs := o2.fresh f4 (Fr.is1live F9) s4
        have UA : Upto (orL (Foot c m xs) L) h H9 := U2.trans (U6.trans U9 (U := orL (Foot c m' ys) L) (fun _ e => e.elim (fun e => e.elim) .inr) (fun _ e _ => .inl e)) (fun _ e => e) (fun a e l => e.imp (fun e => SR.foot f2 s2 e l) id)
        have f5 := f2.trans (f4.back U6) U2
        have s5 := s2.trans s4
        have ok5 : OkG c { g' with pos := .root } := ⟨ok3.pause, ok3.mul, ok3.est, ok3.tot, nofun, ok3.n⟩
        clear F9 N9 hR F2 U2 U6 U9 U2f q2 q3 e1 e2
        dsimp only
        k_steps
        refine whileGo_inv (F2I w B c m xs g h s L _) ?_ (c.szs.length + 3) ⟨_, _, m'', zs, _, rfl, F8, UA, q4, f5, s5, o4, ok5, em, ep, Nat.le_refl _, trivial⟩
        clear F8 UA q4 f5 s5 o4 ok5 em ep f2 s2 o2 ok3 hpos hph f4 s4
        rintro k s' ⟨g1, tk2, m', ys, g', rfl, F2, U2, q2, f2, s2, o2, ok3, em, ep, hk, es⟩
        have e1 := q2.ca; have e2 := q2.cd
        have n1 : NeN c.ca L := o2.fix c.ca (by first | exact Cfg.m0 _ | exact Cfg.m1 _ | exact Cfg.m2 _ | exact Cfg.m3 _ | exact Cfg.m4 _ | exact Cfg.m5 _ | exact Cfg.m6 _ | exact Cfg.m7 _ | exact Cfg.m8 _ | exact Cfg.m9 _ | exact Cfg.m10 _ | exact Cfg.m11 _)
        have n2 : NeN c.cd L := o2.fix c.cd (by first | exact Cfg.m0 _ | exact Cfg.m1 _ | exact Cfg.m2 _ | exact Cfg.m3 _ | exact Cfg.m4 _ | exact Cfg.m5 _ | exact Cfg.m6 _ | exact Cfg.m7 _ | exact Cfg.m8 _ | exact Cfg.m9 _ | exact Cfg.m10 _ | exact Cfg.m11 _)
        have U2f : Upto (Foot c m xs) h g1 := U2.mono (fun a e q => e.elim id fun e => by cases e; exact not_live (none_of_le hL) q)
        (try clear hR); (try clear N9); (try clear F9)
        have F9 := F2
        refine hide fun P9 hP9 => ?_
        obtain ⟨rest, hR, N9⟩ := refocus F9 (.cons e1 (.cons e2 .nil)) (allC ((n1)) (allC ((n2)) (List.forall_mem_nil _)))
        refine hP9 ?_; clear hP9 P9
        dsimp only [List.cons_append, List.nil_append] at N9
        change Rest B _ [L, c.ca, c.cd] rest at hR
        have hB9 := Keep.of_fr F9
        have hs0 := hR.off c.ca (.tail _ (.head _))
        have hs1 := hR.off c.cd (.tail _ (.tail _ (.head _)))
        k_steps
        · have hp : g'.pos.phase ≠ 0 := by assumption
          (with_reducible rename Fr _ _ _ _ => F9); (with_reducible rename News _ _ _ _ => N9)
          have U6 := hR.upto (S := orL (is0) L) hB9 F9 N9 (by intro p hp; repeat (first | exact hp | apply List.Mem.tail)) (by
            refine allC (.inl ⟨.inr rfl, Fr.liveL F9⟩) (allC (?_) (allC (?_) (List.forall_mem_nil _)))
            · first | exact Or.inr ((newsOwn N9 (a := c.ca) (by k_mem)).1.trans e1.1.symm) | exact Or.inl ⟨Or.inl (by first | exact rfl | exact Or.inl rfl | exact Or.inr rfl | exact Or.inr (Or.inl rfl) | exact Or.inr (Or.inr rfl)), newsLive N9 (by k_mem)⟩
            · first | exact Or.inr ((newsOwn N9 (a := c.cd) (by k_mem)).1.trans e2.1.symm) | exact Or.inl ⟨Or.inl (by first | exact rfl | exact Or.inl rfl | exact Or.inr rfl | exact Or.inr (Or.inl rfl) | exact Or.inr (Or.inr rfl)), newsLive N9 (by k_mem)⟩)
          have q3 := q2.frame U6 o2.orL
          refine Con.call (single_con (th := th) W0 (Keep.of_fr F9) q3) rfl (Room.deeper (R.le (by decide))) ?_
          rintro v9 H9 tk9 K9 U9 t9_5
          refine hide fun P9 hP9 => ?_
          rcases t9_5 with ⟨⟨t9, e9⟩, m'', zs, q4, f4, s4⟩
          refine hP9 ?_; clear hP9 P9
          subst e9
          have F8 := q3.fr F9 o2 U9
          have o4 : Off (is1 L) c m'' zs := o2.fresh f4 (Fr.is1live F9) s4
          have UA : Upto (orL (Foot c m xs) L) h H9 := U2.trans (U6.trans U9 (U := orL (Foot c m' ys) L) (fun _ e => e.elim (fun e => e.elim) .inr) (fun _ e _ => .inl e)) (fun _ e => e) (fun a e l => e.imp (fun e => SR.foot f2 s2 e l) id)
          have f5 := f2.trans (f4.back U6) U2
          have e3 := rk0_single ok3 hp
          clear F9 N9 hR
          dsimp only
          k_steps
          exact ⟨k - 1, by omega, _, _, m'', zs, _, rfl, F8, UA, q4, f5, s2.trans s4, o4, ok3.single, single_keeps.1.trans em, single_keeps.2.trans ep, by omega, es.single hp ok3⟩
        · have hp : g'.pos.phase = 0 := by assumption
          have hpp := phase0 hp
          have het : g'.est = c.total := by unfold EstOk at es; rw [hpp] at es; exact es
          (with_reducible rename Fr _ _ _ _ => F9); (with_reducible rename News _ _ _ _ => N9)
          refine Con.call (setThr_con (v := g'.v c) W0 (Keep.of_fr F9) ok3.pause ok3.est (newsOwn N9 (by k_mem)) (newsOwn N9 (by k_mem)) hne) rfl (Room.deeper (R.le (by decide))) ?_
          rintro v9 H9 tk9 K9 U9 ⟨t7, b7⟩
          have N8 : News B L H9 ((c.ca, instObj 346 c.cd) :: (c.cd, dictOf (cycEs c.kc t7 (c.cy m') { g'.v c with thr := if g'.pause < 0 then 1000000000000000000 else g'.est * g'.pause / 100 }) 14) :: rest) := by
            refine newsStep N9 U9 (allC (?_) (allC (?_) (fun p hp => .inl ⟨?_, ?_⟩)))
            · first | exact .inl ⟨by k_mem, by ktr_rel⟩ | exact .inr ⟨by assumption, newsNeL N9 (by k_mem)⟩ | exact .inr ⟨by assumption, neL_of_new F9 (by assumption)⟩
            · first | exact .inl ⟨by k_mem, by ktr_rel⟩ | exact .inr ⟨by assumption, newsNeL N9 (by k_mem)⟩ | exact .inr ⟨by assumption, neL_of_new F9 (by assumption)⟩
            · repeat (first | exact hp | apply List.Mem.tail)
            · exact nosr1 (by k_all) p hp
          have F8 := frStep F9 U9 (nos1 (newsNeL N9 (by k_mem)).symm) (base1 (newsOwn N9 (by k_mem)).2)
          clear F9 N9; have F9 := F8; have N9 := N8; clear F8 N8
          dsimp only
          k_steps
          (with_reducible rename Fr _ _ _ _ => F9); (with_reducible rename News _ _ _ _ => N9)
          have U7 := hR.upto (S := orL (is1 c.cd) L) hB9 F9 N9 (by intro p hp; repeat (first | exact hp | apply List.Mem.tail)) (by
            refine allC (.inl ⟨.inr rfl, Fr.liveL F9⟩) (allC (?_) (allC (?_) (List.forall_mem_nil _)))
            · first | exact Or.inr ((newsOwn N9 (a := c.ca) (by k_mem)).1.trans e1.1.symm) | exact Or.inl ⟨Or.inl (by first | exact rfl | exact Or.inl rfl | exact Or.inr rfl | exact Or.inr (Or.inl rfl) | exact Or.inr (Or.inr rfl)), newsLive N9 (by k_mem)⟩
            · first | exact Or.inr ((newsOwn N9 (a := c.cd) (by k_mem)).1.trans e2.1.symm) | exact Or.inl ⟨Or.inl (by first | exact rfl | exact Or.inl rfl | exact Or.inr rfl | exact Or.inr (Or.inl rfl) | exact Or.inr (Or.inr rfl)), newsLive N9 (by k_mem)⟩)
          obtain ⟨t3, q3⟩ := q2.set (g' := { g' with thr := if g'.pause < 0 then 1000000000000000000 else g'.est * g'.pause / 100 }) o2 U7 ⟨t7, newsOwn N9 (by k_mem)⟩ rfl rfl
          exact hQn _ (post _ _ _ (Keep.of_fr F9) (U2f.trans U7 (fun _ e => e) (fun a e l => e.elim .inl fun e => by cases e; exact not_live (none_of_le hL) l)) ⟨_, ys, _, q3, ⟨q3.lists, f2.2⟩, s2, ⟨ok3.pause, ok3.mul, ok3.est, ok3.tot, ok3.j, ok3.n⟩, em, ep, hpp, het, by dsimp only; rw [ep, het]⟩)
end
section
set_option maxRecDepth 100000
open PySem PySem.W PySem.Calls PyProof.Rows
theorem reset_L20 : True := by
  w_top off
  trivial
variable {w : World} {B h : Heap}
set_option maxHeartbeats 2000000 in
theorem rung_con (W : Wd w B) (hB : Keep B h) {bell cells : Addr} {vs : List Value} {ns : List Int} {k : Int} {t tm : Tok} {n n2 : Nat} {many : Int} (hm : 0 < many ∧ many ≤ 1000) (hk : 0 ≤ k)
    (h1 : Own B h bell (listOf #[.ref cells, .int k t] n)) (h2 : Own B h cells (listOf vs.toArray n2)) (hi : IntsAre vs ns) (hl : vs.length ≤ 30) (hne : NeN bell cells) :
    Con w B 2 378 [.ref bell, .int many tm] (is1 bell) h (fun r h' => (∃ i t, r = .int i t ∧ 0 ≤ i ∧ i < many) ∧ ∃ n' t', Own B h' bell (listOf #[.ref cells, .int (k + 1) t'] n')) := by
  have hz : vs.toArray.size = vs.length := by simp
  have W0 := W; (first | (have X9 : ∀ w9 : World, (Mine.hd.heap_39 w9.params).In default → PySem.Challenge.rw_rh0162_01 = PySem.Challenge.rw_rh0162_01 := by (k_fill; fail)) | skip)
  k_dflt (refine' Con.start [("bell", .ref bell), ("many", .int many tm)] W hB (.cons h1 (.cons h2 .nil)) rfl ?ho ?hcd ?bind ?loc ?a ?b ?c ?d ?_; (case ho => k_is); (case hcd => k_is); (case bind => exact fun _ => BindsTo.of_eq rfl); (case loc => exact locs rfl); (case a => exact rfl); (case b => exact rfl); (case c => exact rfl); (case d => decide))
  intro p0 loose0 mean0 mg0 mb0 dp9 fr9 gd9 un9 s RR h₁ L rest tk Q' X T C R post hL F N hR hQ hQn; clear C
  dsimp only [List.cons_append, List.nil_append] at N
  change Rest B h [bell, cells] rest at hR
  have hr0 := hR.off bell (.head _)
  have hr1 := hR.off cells (.tail _ (.head _))
  have hh := R.handled
  k_steps
  · dsimp only
    have hb := Int.fmod_nonneg_of_pos (a := if ns.getD k.toNat 0 < 0 then -ns.getD k.toNat 0 else ns.getD k.toNat 0) (b := many) (by omega)
    have hb2 := Int.fmod_lt_of_pos (if ns.getD k.toNat 0 < 0 then -ns.getD k.toNat 0 else ns.getD k.toNat 0) (b := many) (by omega)
    (with_reducible rename Fr _ _ _ _ => F9); (with_reducible rename News _ _ _ _ => N9)
    refine hQ _ _ (post _ _ _ (Keep.of_fr F9) (hR.upto hB F9 N9 (by intro p hp; repeat (first | exact hp | apply List.Mem.tail)) ?_) ?_)
    · refine allC (?_) (allC (?_) (List.forall_mem_nil _))
      · first | exact Or.inr ((newsOwn N9 (a := bell) (by k_mem)).1.trans h1.1.symm) | exact Or.inl ⟨by first | exact rfl | exact Or.inl rfl | exact Or.inr rfl | exact Or.inr (Or.inl rfl) | exact Or.inr (Or.inr rfl) | exact Or.inr (Or.inr (Or.inr ⟨_, .head _, rfl⟩)) | exact Or.inr (Or.inr (Or.inl (by first | exact Mut.m0 _ | exact Mut.m1 _ | exact Mut.m2 _ | exact Mut.m3 _))), newsLive N9 (by k_mem)⟩
      · first | exact Or.inr ((newsOwn N9 (a := cells) (by k_mem)).1.trans h2.1.symm) | exact Or.inl ⟨by first | exact rfl | exact Or.inl rfl | exact Or.inr rfl | exact Or.inr (Or.inl rfl) | exact Or.inr (Or.inr rfl) | exact Or.inr (Or.inr (Or.inr ⟨_, .head _, rfl⟩)) | exact Or.inr (Or.inr (Or.inl (by first | exact Mut.m0 _ | exact Mut.m1 _ | exact Mut.m2 _ | exact Mut.m3 _))), newsLive N9 (by k_mem)⟩
    · exact ⟨⟨_, _, rfl, hb, hb2⟩, _, _, newsOwn N9 (by k_mem)⟩
  · dsimp only
    have hb := Int.fmod_nonneg_of_pos (a := 7 * k + k.fdiv 2 + 1) (b := many) (by omega)
    have hb2 := Int.fmod_lt_of_pos (7 * k + k.fdiv 2 + 1) (b := many) (by omega)
    (with_reducible rename Fr _ _ _ _ => F9); (with_reducible rename News _ _ _ _ => N9)
    refine hQ _ _ (post _ _ _ (Keep.of_fr F9) (hR.upto hB F9 N9 (by intro p hp; repeat (first | exact hp | apply List.Mem.tail)) ?_) ?_)
    · refine allC (?_) (allC (?_) (List.forall_mem_nil _))
      · first | exact Or.inr ((newsOwn N9 (a := bell) (by k_mem)).1.trans h1.1.symm) | exact Or.inl ⟨by first | exact rfl | exact Or.inl rfl | exact Or.inr rfl | exact Or.inr (Or.inl rfl) | exact Or.inr (Or.inr rfl) | exact Or.inr (Or.inr (Or.inr ⟨_, .head _, rfl⟩)) | exact Or.inr (Or.inr (Or.inl (by first | exact Mut.m0 _ | exact Mut.m1 _ | exact Mut.m2 _ | exact Mut.m3 _))), newsLive N9 (by k_mem)⟩
      · first | exact Or.inr ((newsOwn N9 (a := cells) (by k_mem)).1.trans h2.1.symm) | exact Or.inl ⟨by first | exact rfl | exact Or.inl rfl | exact Or.inr rfl | exact Or.inr (Or.inl rfl) | exact Or.inr (Or.inr rfl) | exact Or.inr (Or.inr (Or.inr ⟨_, .head _, rfl⟩)) | exact Or.inr (Or.inr (Or.inl (by first | exact Mut.m0 _ | exact Mut.m1 _ | exact Mut.m2 _ | exact Mut.m3 _))), newsLive N9 (by k_mem)⟩
    · exact ⟨⟨_, _, rfl, hb, hb2⟩, _, _, newsOwn N9 (by k_mem)⟩
set_option maxHeartbeats 2000000 in
theorem workRight_con (W : Wd w B) (hB : Keep B h) {size share : Int} {t1 t2 : Tok} (hb : -1000 ≤ share ∧ share ≤ 1000) (he : 1 ≤ size ∧ size ≤ 1000) :
    Con w B 4 390 [.int size t1, .int share t2] is0 h (fun r _ => r = .bool true) := by
  have W0 := W; (first | (have X9 : ∀ w9 : World, (Mine.hd.heap_39 w9.params).In default → PySem.Challenge.rw_rh0162_01 = PySem.Challenge.rw_rh0162_01 := by (k_fill; fail)) | skip)
  k_dflt (refine' Con.start [("size", .int size t1), ("share", .int share t2)] W hB .nil rfl ?ho ?hcd ?bind ?loc ?a ?b ?c ?d ?_; (case ho => k_is); (case hcd => k_is); (case bind => exact fun _ => BindsTo.of_eq rfl); (case loc => exact locs rfl); (case a => exact rfl); (case b => exact rfl); (case c => exact rfl); (case d => decide))
  intro p0 loose0 mean0 mg0 mb0 dp9 fr9 gd9 un9 s RR h₁ L rest tk Q' X T C R post hL F N hR hQ hQn; clear C
  dsimp only [List.cons_append, List.nil_append] at N
  change Rest B h [] rest at hR
  have hh := R.handled
  k_steps
  (with_reducible rename Fr _ _ _ _ => F9); (with_reducible rename News _ _ _ _ => N9)
  refine Con.call (workOf_con W0 (Keep.of_fr F9) hb ⟨by omega, by omega⟩) rfl (Room.deeper (R.le (by decide))) ?_
  rintro v9 H9 tk9 K9 U9 ⟨t9, e9⟩
  replace N9 := newsKeep N9 U9 (fun _ _ x => x)
  replace F9 := frStep F9 U9 (fun x => x) base0
  dsimp only
  subst e9
  have f0 : share = 0 → (if share = 0 then 10 ^ Int.toNat 9 else if share > 0 then max 1 (size * share / 100) else size * share / 100 : Int) = 10 ^ Int.toNat 9 := fun e => if_pos e
  have fp : share > 0 → (if share = 0 then 10 ^ Int.toNat 9 else if share > 0 then max 1 (size * share / 100) else size * share / 100 : Int) = max 1 (size * share / 100) := fun e => by rw [if_neg (by omega), if_pos e]
  have fn : share < 0 → (if share = 0 then 10 ^ Int.toNat 9 else if share > 0 then max 1 (size * share / 100) else size * share / 100 : Int) = size * share / 100 := fun e => by rw [if_neg (by omega), if_neg (by omega)]
  have fm : share < 0 → size * share / 100 < 1 := fun e => by
    have := Int.mul_neg_of_pos_of_neg (show 0 < size by omega) e
    omega
  generalize (if share = 0 then 10 ^ Int.toNat 9 else if share > 0 then max 1 (size * share / 100) else size * share / 100 : Int) = found at *
  k_steps
  · have e := f0 (by assumption)
    dsimp only
    rw [show (found == 10 ^ Int.toNat 9) = true from by rw [e]; exact beq_self_eq_true _]
    (with_reducible rename Fr _ _ _ _ => F9); (with_reducible rename News _ _ _ _ => N9)
    refine hQ _ _ (post _ _ _ (Keep.of_fr F9) (hR.upto hB F9 N9 (by intro p hp; repeat (first | exact hp | apply List.Mem.tail)) ?_) ?_)
    · refine List.forall_mem_nil _
    · exact rfl
  · have e := fn (by assumption)
    dsimp only
    rw [Int.fdiv_eq_ediv_of_nonneg _ (by decide), show (found == size * share / 100) = true from by rw [e]; exact beq_self_eq_true _]
    (with_reducible rename Fr _ _ _ _ => F9); (with_reducible rename News _ _ _ _ => N9)
    refine hQ _ _ (post _ _ _ (Keep.of_fr F9) (hR.upto hB F9 N9 (by intro p hp; repeat (first | exact hp | apply List.Mem.tail)) ?_) ?_)
    · refine List.forall_mem_nil _
    · exact rfl
  · have e1 : share < 0 := by assumption
    have e2 : ¬ found < 1 := by assumption
    exact absurd (by rw [fn e1]; exact fm e1) e2
  · have e0 : share ≠ 0 := by assumption
    have e1 : ¬ share < 0 := by assumption
    have e := fp (by omega)
    dsimp only
    rw [Int.fdiv_eq_ediv_of_nonneg _ (by decide), show (found == if size * share / 100 > 1 then size * share / 100 else 1) = true from by rw [e]; by_cases q : size * share / 100 > 1 <;> simp [q] <;> omega]
    (with_reducible rename Fr _ _ _ _ => F9); (with_reducible rename News _ _ _ _ => N9)
    refine hQ _ _ (post _ _ _ (Keep.of_fr F9) (hR.upto hB F9 N9 (by intro p hp; repeat (first | exact hp | apply List.Mem.tail)) ?_) ?_)
    · refine List.forall_mem_nil _
    · exact rfl
end
section
set_option maxRecDepth 100000
open PySem PySem.W PySem.Calls PyProof.Rows
theorem reset_L21 : True := by
  w_top off
  trivial
variable {w : World} {B h : Heap}
section
variable {prog : Program} {w : World} {A : Around} {s : Shared} {R : Result → Shared → Prop} {B : Heap} {K : Frag} {p : Program} {loose : List Str} {mean : ExcName → Option Value} {mg mb : Str → Option Value}
  {name qual : Str} {params : Arguments} {body : List Stmt} {scope : Scope} {dV kV doc pm cdv ct oc : Value} {an od : Option Addr} {osl : Array (Option Value)} {f : Addr} {args : Args} {objs : List (Addr × Obj)} {as : List Addr}
/-- into a def that has one cell of its own -/
theorem enterC1 (binds : List (Str × Value)) (cx : Str) (mm : Str → Option Value) (X : K.In B) (T : Top p loose mean mg mb B) (hB : Keep B s.heap) (hO : OwnL B s.heap objs) (has : objs.map (·.1) = as)
    (ho : K.lookup f = some ⟨oc, od, .func (fnOf name qual params body scope dV kV doc pm an cdv ct), osl⟩) (hcd : codeIn K cdv qual = true) (hroom : A.depth < recursionLimit)
    (hbind : BindsTo s (fnOf name qual params body scope dV kV doc pm an cdv ct) args binds) (hloc : ∀ y ∈ binds, scope.names.lookup y.1 = some .local)
    (hco : scope.isCoroutine = false) (hgen : scope.isGenerator = false) (hk : scope.kind = .function)
    (hcells : ∀ n, cellsFrom n scope.names [] = [(cx, n)]) (hmm : ∀ L, bindL (envOfC qual scope L f cdv).kindOf binds (fun _ => none) = mm) (hmc : ∀ L, bindC (envOfC qual scope L f cdv).kindOf binds (fun _ => none) cx = none)
    (h : ∀ h₁ L rest tk co (Q' : Flow → Shared → Prop), s.heap.objs.size ≤ L → co.data = .cell none → Fr B L h₁ mm → News B L h₁ ((L + 1, co) :: (objs ++ rest)) → Rest B s.heap as rest →
      (∀ fl s', R (.ok (.ret (match fl with | .ret v => v | _ => .none))) s' → Q' fl s') →
      wpAny (model prog w) (A.deeper (envOfC qual scope L f cdv)) (execs body (envOfC qual scope L f cdv)) Q' (fun _ _ => False)
        { s with heap := h₁, toks := tk }) : codeAny (model prog w) A (.call (.ref f) args) R s := by
  have X' := X.keeps hB.keep
  refine codeAny_call_function hroom (X' _ _ ho) rfl hco hgen rfl (codeRec_of X' hcd) (hbind _ _ _ _ ?_)
  refine wpAny_newFunctionEnv_cells hk (fun x hx => .inl (hloc x hx)) fun env' he s' x => ?_
  subst he
  refine ⟨(T.nolimit.keeps hB.keep).keeps x.toInCall.keep, codeAny_func ?_⟩
  refine hide fun P9 hP9 => ?_
  obtain ⟨h₁, tk, rfl, _⟩ := x.done
  have hk₁ := x.toInCall.keep
  obtain ⟨cells, NC, Y⟩ := Cl.news (h₀ := s.heap) (cs := cellsFrom (s.heap.objs.size + 1) scope.names []) (Nat.le_refl _) fun n c hm => ⟨x.cell n c (lookup_of_mem_nodup (by show ((cellsFrom (s.heap.objs.size + 1) scope.names []).map (·.1)).Nodup; rw [hcells]; simp) hm), x.above n c hm⟩
  refine hP9 ?_; clear hP9 P9
  rw [hcells] at Y
  obtain ⟨co, rfl, hco'⟩ := Y.one
  subst has
  have hns := x.toInCall.ns
  have e1 := hmm s.heap.objs.size
  have e2 := hmc s.heap.objs.size
  refine wpAny_mono (h h₁ s.heap.objs.size _ tk co _ (Nat.le_refl _) (by rw [hco']; exact congrArg _ e2) ⟨e1 ▸ hns, fun b o e => hk₁ b o (hB.keep b o e), hB.size⟩ (fun p hp => ?_) (restOf_rest ..) (fun _ _ x => x)) (fun _ _ x => x) fun _ _ x => x.elim
  rcases List.mem_cons.1 hp with rfl | hp
  · have := NC (s.heap.objs.size + 1, co) (.head _)
    refine ⟨this.1, this.2.1, ?_⟩
    cases q : B.get? (s.heap.objs.size + 1) with
    | none => rfl
    | some o => have e := hB.keep _ _ q; have := this.2.2; rw [e] at this; cases this
  · exact news_of hO (Nat.le_refl _) hk₁ p hp
end
end
section
set_option maxRecDepth 100000
open PySem PySem.W PySem.Calls PyProof.Rows
theorem reset_L22 : True := by
  w_top off
  trivial
variable {w : World} {B h : Heap}
theorem thTok {td : Addr} {num mk sz : Int} {t1 t2 t3 : Tok} {a0 a1 a2 : Int} {b0 b1 b2 : Tok} (q : Own B h td (dictOf [⟨a0, .str "number" b0, .int num t1⟩, ⟨a1, .str "mark" b1, .int mk t2⟩, ⟨a2, .str "size" b2, .int sz t3⟩] 3)) : ∃ k t1 t2 t3, Own B h td (dictOf (thEs k num mk sz t1 t2 t3) 3) :=
  ⟨fun i => match i with | 0 => (a0, b0) | 1 => (a1, b1) | _ => (a2, b2), t1, t2, t3, q⟩
theorem mkTok {md fch fso gl ga wk : Addr} {white : Int} {tw : Tok} {a0 a1 a2 a3 a4 a5 : Int} {b0 b1 b2 b3 b4 b5 : Tok} (q : Own B h md (dictOf [⟨a0, .str "children" b0, .ref fch⟩, ⟨a1, .str "sort_of" b1, .ref fso⟩, ⟨a2, .str "white" b2, .int white tw⟩, ⟨a3, .str "grey" b3, .ref gl⟩, ⟨a4, .str "grey_again" b4, .ref ga⟩, ⟨a5, .str "weak" b5, .ref wk⟩] 6)) : ∃ k tw, Own B h md (dictOf (mksEs k ⟨fch, fso, gl, ga, wk⟩ white tw) 6) :=
  ⟨fun i => match i with | 0 => (a0, b0) | 1 => (a1, b1) | 2 => (a2, b2) | 3 => (a3, b3) | 4 => (a4, b4) | _ => (a5, b5), tw, q⟩
theorem cyTok {cd od ma rl ts : Addr} {v1 v2 v3 v4 v5 v6 v7 v8 : Int} {t1 t2 t3 t4 t5 t6 t7 t8 t9 t0 : Tok} {a0 a1 a2 a3 a4 a5 a6 a7 a8 a9 a10 a11 a12 a13 : Int} {b0 b1 b2 b3 b4 b5 b6 b7 b8 b9 b10 b11 b12 b13 : Tok} (q : Own B h cd (dictOf [⟨a0, .str "objects" b0, .ref od⟩, ⟨a1, .str "marks" b1, .ref ma⟩, ⟨a2, .str "root_list" b2, .ref rl⟩, ⟨a3, .str "phase" b3, .int v1 t1⟩, ⟨a4, .str "to_sweep" b4, .ref ts⟩, ⟨a5, .str "total" b5, .int v2 t2⟩, ⟨a6, .str "estimate" b6, .int v3 t3⟩, ⟨a7, .str "debt" b7, .int v4 t4⟩, ⟨a8, .str "step_size" b8, .int 64 t5⟩, ⟨a9, .str "sweep_max" b9, .int 16 t6⟩, ⟨a10, .str "threshold" b10, .int v5 t7⟩, ⟨a11, .str "pause" b11, .int v6 t8⟩, ⟨a12, .str "step_mul" b12, .int v7 t9⟩, ⟨a13, .str "cycles" b13, .int v8 t0⟩] 14)) : ∃ k t', Own B h cd (dictOf (cycEs k t' ⟨od, ma, rl, ts⟩ ⟨v1, v2, v3, v4, v5, v6, v7, v8⟩) 14) :=
  ⟨fun i => match i with | 0 => (a0, b0) | 1 => (a1, b1) | 2 => (a2, b2) | 3 => (a3, b3) | 4 => (a4, b4) | 5 => (a5, b5) | 6 => (a6, b6) | 7 => (a7, b7) | 8 => (a8, b8) | 9 => (a9, b9) | 10 => (a10, b10) | 11 => (a11, b11) | 12 => (a12, b12) | _ => (a13, b13), ⟨t1, t2, t3, t4, t5, t6, t7, t8, t9, t0⟩, q⟩
/-- a new object of the class C -/
inductive NewP (B h : Heap) (C : Addr) (Post : Addr → Addr → Prop) (v : Value) (h'' : Heap) : Prop
  | mk (x dx : _) (p0 : v = .ref x) (p1 : h.get? x = none) (p2 : h.get? dx = none) (p3 : NeN x dx) (p4 : Own B h'' x (instObj C dx)) (p5 : Post x dx)
/-- a class is called -/
theorem make_con {C fI : Addr} {args : List Value} {D : Nat} {Post : Addr → Addr → Heap → Prop} (W : Wd w B) (hB : Keep B h)
    (hm : makesIn (hd.heap_39 w.params) C = true) (hi : findIn (hd.heap_39 w.params) (.ref C) "__init__" = some (some (.ref fI))) (hf : isFn (hd.heap_39 w.params) (.ref fI) = true)
    (c : ∀ h' (x dx : Addr), Keep B h' → Upto is0 h h' → h.get? x = none → h.get? dx = none → NeN x dx → Own B h' x (instObj C dx) → Own B h' dx (dictOf [] 0) →
      Con w B D fI (.ref x :: args) (is1 dx) h' (fun v h'' => v = .none ∧ Post x dx h'')) :
    Con w B (D + 1) C args is0 h (fun v h'' => NewP B h C (fun x dx => Post x dx h'') v h'') := by
  intro A s R hs r k
  refine hide fun P9 hP9 => ?_
  obtain ⟨hh, g, d, t, os⟩ := s
  refine hP9 ?_; clear hP9 P9
  cases hs
  have X' := W.X.keeps hB.keep
  have n1 : hh.get? hh.objs.size = none := none_of_le (Nat.le_refl _)
  have n2 : hh.get? (hh.objs.size + 1) = none := none_of_le (Nat.le_succ _)
  have bn : ∀ a, hh.get? a = none → B.get? a = none := fun a e => by
    cases q : B.get? a with
    | none => rfl
    | some o => rw [hB.keep _ _ q] at e; cases e
  have kk : ∀ b o, hh.get? b = some o → ((hh.push emptyDict).push (instObj C hh.objs.size)).get? b = some o := fun b o e => Heap.get?_push_of_some _ (Heap.get?_push_of_some _ e)
  have U : Upto is0 hh ((hh.push emptyDict).push (instObj C hh.objs.size)) := ⟨fun a o _ e => kk a o e, fun a e => by obtain ⟨o, ho⟩ := Option.isSome_iff_exists.mp e; rw [kk a o ho]; rfl⟩
  have hx : ((hh.push emptyDict).push (instObj C hh.objs.size)).get? (hh.objs.size + 1) = some (instObj C hh.objs.size) := by heap_get
  have hdx : ((hh.push emptyDict).push (instObj C hh.objs.size)).get? hh.objs.size = some emptyDict := by heap_get
  have K' : Keep B ((hh.push emptyDict).push (instObj C hh.objs.size)) := ⟨fun b o e => kk b o (hB.keep b o e), by rw [Heap.size_push, Heap.size_push]; have q : B.objs.size ≤ hh.objs.size := hB.size; omega⟩
  have nn : NeN (hh.objs.size + 1) hh.objs.size := Nat.succ_ne_self _
  refine make_core (makes_of X' hm) (looks_findIn X' hi) (fun self => bind_fn X' self (beq_iff_eq.mp hf)) (.inl rfl) ?_
  refine c _ (hh.objs.size + 1) hh.objs.size K' U n2 n1 nn ⟨hx, bn _ n2⟩ ⟨hdx, bn _ n1⟩ _ ⟨_, g, d, t, os⟩ _ rfl ⟨?_, ?_, r.handled⟩ ?_
  · have := r.depth; show A.depth + 1 + D < _; omega
  · have := r.units; show A.units + 1 + 8 * D < _; omega
  · rintro v h'' tk' K2 U2 ⟨rfl, p⟩
    exact ⟨rfl, k _ _ _ K2 (U.trans U2 (fun _ e => e) (fun a e q => by cases e; exact not_live n1 q)) ⟨_, _, rfl, n2, n1, nn, U2.own ⟨hx, bn _ n2⟩ nn, p⟩⟩
set_option maxHeartbeats 2000000 in
theorem objInit_con (W : Wd w B) (hB : Keep B h) {x dx : Addr} {num sz : Int} {t1 t2 : Tok} (h1 : Own B h x (instObj 367 dx)) (h2 : Own B h dx (dictOf [] 0)) (hne : NeN x dx) :
    Con w B 1 364 [.ref x, .int num t1, .int sz t2] (is1 dx) h (fun v h' => v = .none ∧ ∃ k t1 t2 t3, Own B h' dx (dictOf (thEs k num 0 sz t1 t2 t3) 3)) := by
  have W0 := W; (first | (have X9 : ∀ w9 : World, (Mine.hd.heap_39 w9.params).In default → PySem.Challenge.rw_rh0162_01 = PySem.Challenge.rw_rh0162_01 := by (k_fill; fail)) | skip)
  k_dflt (refine' Con.start [("self", .ref x), ("number", .int num t1), ("size", .int sz t2)] W hB (.cons h1 (.cons h2 .nil)) rfl ?ho ?hcd ?bind ?loc ?a ?b ?c ?d ?_; (case ho => k_is); (case hcd => k_is); (case bind => exact fun _ => BindsTo.of_eq rfl); (case loc => exact locs rfl); (case a => exact rfl); (case b => exact rfl); (case c => exact rfl); (case d => decide))
  intro p0 loose0 mean0 mg0 mb0 dp9 fr9 gd9 un9 s RR h₁ L rest tk Q' X T C R post hL F N hR hQ hQn; clear C
  dsimp only [List.cons_append, List.nil_append] at N
  change Rest B h [x, dx] rest at hR
  have hr0 := hR.off x (.head _)
  have hr1 := hR.off dx (.tail _ (.head _))
  have hh := R.handled
  k_steps
  (with_reducible rename Fr _ _ _ _ => F9); (with_reducible rename News _ _ _ _ => N9)
  refine hQn _ (post _ _ _ (Keep.of_fr F9) (hR.upto hB F9 N9 (by intro p hp; repeat (first | exact hp | apply List.Mem.tail)) ?_) ?_)
  · refine allC (?_) (allC (?_) (List.forall_mem_nil _))
    · first | exact Or.inr ((newsOwn N9 (a := x) (by k_mem)).1.trans h1.1.symm) | exact Or.inl ⟨by first | exact rfl | exact Or.inl rfl | exact Or.inr rfl | exact Or.inr (Or.inl rfl) | exact Or.inr (Or.inr rfl) | exact Or.inr (Or.inr (Or.inr ⟨_, .head _, rfl⟩)) | exact Or.inr (Or.inr (Or.inl (by first | exact Mut.m0 _ | exact Mut.m1 _ | exact Mut.m2 _ | exact Mut.m3 _))), newsLive N9 (by k_mem)⟩
    · first | exact Or.inr ((newsOwn N9 (a := dx) (by k_mem)).1.trans h2.1.symm) | exact Or.inl ⟨by first | exact rfl | exact Or.inl rfl | exact Or.inr rfl | exact Or.inr (Or.inl rfl) | exact Or.inr (Or.inr rfl) | exact Or.inr (Or.inr (Or.inr ⟨_, .head _, rfl⟩)) | exact Or.inr (Or.inr (Or.inl (by first | exact Mut.m0 _ | exact Mut.m1 _ | exact Mut.m2 _ | exact Mut.m3 _))), newsLive N9 (by k_mem)⟩
  · exact ⟨rfl, thTok (newsOwn N9 (.tail _ (.head _)))⟩
end
section
set_option maxRecDepth 100000
open PySem PySem.W PySem.Calls PyProof.Rows
theorem reset_L23 : True := by
  w_top off
  trivial
variable {w : World} {B h : Heap}
inductive MkI (B h h' : Heap) (fch fso dx : Addr) : Prop
  | mk (gl ga wk k tw : _) (p0 : Own B h' dx (dictOf (mksEs k ⟨fch, fso, gl, ga, wk⟩ 0 tw) 6)) (p1 : Own B h' gl (listOf #[] 0)) (p2 : Own B h' ga (listOf #[] 0)) (p3 : Own B h' wk (listOf #[] 0)) (p4 : h.get? gl = none) (p5 : h.get? ga = none) (p6 : h.get? wk = none) (p7 : Nd [gl, ga, wk])
set_option maxHeartbeats 2000000 in
theorem mkInit_con (W : Wd w B) (hB : Keep B h) {x dx fch fso : Addr} (h1 : Own B h x (instObj 136 dx)) (h2 : Own B h dx (dictOf [] 0)) (hne : NeN x dx) :
    Con w B 1 42 [.ref x, .ref fch, .ref fso] (is1 dx) h (fun v h' => v = .none ∧ MkI B h h' fch fso dx) := by
  have W0 := W; (first | (have X9 : ∀ w9 : World, (Mine.hd.heap_39 w9.params).In default → PySem.Challenge.rw_rh0162_01 = PySem.Challenge.rw_rh0162_01 := by (k_fill; fail)) | skip)
  k_dflt (refine' Con.start [("self", .ref x), ("children", .ref fch), ("sort_of", .ref fso)] W hB (.cons h1 (.cons h2 .nil)) rfl ?ho ?hcd ?bind ?loc ?a ?b ?c ?d ?_; (case ho => k_is); (case hcd => k_is); (case bind => exact fun _ => BindsTo.of_eq rfl); (case loc => exact locs rfl); (case a => exact rfl); (case b => exact rfl); (case c => exact rfl); (case d => decide))
  intro p0 loose0 mean0 mg0 mb0 dp9 fr9 gd9 un9 s RR h₁ L rest tk Q' X T C R post hL F N hR hQ hQn; clear C
  dsimp only [List.cons_append, List.nil_append] at N
  change Rest B h [x, dx] rest at hR
  have hr0 := hR.off x (.head _)
  have hr1 := hR.off dx (.tail _ (.head _))
  have hh := R.handled
  k_steps
  rename_i gl _ m1 _ _ ga _ m2 _ _ wk _ m3 _ F8 N8
  refine hide fun P9 hP9 => ?_
  obtain ⟨k, tw, b0⟩ := mkTok (newsOwn N8 (a := dx) (.tail _ (.tail _ (.tail _ (.tail _ (.head _))))))
  refine hP9 ?_; clear hP9 P9
  (with_reducible rename Fr _ _ _ _ => F9); (with_reducible rename News _ _ _ _ => N9)
  refine hQn _ (post _ _ _ (Keep.of_fr F9) (hR.upto hB F9 N9 (by intro p hp; repeat (first | exact hp | apply List.Mem.tail)) ?_) ?_)
  · refine allC (?_) (allC (?_) (List.forall_mem_nil _))
    · first | exact Or.inr ((newsOwn N9 (a := x) (by k_mem)).1.trans h1.1.symm) | exact Or.inl ⟨by first | exact rfl | exact Or.inl rfl | exact Or.inr rfl | exact Or.inr (Or.inl rfl) | exact Or.inr (Or.inr rfl) | exact Or.inr (Or.inr (Or.inr ⟨_, .head _, rfl⟩)) | exact Or.inr (Or.inr (Or.inl (by first | exact Mut.m0 _ | exact Mut.m1 _ | exact Mut.m2 _ | exact Mut.m3 _))), newsLive N9 (by k_mem)⟩
    · first | exact Or.inr ((newsOwn N9 (a := dx) (by k_mem)).1.trans h2.1.symm) | exact Or.inl ⟨by first | exact rfl | exact Or.inl rfl | exact Or.inr rfl | exact Or.inr (Or.inl rfl) | exact Or.inr (Or.inr rfl) | exact Or.inr (Or.inr (Or.inr ⟨_, .head _, rfl⟩)) | exact Or.inr (Or.inr (Or.inl (by first | exact Mut.m0 _ | exact Mut.m1 _ | exact Mut.m2 _ | exact Mut.m3 _))), newsLive N9 (by k_mem)⟩
  · exact ⟨rfl, gl, ga, wk, k, tw, b0, newsOwn N9 (by k_mem), newsOwn N9 (by k_mem), newsOwn N9 (by k_mem), fresh_of hR (newsOwn N9 (a := gl) (by k_mem)).2 (allC (m1.1) (allC (m1.2.1) (List.forall_mem_nil _))) m1.2.2, fresh_of hR (newsOwn N9 (a := ga) (by k_mem)).2 (allC (m2.2.1) (allC (m2.2.2.1) (List.forall_mem_nil _))) m2.2.2.2, fresh_of hR (newsOwn N9 (a := wk) (by k_mem)).2 (allC (m3.2.2.1) (allC (m3.2.2.2.1) (List.forall_mem_nil _))) m3.2.2.2.2, Nd.m3 ⟨Nat.ne_of_lt m2.1, Nat.ne_of_lt m3.2.1, Nat.ne_of_lt m3.1⟩⟩
set_option maxHeartbeats 2000000 in
theorem takeIn_con (W : Wd w B) (hB : Keep B h) {ca cd ma md od : Addr} {k k' : Ky} {t : CycT} {a : CycA} {v : CycI} {ka : MkA} {white : Int} {tw : Tok} {x : Th} {num sz : Int} {t1 t2 : Tok} {kvs : List (Int × Value)} {oo : Obj} (ha : a.od = od ∧ a.ma = ma)
    (h1 : Own B h ca (instObj 346 cd)) (h2 : Own B h cd (dictOf (cycEs k t a v) 14)) (h3 : Own B h ma (instObj 136 md)) (h4 : Own B h md (dictOf (mksEs k' ka white tw) 6)) (h5 : Own B h x.t (instObj 367 x.td)) (h6 : Own B h x.td (dictOf (thEs x.k x.num x.mrk x.sz x.t1 x.t2 x.t3) 3))
    (h7 : Own B h od oo) (hd : oo.IsDictOf (PySem.intKind PySem.Challenge.rw_rh0162_01.row.prog w) kvs) (hn : kvs.length ≤ 100) (hfr : valueAt kvs num = none) (hlo : (od == sysModules) = false) (hne : Nd [ca, cd, ma, md, x.t, x.td, od]) :
    Con w B 2 189 [.ref ca, .ref x.t, .int num t1, .int sz t2] (is3 cd x.td od) h (fun v' h' => v' = .none ∧ (∃ t', Own B h' cd (dictOf (cycEs k t' a { v with total := v.total + sz }) 14)) ∧
      (∃ t1 t2 t3, Own B h' x.td (dictOf (thEs x.k num white sz t1 t2 t3) 3)) ∧ ∃ oo', Own B h' od oo' ∧ oo'.IsDictOf (PySem.intKind PySem.Challenge.rw_rh0162_01.row.prog w) (kvs ++ [(num, .ref x.t)])) := by
  obtain ⟨rfl, rfl⟩ := ha
  have hz9 : kvs.length ≤ sizeLine := by rw [sizeLine_eq]; omega
  obtain ⟨hne_0_1, hne_0_2, hne_0_3, hne_0_4, hne_0_5, hne_0_6, hne_1_2, hne_1_3, hne_1_4, hne_1_5, hne_1_6, hne_2_3, hne_2_4, hne_2_5, hne_2_6, hne_3_4, hne_3_5, hne_3_6, hne_4_5, hne_4_6, hne_5_6⟩ := Nd.o7 hne
  have W0 := W; (first | (have X9 : ∀ w9 : World, (Mine.hd.heap_39 w9.params).In default → PySem.Challenge.rw_rh0162_01 = PySem.Challenge.rw_rh0162_01 := by (k_fill; fail)) | skip)
  k_dflt (refine' Con.start [("self", .ref ca), ("obj", .ref x.t), ("number", .int num t1), ("size", .int sz t2)] W hB (.cons h1 (.cons h2 (.cons h3 (.cons h4 (.cons h5 (.cons h6 (.cons h7 .nil))))))) rfl ?ho ?hcd ?bind ?loc ?a ?b ?c ?d ?_; (case ho => k_is); (case hcd => k_is); (case bind => exact fun _ => BindsTo.of_eq rfl); (case loc => exact locs rfl); (case a => exact rfl); (case b => exact rfl); (case c => exact rfl); (case d => decide))
  intro p0 loose0 mean0 mg0 mb0 dp9 fr9 gd9 un9 s RR h₁ L rest tk Q' X T C R post hL F N hR hQ hQn; clear C
  dsimp only [List.cons_append, List.nil_append] at N
  change Rest B h [ca, cd, a.ma, md, x.t, x.td, a.od] rest at hR
  have hr0 := hR.off ca (.head _)
  have hr1 := hR.off cd (.tail _ (.head _))
  have hr2 := hR.off a.ma (.tail _ (.tail _ (.head _)))
  have hr3 := hR.off md (.tail _ (.tail _ (.tail _ (.head _))))
  have hr4 := hR.off x.t (.tail _ (.tail _ (.tail _ (.tail _ (.head _)))))
  have hr5 := hR.off x.td (.tail _ (.tail _ (.tail _ (.tail _ (.tail _ (.head _))))))
  have hr6 := hR.off a.od (.tail _ (.tail _ (.tail _ (.tail _ (.tail _ (.tail _ (.head _)))))))
  have hh := R.handled
  k_steps
  (with_reducible rename Fr _ _ _ _ => F9); (with_reducible rename News _ _ _ _ => N9)
  refine hQn _ (post _ _ _ (Keep.of_fr F9) (hR.upto hB F9 N9 (by intro p hp; repeat (first | exact hp | apply List.Mem.tail)) ?_) ?_)
  · refine allC (?_) (allC (?_) (allC (?_) (allC (?_) (allC (?_) (allC (?_) (allC (?_) (List.forall_mem_nil _)))))))
    · first | exact Or.inr ((newsOwn N9 (a := ca) (by k_mem)).1.trans h1.1.symm) | exact Or.inl ⟨by first | exact rfl | exact Or.inl rfl | exact Or.inr rfl | exact Or.inr (Or.inl rfl) | exact Or.inr (Or.inr rfl) | exact Or.inr (Or.inr (Or.inr ⟨_, .head _, rfl⟩)) | exact Or.inr (Or.inr (Or.inl (by first | exact Mut.m0 _ | exact Mut.m1 _ | exact Mut.m2 _ | exact Mut.m3 _))), newsLive N9 (by k_mem)⟩
    · first | exact Or.inr ((newsOwn N9 (a := cd) (by k_mem)).1.trans h2.1.symm) | exact Or.inl ⟨by first | exact rfl | exact Or.inl rfl | exact Or.inr rfl | exact Or.inr (Or.inl rfl) | exact Or.inr (Or.inr rfl) | exact Or.inr (Or.inr (Or.inr ⟨_, .head _, rfl⟩)) | exact Or.inr (Or.inr (Or.inl (by first | exact Mut.m0 _ | exact Mut.m1 _ | exact Mut.m2 _ | exact Mut.m3 _))), newsLive N9 (by k_mem)⟩
    · first | exact Or.inr ((newsOwn N9 (a := a.ma) (by k_mem)).1.trans h3.1.symm) | exact Or.inl ⟨by first | exact rfl | exact Or.inl rfl | exact Or.inr rfl | exact Or.inr (Or.inl rfl) | exact Or.inr (Or.inr rfl) | exact Or.inr (Or.inr (Or.inr ⟨_, .head _, rfl⟩)) | exact Or.inr (Or.inr (Or.inl (by first | exact Mut.m0 _ | exact Mut.m1 _ | exact Mut.m2 _ | exact Mut.m3 _))), newsLive N9 (by k_mem)⟩
    · first | exact Or.inr ((newsOwn N9 (a := md) (by k_mem)).1.trans h4.1.symm) | exact Or.inl ⟨by first | exact rfl | exact Or.inl rfl | exact Or.inr rfl | exact Or.inr (Or.inl rfl) | exact Or.inr (Or.inr rfl) | exact Or.inr (Or.inr (Or.inr ⟨_, .head _, rfl⟩)) | exact Or.inr (Or.inr (Or.inl (by first | exact Mut.m0 _ | exact Mut.m1 _ | exact Mut.m2 _ | exact Mut.m3 _))), newsLive N9 (by k_mem)⟩
    · first | exact Or.inr ((newsOwn N9 (a := x.t) (by k_mem)).1.trans h5.1.symm) | exact Or.inl ⟨by first | exact rfl | exact Or.inl rfl | exact Or.inr rfl | exact Or.inr (Or.inl rfl) | exact Or.inr (Or.inr rfl) | exact Or.inr (Or.inr (Or.inr ⟨_, .head _, rfl⟩)) | exact Or.inr (Or.inr (Or.inl (by first | exact Mut.m0 _ | exact Mut.m1 _ | exact Mut.m2 _ | exact Mut.m3 _))), newsLive N9 (by k_mem)⟩
    · first | exact Or.inr ((newsOwn N9 (a := x.td) (by k_mem)).1.trans h6.1.symm) | exact Or.inl ⟨by first | exact rfl | exact Or.inl rfl | exact Or.inr rfl | exact Or.inr (Or.inl rfl) | exact Or.inr (Or.inr rfl) | exact Or.inr (Or.inr (Or.inr ⟨_, .head _, rfl⟩)) | exact Or.inr (Or.inr (Or.inl (by first | exact Mut.m0 _ | exact Mut.m1 _ | exact Mut.m2 _ | exact Mut.m3 _))), newsLive N9 (by k_mem)⟩
    · first | exact Or.inr ((newsOwn N9 (a := a.od) (by k_mem)).1.trans h7.1.symm) | exact Or.inl ⟨by first | exact rfl | exact Or.inl rfl | exact Or.inr rfl | exact Or.inr (Or.inl rfl) | exact Or.inr (Or.inr rfl) | exact Or.inr (Or.inr (Or.inr ⟨_, .head _, rfl⟩)) | exact Or.inr (Or.inr (Or.inl (by first | exact Mut.m0 _ | exact Mut.m1 _ | exact Mut.m2 _ | exact Mut.m3 _))), newsLive N9 (by k_mem)⟩
  · exact ⟨rfl, cycTok (newsOwn N9 (.tail _ (.head _))), ⟨_, _, _, newsOwn N9 (by k_mem)⟩, _, newsOwn N9 (by k_mem), by rw [← stored_absent hfr]; assumption⟩
end
section
set_option maxRecDepth 100000
open PySem PySem.W PySem.Calls PyProof.Rows
theorem reset_L24 : True := by
  w_top off
  trivial
variable {w : World} {B h : Heap}
theorem newsAdd {L : Addr} {l : List (Addr × Obj)} {a : Addr} {o : Obj} (N : News B L h l) (q : Own B h a o) (n : a ≠ L) : News B L h ((a, o) :: l) := fun p hp => by
  rcases List.mem_cons.1 hp with rfl | hp
  · exact ⟨q.1, n, q.2⟩
  · exact N p hp
inductive MksNew (B h h' : Heap) (fch fso x dx : Addr) : Prop
  | mk (gl ga wk k tw : _) (p0 : Own B h' dx (dictOf (mksEs k ⟨fch, fso, gl, ga, wk⟩ 0 tw) 6)) (p1 : Own B h' gl (listOf #[] 0)) (p2 : Own B h' ga (listOf #[] 0)) (p3 : Own B h' wk (listOf #[] 0)) (p4 : h.get? gl = none) (p5 : h.get? ga = none) (p6 : h.get? wk = none) (p7 : Nd [x, dx, gl, ga, wk])
theorem marks_con (W : Wd w B) (hB : Keep B h) {fch fso : Addr} :
    Con w B 2 136 [.ref fch, .ref fso] is0 h (fun v h' => NewP B h 136 (MksNew B h h' fch fso) v h') := by
  refine make_con W hB (fI := 42) (by kernel_rfl) (by kernel_rfl) (by kernel_rfl) fun h' x dx K U n1 n2 n3 o1 o2 => Con.mono (mkInit_con W K o1 o2 n3) (fun _ e => e) ?_
  rintro v h'' _ _ t9_4
  refine hide fun P9 hP9 => ?_
  rcases t9_4 with ⟨rfl, gl, ga, wk, k, tw, a1, a2, a3, a4, a5, a6, a7, a8⟩
  refine hP9 ?_; clear hP9 P9
  have m1 := o1.ne_fresh a5; have m2 := o1.ne_fresh a6; have m3 := o1.ne_fresh a7
  have m4 := o2.ne_fresh a5; have m5 := o2.ne_fresh a6; have m6 := o2.ne_fresh a7
  exact ⟨rfl, gl, ga, wk, k, tw, a1, a2, a3, a4, U.dead a5, U.dead a6, U.dead a7, ⟨⟨n3, m1, m2, m3, trivial⟩, ⟨m4, m5, m6, trivial⟩, a8⟩⟩
inductive CyI (B : Heap) (w : World) (h h' : Heap) (fch fso dx : Addr) : Prop
  | mk (od ma md rl gl ga wk ts k km tw t' oo : _) (p0 : Own B h' dx (dictOf (cycEs k t' ⟨od, ma, rl, ts⟩ ⟨0, 0, 0, 0, 256, 200, 200, 0⟩) 14)) (p1 : Own B h' ma (instObj 136 md)) (p2 : Own B h' md (dictOf (mksEs km ⟨fch, fso, gl, ga, wk⟩ 0 tw) 6)) (p3 : Own B h' od oo) (p4 : oo.IsDictOf (PySem.intKind PySem.Challenge.rw_rh0162_01.row.prog w) []) (p5 : (od == sysModules) = false) (p6 : Own B h' rl (listOf #[] 0)) (p7 : Own B h' gl (listOf #[] 0)) (p8 : Own B h' ga (listOf #[] 0)) (p9 : Own B h' wk (listOf #[] 0)) (p10 : Own B h' ts (listOf #[] 0)) (p11 : (∀ a ∈ [od, ma, md, rl, gl, ga, wk, ts], h.get? a = none)) (p12 : Nd [od, ma, md, rl, gl, ga, wk, ts])
inductive CyNew (B : Heap) (w : World) (h h' : Heap) (fch fso x dx : Addr) : Prop
  | mk (od ma md rl gl ga wk ts k km tw t' oo : _) (p0 : Own B h' dx (dictOf (cycEs k t' ⟨od, ma, rl, ts⟩ ⟨0, 0, 0, 0, 256, 200, 200, 0⟩) 14)) (p1 : Own B h' ma (instObj 136 md)) (p2 : Own B h' md (dictOf (mksEs km ⟨fch, fso, gl, ga, wk⟩ 0 tw) 6)) (p3 : Own B h' od oo) (p4 : oo.IsDictOf (PySem.intKind PySem.Challenge.rw_rh0162_01.row.prog w) []) (p5 : (od == sysModules) = false) (p6 : Own B h' rl (listOf #[] 0)) (p7 : Own B h' gl (listOf #[] 0)) (p8 : Own B h' ga (listOf #[] 0)) (p9 : Own B h' wk (listOf #[] 0)) (p10 : Own B h' ts (listOf #[] 0)) (p11 : (∀ a ∈ [od, ma, md, rl, gl, ga, wk, ts], h.get? a = none)) (p12 : Nd [od, ma, md, rl, gl, ga, wk, ts]) (p13 : ∀ a ∈ [od, ma, md, rl, gl, ga, wk, ts], NeN x a ∧ NeN dx a)
set_option maxHeartbeats 2000000 in
theorem cyInit_con (W : Wd w B) (hB : Keep B h) {x dx fch fso : Addr} (h1 : Own B h x (instObj 346 dx)) (h2 : Own B h dx (dictOf [] 0)) (hne : NeN x dx) :
    Con w B 4 182 [.ref x, .ref fch, .ref fso] (is1 dx) h (fun v h' => v = .none ∧ CyI B w h h' fch fso dx) := by
  have W0 := W; (first | (have X9 : ∀ w9 : World, (Mine.hd.heap_39 w9.params).In default → PySem.Challenge.rw_rh0162_01 = PySem.Challenge.rw_rh0162_01 := by (k_fill; fail)) | skip)
  k_dflt (refine' Con.start [("self", .ref x), ("children", .ref fch), ("sort_of", .ref fso)] W hB (.cons h1 (.cons h2 .nil)) rfl ?ho ?hcd ?bind ?loc ?a ?b ?c ?d ?_; (case ho => k_is); (case hcd => k_is); (case bind => exact fun _ => BindsTo.of_eq rfl); (case loc => exact locs rfl); (case a => exact rfl); (case b => exact rfl); (case c => exact rfl); (case d => decide))
  intro p0 loose0 mean0 mg0 mb0 dp9 fr9 gd9 un9 s RR h₁ L rest tk Q' X T C R post hL F N hR hQ hQn; clear C
  dsimp only [List.cons_append, List.nil_append] at N
  change Rest B h [x, dx] rest at hR
  have hr0 := hR.off x (.head _)
  have hr1 := hR.off dx (.tail _ (.head _))
  have hh := R.handled
  k_steps
  (with_reducible rename Fr _ _ _ _ => F9); (with_reducible rename News _ _ _ _ => N9)
  have U0 := hR.upto (S := is1 dx) hB F9 N9 (by intro p hp; repeat (first | exact hp | apply List.Mem.tail)) (by
    refine allC (?_) (allC (?_) (List.forall_mem_nil _))
    · first | exact Or.inr ((newsOwn N9 (a := x) (by k_mem)).1.trans h1.1.symm) | exact Or.inl ⟨by first | exact rfl | exact Or.inl rfl | exact Or.inr rfl | exact Or.inr (Or.inl rfl) | exact Or.inr (Or.inr rfl) | exact Or.inr (Or.inr (Or.inr ⟨_, .head _, rfl⟩)) | exact Or.inr (Or.inr (Or.inl (by first | exact Mut.m0 _ | exact Mut.m1 _ | exact Mut.m2 _ | exact Mut.m3 _))), newsLive N9 (by k_mem)⟩
    · first | exact Or.inr ((newsOwn N9 (a := dx) (by k_mem)).1.trans h2.1.symm) | exact Or.inl ⟨by first | exact rfl | exact Or.inl rfl | exact Or.inr rfl | exact Or.inr (Or.inl rfl) | exact Or.inr (Or.inr rfl) | exact Or.inr (Or.inr (Or.inr ⟨_, .head _, rfl⟩)) | exact Or.inr (Or.inr (Or.inl (by first | exact Mut.m0 _ | exact Mut.m1 _ | exact Mut.m2 _ | exact Mut.m3 _))), newsLive N9 (by k_mem)⟩)
  rename_i d1 _ o1 lo1 _ _ hi1 _ l1 _
  refine Con.call (marks_con W0 (Keep.of_fr F9)) rfl (Room.deeper (R.le (by decide))) ?_
  rintro v9 H9 tk9 K9 U9 t9_5
  refine hide fun P9 hP9 => ?_
  rcases t9_5 with ⟨mx, mdx, e9, f1, f2, f3, g1, gl, ga, wk, km, tw, g2, g3, g4, g5, f4, f5, f6, nd9⟩
  refine hP9 ?_; clear hP9 P9
  subst e9
  have o9 := newsOwn N9 (a := dx) (.tail _ (.tail _ (.head _)))
  have n1 := o9.ne_fresh f1; have n2 := o9.ne_fresh f2; have n3 := o9.ne_fresh f4; have n4 := o9.ne_fresh f5; have n5 := o9.ne_fresh f6
  have od9 := newsOwn N9 (a := d1) (.head _)
  have u1 := od9.ne_fresh f1; have u2 := od9.ne_fresh f2; have u3 := od9.ne_fresh f4; have u4 := od9.ne_fresh f5; have u5 := od9.ne_fresh f6
  have F8 := frStep F9 U9 (fun x => x) base0
  have N8 := newsAdd (newsAdd (newsAdd (newsAdd (newsAdd (newsKeep N9 U9 (fun _ _ x => x)) g1 (neL_of_new F9 f1)) g2 (neL_of_new F9 f2)) g3 (neL_of_new F9 f4)) g4 (neL_of_new F9 f5)) g5 (neL_of_new F9 f6)
  clear F9 N9 o9
  dsimp only
  k_steps
  (with_reducible rename Fr _ _ _ _ => F9); (with_reducible rename News _ _ _ _ => N9)
  rename_i _ _ r1 _ m1 _ _ _ q1 _ m2 _ _ _ _ _ _ _ _ _ _
  refine hide fun P9 hP9 => ?_
  obtain ⟨k, t', b0⟩ := cyTok (newsOwn N9 (a := dx) (.tail _ (.tail _ (.tail _ (.tail _ (.tail _ (.tail _ (.tail _ (.tail _ (.tail _ (.head _)))))))))))
  refine hP9 ?_; clear hP9 P9
  have e1 := U0.dead f1; have e2 := U0.dead f2; have e4 := U0.dead f4; have e5 := U0.dead f5; have e6 := U0.dead f6
  have fd : h.get? d1 = none := fresh_of hR (newsOwn N9 (a := d1) (by k_mem)).2 (by repeat' (first | exact List.forall_mem_nil _ | refine allC ((by first | exact l1.1 | exact l1 | exact l1.2.1 | exact l1.2 | exact l1.2.2.1 | exact l1.2.2 | exact l1.2.2.2.1 | exact l1.2.2.2 | exact l1.2.2.2.2.1 | exact l1.2.2.2.2 | exact l1.2.2.2.2.2.1 | exact l1.2.2.2.2.2 | exact l1.2.2.2.2.2.2.1 | exact l1.2.2.2.2.2.2 | exact l1.2.2.2.2.2.2.2.1 | exact l1.2.2.2.2.2.2.2 | exact l1.2.2.2.2.2.2.2.2.1 | exact l1.2.2.2.2.2.2.2.2 | exact l1.2.2.2.2.2.2.2.2.2.1 | exact l1.2.2.2.2.2.2.2.2.2 | exact l1.2.2.2.2.2.2.2.2.2.2.1 | exact l1.2.2.2.2.2.2.2.2.2.2 | exact l1.2.2.2.2.2.2.2.2.2.2.2.1 | exact l1.2.2.2.2.2.2.2.2.2.2.2 | exact l1.2.2.2.2.2.2.2.2.2.2.2.2.1 | exact l1.2.2.2.2.2.2.2.2.2.2.2.2 | exact l1.2.2.2.2.2.2.2.2.2.2.2.2.2.1 | exact l1.2.2.2.2.2.2.2.2.2.2.2.2.2 | exact l1.2.2.2.2.2.2.2.2.2.2.2.2.2.2.1 | exact l1.2.2.2.2.2.2.2.2.2.2.2.2.2.2 | exact l1.2.2.2.2.2.2.2.2.2.2.2.2.2.2.2.1 | exact l1.2.2.2.2.2.2.2.2.2.2.2.2.2.2.2 | omega)) (?_))) l1.2.2
  have fr1 : h.get? r1 = none := fresh_of hR (newsOwn N9 (a := r1) (by k_mem)).2 (by repeat' (first | exact List.forall_mem_nil _ | refine allC ((by first | exact m1.1 | exact m1 | exact m1.2.1 | exact m1.2 | exact m1.2.2.1 | exact m1.2.2 | exact m1.2.2.2.1 | exact m1.2.2.2 | exact m1.2.2.2.2.1 | exact m1.2.2.2.2 | exact m1.2.2.2.2.2.1 | exact m1.2.2.2.2.2 | exact m1.2.2.2.2.2.2.1 | exact m1.2.2.2.2.2.2 | exact m1.2.2.2.2.2.2.2.1 | exact m1.2.2.2.2.2.2.2 | exact m1.2.2.2.2.2.2.2.2.1 | exact m1.2.2.2.2.2.2.2.2 | exact m1.2.2.2.2.2.2.2.2.2.1 | exact m1.2.2.2.2.2.2.2.2.2 | exact m1.2.2.2.2.2.2.2.2.2.2.1 | exact m1.2.2.2.2.2.2.2.2.2.2 | exact m1.2.2.2.2.2.2.2.2.2.2.2.1 | exact m1.2.2.2.2.2.2.2.2.2.2.2 | exact m1.2.2.2.2.2.2.2.2.2.2.2.2.1 | exact m1.2.2.2.2.2.2.2.2.2.2.2.2 | exact m1.2.2.2.2.2.2.2.2.2.2.2.2.2.1 | exact m1.2.2.2.2.2.2.2.2.2.2.2.2.2 | exact m1.2.2.2.2.2.2.2.2.2.2.2.2.2.2.1 | exact m1.2.2.2.2.2.2.2.2.2.2.2.2.2.2 | exact m1.2.2.2.2.2.2.2.2.2.2.2.2.2.2.2.1 | exact m1.2.2.2.2.2.2.2.2.2.2.2.2.2.2.2 | omega)) (?_))) m1.2.2.2.2.2.2.2.2
  have fq1 : h.get? q1 = none := fresh_of hR (newsOwn N9 (a := q1) (by k_mem)).2 (by repeat' (first | exact List.forall_mem_nil _ | refine allC ((by first | exact m2.1 | exact m2 | exact m2.2.1 | exact m2.2 | exact m2.2.2.1 | exact m2.2.2 | exact m2.2.2.2.1 | exact m2.2.2.2 | exact m2.2.2.2.2.1 | exact m2.2.2.2.2 | exact m2.2.2.2.2.2.1 | exact m2.2.2.2.2.2 | exact m2.2.2.2.2.2.2.1 | exact m2.2.2.2.2.2.2 | exact m2.2.2.2.2.2.2.2.1 | exact m2.2.2.2.2.2.2.2 | exact m2.2.2.2.2.2.2.2.2.1 | exact m2.2.2.2.2.2.2.2.2 | exact m2.2.2.2.2.2.2.2.2.2.1 | exact m2.2.2.2.2.2.2.2.2.2 | exact m2.2.2.2.2.2.2.2.2.2.2.1 | exact m2.2.2.2.2.2.2.2.2.2.2 | exact m2.2.2.2.2.2.2.2.2.2.2.2.1 | exact m2.2.2.2.2.2.2.2.2.2.2.2 | exact m2.2.2.2.2.2.2.2.2.2.2.2.2.1 | exact m2.2.2.2.2.2.2.2.2.2.2.2.2 | exact m2.2.2.2.2.2.2.2.2.2.2.2.2.2.1 | exact m2.2.2.2.2.2.2.2.2.2.2.2.2.2 | exact m2.2.2.2.2.2.2.2.2.2.2.2.2.2.2.1 | exact m2.2.2.2.2.2.2.2.2.2.2.2.2.2.2 | exact m2.2.2.2.2.2.2.2.2.2.2.2.2.2.2.2.1 | exact m2.2.2.2.2.2.2.2.2.2.2.2.2.2.2.2 | omega)) (?_))) m2.2.2.2.2.2.2.2.2.2
  obtain ⟨nd9_0_1, nd9_0_2, nd9_0_3, nd9_0_4, nd9_1_2, nd9_1_3, nd9_1_4, nd9_2_3, nd9_2_4, nd9_3_4⟩ := Nd.o5 nd9
  have j1 : NeN r1 q1 := Nat.ne_of_lt (by omega)
  have j2 : NeN d1 r1 := Nat.ne_of_lt (by omega)
  have j3 : NeN d1 q1 := Nat.ne_of_lt (by omega)
  have j4 : NeN mx r1 := Nat.ne_of_lt (by omega)
  have j5 : NeN mx q1 := Nat.ne_of_lt (by omega)
  have j6 : NeN mdx r1 := Nat.ne_of_lt (by omega)
  have j7 : NeN mdx q1 := Nat.ne_of_lt (by omega)
  have j8 : NeN gl r1 := Nat.ne_of_lt (by omega)
  have j9 : NeN gl q1 := Nat.ne_of_lt (by omega)
  have i1 : NeN ga r1 := Nat.ne_of_lt (by omega)
  have i2 : NeN ga q1 := Nat.ne_of_lt (by omega)
  have i3 : NeN wk r1 := Nat.ne_of_lt (by omega)
  have i4 : NeN wk q1 := Nat.ne_of_lt (by omega)
  (with_reducible rename Fr _ _ _ _ => F9); (with_reducible rename News _ _ _ _ => N9)
  refine hQn _ (post _ _ _ (Keep.of_fr F9) (hR.upto hB F9 N9 (by intro p hp; repeat (first | exact hp | apply List.Mem.tail)) ?_) ?_)
  · refine allC (?_) (allC (?_) (List.forall_mem_nil _))
    · first | exact Or.inr ((newsOwn N9 (a := x) (by k_mem)).1.trans h1.1.symm) | exact Or.inl ⟨by first | exact rfl | exact Or.inl rfl | exact Or.inr rfl | exact Or.inr (Or.inl rfl) | exact Or.inr (Or.inr rfl) | exact Or.inr (Or.inr (Or.inr ⟨_, .head _, rfl⟩)) | exact Or.inr (Or.inr (Or.inl (by first | exact Mut.m0 _ | exact Mut.m1 _ | exact Mut.m2 _ | exact Mut.m3 _))), newsLive N9 (by k_mem)⟩
    · first | exact Or.inr ((newsOwn N9 (a := dx) (by k_mem)).1.trans h2.1.symm) | exact Or.inl ⟨by first | exact rfl | exact Or.inl rfl | exact Or.inr rfl | exact Or.inr (Or.inl rfl) | exact Or.inr (Or.inr rfl) | exact Or.inr (Or.inr (Or.inr ⟨_, .head _, rfl⟩)) | exact Or.inr (Or.inr (Or.inl (by first | exact Mut.m0 _ | exact Mut.m1 _ | exact Mut.m2 _ | exact Mut.m3 _))), newsLive N9 (by k_mem)⟩
  · exact ⟨rfl, d1, mx, mdx, r1, gl, ga, wk, q1, k, km, tw, t', o1, b0, newsOwn N9 (by k_mem), newsOwn N9 (by k_mem), newsOwn N9 (by k_mem), hi1, lo1, newsOwn N9 (by k_mem), newsOwn N9 (by k_mem), newsOwn N9 (by k_mem), newsOwn N9 (by k_mem), newsOwn N9 (by k_mem), allC (fd) (allC (e1) (allC (e2) (allC (fr1) (allC (e4) (allC (e5) (allC (e6) (allC (fq1) (List.forall_mem_nil _)))))))), (by (first | refine Nd.m3 ?_ | refine Nd.m4 ?_ | refine Nd.m5 ?_ | refine Nd.m6 ?_ | refine Nd.m7 ?_ | refine Nd.m8 ?_ | refine Nd.m11 ?_) <;> constructor <;> first | assumption | (refine NeN.symm ?_; assumption))⟩
theorem cycle_con (W : Wd w B) (hB : Keep B h) {fch fso : Addr} :
    Con w B 5 346 [.ref fch, .ref fso] is0 h (fun v h' => NewP B h 346 (CyNew B w h h' fch fso) v h') := by
  refine make_con W hB (fI := 182) (by kernel_rfl) (by kernel_rfl) (by kernel_rfl) fun h' x dx K U n1 n2 n3 o1 o2 => Con.mono (cyInit_con W K o1 o2 n3) (fun _ e => e) ?_
  rintro v h'' _ _ t9_4
  refine hide fun P9 hP9 => ?_
  rcases t9_4 with ⟨rfl, od, ma, md, rl, gl, ga, wk, ts, k, km, tw, t', oo, a1, a2, a3, a4, a5, a6, a7, a8, a9, a10, a11, fr, nd⟩
  refine hP9 ?_; clear hP9 P9
  refine ⟨rfl, od, ma, md, rl, gl, ga, wk, ts, k, km, tw, t', oo, a1, a2, a3, a4, a5, a6, a7, a8, a9, a10, a11, fun a ha => U.dead (fr a ha), nd, fun a ha => ⟨o1.ne_fresh (fr a ha), o2.ne_fresh (fr a ha)⟩⟩
theorem obj_con (W : Wd w B) (hB : Keep B h) {num sz : Int} {t1 t2 : Tok} :
    Con w B 2 367 [.int num t1, .int sz t2] is0 h (fun v h' => NewP B h 367 (fun _ dx => ∃ k t1 t2 t3, Own B h' dx (dictOf (thEs k num 0 sz t1 t2 t3) 3)) v h') := by
  refine make_con W hB (fI := 364) (by kernel_rfl) (by kernel_rfl) (by kernel_rfl) fun h' x dx K U n1 n2 n3 o1 o2 => objInit_con W K o1 o2 n3
end
section
set_option maxRecDepth 100000
open PySem PySem.W PySem.Calls PyProof.Rows
theorem reset_L25a : True := by
  w_top off
  trivial
section
variable {M : Model} {A : Around} {E : Value → Shared → Prop} {s : Shared} {h₀ : Heap} {L a c P : Addr} {m mg mb : Str → Option Value} {cn : Str} {cs : Scope} {ccd : Value} {cl : List (Str × Addr)} {news : List (Addr × Obj)} {g : Obj → List (Addr × Obj)}
  {p : Program} {loose : List Str} {mean : ExcName → Option Value} {params : Arguments} {body : Expr} {scope : Scope} {ps : Array Value} {pos : PySem.Pos} {clos : List (Str × Addr)}
/-- a lambda is made: its code anew, or the code that stands already -/
theorem lam_any {Q : Value → Shared → Prop} (F : Fr h₀ L s.heap m) (N : News h₀ L s.heap news) (T : Top p loose mean mg mb h₀) (C : CodeHd h₀ c P) (hcd : ccd = .ref c) (U : UpdF P (tabObj ps) news g) (ht : TriplesOk ps.toList)
    (hc : codeAmong pos ps.toList = none ∨ ∃ c' oc vs t, codeAmong pos ps.toList = some (.ref c') ∧ (c', oc) ∈ news ∧ oc.data = .fields vs ∧ vs[1]? = some (.str ((envX cn cs L a ccd cl).qual ++ "<lambda>") t))
    (hdef : defaultsOf params (envX cn cs L a ccd cl) = ([], []))
    (hcl : closureFor scope (envX cn cs L a ccd cl) = pure clos)
    (h : ∀ f c' oc vs t ctv ps' h' tk, Fr h₀ L h' m →
      News h₀ L h' ((f, kla_obj "<lambda>" ((envX cn cs L a ccd cl).qual ++ "<lambda>") params body scope clos ((mg "__name__").getD .none) c' ctv) :: (c', oc) :: g (tabObj ps')) →
      oc.data = .fields vs → vs[1]? = some (.str ((envX cn cs L a ccd cl).qual ++ "<lambda>") t) → (∀ q ∈ news, q.1 < f) → c' < f →
      ((ps' = ps ∧ codeAmong pos ps.toList = some (.ref c') ∧ (c', oc) ∈ news) ∨ (codeAmong pos ps.toList = none ∧ ps' = ps ++ #[rawInt pos.line, rawInt pos.col, .ref c'] ∧ ∀ q ∈ news, q.1 < c')) → Q (.ref f) { s with heap := h', toks := tk }) :
    wpAny M A (eval (.Lambda params body scope pos) (envX cn cs L a ccd cl)) Q E s := by
  refine kla_eval hdef ?_
  refine hide fun P9 hP9 => ?_
  (rcases hc with hc | ⟨c', oc, vs, t, hc, hm, hd, hv⟩) <;> (refine hP9 ?_; clear hP9 P9)
  · exact kla_nest F N T C hcd U ht hc hcl fun f c' oc vs t ctv h' tk F' N' hd hv l1 l2 => h f c' oc vs t ctv _ h' tk F' N' hd hv (fun q hq => Nat.lt_trans (l1 q hq) l2) l2 (.inr ⟨hc, rfl, l1⟩)
  · refine hide fun P9 hP9 => ?_
    obtain ⟨own, rest, rfl, hgr, h1, h2⟩ := U.split
    refine hP9 ?_; clear hP9 P9
    refine kla_hit F N T C hcd (List.mem_append_right _ (.head _)) ht hc hcl fun f ctv h' tk F' N' l1 => h f c' oc vs t ctv ps h' tk F' ?_ hd hv l1 (l1 _ hm) (.inl ⟨rfl, hc, hm⟩)
    rw [hgr]
    intro q hq
    rcases List.mem_cons.1 hq with rfl | hq
    · exact N' _ (.head _)
    · rcases List.mem_cons.1 hq with rfl | hq
      · exact N' _ (.tail _ hm)
      · exact N' _ (.tail _ hq)
end
section
variable {prog : Program} {w : World} {A : Around} {s : Shared} {env : Env}
theorem bind_two {x y : Str} {v u : Value} {o : Option (Value × Value)} {m : Str → Option Value} : (fun z => if z = y then some v else if z = x then some u else match o with | none => m z | some q => if z = y then some q.1 else if z = x then some q.2 else m z) = fun z => if z = y then some v else if z = x then some u else m z := by
  funext z
  by_cases h1 : z = y
  · rw [if_pos h1, if_pos h1]
  · rw [if_neg h1, if_neg h1]
    by_cases h2 : z = x
    · rw [if_pos h2, if_pos h2]
    · rw [if_neg h2, if_neg h2]
      cases o with
      | none => rfl
      | some q => show (if z = y then some q.1 else if z = x then some q.2 else m z) = _; rw [if_neg h1, if_neg h2]
inductive EnI (B : Heap) (L : Addr) (x y : Str) (m : Str → Option Value) (S : Addr → Prop) (P : Nat → Heap → Prop) (s : Shared) (I l : Addr) (items : Array Value) (n k : Nat) (s' : Shared) : Prop
  | mk (i h tk : _) (u : Option (Value × Value)) (p0 : s' = { s with heap := h, toks := tk }) (p1 : Fr B L h (fun z => match u with | none => m z | some q => if z = y then some q.1 else if z = x then some q.2 else m z)) (p2 : Upto (orL S L) s.heap h) (p3 : P i h) (p4 : ((∃ old, IsEnum h (I + 1) I i old) ∧ h.IsListIter I l i ∧ h.IsList l items)) (p5 : Own B h l (listOf items n)) (p6 : i ≤ items.size) (p7 : (i = 0 ∨ u.isSome)) (p8 : k = items.size + 1 - i)
/-- a for over enumerate(list) -/
theorem enumGo {B : Heap} {l : Addr} {m : Str → Option Value} {items : Array Value} {n : Nat} {x y : Str} {px py pt : PySem.Pos} {k1 : Nat} {body : List Stmt} {Q : Flow → Shared → Prop} (S : Addr → Prop) (P : Nat → Heap → Prop)
    (hh : A.handled = none) (F : Fr B env.locals s.heap m) (hl : Own B s.heap l (listOf items n)) (hlL : l ≠ env.locals) (hSl : ¬ S l) (hSL : ¬ S env.locals) (hSI : ∀ a, S a → (s.heap.get? a).isSome)
    (h0 : P 0 s.heap) (hpos : 0 < items.size) (hst : ∀ i h h', (∀ a o, NeN a env.locals → (s.heap.get? a).isSome → h.get? a = some o → h'.get? a = some o) → P i h → P i h')
    (turn : ∀ (i : Nat) v t h tk, items[i]? = some v → Fr B env.locals h (fun z => if z = y then some v else if z = x then some (.int (i : Int) t) else m z) → Upto (orL S env.locals) s.heap h → Own B h l (listOf items n) → P i h →
      wpAny (model prog w) A (execs body env) (FStep B env.locals (fun z => if z = y then some v else if z = x then some (.int (i : Int) t) else m z) S (P (i + 1)) h s) (fun _ _ => False) { s with heap := h, toks := tk })
    (done : ∀ h tk (v u : Value), Fr B env.locals h (fun z => if z = y then some v else if z = x then some u else m z) → Upto (orL S env.locals) s.heap h → P items.size h → Q .next { s with heap := h, toks := tk })
    (hx : env.kindOf x = some .local) (hy : env.kindOf y = some .local) (hp : (env.scope.kind == .class || (env.scope.kind == .module && env.locals != env.globals)) = false) :
    wpAny (model prog w) A (call (.type "enumerate") [.ref l]) (fun v s₁ => ForGo (model prog w) A env (.Tuple [.Name x px, .Name y py] k1 pt) body Q v s₁) (fun _ _ => False) s := by
  have hls : s.heap.IsList l items := ⟨_, hl.1, rfl, n, rfl⟩
  have hIn : s.heap.get? s.heap.objs.size = none := none_of_le (Nat.le_refl _)
  have hIn1 : s.heap.get? (s.heap.objs.size + 1) = none := none_of_le (Nat.le_succ _)
  have hlt : @LT.lt Nat _ l s.heap.objs.size := Heap.lt_size hl.1
  have hLt : @LT.lt Nat _ env.locals s.heap.objs.size := F.ns.lt
  have bn : ∀ {b : Addr}, s.heap.get? b = none → B.get? b = none := fun {b} e => by
    cases hq : B.get? b with
    | none => rfl
    | some o => rw [F.keep _ _ hq] at e; cases e
  have hBL : B.get? env.locals = none := none_of_le F.above
  refine call_enumerate_list hls fun h0' hE hI hsz hk => ?_
  refine wpAny_pyIter_enum hE ?_
  have W := WalksT.enumerate (prog := prog) (w := w) hh (s.heap.objs.size + 1) s.heap.objs.size l (Nat.succ_ne_self _) (Nat.ne_of_lt (Nat.lt_succ_of_lt hlt)) (Nat.ne_of_lt hlt) items
  let wr : Addr → Prop := fun a => a = s.heap.objs.size + 1 ∨ a = s.heap.objs.size
  have wrn : ∀ a, wr a → s.heap.get? a = none := fun a e => by rcases e with rfl | rfl <;> assumption
  have wrB : ∀ a, wr a → B.get? a = none := fun a e => bn (wrn a e)
  have wrL : ¬ wr env.locals := fun e => by rcases e with e | e <;> (have e' : @Eq Nat env.locals _ := e; omega)
  have wrl : ¬ wr l := fun e => by rcases e with e | e <;> (have e' : @Eq Nat l _ := e; omega)
  have wrS : ∀ a, wr a → ¬ S a := fun a e q => by have := hSI a q; rw [wrn a e] at this; cases this
  have stepW : ∀ {h h' : Heap}, (∀ b o, b ∉ [s.heap.objs.size + 1, s.heap.objs.size] → h.get? b = some o → h'.get? b = some o) → (∀ a, wr a → (h'.get? a).isSome) → Upto wr h h' := fun {h h'} k q =>
    ⟨fun a o hn e => k a o (fun hm => hn (by simpa [wr] using hm)) e, fun a e => by
      by_cases hq : wr a
      · exact q a hq
      · obtain ⟨o, ho⟩ := Option.isSome_iff_exists.mp e
        rw [k a o (fun hm => hq (by simpa [wr] using hm)) ho]; rfl⟩
  have upW : ∀ {h h' : Heap}, Upto (orL S env.locals) s.heap h → Upto wr h h' → Upto (orL S env.locals) s.heap h' := fun a b => a.trans b (fun _ x => x) (fun a e f => not_live (wrn a e) f)
  have upL : ∀ {h h' : Heap}, Upto (orL S env.locals) s.heap h → Upto (is1 env.locals) h h' → Upto (orL S env.locals) s.heap h' := fun a b => a.trans b (fun _ x => x) (fun a e _ => .inr e)
  have frW : ∀ {h h' : Heap} {mm : Str → Option Value}, Fr B env.locals h mm → Upto wr h h' → Fr B env.locals h' mm := fun f u => u.fr f wrL wrB
  have stW : ∀ {i : Nat} {h h' : Heap}, Upto wr h h' → P i h → P i h' := fun {i h h'} u q => hst i h h' (fun a o _ l e => u.same a o (fun r => not_live (wrn a r) l) e) q
  have stL : ∀ {i : Nat} {h h' : Heap}, Upto (is1 env.locals) h h' → P i h → P i h' := fun {i h h'} u q => hst i h h' (fun a o r _ e => u.same a o r e) q
  have liveSt : ∀ {i : Nat} {h : Heap}, ((∃ old, IsEnum h (s.heap.objs.size + 1) s.heap.objs.size i old) ∧ h.IsListIter s.heap.objs.size l i ∧ h.IsList l items) → ∀ a, wr a → (h.get? a).isSome := fun {i h} q a e => by
    refine hide fun P9 hP9 => ?_
    obtain ⟨⟨old, q1⟩, ⟨o, q2, _⟩, _⟩ := q
    refine hP9 ?_; clear hP9 P9
    rcases e with rfl | rfl
    · rw [q1]; rfl
    · rw [q2]; rfl
  refine codeAny_forLoop_any (EnI B env.locals x y m S P s s.heap.objs.size l items n) ?_ (items.size + 1) ?_
  · rintro k s' ⟨i, h, tk, u, rfl, F', U', hP, hst', hO, hi, hu, rfl⟩
    by_cases hlt2 : i < items.size
    · refine W.item i _ _ _ hlt2 hst' fun T vals h₁ tk₁ hPt _ hT hMid hk₁ => ?_
      refine hide fun P9 hP9 => ?_
      obtain ⟨t, v, hv, rfl⟩ := hPt
      refine hP9 ?_; clear hP9 P9
      have lv1 : ∀ a, wr a → (h₁.get? a).isSome := fun a e => by
        refine hide fun P9 hP9 => ?_
        obtain ⟨⟨x9, q1⟩, ⟨o, q2, _⟩, _⟩ := hMid
        refine hP9 ?_; clear hP9 P9
        rcases e with rfl | rfl
        · rw [show h₁.get? (s.heap.objs.size + 1) = _ from q1]; rfl
        · rw [q2]; rfl
      have U₁ := stepW hk₁ lv1
      refine W.go _ k1 pt i T _ _ _ hMid fun h₂ hst₂ hk₂ => ?_
      have ht₂ : h₂.IsTuple T #[.int i t, v] := hT.at fun o e => hk₂ T o (W.apart i T h₁ hMid) e
      have U₂ := stepW hk₂ (liveSt hst₂)
      refine wpAny_assign_Tuple hh ht₂ rfl rfl fun h₃ hx₃ => ?_
      replace hx₃ : Heap.ExtBut h₂.objs.size h₂ h₃ := hx₃
      have up₃ : ∀ b o, h₂.get? b = some o → h₃.get? b = some o := fun b o x => hx₃ b o (Nat.ne_of_lt (Heap.lt_size x)) x
      have U₃ : Upto wr h₂ h₃ := ⟨fun a o _ e => up₃ a o e, fun a e => by obtain ⟨o, ho⟩ := Option.isSome_iff_exists.mp e; rw [up₃ a o ho]; rfl⟩
      have F₃ := frW (frW (frW F' U₁) U₂) U₃
      have UU := upW (upW (upW U' U₁) U₂) U₃
      have PP := stW U₃ (stW U₂ (stW U₁ hP))
      have OO := U₃.own (U₂.own (U₁.own hO wrl) wrl) wrl
      show wpAny _ A (do holding [v] (assign (.Name x px) env (.int i t)); do holding [] (assign (.Name y py) env v); pure ()) _ _ _
      have setL : ∀ {h h' : Heap} {mm : Str → Option Value}, h'.Ns env.locals mm → Heap.SameBut env.locals h h' → Upto (is1 env.locals) h h' := fun {h h' mm} hn hs => ⟨fun a o hn' e => (hs.2 a hn').trans e, fun a e => by
        by_cases hq : a = env.locals
        · refine hide fun P9 hP9 => ?_
          obtain ⟨o, _, _, ho, _⟩ := hn
          refine hP9 ?_; clear hP9 P9
          rw [hq, ho]; rfl
        · rw [hs.2 a hq]; exact e⟩
      refine wpAny_bind (wpAny_holding (wpAny_assign_Name (wpAny_storeName_local hx F₃.ns (fun h₄ hn₄ hs₄ => ?_) hp)))
      replace hs₄ : Heap.SameBut env.locals h₃ h₄ := hs₄
      have U₄ := setL hn₄ hs₄
      have F₄ := F₃.set hn₄ hs₄
      refine wpAny_bind (wpAny_holding (wpAny_assign_Name (wpAny_storeName_local hy F₄.ns (fun h₅ hn₅ hs₅ => wpAny_pure ?_) hp)))
      replace hs₅ : Heap.SameBut env.locals h₄ h₅ := hs₅
      have U₅ := setL hn₅ hs₅
      have F₅ := F₄.set hn₅ hs₅
      rw [bind_two] at F₅
      have hlL' : l ≠ env.locals := hlL
      have O₅ := U₅.own (S := is1 env.locals) (U₄.own (S := is1 env.locals) OO hlL') hlL'
      have UU₅ := upL (upL UU U₄) U₅
      refine wpAny_mono (turn i v t h₅ _ hv F₅ UU₅ O₅ (stL U₅ (stL U₄ PP))) (fun f s₃ q => ?_) fun _ _ e => e.elim
      refine hide fun P9 hP9 => ?_
      obtain ⟨rfl, h₆, tk₆, rfl, F₆, U₆, hP₆⟩ := q
      refine hP9 ?_; clear hP9 P9
      have hst₆ : (∃ old, IsEnum h₆ (s.heap.objs.size + 1) s.heap.objs.size ((i + 1 : Nat) : Int) old) ∧ h₆.IsListIter s.heap.objs.size l (i + 1) ∧ h₆.IsList l items := by
        refine W.frame _ h₂ h₆ hst₂ fun b hb o e => ?_
        have nb : b ≠ env.locals ∧ ¬ S b := by
          simp only [List.mem_cons, List.not_mem_nil, or_false] at hb
          rcases hb with rfl | rfl | rfl
          · exact ⟨fun e => wrL (.inl e.symm), wrS _ (.inl rfl)⟩
          · exact ⟨fun e => wrL (.inr e.symm), wrS _ (.inr rfl)⟩
          · exact ⟨hlL, hSl⟩
        exact U₆.same b o nb.2 (U₅.same b o nb.1 (U₄.same b o nb.1 (up₃ b o e)))
      refine ⟨items.size + 1 - (i + 1), by omega, i + 1, h₆, tk₆, some (v, .int i t), rfl, F₆, UU₅.trans U₆ (fun _ e => e) (fun _ e _ => .inl e), hP₆, hst₆, U₆.own O₅ hSl, hlt2, .inr rfl, rfl⟩
    · have hin : i = items.size := by omega
      subst hin
      refine W.done _ _ _ hst' fun h₁ tk₁ hk₁ => wpAny_execs_nil ?_
      obtain ⟨u, rfl⟩ : ∃ q, u = some q := by
        rcases hu with e | e
        · omega
        · exact Option.isSome_iff_exists.mp e
      have hI' : ∀ a, (s.heap.get? a).isSome → a ∉ [s.heap.objs.size + 1, s.heap.objs.size] := fun a q hm => not_live (wrn a (by simpa [wr] using hm)) q
      have hBk : ∀ b o, B.get? b = some o → b ∉ [s.heap.objs.size + 1, s.heap.objs.size] := fun b o e hm => by rw [wrB b (by simpa [wr] using hm)] at e; cases e
      refine done h₁ tk₁ u.1 u.2 ?_ ⟨fun a o hn e => hk₁ a o (hI' a (by rw [e]; rfl)) (U'.same a o hn e), fun a e => ?_⟩ (hst _ h h₁ (fun a o _ q e => hk₁ a o (hI' a q) e) hP)
      · refine hide fun P9 hP9 => ?_
        obtain ⟨⟨o, es, ep, q1, q2⟩, q3, q4⟩ := F'
        refine hP9 ?_; clear hP9 P9
        exact ⟨⟨o, es, ep, hk₁ _ _ (fun hm => wrL (by simpa [wr] using hm)) q1, q2⟩, fun b o e => hk₁ b o (hBk b o e) (q3 b o e), q4⟩
      · obtain ⟨o, ho⟩ := Option.isSome_iff_exists.mp (U'.live a e)
        rw [hk₁ a o (hI' a e) ho]; rfl
  · have hk' : Upto wr s.heap h0' := ⟨fun a o _ e => hk a o e, fun a e => by obtain ⟨o, ho⟩ := Option.isSome_iff_exists.mp e; rw [hk a o ho]; rfl⟩
    exact ⟨0, h0', s.toks, none, rfl, frW F hk', upW (Upto.refl _ _) hk', stW hk' h0, ⟨⟨.none, hE⟩, hI, ⟨_, hk _ _ hl.1, rfl, n, rfl⟩⟩, hk'.own hl wrl, Nat.zero_le _, .inl rfl, rfl⟩
end
end
section
set_option maxRecDepth 100000
open PySem PySem.W PySem.Calls PyProof.Rows
theorem reset_L25b : True := by
  w_top off
  trivial
variable {w : World} {B h : Heap}
/-- between two turns of the loop that takes the things in -/
inductive LhI (w : World) (B : Heap) (cd od ma rl ts : Addr) (k : Ky) (xs : List Th) (ns : List Int) (i : Nat) (h : Heap) : Prop
  | mk (ys : List Th) (oo : Obj) (t : CycT) (p0 : ys.length = i) (p1 : (∀ (j : Nat) (y : Th), ys[j]? = some y → ∃ x, xs[j]? = some x ∧ y.t = x.t ∧ y.td = x.td ∧ y.num = (j : Int) + 1 ∧ y.mrk = 0 ∧ y.sz = ns.getD j 0)) (p2 : (∀ y ∈ ys, Own B h y.td (dictOf (thEs y.k y.num y.mrk y.sz y.t1 y.t2 y.t3) 3))) (p3 : (∀ x ∈ xs.drop i, Own B h x.td (dictOf (thEs x.k x.num x.mrk x.sz x.t1 x.t2 x.t3) 3))) (p4 : Own B h cd (dictOf (cycEs k t ⟨od, ma, rl, ts⟩ ⟨0, (ns.take i).sum, 0, 0, 256, 200, 200, 0⟩) 14)) (p5 : Own B h od oo) (p6 : oo.IsDictOf (PySem.intKind PySem.Challenge.rw_rh0162_01.row.prog w) (ys.map fun y => (y.num, y.ref)))
def lhS (cd od : Addr) (xs : List Th) : Addr → Prop := fun a => a = cd ∨ a = od ∨ ∃ x ∈ xs, a = x.td
theorem LhI.st {cd od ma rl ts L : Addr} {k : Ky} {xs : List Th} {ns : List Int} {i : Nat} {h₀ h h' : Heap} (hst : ∀ a o, NeN a L → (h₀.get? a).isSome → h.get? a = some o → h'.get? a = some o) (h1 : NeN cd L ∧ (h₀.get? cd).isSome) (h2 : NeN od L ∧ (h₀.get? od).isSome)
    (h3 : ∀ x ∈ xs, NeN x.td L ∧ (h₀.get? x.td).isSome) (q : LhI w B cd od ma rl ts k xs ns i h) : LhI w B cd od ma rl ts k xs ns i h' := by
  refine hide fun P9 hP9 => ?_
  obtain ⟨ys, oo, t, e1, e2, e3, e4, e5, e6, e7⟩ := q
  refine hP9 ?_; clear hP9 P9
  refine ⟨ys, oo, t, e1, e2, fun y hy => ?_, fun x hx => (e4 x hx).st hst (h3 x (List.mem_of_mem_drop hx)).1 (h3 x (List.mem_of_mem_drop hx)).2, e5.st hst h1.1 h1.2, e6.st hst h2.1 h2.2, e7⟩
  refine hide fun P9 hP9 => ?_
  obtain ⟨j, hj⟩ := List.getElem?_of_mem hy
  obtain ⟨x, hx, q1, q2, _⟩ := e2 j y hj
  refine hP9 ?_; clear hP9 P9
  have := h3 x (List.mem_of_getElem? hx)
  rw [← q2] at this
  exact (e3 y hy).st hst this.1 this.2
theorem LhI.start {cd od ma rl ts : Addr} {k : Ky} {xs : List Th} {ns : List Int} {oo : Obj} {t : CycT} (q1 : ∀ x ∈ xs, Own B h x.td (dictOf (thEs x.k x.num x.mrk x.sz x.t1 x.t2 x.t3) 3)) (q2 : Own B h cd (dictOf (cycEs k t ⟨od, ma, rl, ts⟩ ⟨0, 0, 0, 0, 256, 200, 200, 0⟩) 14))
    (q3 : Own B h od oo) (q4 : oo.IsDictOf (PySem.intKind PySem.Challenge.rw_rh0162_01.row.prog w) []) : LhI w B cd od ma rl ts k xs ns 0 h :=
  ⟨[], oo, t, rfl, nofun, nofun, q1, q2, q3, q4⟩
theorem sum_take {ns : List Int} {i : Nat} (hi : i < ns.length) : (ns.take (i + 1)).sum = (ns.take i).sum + ns.getD i 0 := by
  rw [List.take_succ_eq_append_getElem hi, List.sum_append, List.getD_eq_getElem?_getD, List.getElem?_eq_getElem hi]
  simp
theorem LhI.free {ys : List Th} {xs : List Th} {ns : List Int} (e2 : ∀ (j : Nat) (y : Th), ys[j]? = some y → ∃ x, xs[j]? = some x ∧ y.t = x.t ∧ y.td = x.td ∧ y.num = (j : Int) + 1 ∧ y.mrk = 0 ∧ y.sz = ns.getD j 0) :
    valueAt (ys.map fun y => (y.num, y.ref)) ((ys.length : Int) + 1) = none := by
  refine valueAt_none_of_not_mem fun hm => ?_
  rw [List.map_map] at hm
  refine hide fun P9 hP9 => ?_
  obtain ⟨y, hy, e⟩ := List.mem_map.1 hm
  obtain ⟨j, hj⟩ := List.getElem?_of_mem hy
  obtain ⟨_, _, _, _, q, _⟩ := e2 j y hj
  refine hP9 ?_; clear hP9 P9
  have : j < ys.length := (List.getElem?_eq_some_iff.1 hj).1
  have e' : y.num = (ys.length : Int) + 1 := e
  omega
/-- a thing is taken in -/
theorem LhI.step {cd od ma rl ts : Addr} {k : Ky} {xs : List Th} {ns : List Int} {i : Nat} {h' : Heap} {ys : List Th} {oo' : Obj} {x : Th} {t' : CycT} {t1 t2 t3 : Tok} (hi : i < ns.length) (hx : xs[i]? = some x) (hnd : (xs.map (·.td)).Nodup) (hlen : ys.length = i)
    (e2 : ∀ (j : Nat) (y : Th), ys[j]? = some y → ∃ x, xs[j]? = some x ∧ y.t = x.t ∧ y.td = x.td ∧ y.num = (j : Int) + 1 ∧ y.mrk = 0 ∧ y.sz = ns.getD j 0)
    (e3 : ∀ y ∈ ys, Own B h y.td (dictOf (thEs y.k y.num y.mrk y.sz y.t1 y.t2 y.t3) 3)) (e4 : ∀ x ∈ xs.drop i, Own B h x.td (dictOf (thEs x.k x.num x.mrk x.sz x.t1 x.t2 x.t3) 3))
    (U : Upto (is3 cd x.td od) h h') (hcd : ∀ x ∈ xs, NeN x.td cd ∧ NeN x.td od)
    (q1 : Own B h' cd (dictOf (cycEs k t' ⟨od, ma, rl, ts⟩ ⟨0, (ns.take i).sum + ns.getD i 0, 0, 0, 256, 200, 200, 0⟩) 14)) (q2 : Own B h' x.td (dictOf (thEs x.k ((i : Int) + 1) 0 (ns.getD i 0) t1 t2 t3) 3))
    (q3 : Own B h' od oo') (q4 : oo'.IsDictOf (PySem.intKind PySem.Challenge.rw_rh0162_01.row.prog w) ((ys.map fun y => (y.num, y.ref)) ++ [((i : Int) + 1, .ref x.t)])) : LhI w B cd od ma rl ts k xs ns (i + 1) h' := by
  have hxl : i < xs.length := (List.getElem?_eq_some_iff.1 hx).1
  have hne : ∀ (j : Nat) (z : Th), xs[j]? = some z → j ≠ i → NeN z.td x.td := fun j z hz hj e => by
    have hzl : j < xs.length := (List.getElem?_eq_some_iff.1 hz).1
    have a1 : (xs.map (·.td))[j]? = some x.td := by rw [List.getElem?_map, hz]; exact congrArg some e
    have a2 : (xs.map (·.td))[i]? = some x.td := by rw [List.getElem?_map, hx]; rfl
    have b1 : j < (xs.map (·.td)).length := by rw [List.length_map]; exact hzl
    exact hj ((List.getElem?_inj b1 hnd).1 (a1.trans a2.symm))
  refine ⟨ys ++ [⟨x.t, x.td, x.k, (i : Int) + 1, 0, ns.getD i 0, t1, t2, t3⟩], oo', t', by rw [List.length_append, hlen]; rfl, fun j y hy => ?_, fun y hy => ?_, fun z hz => ?_, by rw [sum_take hi]; exact q1, q3, by rw [List.map_append]; exact q4⟩
  · rcases Nat.lt_or_ge j ys.length with hj | hj
    · rw [List.getElem?_append_left hj] at hy; exact e2 j y hy
    · rw [List.getElem?_append_right hj] at hy
      have : j = i := by
        have := (List.getElem?_eq_some_iff.1 hy).1
        simp at this; omega
      subst this
      rw [hlen, Nat.sub_self] at hy
      cases hy
      exact ⟨x, hx, rfl, rfl, rfl, rfl, rfl⟩
  · rcases List.mem_append.1 hy with hy | hy
    · obtain ⟨j, hj⟩ := List.getElem?_of_mem hy
      refine hide fun P9 hP9 => ?_
      obtain ⟨z, hz, a1, a2, _⟩ := e2 j y hj
      refine hP9 ?_; clear hP9 P9
      have jl : j < ys.length := (List.getElem?_eq_some_iff.1 hj).1
      have n1 := hne j z hz (by omega)
      have n2 := hcd z (List.mem_of_getElem? hz)
      rw [← a2] at n1 n2
      exact U.own (e3 y hy) (nos3 n2.1 n1 n2.2)
    · rw [List.mem_singleton.1 hy]; exact q2
  · obtain ⟨j, hj⟩ := List.getElem?_of_mem hz
    rw [List.getElem?_drop] at hj
    have n1 := hne _ z hj (by omega)
    have n2 := hcd z (List.mem_of_getElem? hj)
    exact U.own (e4 z (List.mem_of_getElem? (i := j + 1) (by rw [List.getElem?_drop]; rw [← hj]; congr 1; omega))) (nos3 n2.1 n1 n2.2)
/-- the lambdas' code of a law's heap: not made yet, or made -/
inductive TabFull (B h : Heap) (ps : Array Value) : Prop
  | mk (c1 c2 o1 o2 vs1 vs2 t1 t2 : _) (p0 : ps = #[rawInt 295, rawInt 0, .ref c1, rawInt 296, rawInt 0, .ref c2]) (p1 : Own B h c1 o1) (p2 : o1.data = .fields vs1) (p3 : vs1[1]? = some (.str "_law_heap.<locals>.<lambda>" t1)) (p4 : Own B h c2 o2) (p5 : o2.data = .fields vs2) (p6 : vs2[1]? = some (.str "_law_heap.<locals>.<lambda>" t2)) (p7 : NeN c1 c2)
theorem code_ne_tab {c P : Addr} {oc : Obj} {vc ps : Array Value} {ql : Str} {t u : Tok} {i : Int} (q : Own B h c oc) (d : oc.data = .fields vc) (v : vc[1]? = some (.str ql t)) (r : Own B h P (tabObj ps)) (e : ps[1]? = some (.int i u)) : NeN c P := fun e1 => by
  cases (e1 : c = P)
  have := q.inj r; subst this
  cases d
  rw [e] at v; cases v
def TabOk (B h : Heap) (ps : Array Value) : Prop := ps = #[] ∨ TabFull B h ps
theorem TabOk.triples {ps : Array Value} (q : TabOk B h ps) : TriplesOk ps.toList := by
  refine hide fun P9 hP9 => ?_
  (rcases q with rfl | ⟨c1, c2, _, _, _, _, _, _, rfl, _⟩) <;> (refine hP9 ?_; clear hP9 P9)
  · exact trivial
  · exact trivial
def p1 : PySem.Pos := ⟨295, 0, 295, 49⟩
def p2 : PySem.Pos := ⟨296, 0, 296, 22⟩
theorem among1 {c1 c2 : Value} : codeAmong p1 (#[rawInt 295, rawInt 0, c1, rawInt 296, rawInt 0, c2] : Array Value).toList = some c1 := rfl
theorem among2 {c1 c2 : Value} : codeAmong p2 (#[rawInt 295, rawInt 0, c1, rawInt 296, rawInt 0, c2] : Array Value).toList = some c2 := rfl
theorem among3 {c1 : Value} : codeAmong p2 (#[rawInt 295, rawInt 0, c1] : Array Value).toList = none := rfl
theorem TabOk.notCode {sl a : Addr} {its : Array Value} {n : Nat} {ps vs : Array Value} {o : Obj} {ql : Str} {t : Tok} (hT : TabOk B h ps) (h1 : Own B h sl (listOf its n)) (h2 : Own B h 380 (tabObj ps)) (q : Own B h a o) (d : o.data = .fields vs) (v : vs[1]? = some (.str ql t)) : a ∉ [sl, 380] := fun hm => by
  rcases List.mem_cons.1 hm with e | hm
  · cases e; have := q.inj h1; subst this; cases d
  · cases List.mem_singleton.1 hm
    have := q.inj h2; subst this; cases d
    rcases hT with rfl | ⟨_, _, _, _, _, _, _, _, rfl, _⟩ <;> cases v
theorem TabOk.code1 {ps : Array Value} {l : List (Addr × Obj)} (hT : TabOk B h ps) (k : ∀ {a : Addr} {o : Obj} {vs : Array Value} {t : Tok}, Own B h a o → o.data = .fields vs → vs[1]? = some (.str "_law_heap.<locals>.<lambda>" t) → (a, o) ∈ l) :
    codeAmong p1 ps.toList = none ∨ ∃ c' oc vs t, codeAmong p1 ps.toList = some (.ref c') ∧ (c', oc) ∈ l ∧ oc.data = .fields vs ∧ vs[1]? = some (.str "_law_heap.<locals>.<lambda>" t) := by
  refine hide fun P9 hP9 => ?_
  (rcases hT with rfl | ⟨c1, c2, o1, o2, vs1, vs2, t1, t2, rfl, q1, q2, q3, _⟩) <;> (refine hP9 ?_; clear hP9 P9)
  · exact .inl rfl
  · exact .inr ⟨c1, o1, vs1, t1, rfl, k q1 q2 q3, q2, q3⟩
/-- the table once the first lambda's code stands -/
inductive TabOne (c1 : Addr) (l : List (Addr × Obj)) (ps ps1 : Array Value) : Prop
  | new (e0 : ps = #[]) (e : ps1 = #[rawInt 295, rawInt 0, .ref c1]) (k : ∀ p ∈ l, p.1 < c1)
  | old (e : ps1 = ps) (c2 o2 vs2 t2 : _) (e2 : ps = #[rawInt 295, rawInt 0, .ref c1, rawInt 296, rawInt 0, .ref c2]) (m : (c2, o2) ∈ l) (d : o2.data = .fields vs2) (v : vs2[1]? = some (.str "_law_heap.<locals>.<lambda>" t2)) (n : NeN c1 c2)
theorem TabOk.one {c1 : Addr} {ps ps1 : Array Value} {l : List (Addr × Obj)} (hT : TabOk B h ps) (k : ∀ {a : Addr} {o : Obj} {vs : Array Value} {ql : Str} {t : Tok}, Own B h a o → o.data = .fields vs → vs[1]? = some (.str ql t) → (a, o) ∈ l)
    (hit : (ps1 = ps ∧ codeAmong p1 ps.toList = some (.ref c1)) ∨ (codeAmong p1 ps.toList = none ∧ ps1 = ps ++ #[rawInt p1.line, rawInt p1.col, .ref c1] ∧ ∀ q ∈ l, q.1 < c1)) : TabOne c1 l ps ps1 := by
  refine hide fun P9 hP9 => ?_
  (rcases hT with rfl | ⟨d1, d2, o1, o2, vs1, vs2, t1, t2, rfl, q1, q2, q3, q4, q5, q6, q7⟩) <;> (refine hP9 ?_; clear hP9 P9)
  · refine hide fun P9 hP9 => ?_
    (rcases hit with ⟨_, e⟩ | ⟨_, e, l⟩) <;> (refine hP9 ?_; clear hP9 P9)
    · cases e
    · exact .new rfl e l
  · refine hide fun P9 hP9 => ?_
    (rcases hit with ⟨e, e2⟩ | ⟨e, _⟩) <;> (refine hP9 ?_; clear hP9 P9)
    · rw [among1] at e2; cases e2
      exact .old e d2 o2 vs2 t2 rfl (k q4 q5 q6) q5 q6 q7
    · cases e
theorem TabOne.says {c1 : Addr} {ps ps1 : Array Value} {l : List (Addr × Obj)} (q : TabOne c1 l ps ps1) :
    ps1[1]? = some (rawInt 0) ∧ TriplesOk ps1.toList ∧ (codeAmong p2 ps1.toList = none ∨ ∃ c' oc vs t, codeAmong p2 ps1.toList = some (.ref c') ∧ (c', oc) ∈ l ∧ oc.data = .fields vs ∧ vs[1]? = some (.str "_law_heap.<locals>.<lambda>" t)) := by
  refine hide fun P9 hP9 => ?_
  (rcases q with ⟨_, rfl, _⟩ | ⟨rfl, c2, o2, vs2, t2, rfl, q4, q5, q6, _⟩) <;> (refine hP9 ?_; clear hP9 P9)
  · exact ⟨rfl, trivial, .inl rfl⟩
  · exact ⟨rfl, trivial, .inr ⟨c2, o2, vs2, t2, rfl, q4, q5, q6⟩⟩
theorem TabOne.two {c1 c2 : Addr} {ps ps1 ps2 : Array Value} {l : List (Addr × Obj)} (q : TabOne c1 l ps ps1)
    (hit : (ps2 = ps1 ∧ codeAmong p2 ps1.toList = some (.ref c2)) ∨ (codeAmong p2 ps1.toList = none ∧ ps2 = ps1 ++ #[rawInt p2.line, rawInt p2.col, .ref c2] ∧ NeN c1 c2)) : ps2 = #[rawInt 295, rawInt 0, .ref c1, rawInt 296, rawInt 0, .ref c2] ∧ NeN c1 c2 := by
  refine hide fun P9 hP9 => ?_
  (rcases q with ⟨_, rfl, _⟩ | ⟨rfl, d2, o2, vs2, t2, rfl, q4, q5, q6, q7⟩) <;> (refine hP9 ?_; clear hP9 P9)
  · refine hide fun P9 hP9 => ?_
    (rcases hit with ⟨_, e⟩ | ⟨_, e, l⟩) <;> (refine hP9 ?_; clear hP9 P9)
    · cases e
    · exact ⟨e, l⟩
  · refine hide fun P9 hP9 => ?_
    (rcases hit with ⟨e, e2⟩ | ⟨e, _⟩) <;> (refine hP9 ?_; clear hP9 P9)
    · rw [among2] at e2; cases e2
      exact ⟨e, q7⟩
    · cases e

/-- a new heap of a law: all its places but the lambdas' code were free before -/
structure NewC (h : Heap) (c : Cfg) (m : Mut) (xs : List Th) : Prop where
  fix : ∀ a ∈ c.fix, a = c.cc1 ∨ a = c.cc ∨ h.get? a = none
  lists : ∀ a ∈ m.lists, h.get? a = none
  th : ∀ x ∈ xs, h.get? x.t = none ∧ h.get? x.td = none
def g0 : Sg := ⟨.pause, 0, 0, 0, 256, 200, 200, 0⟩
theorem nd_append : ∀ {l r : List Addr}, Nd l → Nd r → (∀ a ∈ l, ∀ b ∈ r, NeN a b) → Nd (l ++ r)
  | [], _, _, h, _ => h
  | a :: l, r, h, k, c => ⟨by
      have : ∀ {l' : List Addr}, Ap a l' → Ap a (l' ++ r) := by
        intro l'
        induction l' with
        | nil => intro _; exact ap_of' (c a (.head _))
        | cons b q ih => exact fun x => ⟨x.1, ih x.2⟩
      exact this h.1, nd_append h.2 k fun b hb => c b (.tail _ hb)⟩
where ap_of' {a : Addr} : ∀ {r : List Addr}, (∀ b ∈ r, NeN a b) → Ap a r
  | [], _ => trivial
  | b :: r, h => ⟨h b (.head _), ap_of' fun d hd => h d (.tail _ hd)⟩
theorem Own.ne_data {B h : Heap} {a b : Addr} {o o' : Obj} (x : Own B h a o) (y : Own B h b o') (hne : o.data ≠ o'.data) : NeN a b := fun e => hne (by cases (e : a = b); rw [x.inj y])
theorem LhI.maps {xs ys : List Th} {ns : List Int} (hlen : ys.length = xs.length) (hn : xs.length = ns.length)
    (e2 : ∀ (j : Nat) (y : Th), ys[j]? = some y → ∃ x, xs[j]? = some x ∧ y.t = x.t ∧ y.td = x.td ∧ y.num = (j : Int) + 1 ∧ y.mrk = 0 ∧ y.sz = ns.getD j 0) :
    ys.map (·.t) = xs.map (·.t) ∧ ys.map (·.td) = xs.map (·.td) ∧ ys.map (·.sz) = ns ∧ ys.map Th.ref = xs.map Th.ref := by
  have key : ∀ {α : Type} (f g : Th → α), (∀ (j : Nat) (y x : Th), ys[j]? = some y → xs[j]? = some x → f y = g x) → ys.map f = xs.map g := by
    intro α f g k
    apply List.ext_getElem?
    intro j
    rw [List.getElem?_map, List.getElem?_map]
    cases hy : ys[j]? with
    | none =>
      have : xs[j]? = none := by rw [List.getElem?_eq_none_iff] at hy ⊢; omega
      rw [this]; rfl
    | some y =>
      refine hide fun P9 hP9 => ?_
      obtain ⟨x, hx, _⟩ := e2 j y hy
      refine hP9 ?_; clear hP9 P9
      rw [hx]; exact congrArg some (k j y x hy hx)
  have get : ∀ {j : Nat} {y x : Th}, ys[j]? = some y → xs[j]? = some x → y.t = x.t ∧ y.td = x.td := fun {j y x} hy hx => by
    refine hide fun P9 hP9 => ?_
    obtain ⟨x', hx', q1, q2, _⟩ := e2 j y hy
    refine hP9 ?_; clear hP9 P9
    rw [hx] at hx'; cases hx'; exact ⟨q1, q2⟩
  refine ⟨key _ _ fun j y x hy hx => (get hy hx).1, key _ _ fun j y x hy hx => (get hy hx).2, ?_, key _ _ fun j y x hy hx => congrArg Value.ref (get hy hx).1⟩
  apply List.ext_getElem?
  intro j
  rw [List.getElem?_map]
  cases hy : ys[j]? with
  | none =>
    have : ns[j]? = none := by rw [List.getElem?_eq_none_iff] at hy ⊢; omega
    rw [this]; rfl
  | some y =>
    refine hide fun P9 hP9 => ?_
    obtain ⟨_, _, _, _, _, _, q⟩ := e2 j y hy
    refine hP9 ?_; clear hP9 P9
    have hj : j < ns.length := by have := (List.getElem?_eq_some_iff.1 hy).1; omega
    rw [List.getElem?_eq_getElem hj]
    show some y.sz = _
    rw [q, List.getD_eq_getElem?_getD, List.getElem?_eq_getElem hj]; rfl
set_option maxHeartbeats 1000000 in
/-- the heap that a law makes -/
theorem lh_rep {h4 H h6 h8 : Heap} {L ca cd od ma md rl gl ga wk ts f1 c1 f2 c2 cl D Z : Addr} {xs ys : List Th} {ns : List Int} {kc km : Ky} {tw : Tok} {t9 : CycT} {oo oc1 : Obj} {ncl : Nat}
    (hl : 2 ≤ ns.length ∧ ns.length ≤ 9)
    (V3 : Upto (orL (lhS cd od xs) L) h4 h8) (V2 : Upto (orL (lhS cd od xs) L) H h8) (U4 : ∀ a, (h4.get? a).isSome → (H.get? a).isSome) (U8 : Upto (orL (is1 cd) L) h6 h8) (zf : ∀ {a : Addr} {o : Obj}, Own B H a o → NeN a Z)
    (nLo : ∀ a ∈ [f1, c1, f2, c2, cl, D], NeN a L) (nLf : ∀ {a : Addr}, h4.get? a = none → NeN a L)
    (o1 : LamAt B h4 soParams soBody soScope [] f2 c2) (o3 : LamAt B h4 chParams chBody chScope [("things", cl)] f1 c1) (o6 : Own B h4 cl oc1) (hoc : oc1.data = .cell (some (.ref D))) (o5 : Own B h4 D (listOf (xs.map Th.ref).toArray ncl))
    (oth : ∀ x ∈ xs, Own B h4 x.t (instObj 367 x.td) ∧ Own B h4 x.td (dictOf (thEs x.k x.num x.mrk x.sz x.t1 x.t2 x.t3) 3)) (othL : ∀ x ∈ xs, NeN x.t L ∧ NeN x.td L)
    (old : Nd [f1, c1, f2, c2, cl, D]) (told : ∀ x ∈ xs, ∀ a ∈ [f1, c1, f2, c2, cl, D], NeN x.t a ∧ NeN x.td a)
    (ttd : ∀ x ∈ xs, ∀ y ∈ xs, NeN x.t y.td) (tnd : (xs.map (·.td)).Nodup)
    (fca : h4.get? ca = none) (fcd : h4.get? cd = none) (fr : ∀ a ∈ [od, ma, md, rl, gl, ga, wk, ts], h4.get? a = none) (nca : NeN ca cd) (nn : ∀ a ∈ [od, ma, md, rl, gl, ga, wk, ts], NeN ca a ∧ NeN cd a) (nd : Nd [od, ma, md, rl, gl, ga, wk, ts])
    (g3 : Own B H ma (instObj 136 md)) (g4 : Own B H md (dictOf (mksEs km ⟨f1, f2, gl, ga, wk⟩ 0 tw) 6)) (g7 : (od == sysModules) = false) (g9 : Own B H gl (listOf #[] 0)) (g10 : Own B H ga (listOf #[] 0)) (g11 : Own B H wk (listOf #[] 0)) (g12 : Own B H ts (listOf #[] 0))
    (gca : ∃ o, Own B H ca o) (gcd : ∃ o, Own B H cd o) (god : ∃ o, Own B H od o)
    (xlen : xs.length = ns.length) (l1 : ys.length = xs.length) (l2 : ∀ (j : Nat) (y : Th), ys[j]? = some y → ∃ x, xs[j]? = some x ∧ y.t = x.t ∧ y.td = x.td ∧ y.num = (j : Int) + 1 ∧ y.mrk = 0 ∧ y.sz = ns.getD j 0)
    (l3 : ∀ y ∈ ys, Own B h6 y.td (dictOf (thEs y.k y.num y.mrk y.sz y.t1 y.t2 y.t3) 3)) (l6 : Own B h6 od oo) (l7 : oo.IsDictOf (PySem.intKind PySem.Challenge.rw_rh0162_01.row.prog w) (ys.map fun y => (y.num, y.ref)))
    (p1 : Own B h8 ca (instObj 346 cd)) (p2 : Own B h8 cd (dictOf (cycEs kc t9 ⟨od, ma, Z, ts⟩ ⟨0, (ns.take xs.length).sum, 0, 0, 256, 200, 200, 0⟩) 14)) (p3 : Own B h8 Z (listOf (slicePick (xs.map Th.ref).toArray none (some 1) none) 0)) :
    SR w B h8 ⟨ca, cd, od, ma, md, Z, f1, c1, f2, c2, cl, D, kc, km, oo, oc1, ncl, 0, ns.sum, ns⟩ ⟨gl, ga, wk, ts, 0, 0, 0, 0, tw, t9⟩ ys g0 := by
  refine hide fun P9 hP9 => ?_
  obtain ⟨e1, e2, e3, e4⟩ := LhI.maps l1 xlen l2
  refine hP9 ?_; clear hP9 P9
  have ymem : ∀ {y : Th}, y ∈ ys → ∃ x ∈ xs, y.t = x.t ∧ y.td = x.td := fun hy => by
    refine hide fun P9 hP9 => ?_
    obtain ⟨j, hj⟩ := List.getElem?_of_mem hy
    obtain ⟨x, hx, q1, q2, _⟩ := l2 j _ hj
    refine hP9 ?_; clear hP9 P9
    exact ⟨x, List.mem_of_getElem? hx, q1, q2⟩
  refine hide fun P9 hP9 => ?_
  obtain ⟨fod, fma, fmd, frl1, fgl, fga, fwk, fts⟩ := All8.of fr
  obtain ⟨nod1, nma1, nmd1, _, ngl1, nga1, nwk1, nts1⟩ := All8.of fun a ha => (nn a ha).1
  obtain ⟨nod2, nma2, nmd2, _, ngl2, nga2, nwk2, nts2⟩ := All8.of fun a ha => (nn a ha).2
  obtain ⟨nd_0_1, nd_0_2, nd_0_3, nd_0_4, nd_0_5, nd_0_6, nd_0_7, nd_1_2, nd_1_3, nd_1_4, nd_1_5, nd_1_6, nd_1_7, nd_2_3, nd_2_4, nd_2_5, nd_2_6, nd_2_7, nd_3_4, nd_3_5, nd_3_6, nd_3_7, nd_4_5, nd_4_6, nd_4_7, nd_5_6, nd_5_7, nd_6_7⟩ := Nd.o8 nd
  have hnew : ∀ a ∈ [ca, cd, od, ma, md], h4.get? a = none := allC (fca) (allC (fcd) (allC (fod) (allC (fma) (allC (fmd) (List.forall_mem_nil _)))))
  have hli : ∀ a ∈ [gl, ga, wk, ts], h4.get? a = none := allC (fgl) (allC (fga) (allC (fwk) (allC (fts) (List.forall_mem_nil _))))
  obtain ⟨w1, w2, w3, w4, w5, w6, w7, k1, k2, k3, k4⟩ := id o3
  obtain ⟨u1, u2, u3, u4, u5, u6, u7, j1, j2, j3, j4⟩ := id o1
  refine hP9 ?_; clear hP9 P9
  have hold : ∀ a ∈ [f1, c1, f2, c2, cl, D], ∃ o, Own B h4 a o := allC (⟨_, k1⟩) (allC (⟨_, k2⟩) (allC (⟨_, j1⟩) (allC (⟨_, j2⟩) (allC (⟨_, o6⟩) (allC (⟨_, o5⟩) (List.forall_mem_nil _))))))
  have znew : ∀ a ∈ [ca, cd, od, ma, md], NeN a Z := allC (zf gca.choose_spec) (allC (zf gcd.choose_spec) (allC (zf god.choose_spec) (allC (zf g3) (allC (zf g4) (List.forall_mem_nil _)))))
  have zli : ∀ a ∈ [gl, ga, wk, ts], NeN a Z := allC (zf g9) (allC (zf g10) (allC (zf g11) (allC (zf g12) (List.forall_mem_nil _))))
  have z4 : ∀ {a : Addr} {o : Obj}, Own B h4 a o → NeN a Z := fun qq => by
    obtain ⟨o, ho⟩ := Option.isSome_iff_exists.mp (U4 _ qq.live)
    exact zf ⟨ho, qq.2⟩
  have hnl : ∀ a ∈ [ca, cd, od, ma, md], ∀ b ∈ [gl, ga, wk, ts], NeN a b := by
    have k : ∀ {a : Addr}, NeN a gl → NeN a ga → NeN a wk → NeN a ts → ∀ b ∈ [gl, ga, wk, ts], NeN a b := fun q1 q2 q3 q4 => allC (q1) (allC (q2) (allC (q3) (allC (q4) (List.forall_mem_nil _))))
    exact allC (k ngl1 nga1 nwk1 nts1) (allC (k ngl2 nga2 nwk2 nts2) (allC (k nd_0_4 nd_0_5 nd_0_6 nd_0_7) (allC (k nd_1_4 nd_1_5 nd_1_6 nd_1_7) (allC (k nd_2_4 nd_2_5 nd_2_6 nd_2_7) (List.forall_mem_nil _)))))
  have notS : ∀ {a : Addr}, NeN a cd → NeN a od → (∀ x ∈ xs, NeN a x.td) → NeN a L → ¬ orL (lhS cd od xs) L a := fun n1 n2 n3 n4 e => by
    refine hide fun P9 hP9 => ?_
    (rcases e with (e | e | ⟨x, hx, e⟩) | e) <;> (refine hP9 ?_; clear hP9 P9)
    · exact n1 e
    · exact n2 e
    · exact n3 x hx e
    · exact n4 e
  have xf : ∀ {a : Addr}, h4.get? a = none → ∀ x ∈ xs, NeN x.t a ∧ NeN x.td a := fun e x hx => ⟨(oth x hx).1.ne_fresh e, (oth x hx).2.ne_fresh e⟩
  have sold : ∀ a ∈ [f1, c1, f2, c2, cl, D], ¬ orL (lhS cd od xs) L a := fun a ha => by
    obtain ⟨o, ho⟩ := hold a ha
    exact notS (ho.ne_fresh fcd) (ho.ne_fresh fod) (fun x hx => (told x hx a ha).2.symm) (nLo a ha)
  have snew : ∀ {a : Addr}, h4.get? a = none → NeN a cd → NeN a od → ¬ orL (lhS cd od xs) L a := fun f n1 n2 => notS n1 n2 (fun x hx => (xf f x hx).2.symm) (nLf f)
  have tfix : ∀ x ∈ xs, ∀ a ∈ [ca, cd, od, ma, md] ++ Z :: [f1, c1, f2, c2, cl, D], NeN x.t a ∧ NeN x.td a := fun x hx a ha => by
    rcases List.mem_append.1 ha with ha | ha
    · exact xf (hnew a ha) x hx
    · rcases List.mem_cons.1 ha with rfl | ha
      · exact ⟨z4 (oth x hx).1, z4 (oth x hx).2⟩
      · exact told x hx a ha
  have hsum : (ns.take xs.length).sum = ns.sum := by rw [List.take_of_length_le (by omega)]
  rw [hsum] at p2
  have hsl : slicePick (xs.map Th.ref).toArray none (some 1) none = ((ys.take 1).map Th.ref).toArray := by
    have := slicePick_upto (xs.map Th.ref).toArray 1 (by rw [List.size_toArray, List.length_map]; omega)
    rw [List.map_take, e4]
    exact this
  rw [hsl] at p3
  refine ⟨⟨[], ?_, nofun⟩, fun i y hy => ?_, .inl rfl, nofun⟩
  · exact {
      ca := p1, cd := p2, ma := V2.own g3 (snew fma nma2.symm nd_0_1.symm), md := V2.own g4 (snew fmd nmd2.symm nd_0_2.symm)
      od := U8.own l6 (fun e => e.elim (fun e => nod2 e.symm) (nLf fod)), odd := l7, odn := g7, rl := p3
      ch := o3.upto V3 (sold f1 (by simp)) (sold c1 (by simp)), so := o1.upto V3 (sold f2 (by simp)) (sold c2 (by simp))
      cell := V3.own o6 (sold cl (by simp)), cod := hoc, tl := by rw [e4]; exact V3.own o5 (sold D (by simp))
      gl := V2.own g9 (snew fgl ngl2.symm nd_0_4.symm), ga := V2.own g10 (snew fga nga2.symm nd_0_5.symm), wk := V2.own g11 (snew fwk nwk2.symm nd_0_6.symm), ts := V2.own g12 (snew fts nts2.symm nd_0_7.symm)
      th := fun y hy => by
        refine hide fun P9 hP9 => ?_
        obtain ⟨x, hx, q1, q2⟩ := ymem hy
        refine hP9 ?_; clear hP9 P9
        refine ⟨?_, U8.own (l3 y hy) (fun e => e.elim (fun e => (xf fcd x hx).2 (q2 ▸ e)) (fun e => (othL x hx).2 (q2 ▸ e)))⟩
        rw [q1, q2]
        exact V3.own (oth x hx).1 (notS (xf fcd x hx).1 (xf fod x hx).1 (fun z hz => ttd x hx z hz) (othL x hx).1)
      num := fun i y hy => by obtain ⟨_, _, _, _, q, _⟩ := l2 i y hy; exact q
      szs := e3, len := hl, tot := rfl
      sep := {
        fix := nd_append (l := [ca, cd, od, ma, md]) (r := Z :: [f1, c1, f2, c2, cl, D]) (by (first | refine Nd.m3 ?_ | refine Nd.m4 ?_ | refine Nd.m5 ?_ | refine Nd.m6 ?_ | refine Nd.m7 ?_ | refine Nd.m8 ?_ | refine Nd.m11 ?_) <;> constructor <;> first | assumption | (refine NeN.symm ?_; assumption)) ⟨nd_append.ap_of' fun a ha => by obtain ⟨o, ho⟩ := hold a ha; exact (z4 ho).symm, old⟩ (fun a ha b hb => by
          rcases List.mem_cons.1 hb with rfl | hb
          · exact znew a ha
          · obtain ⟨o, ho⟩ := hold b hb; exact (ho.ne_fresh (hnew a ha)).symm)
        lists := by show Nd [gl, ga, wk, ts]; exact (by (first | refine Nd.m3 ?_ | refine Nd.m4 ?_ | refine Nd.m5 ?_ | refine Nd.m6 ?_ | refine Nd.m7 ?_ | refine Nd.m8 ?_ | refine Nd.m11 ?_) <;> constructor <;> first | assumption | (refine NeN.symm ?_; assumption))
        fl := fun a ha b hb => by
          have ha' : a ∈ [ca, cd, od, ma, md] ++ Z :: [f1, c1, f2, c2, cl, D] := ha
          rcases List.mem_append.1 ha' with ha | ha
          · exact hnl a ha b hb
          · rcases List.mem_cons.1 ha with rfl | ha
            · exact (zli b hb).symm
            · obtain ⟨o, ho⟩ := hold a ha; exact ho.ne_fresh (hli b hb)
        tf := fun y hy a ha => by obtain ⟨x, hx, q1, q2⟩ := ymem hy; rw [q1]; exact (tfix x hx a ha).1
        tl := fun y hy a ha => by obtain ⟨x, hx, q1, q2⟩ := ymem hy; rw [q1]; exact (xf (hli a ha) x hx).1
        df := fun y hy a ha => by obtain ⟨x, hx, q1, q2⟩ := ymem hy; rw [q2]; exact (tfix x hx a ha).2
        dl := fun y hy a ha => by obtain ⟨x, hx, q1, q2⟩ := ymem hy; rw [q2]; exact (xf (hli a ha) x hx).2
        td := fun y hy z hz => by
          refine hide fun P9 hP9 => ?_
          obtain ⟨x, hx, q1, q2⟩ := ymem hy
          obtain ⟨x', hx', q1', q2'⟩ := ymem hz
          refine hP9 ?_; clear hP9 P9
          rw [q1, q2']; exact ttd x hx x' hx'
        nd := by rw [e2]; exact tnd } }
  · refine hide fun P9 hP9 => ?_
    obtain ⟨_, _, _, _, _, q, _⟩ := l2 i y hy
    refine hP9 ?_; clear hP9 P9
    exact q
end
section
set_option maxRecDepth 100000
open PySem PySem.W PySem.Calls PyProof.Rows
theorem reset_L25 : True := by
  w_top off
  trivial
variable {w : World} {B h : Heap}
/-- a list comprehension at its head: what it runs over is known -/
def CompGo (prog : Program) (w : World) (A : Around) (h₀ : Heap) (L : Addr) (m : Str → Option Value) (env : Env) (elt : Expr) (x : Str) (scope : Scope) (cl : List (Str × Addr)) (Q : Value → Shared → Prop) (xv : Value) (s₁ : Shared) : Prop :=
  LCg.CompSrc prog w A h₀ L m env elt x scope cl (fun s₂ => LCg.FinE h₀ L m s₂ Q) xv s₁
theorem comp_go {prog : Program} {w : World} {A : Around} {E : Value → Shared → Prop} {s : Shared} {h₀ : Heap} {L : Addr} {m : Str → Option Value} {env : Env} {elt iter : Expr} {x : Str} {px : PySem.Pos} {scope : Scope} {cl : List (Str × Addr)} {pos : PySem.Pos} {Q : Value → Shared → Prop} (F₀ : Fr h₀ L s.heap m)
    (hclos : closureFor scope env = pure cl) (hcell : ∀ y ∈ scope.names, y.2 ≠ .cell) (hkind : scope.kind = .function)
    (hnames : ∀ y ∈ scope.names, y.2 = .local → scope.names.lookup y.1 = some .local) (hx : scope.names.lookup x = some .local)
    (h : wpAny (model prog w) A (eval iter env) (fun xv s₁ => CompGo prog w A h₀ L m env elt x scope cl Q xv s₁) E s)
    (hs : ∀ x, foldedSetIterable iter env x = pure x := by intro _; rfl) :
    wpAny (model prog w) A (eval (.ListComp elt [⟨.Name x px, iter, [], 0⟩] scope pos) env) Q E s := LCg.ListComp_U F₀ hclos hcell hkind hnames hx h hs
theorem compRest_ind {prog : Program} {w : World} {A : Around} {s : Shared} {h₀ : Heap} {L : Addr} {m : Str → Option Value} {env : Env} {elt : Expr} {x : Str} {scope : Scope} {cl : List (Str × Addr)} {S : List (Addr × Obj) → Prop} {P : Nat → Value → Prop} {Fin : List Value → List (Addr × Obj) → Prop} {n : Nat}
    (I : Nat → List Value → List (Addr × Obj) → Prop)
    (turn : ∀ i ys news v Ia oI C oC D m₂ h tk (E' : Value → Shared → Prop), i < n → I i ys news → P i v → LCg.NsObj oC m₂ → m₂ x = some v → Fr h₀ L h m → News h₀ L h ((Ia, oI) :: (C, oC) :: (D, LCg.lst ys) :: news) → LCg.Off3 Ia C D news → ((@Ne Nat Ia C) ∧ (@Ne Nat Ia D) ∧ (@Ne Nat C D)) →
      wpAny (model prog w) A (eval elt (compEnvC scope cl C env)) (LCg.CompEnd h₀ L m { s with heap := h, toks := tk } Ia oI C oC D (LCg.lst ys) S (fun y news' => I (i + 1) (ys ++ [y]) news')) E' { s with heap := h, toks := tk })
    (fin : ∀ ys news, I n ys news → Fin ys news) : ∀ (j i : Nat) (ys : List Value) (news : List (Addr × Obj)), i + j = n → I i ys news → LCg.CompRest prog w A h₀ L m env elt x scope cl s S P Fin j i ys news := by
  intro j
  induction j with
  | zero =>
    intro i ys news hi hI
    exact LCg.CompRest.zero (fin ys news ((show i = n by omega) ▸ hI))
  | succ j ih =>
    intro i ys news hi hI
    refine LCg.CompRest.succ ?_
    intro v Ia oI C oC D m₂ h tk E' hv hC hx F N off ne
    refine wpAny_mono (turn i ys news v Ia oI C oC D m₂ h tk E' (by omega) hI hv hC hx F N off ne) (fun y s₂ hq => ?_) fun _ _ e => e
    refine hide fun P9 hP9 => ?_
    obtain ⟨h', tk', nw, e, F', N', off', hS, hI'⟩ := hq
    refine hP9 ?_; clear hP9 P9
    exact ⟨h', tk', nw, e, F', N', off', hS, ih (i + 1) _ nw (by omega) hI'⟩
/-- what is dead later was dead before -/
theorem Rest.dead {B h h' : Heap} {L : Addr} {m : Str → Option Value} {as : List Addr} {rest news : List (Addr × Obj)} (hR : Rest B h as rest) (hB : Keep B h) (F : Fr B L h' m) (N : News B L h' news) (hr : ∀ p ∈ rest, p ∈ news) (ha : ∀ a ∈ as, (h'.get? a).isSome) {x : Addr} (e : h'.get? x = none) : h.get? x = none := by
  cases q : h.get? x with
  | none => rfl
  | some o =>
    cases qb : B.get? x with
    | some o' => rw [F.keep _ _ qb] at e; cases e
    | none =>
      by_cases hm : x ∈ as
      · exact not_live e (ha x hm)
      · rw [(N _ (hr _ (hR.all x o hm ⟨q, qb⟩))).1] at e; cases e
/-- the things that a law's heap makes first -/
def ThsNews (xs : List Th) : List (Addr × Obj) := xs.flatMap fun x => [(x.t, instObj 367 x.td), (x.td, dictOf (thEs x.k x.num x.mrk x.sz x.t1 x.t2 x.t3) 3)]
theorem mem_thsNews {xs : List Th} {p : Addr × Obj} : p ∈ ThsNews xs ↔ ∃ x ∈ xs, p = (x.t, instObj 367 x.td) ∨ p = (x.td, dictOf (thEs x.k x.num x.mrk x.sz x.t1 x.t2 x.t3) 3) := by
  unfold ThsNews
  rw [List.mem_flatMap]
  constructor
  · rintro t9_0
    refine hide fun P9 hP9 => ?_
    rcases t9_0 with ⟨x, hx, hp⟩
    refine hP9 ?_; clear hP9 P9
    refine ⟨x, hx, ?_⟩
    simpa using hp
  · rintro t9_0
    refine hide fun P9 hP9 => ?_
    rcases t9_0 with ⟨x, hx, hp⟩
    refine hP9 ?_; clear hP9 P9
    exact ⟨x, hx, by simpa using hp⟩
structure ThsI (h0 : Heap) (base : List (Addr × Obj)) (i : Nat) (ys : List Value) (news : List (Addr × Obj)) (xs : List Th) : Prop where
  len : xs.length = i
  ys : ys = xs.map Th.ref
  news : news = ThsNews xs ++ base
  dead : ∀ x ∈ xs, h0.get? x.t = none ∧ h0.get? x.td = none
  zero : ∀ x ∈ xs, x.num = 0 ∧ x.mrk = 0 ∧ x.sz = 0
  off : ∀ x ∈ xs, ∀ p ∈ base, NeN p.1 x.t ∧ NeN p.1 x.td
  nt : (xs.map (·.t)).Nodup
  nd : (xs.map (·.td)).Nodup
  td : ∀ x ∈ xs, ∀ y ∈ xs, NeN x.t y.td
theorem ThsI.step {h0 h : Heap} {L : Addr} {base : List (Addr × Obj)} {i : Nat} {ys : List Value} {news : List (Addr × Obj)} {xs : List Th} (q : ThsI h0 base i ys news xs) (N : News B L h news) {x : Th} (f1 : h.get? x.t = none) (f2 : h.get? x.td = none) (f3 : NeN x.t x.td)
    (e1 : h0.get? x.t = none) (e2 : h0.get? x.td = none) (z : x.num = 0 ∧ x.mrk = 0 ∧ x.sz = 0) : ThsI h0 base (i + 1) (ys ++ [x.ref]) (ThsNews (xs ++ [x]) ++ base) (xs ++ [x]) := by
  have own : ∀ y ∈ xs, Own B h y.t (instObj 367 y.td) ∧ ∃ o, Own B h y.td o := fun y hy =>
    ⟨newsOwn N (by rw [q.news]; exact List.mem_append_left _ (mem_thsNews.2 ⟨y, hy, .inl rfl⟩)), _, newsOwn N (by rw [q.news]; exact List.mem_append_left _ (mem_thsNews.2 ⟨y, hy, .inr rfl⟩))⟩
  have snoc : ∀ {P : Th → Prop}, (∀ y ∈ xs, P y) → P x → ∀ y ∈ xs ++ [x], P y := fun h1 h2 y hy => by
    rcases List.mem_append.1 hy with hy | hy
    · exact h1 y hy
    · rw [List.mem_singleton.1 hy]; exact h2
  refine ⟨by rw [List.length_append, q.len]; rfl, by rw [q.ys, List.map_append]; rfl, rfl, snoc q.dead ⟨e1, e2⟩, snoc q.zero z, snoc q.off fun p hp => ?_, ?_, ?_, snoc (fun y hy => snoc (q.td y hy) ?_) (snoc (fun y hy => ?_) f3)⟩
  · have o : Own B h p.1 p.2 := newsOwn N (by rw [q.news]; exact List.mem_append_right _ hp)
    exact ⟨o.ne_fresh f1, o.ne_fresh f2⟩
  · rw [List.map_append, List.nodup_append]
    refine ⟨q.nt, by simp, fun a ha b hb => ?_⟩
    obtain ⟨y, hy, rfl⟩ := List.mem_map.1 ha
    rw [List.map_singleton, List.mem_singleton] at hb
    rw [hb]; exact (own y hy).1.ne_fresh f1
  · rw [List.map_append, List.nodup_append]
    refine ⟨q.nd, by simp, fun a ha b hb => ?_⟩
    obtain ⟨y, hy, rfl⟩ := List.mem_map.1 ha
    rw [List.map_singleton, List.mem_singleton] at hb
    obtain ⟨o, ho⟩ := (own y hy).2
    rw [hb]; exact ho.ne_fresh f2
  · exact (own y hy).1.ne_fresh f2
  · obtain ⟨o, ho⟩ := (own y hy).2
    exact (ho.ne_fresh f1).symm
inductive LhPost (w : World) (B h : Heap) (ns : List Int) (v : Value) (h' : Heap) : Prop
  | mk (c m ys : _) (p0 : v = .ref c.ca) (p1 : SR w B h' c m ys g0) (p2 : c.szs = ns) (p3 : c.total = ns.sum) (p4 : NewC h c m ys) (ps' : _) (p5 : Own B h' 380 (tabObj ps')) (p6 : TabFull B h' ps')
local macro_rules | `(tactic| walk_at "exec For Tuple Call cons nil") => `(tactic| (k_here; with_unfolding_all refine for_go ?_))
local macro_rules | `(tactic| walk_at "eval ListComp") => `(tactic| (k_here; k_dflt (refine comp_go (F₀ := by k_asm) (by rfl) (by decide) (by rfl) (by decide) (by rfl) ?_)))
set_option maxHeartbeats 4000000 in
theorem lawHeap_con (W : Wd w B) (hB : Keep B h) {sl : Addr} {vs : List Value} {ns : List Int} {n : Nat} {ps : Array Value} (h1 : Own B h sl (listOf vs.toArray n)) (h2 : Own B h 380 (tabObj ps)) (hT : TabOk B h ps) (hi : IntsAre vs ns) (hl : 2 ≤ ns.length ∧ ns.length ≤ 9) (hn : ∀ k ∈ ns, 2 ≤ k ∧ k ≤ 51) (hne : NeN sl 380) :
    Con w B 8 383 [.ref sl] (is1 380) h (LhPost w B h ns) := by
  have W0 := W; obtain ⟨X, ⟨p0, loose0, mean0, mg0, mb0, T⟩, C⟩ := W
  revert X; unfold Con; k_fill; intro X A s R0 hs R post; subst hs; obtain ⟨hd9, dp9, fr9, gd9, un9⟩ := A; cases (show hd9 = none from R.handled)
  k_dflt (refine' enterC1 [("sizes", .ref sl)] "things" (fun y => if y = PySem.Str.ofString "sizes" then some (.ref sl) else none) X T hB (.cons h1 (.cons h2 .nil)) rfl ?ho ?hcd ?room ?bind ?loc ?a ?b ?c ?cells ?mm ?mc ?_; (case ho => k_is); (case hcd => k_is); (case room => exact (by have := R.depth; omega)); (case bind => exact BindsTo.of_eq rfl); (case loc => exact locs rfl); (case a => exact rfl); (case b => exact rfl); (case c => exact rfl); (case cells => exact fun _ => rfl); (case mm => exact fun _ => rfl); (case mc => exact fun _ => rfl))
  intro h₁ L rest tk co Q' hL hco F N hR hQ
  dsimp only [List.cons_append, List.nil_append] at N
  change Rest B s.heap [sl, 380] rest at hR
  have hr0 := hR.off sl (by simp)
  have hr1 := hR.off 380 (by simp)
  have hh := R.handled
  have hQn := fun s' h => hQ Flow.next s' h
  replace hQ := fun v s' h => hQ (Flow.ret v) s' h
  dsimp only at hQ hQn
  k_steps
  have hsz : vs.toArray.size ≤ sizeLine := by rw [sizeLine_eq, List.size_toArray, hi.length]; omega
  unfold CompGo
  refine LCg.CompSrc.ledger (k := n) rfl F N (.tail _ (.head _)) hsz (fun g => ?_)
  refine compRest_ind (fun i ys news => ∃ xs, ThsI s.heap ((L + 1, co) :: (sl, listOf vs.toArray n) :: (380, tabObj ps) :: rest) i ys news xs) ?turn ?fin _ 0 [] _ (Nat.zero_add _) ⟨[], rfl, rfl, rfl, nofun, nofun, nofun, .nil, .nil, nofun⟩
  case turn =>
    clear F N hsz
    rintro i ys news v Ia oI Ca oC D m₂ h2 tk2 E' hin ⟨xs, q⟩ hv hC hx F N off ne
    k_steps
    (with_reducible rename Fr _ _ _ _ => F9); (with_reducible rename News _ _ _ _ => N9)
    refine Con.call (obj_con W0 (Keep.of_fr F9)) rfl (Room.deeper (R.le (by decide))) ?_
    rintro v9 H9 tk9 K9 U9 t9_5
    refine hide fun P9 hP9 => ?_
    rcases t9_5 with ⟨x, dx, e9, f1, f2, f3, g1, k9, t1, t2, t3, g2⟩
    refine hP9 ?_; clear hP9 P9
    subst e9
    have F8 := frStep F9 U9 (fun x => x) base0
    have N7 := newsKeep N9 U9 (fun _ _ x => x)
    have nn : News B L h2 news := fun p hp => N9 p (.tail _ (.tail _ (.tail _ hp)))
    have br : ∀ p ∈ (L + 1, co) :: (sl, listOf vs.toArray n) :: (380, tabObj ps) :: rest, p ∈ news := by rw [q.news]; exact fun p hp => List.mem_append_right _ hp
    have dd : ∀ {a : Addr}, h2.get? a = none → s.heap.get? a = none := fun e => hR.dead hB F9 nn (fun p hp => br p (.tail _ (.tail _ (.tail _ hp)))) (allC (newsLive nn (br _ (.tail _ (.head _)))) (allC (newsLive nn (br _ (.tail _ (.tail _ (.head _))))) (List.forall_mem_nil _))) e
    have q2 := q.step nn (x := ⟨x, dx, k9, 0, 0, 0, t1, t2, t3⟩) f1 f2 f3 (dd f1) (dd f2) ⟨rfl, rfl, rfl⟩
    have oI := newsOwn N9 (.head _); have oC := newsOwn N9 (.tail _ (.head _)); have oD := newsOwn N9 (.tail _ (.tail _ (.head _)))
    have hnew : ∀ p ∈ ThsNews (xs ++ [(⟨x, dx, k9, 0, 0, 0, t1, t2, t3⟩ : Th)]) ++ ((L + 1, co) :: (sl, listOf vs.toArray n) :: (380, tabObj ps) :: rest), p ∈ news ∨ p = (x, instObj 367 dx) ∨ p = (dx, dictOf (thEs k9 0 0 0 t1 t2 t3) 3) := by
      intro p hp
      rcases List.mem_append.1 hp with hp | hp
      · refine hide fun P9 hP9 => ?_
        obtain ⟨y, hy, e⟩ := mem_thsNews.1 hp
        refine hP9 ?_; clear hP9 P9
        rcases List.mem_append.1 hy with hy | hy
        · exact .inl (by rw [q.news]; exact List.mem_append_left _ (mem_thsNews.2 ⟨y, hy, e⟩))
        · rw [List.mem_singleton.1 hy] at e; exact .inr e
      · exact .inl (br p hp)
    show LCg.CompEnd _ _ _ _ _ _ _ _ _ _ _ _ _ _
    refine ⟨H9, tk9, ThsNews (xs ++ [⟨x, dx, k9, 0, 0, 0, t1, t2, t3⟩]) ++ ((L + 1, co) :: (sl, listOf vs.toArray n) :: (380, tabObj ps) :: rest), rfl, F8, ?_, LCg.Off3.of ?_, .inr ⟨_, List.mem_append_right _ (.tail _ (.head _)), rfl, n, rfl⟩, _, q2⟩
    · refine allC (N7 _ (.head _)) (allC (N7 _ (.tail _ (.head _))) (allC (N7 _ (.tail _ (.tail _ (.head _)))) (fun p hp => ?_)))
      rcases hnew p hp with e | rfl | rfl
      · exact N7 p (.tail _ (.tail _ (.tail _ e)))
      · exact ⟨g1.1, neL_of_new F9 f1, g1.2⟩
      · exact ⟨g2.1, neL_of_new F9 f2, g2.2⟩
    · intro p hp
      rcases hnew p hp with e | rfl | rfl
      · exact off.mem p e
      · exact ⟨(oI.ne_fresh f1).symm, (oC.ne_fresh f1).symm, (oD.ne_fresh f1).symm⟩
      · exact ⟨(oI.ne_fresh f2).symm, (oC.ne_fresh f2).symm, (oD.ne_fresh f2).symm⟩
  case fin =>
    clear F N
    rintro ys news ⟨xs, q⟩ D g2 tk2 F N off
    have N2 : News B L g2 ((D, listOf (xs.map Th.ref).toArray xs.length) :: (L + 1, co) :: (sl, listOf vs.toArray n) :: (380, tabObj ps) :: (ThsNews xs ++ rest)) := by
      intro p hp
      rw [q.news, q.ys] at N
      rcases List.mem_cons.1 hp with rfl | hp
      · have := N _ (.head _)
        rw [show LCg.lst (xs.map Th.ref) = listOf (xs.map Th.ref).toArray xs.length from by rw [LCg.lst, List.length_map]] at this
        exact this
      · refine N p (.tail _ ?_)
        rcases List.mem_cons.1 hp with rfl | hp
        · exact List.mem_append_right _ (.head _)
        rcases List.mem_cons.1 hp with rfl | hp
        · exact List.mem_append_right _ (.tail _ (.head _))
        rcases List.mem_cons.1 hp with rfl | hp
        · exact List.mem_append_right _ (.tail _ (.tail _ (.head _)))
        rcases List.mem_append.1 hp with hp | hp
        · exact List.mem_append_left _ hp
        · exact List.mem_append_right _ (.tail _ (.tail _ (.tail _ hp)))
    clear N
    have hlt : ∀ {a : Addr} {o : Obj}, Own B s.heap a o → NeN a (L + 1) := fun q => Nat.ne_of_lt (Nat.lt_succ_of_lt (Nat.lt_of_lt_of_le (Heap.lt_size q.1) hL))
    have hb : ∀ x ∈ xs, ∀ p ∈ (L + 1, co) :: (sl, listOf vs.toArray n) :: (380, tabObj ps) :: rest, NeN p.1 x.t ∧ NeN p.1 x.td := q.off
    have hth : ∀ {a : Addr} {o : Obj}, (a, o) ∈ (L + 1, co) :: (sl, listOf vs.toArray n) :: (380, tabObj ps) :: rest → ∀ p ∈ ThsNews xs, NeN p.1 a := fun hm p hp => by
      refine hide fun P9 hP9 => ?_
      obtain ⟨x, hx, e⟩ := mem_thsNews.1 hp
      refine hP9 ?_; clear hP9 P9
      have := hb x hx _ hm
      rcases e with rfl | rfl
      · exact this.1.symm
      · exact this.2.symm
    have hD : ∀ {a : Addr} {o : Obj}, (a, o) ∈ news → NeN D a := fun hm => by
      have : ∀ {l : List (Addr × Obj)}, LCg.Off1 D l → ∀ p ∈ l, NeN p.1 D := by
        intro l
        induction l with
        | nil => intro _ p hp; cases hp
        | cons a r ih =>
          intro h p hp
          rcases List.mem_cons.1 hp with rfl | hp
          · exact h.1
          · exact ih h.2 p hp
      exact (this off _ hm).symm
    have bm : ∀ p ∈ (L + 1, co) :: (sl, listOf vs.toArray n) :: (380, tabObj ps) :: rest, p ∈ news := by rw [q.news]; exact fun p hp => List.mem_append_right _ hp
    have e1 : NeN D (L + 1) := hD (bm _ (.head _))
    have e2 : NeN D sl := hD (bm _ (.tail _ (.head _)))
    have e3 : NeN D 380 := hD (bm _ (.tail _ (.tail _ (.head _))))
    have e4 : NeN sl (L + 1) := hlt h1
    have e5 : NeN 380 (L + 1) := hlt h2
    have a1 : ∀ p ∈ ThsNews xs ++ rest, NeN p.1 (L + 1) := fun p hp => (List.mem_append.1 hp).elim (hth (.head _) p) (fun hp => hlt (hR.own p hp))
    have a2 : ∀ p ∈ ThsNews xs ++ rest, NeN p.1 380 := fun p hp => (List.mem_append.1 hp).elim (hth (.tail _ (.tail _ (.head _))) p) (hr1 p)
    have a3 : ∀ p ∈ ThsNews xs ++ rest, NeN p.1 sl := fun p hp => (List.mem_append.1 hp).elim (hth (.tail _ (.head _)) p) (hr0 p)
    have m1 : ∀ p ∈ ThsNews xs, p ∈ ThsNews xs ++ rest := fun p hp => List.mem_append_left _ hp
    have m2 : ∀ p ∈ rest, p ∈ ThsNews xs ++ rest := fun p hp => List.mem_append_right _ hp
    have a4 : ∀ p ∈ rest, NeN p.1 D := fun p hp => (hD (bm p (.tail _ (.tail _ (.tail _ hp))))).symm
    have deadS : ∀ {x : Addr}, B.get? x = none → NeN sl x → NeN 380 x → (∀ p ∈ rest, NeN p.1 x) → s.heap.get? x = none := fun {x} b n1 n2 n3 => by
      cases hq : s.heap.get? x with
      | none => rfl
      | some o =>
        by_cases hm : x ∈ [sl, 380]
        · simp only [List.mem_cons, List.not_mem_nil, or_false] at hm
          rcases hm with e | e
          · exact (n1 e.symm).elim
          · exact (n2 e.symm).elim
        · exact (n3 _ (hR.all x o hm ⟨hq, b⟩) rfl).elim
    generalize ThsNews xs ++ rest = rest2 at N2 a1 a2 a3 m1 m2
    clear hb hth hD bm
    have dR : ∀ {x : Addr}, (∀ p ∈ rest2, NeN p.1 x) → ∀ p ∈ rest, NeN p.1 x := fun k p hp => k p (m2 p hp)
    have rm : ∀ {a : Addr} {o : Obj} {vs : Array Value} {ql : Str} {t : Tok}, Own B s.heap a o → o.data = .fields vs → vs[1]? = some (.str ql t) → (a, o) ∈ rest2 := fun qq d v => m2 _ (hR.all _ _ (hT.notCode h1 h2 qq d v) qq)
    k_steps
    rename_i hq9 oc9 Fq9 Nq9 hoc9
    (with_reducible rename Fr _ _ _ _ => F9); (with_reducible rename News _ _ _ _ => N9)
    refine lam_any (pos := p1) F9 N9 T C rfl (by k_updF) hT.triples ?_ rfl rfl ?_
    · exact hT.code1 fun q1 q2 q3 => .tail _ (.tail _ (.tail _ (.tail _ (rm q1 q2 q3))))
    intro f1 c1 oc1 vc1 tc1 ct1 ps1 h3 tk3 F3 N3 cd1 cv1 lf1 lc1 hit1
    dsimp only at N3
    have hp1 : TabOne c1 rest2 ps ps1 := hT.one rm (hit1.imp (fun q => ⟨q.1, q.2.1⟩) fun q => ⟨q.1, q.2.1, fun p hp => q.2.2 p (.tail _ (.tail _ (.tail _ (.tail _ hp))))⟩)
    clear hit1
    have hg1 := hp1.says
    have e6 : NeN f1 380 := Nat.ne_of_gt (lf1 (380, tabObj ps) (.tail _ (.tail _ (.tail _ (.head _)))))
    have e7 : NeN c1 380 := code_ne_tab (newsOwn N3 (.tail _ (.head _))) cd1 cv1 (newsOwn N3 (.tail _ (.tail _ (.tail _ (.tail _ (.tail _ (.head _))))))) hg1.1
    k_steps
    (with_reducible rename Fr _ _ _ _ => F9); (with_reducible rename News _ _ _ _ => N9)
    refine lam_any (pos := p2) F9 N9 T C rfl (by k_updF) hg1.2.1 ?_ rfl rfl ?_
    · refine hide fun P9 hP9 => ?_
      (rcases hg1.2.2 with q | ⟨c2, o2, vs2, t2, q1, q2, q3, q4⟩) <;> (refine hP9 ?_; clear hP9 P9)
      · exact .inl q
      · exact .inr ⟨c2, o2, vs2, t2, q1, .tail _ (.tail _ (.tail _ (.tail _ (.tail _ (.tail _ q2))))), q3, q4⟩
    intro f2 c2 oc2 vc2 tc2 ct2 ps2 h4 tk4 F4 N4 cd2 cv2 lf2 lc2 hit2
    dsimp only at N4
    have hp2 := hp1.two (hit2.imp (fun q => ⟨q.1, q.2.1⟩) fun q => ⟨q.1, q.2.1, Nat.ne_of_lt (q.2.2 (c1, oc1) (.tail _ (.head _)))⟩)
    obtain ⟨rfl, e8⟩ := hp2
    clear hit2 hp1 hg1
    k_steps
    (with_reducible rename Fr _ _ _ _ => F9); (with_reducible rename News _ _ _ _ => N9)
    have U0 : Upto (is1 380) s.heap h4 := hR.upto hB F9 N9 (fun p hp => by (repeat' apply List.Mem.tail); exact m2 p hp) (allC (.inr ((newsOwn N9 (a := sl) (by k_mem)).1.trans h1.1.symm)) (allC (.inl ⟨rfl, newsLive N9 (a := 380) (by k_mem)⟩) (List.forall_mem_nil _)))
    have oth : ∀ x ∈ xs, Own B h4 x.t (instObj 367 x.td) ∧ Own B h4 x.td (dictOf (thEs x.k x.num x.mrk x.sz x.t1 x.t2 x.t3) 3) := fun x hx => ⟨newsOwn N9 (by (repeat' apply List.Mem.tail); exact m1 _ (mem_thsNews.2 ⟨x, hx, .inl rfl⟩)), newsOwn N9 (by (repeat' apply List.Mem.tail); exact m1 _ (mem_thsNews.2 ⟨x, hx, .inr rfl⟩))⟩
    have o1 := newsOwn N9 (a := f2) (.head _)
    have o2 := newsOwn N9 (a := c2) (.tail _ (.head _))
    have o3 := newsOwn N9 (a := f1) (.tail _ (.tail _ (.head _)))
    have o4 := newsOwn N9 (a := c1) (.tail _ (.tail _ (.tail _ (.head _))))
    have o5 := newsOwn N9 (a := D) (.tail _ (.tail _ (.tail _ (.tail _ (.head _)))))
    have o6 := newsOwn N9 (a := L + 1) (.tail _ (.tail _ (.tail _ (.tail _ (.tail _ (.head _))))))
    have o7 := newsOwn N9 (a := sl) (.tail _ (.tail _ (.tail _ (.tail _ (.tail _ (.tail _ (.head _)))))))
    have o8 := newsOwn N9 (a := 380) (.tail _ (.tail _ (.tail _ (.tail _ (.tail _ (.tail _ (.tail _ (.head _))))))))
    have nL0 : ∀ a ∈ [f2, c2, f1, c1, D, L + 1, sl, 380], a ≠ L := allC (newsNeL N9 (by k_mem)) (allC (newsNeL N9 (by k_mem)) (allC (newsNeL N9 (by k_mem)) (allC (newsNeL N9 (by k_mem)) (allC (newsNeL N9 (by k_mem)) (allC (newsNeL N9 (by k_mem)) (allC (newsNeL N9 (by k_mem)) (allC (newsNeL N9 (by k_mem)) (List.forall_mem_nil _))))))))
    have nL : ∀ {a : Addr} {o : Obj}, Own B h4 a o → a ∈ [f2, c2, f1, c1, D, L + 1, sl, 380] → a ≠ L := fun _ hm => nL0 _ hm
    have othL : ∀ x ∈ xs, NeN x.t L ∧ NeN x.td L := fun x hx => ⟨newsNeL N9 (by (repeat' apply List.Mem.tail); exact m1 _ (mem_thsNews.2 ⟨x, hx, .inl rfl⟩)), newsNeL N9 (by (repeat' apply List.Mem.tail); exact m1 _ (mem_thsNews.2 ⟨x, hx, .inr rfl⟩))⟩
    have nLf : ∀ {a : Addr}, h4.get? a = none → NeN a L := fun e => neL_of_new F9 e
    refine Con.call (cycle_con W0 (Keep.of_fr F9)) rfl (Room.deeper (R.le (by decide))) ?_
    rintro v9 H9 tk9 K9 U9 t9_5
    refine hide fun P9 hP9 => ?_
    rcases t9_5 with ⟨ca, cd, e9, fca, fcd, nca, g1, od, ma, md, rl, gl, ga, wk, ts, kc, km, tw, tc, oo, g2, g3, g4, g5, g6, g7, g8, g9, g10, g11, g12, fr, nd, nn⟩
    refine hP9 ?_; clear hP9 P9
    subst e9
    have F8 := frStep F9 U9 (fun x => x) base0
    dsimp only
    have p5 := U9.own o5 id
    have p6 := U9.own o6 id
    have p7 := U9.own o7 id
    have n5 := nL o5 (by simp)
    have n6 := nL o6 (by simp)
    have n7 := nL o7 (by simp)
    (try clear hR); (try clear N9); (try clear F9)
    have F9 := F8
    refine hide fun P9 hP9 => ?_
    obtain ⟨rest, hR, N9⟩ := refocus F9 (.cons p5 (.cons p6 (.cons p7 .nil))) (allC ((n5)) (allC ((n6)) (allC ((n7)) (List.forall_mem_nil _))))
    refine hP9 ?_; clear hP9 P9
    dsimp only [List.cons_append, List.nil_append] at N9
    change Rest B _ [L, D, (L+1), sl] rest at hR
    have hB9 := Keep.of_fr F9
    have hs0 := hR.off D (.tail _ (.head _))
    have hs1 := hR.off (L+1) (.tail _ (.tail _ (.head _)))
    have hs2 := hR.off sl (.tail _ (.tail _ (.tail _ (.head _))))
    k_steps
    (with_reducible rename Fr _ _ _ _ => F9); (with_reducible rename News _ _ _ _ => N9)
    have U5 := hR.upto (S := orL (is0) L) hB9 F9 N9 (by intro p hp; repeat (first | exact hp | apply List.Mem.tail)) (by
      refine allC (.inl ⟨.inr rfl, Fr.liveL F9⟩) (allC (?_) (allC (?_) (allC (?_) (List.forall_mem_nil _))))
      · first | exact Or.inr ((newsOwn N9 (a := D) (by k_mem)).1.trans p5.1.symm) | exact Or.inl ⟨Or.inl (by first | exact rfl | exact Or.inl rfl | exact Or.inr rfl | exact Or.inr (Or.inl rfl) | exact Or.inr (Or.inr rfl)), newsLive N9 (by k_mem)⟩
      · first | exact Or.inr ((newsOwn N9 (a := (L+1)) (by k_mem)).1.trans p6.1.symm) | exact Or.inl ⟨Or.inl (by first | exact rfl | exact Or.inl rfl | exact Or.inr rfl | exact Or.inr (Or.inl rfl) | exact Or.inr (Or.inr rfl)), newsLive N9 (by k_mem)⟩
      · first | exact Or.inr ((newsOwn N9 (a := sl) (by k_mem)).1.trans p7.1.symm) | exact Or.inl ⟨Or.inl (by first | exact rfl | exact Or.inl rfl | exact Or.inr rfl | exact Or.inr (Or.inl rfl) | exact Or.inr (Or.inr rfl)), newsLive N9 (by k_mem)⟩)
    obtain ⟨nod, nma, nmd, nrl, ngl, nga, nwk, nts⟩ := All8.of nn
    have nd' := nd
    refine hide fun P9 hP9 => ?_
    obtain ⟨nd_0_1, nd_0_2, nd_0_3, nd_0_4, nd_0_5, nd_0_6, nd_0_7, nd_1_2, nd_1_3, nd_1_4, nd_1_5, nd_1_6, nd_1_7, nd_2_3, nd_2_4, nd_2_5, nd_2_6, nd_2_7, nd_3_4, nd_3_5, nd_3_6, nd_3_7, nd_4_5, nd_4_6, nd_4_7, nd_5_6, nd_5_7, nd_6_7⟩ := Nd.o8 nd
    obtain ⟨fod, fma, fmd, frl1, fgl, fga, fwk, fts⟩ := All8.of fr
    refine hP9 ?_; clear hP9 P9
    have to5 : ∀ {a : Addr} {o : Obj}, Own B H9 a o → NeN a L → Own B _ a o := fun q n => U5.own q (fun e => e.elim id n)
    have r1 := to5 g1 (nLf fca); have r2 := to5 g2 (nLf fcd); have r3 := to5 g3 (nLf fma); have r4 := to5 g4 (nLf fmd); have r5 := to5 g5 (nLf fod)
    have r6 := to5 p5 n5; have r7 := to5 p7 n7
    have rth : ∀ x ∈ xs, Own B _ x.t (instObj 367 x.td) ∧ Own B _ x.td (dictOf (thEs x.k x.num x.mrk x.sz x.t1 x.t2 x.t3) 3) := fun x hx => ⟨to5 (U9.own (oth x hx).1 id) (othL x hx).1, to5 (U9.own (oth x hx).2 id) (othL x hx).2⟩
    have xf : ∀ {a : Addr}, h4.get? a = none → ∀ x ∈ xs, NeN x.t a ∧ NeN x.td a := fun e x hx => ⟨(oth x hx).1.ne_fresh e, (oth x hx).2.ne_fresh e⟩
    have xlen : xs.length = ns.length := by rw [q.len, List.size_toArray, hi.length]
    have notS : ∀ {a : Addr}, NeN a cd → NeN a od → (∀ x ∈ xs, NeN a x.td) → ¬ lhS cd od xs a := fun n1 n2 n3 e => by
      refine hide fun P9 hP9 => ?_
      (rcases e with e | e | ⟨x, hx, e⟩) <;> (refine hP9 ?_; clear hP9 P9)
      · exact n1 e
      · exact n2 e
      · exact n3 x hx e
    refine enumGo (lhS cd od xs) (LhI w B cd od ma rl ts kc xs ns) rfl F9 r6 n5 (notS (o5.ne_fresh fcd) (o5.ne_fresh fod) fun x hx => ((oth x hx).2.ne_dl o5).symm) (notS (nLf fcd).symm (nLf fod).symm fun x hx => (othL x hx).2.symm) ?live (LhI.start (fun x hx => (rth x hx).2) r2 r5 g6) (by rw [List.size_toArray, List.length_map]; omega) ?st ?turn ?done rfl rfl rfl
    case live =>
      rintro a (rfl | rfl | ⟨x, hx, rfl⟩)
      · exact r2.live
      · exact r5.live
      · exact (rth x hx).2.live
    case st => exact fun i h h' k => LhI.st k ⟨nLf fcd, r2.live⟩ ⟨nLf fod, r5.live⟩ fun x hx => ⟨(othL x hx).2, (rth x hx).2.live⟩
    case turn =>
      intro i v t h6 tk6 hv F6 U6 hO6 hP
      have hv' : (xs.map Th.ref)[i]? = some v := by rw [← hv]; simp
      rw [List.getElem?_map] at hv'
      refine hide fun P9 hP9 => ?_
      obtain ⟨x, hx, ev⟩ := Option.map_eq_some_iff.1 hv'
      refine hP9 ?_; clear hP9 P9
      subst ev
      have hxm := List.mem_of_getElem? hx
      have hxl : i < ns.length := by rw [← xlen]; exact (List.getElem?_eq_some_iff.1 hx).1
      obtain ⟨ys2, oo1, t1, l1, l2, l3, l4, l5, l6, l7⟩ := hP
      have hxz := q.zero x hxm
      have to6 : ∀ {a : Addr} {o : Obj}, Own B _ a o → NeN a L → ¬ lhS cd od xs a → Own B h6 a o := fun q n m => U6.own q (fun e => e.elim m n)
      have s1 := to6 r1 (nLf fca) (notS nca nod.1 fun x hx => ((oth x hx).2.ne_fresh fca).symm)
      have s3 := to6 r3 (nLf fma) (notS nma.2.symm nd_0_1.symm fun x hx => ((oth x hx).2.ne_fresh fma).symm)
      have s4 := to6 r4 (nLf fmd) (notS nmd.2.symm nd_0_2.symm fun x hx => ((oth x hx).2.ne_fresh fmd).symm)
      have sx := to6 (rth x hxm).1 (othL x hxm).1 (notS (xf fcd x hxm).1 (xf fod x hxm).1 fun y hy => q.td x hxm y hy)
      have s7 := to6 r7 n7 (notS (o7.ne_fresh fcd) (o7.ne_fresh fod) fun y hy => ((oth y hy).2.ne_dl o7).symm)
      have sd := l4 x (List.mem_of_getElem? (i := 0) (by rw [List.getElem?_drop]; exact hx))
      have k1 := nLf fca; have k2 := nLf fcd; have k3 := nLf fma; have k4 := nLf fmd; have k5 := nLf fod
      have k6 := (othL x hxm).1; have k7 := (othL x hxm).2
      have j1 := nod.1; have j2 := nod.2; have j3 := nma.1; have j4 := nma.2; have j5 := nmd.1; have j6 := nmd.2
      have z1 := (xf fca x hxm).1; have z2 := (xf fca x hxm).2; have z3 := (xf fcd x hxm).1; have z4 := (xf fcd x hxm).2; have z5 := (xf fod x hxm).1; have z6 := (xf fod x hxm).2
      have z7 := (xf fma x hxm).1; have z8 := (xf fma x hxm).2; have z9 := (xf fmd x hxm).1; have z10 := (xf fmd x hxm).2; have z11 := q.td x hxm x hxm
      have hz : vs.toArray.size = vs.length := List.size_toArray
      clear hR N9 F9
      (try clear hR); (try clear N9); (try clear F9)
      have F9 := F6
      refine hide fun P9 hP9 => ?_
      obtain ⟨rest, hR, N9⟩ := refocus F9 (.cons s1 (.cons l5 (.cons s3 (.cons s4 (.cons sx (.cons sd (.cons l6 (.cons s7 .nil)))))))) (allC ((k1)) (allC ((k2)) (allC ((k3)) (allC ((k4)) (allC ((k6)) (allC ((k7)) (allC ((k5)) (allC ((n7)) (List.forall_mem_nil _)))))))))
      refine hP9 ?_; clear hP9 P9
      dsimp only [List.cons_append, List.nil_append] at N9
      change Rest B _ [L, ca, cd, ma, md, x.t, x.td, od, sl] rest at hR
      have hB9 := Keep.of_fr F9
      have hs0 := hR.off ca (.tail _ (.head _))
      have hs1 := hR.off cd (.tail _ (.tail _ (.head _)))
      have hs2 := hR.off ma (.tail _ (.tail _ (.tail _ (.head _))))
      have hs3 := hR.off md (.tail _ (.tail _ (.tail _ (.tail _ (.head _)))))
      have hs4 := hR.off x.t (.tail _ (.tail _ (.tail _ (.tail _ (.tail _ (.head _))))))
      have hs5 := hR.off x.td (.tail _ (.tail _ (.tail _ (.tail _ (.tail _ (.tail _ (.head _)))))))
      have hs6 := hR.off od (.tail _ (.tail _ (.tail _ (.tail _ (.tail _ (.tail _ (.tail _ (.head _))))))))
      have hs7 := hR.off sl (.tail _ (.tail _ (.tail _ (.tail _ (.tail _ (.tail _ (.tail _ (.tail _ (.head _)))))))))
      dsimp only [cycEs] at N9
      k_steps
      have hfr : valueAt (ys2.map fun y => (y.num, y.ref)) ((i : Int) + 1) = none := by have := LhI.free l2; rw [l1] at this; exact this
      refine Con.call (takeIn_con (k := kc) (k' := km) (a := ⟨od, ma, rl, ts⟩) (x := x) W0 (Keep.of_fr F9) ⟨rfl, rfl⟩ s1 l5 s3 s4 sx sd l6 l7 (by rw [List.length_map]; omega) hfr g7 (by (first | refine Nd.m3 ?_ | refine Nd.m4 ?_ | refine Nd.m5 ?_ | refine Nd.m6 ?_ | refine Nd.m7 ?_ | refine Nd.m8 ?_ | refine Nd.m11 ?_) <;> constructor <;> first | assumption | (refine NeN.symm ?_; assumption))) rfl (Room.deeper (R.le (by decide))) ?_
      rintro v9 H7 tk7 K7 U7 t9_5
      refine hide fun P9 hP9 => ?_
      rcases t9_5 with ⟨e9, ⟨t9, q1⟩, ⟨ta, tb, tc9, q2⟩, oo2, q3, q4⟩
      refine hP9 ?_; clear hP9 P9
      subst e9
      have F7 := frStep F9 U7 (nos3 k2.symm k7.symm k5.symm) (base3 l5.2 sd.2 l6.2)
      clear F9 N9
      dsimp only
      k_steps
      exact ⟨rfl, H7, _, rfl, F7, U7.mono (fun a e _ => by
        refine hide fun P9 hP9 => ?_
        (rcases e with e | e | e) <;> (refine hP9 ?_; clear hP9 P9)
        · exact .inl e
        · exact .inr (.inr ⟨x, hxm, e⟩)
        · exact .inr (.inl e)), LhI.step hxl hx q.nd l1 l2 l3 l4 U7 (fun y hy => ⟨(xf fcd y hy).2, (xf fod y hy).2⟩) q1 q2 q3 q4⟩
    case done =>
      intro h6 tk6 v6 u6 F6 U6 hP
      rw [List.size_toArray, List.length_map] at hP
      obtain ⟨ys2, oo1, t1, l1, l2, l3, l4, l5, l6, l7⟩ := hP
      have to6 : ∀ {a : Addr} {o : Obj}, Own B _ a o → NeN a L → ¬ lhS cd od xs a → Own B h6 a o := fun q n m => U6.own q (fun e => e.elim m n)
      have s1 := to6 r1 (nLf fca) (notS nca nod.1 fun x hx => ((oth x hx).2.ne_fresh fca).symm)
      have s5 := to6 r6 n5 (notS (o5.ne_fresh fcd) (o5.ne_fresh fod) fun x hx => ((oth x hx).2.ne_dl o5).symm)
      have s6 := to6 (to5 p6 n6) n6 (notS (o6.ne_fresh fcd) (o6.ne_fresh fod) fun x hx => (a1 _ (m1 _ (mem_thsNews.2 ⟨x, hx, .inr rfl⟩))).symm)
      have k1 := nLf fca; have k2 := nLf fcd
      have d1 := o5.ne_fresh fca; have d2 := o5.ne_fresh fcd; have d3 := o6.ne_fresh fca; have d4 := o6.ne_fresh fcd
      clear hR N9 F9
      (try clear hR); (try clear N9); (try clear F9)
      have F9 := F6
      refine hide fun P9 hP9 => ?_
      obtain ⟨rest, hR, N9⟩ := refocus F9 (.cons s1 (.cons l5 (.cons s6 (.cons s5 .nil)))) (allC ((k1)) (allC ((k2)) (allC ((n6)) (allC ((n5)) (List.forall_mem_nil _)))))
      refine hP9 ?_; clear hP9 P9
      dsimp only [List.cons_append, List.nil_append] at N9
      change Rest B _ [L, ca, cd, (L+1), D] rest at hR
      have hB9 := Keep.of_fr F9
      have hs0 := hR.off ca (.tail _ (.head _))
      have hs1 := hR.off cd (.tail _ (.tail _ (.head _)))
      have hs2 := hR.off (L+1) (.tail _ (.tail _ (.tail _ (.head _))))
      have hs3 := hR.off D (.tail _ (.tail _ (.tail _ (.tail _ (.head _)))))
      dsimp only [cycEs] at N9
      have y0 : ∀ {a : Addr} {o : Obj}, Own B h6 a o → NeN (h6.objs.size + 1) a := fun qq => Nat.ne_of_gt (Nat.lt_succ_of_lt (Heap.lt_size qq.1))
      have y1 := y0 s1; have y2 := y0 l5; have y3 := y0 s6; have y4 := y0 s5
      k_steps
      (with_reducible rename Fr _ _ _ _ => F9); (with_reducible rename News _ _ _ _ => N9)
      have oZ := newsOwn N9 (.head _)
      have oca := newsOwn N9 (.tail _ (.head _))
      have ocd := newsOwn N9 (.tail _ (.tail _ (.head _)))
      obtain ⟨t9, ocd9⟩ := cycTok (a := ⟨od, ma, h6.objs.size + 1, ts⟩) ocd
      (with_reducible rename Fr _ _ _ _ => F9); (with_reducible rename News _ _ _ _ => N9)
      have U8 := hR.upto (S := orL (is1 cd) L) hB9 F9 N9 (by intro p hp; repeat (first | exact hp | apply List.Mem.tail)) (by
        refine allC (.inl ⟨.inr rfl, Fr.liveL F9⟩) (allC (?_) (allC (?_) (allC (?_) (allC (?_) (List.forall_mem_nil _)))))
        · first | exact Or.inr ((newsOwn N9 (a := ca) (by k_mem)).1.trans s1.1.symm) | exact Or.inl ⟨Or.inl (by first | exact rfl | exact Or.inl rfl | exact Or.inr rfl | exact Or.inr (Or.inl rfl) | exact Or.inr (Or.inr rfl)), newsLive N9 (by k_mem)⟩
        · first | exact Or.inr ((newsOwn N9 (a := cd) (by k_mem)).1.trans l5.1.symm) | exact Or.inl ⟨Or.inl (by first | exact rfl | exact Or.inl rfl | exact Or.inr rfl | exact Or.inr (Or.inl rfl) | exact Or.inr (Or.inr rfl)), newsLive N9 (by k_mem)⟩
        · first | exact Or.inr ((newsOwn N9 (a := (L+1)) (by k_mem)).1.trans s6.1.symm) | exact Or.inl ⟨Or.inl (by first | exact rfl | exact Or.inl rfl | exact Or.inr rfl | exact Or.inr (Or.inl rfl) | exact Or.inr (Or.inr rfl)), newsLive N9 (by k_mem)⟩
        · first | exact Or.inr ((newsOwn N9 (a := D) (by k_mem)).1.trans s5.1.symm) | exact Or.inl ⟨Or.inl (by first | exact rfl | exact Or.inl rfl | exact Or.inr rfl | exact Or.inr (Or.inl rfl) | exact Or.inr (Or.inr rfl)), newsLive N9 (by k_mem)⟩)
      have V1 := U6.trans U8 (U := orL (lhS cd od xs) L) (fun _ e => e) (fun a e _ => e.elim (fun e => .inl (.inl e)) .inr)
      have V2 := U5.trans V1 (U := orL (lhS cd od xs) L) (fun _ e => e.elim (fun e => e.elim) .inr) (fun _ e _ => e)
      have V3 := U9.trans V2 (U := orL (lhS cd od xs) L) (fun _ e => e.elim) (fun _ e _ => e)
      have V4 : Upto (is1 380) s.heap _ := U0.trans V3 (fun _ e => e) (fun a e l => by
        refine hide fun P9 hP9 => ?_
        (rcases e with (rfl | rfl | ⟨x, hx, rfl⟩) | e) <;> (refine hP9 ?_; clear hP9 P9)
        · exact not_live (U0.dead fcd) l
        · exact not_live (U0.dead fod) l
        · exact not_live (q.dead x hx).2 l
        · cases e; exact not_live (none_of_le hL) l)
      have zf : ∀ {a : Addr} {o : Obj}, Own B H9 a o → NeN a (h6.objs.size + 1) := fun qq => by
        obtain ⟨o, ho⟩ := Option.isSome_iff_exists.mp (U6.live _ (U5.live _ qq.live))
        exact Nat.ne_of_lt (Nat.lt_succ_of_lt (Heap.lt_size ho))
      have zdead : s.heap.get? (h6.objs.size + 1) = none := (U0.trans (U9.trans (U5.trans U6 (U := fun _ => True) (fun _ _ => trivial) (fun _ _ _ => trivial)) (U := fun _ => True) (fun _ _ => trivial) (fun _ _ _ => trivial)) (U := fun _ => True) (fun _ _ => trivial) (fun _ _ _ => trivial)).dead (none_of_le (Nat.le_succ _))
      have j1 : NeN f1 c1 := Nat.ne_of_gt lc1
      have j2 : NeN f1 f2 := Nat.ne_of_lt (lf2 (f1, _) (.head _))
      have j3 : NeN f1 c2 := o3.ne_data o2 (by rw [cd2]; exact nofun)
      have j4 : NeN f1 (L + 1) := Nat.ne_of_gt (lf1 (L + 1, _) (.tail _ (.head _)))
      have j5 : NeN f1 D := Nat.ne_of_gt (lf1 (D, _) (.head _))
      have j6 : NeN c1 f2 := Nat.ne_of_lt (lf2 (c1, _) (.tail _ (.head _)))
      have j7 : NeN c1 (L + 1) := o4.ne_data o6 (by rw [cd1, hoc9]; exact nofun)
      have j8 : NeN c1 D := o4.ne_data o5 (by rw [cd1]; exact nofun)
      have j9 : NeN f2 c2 := Nat.ne_of_gt lc2
      have j10 : NeN f2 (L + 1) := Nat.ne_of_gt (lf2 (L + 1, _) (.tail _ (.tail _ (.tail _ (.head _)))))
      have j11 : NeN f2 D := Nat.ne_of_gt (lf2 (D, _) (.tail _ (.tail _ (.head _))))
      have j12 : NeN c2 (L + 1) := o2.ne_data o6 (by rw [cd2, hoc9]; exact nofun)
      have j13 : NeN c2 D := o2.ne_data o5 (by rw [cd2]; exact nofun)
      have mt : ∀ x ∈ xs, (x.t, instObj 367 x.td) ∈ rest2 ∧ (x.td, dictOf (thEs x.k x.num x.mrk x.sz x.t1 x.t2 x.t3) 3) ∈ rest2 := fun x hx => ⟨m1 _ (mem_thsNews.2 ⟨x, hx, .inl rfl⟩), m1 _ (mem_thsNews.2 ⟨x, hx, .inr rfl⟩)⟩
      have r1f : ∀ p ∈ rest2, NeN p.1 f1 := fun p hp => Nat.ne_of_lt (lf1 p (.tail _ (.tail _ (.tail _ (.tail _ hp)))))
      have r2f : ∀ p ∈ rest2, NeN p.1 f2 := fun p hp => Nat.ne_of_lt (lf2 p (.tail _ (.tail _ (.tail _ (.tail _ (.tail _ (.tail _ hp)))))))
      have told : ∀ x ∈ xs, ∀ a ∈ [f1, c1, f2, c2, L + 1, D], NeN x.t a ∧ NeN x.td a := fun x hx => allC (⟨r1f _ (mt x hx).1, r1f _ (mt x hx).2⟩) (allC (⟨(oth x hx).1.ne_data o4 (by rw [cd1]; exact nofun), (oth x hx).2.ne_data o4 (by rw [cd1]; exact nofun)⟩) (allC (⟨r2f _ (mt x hx).1, r2f _ (mt x hx).2⟩) (allC (⟨(oth x hx).1.ne_data o2 (by rw [cd2]; exact nofun), (oth x hx).2.ne_data o2 (by rw [cd2]; exact nofun)⟩) (allC (⟨a1 _ (mt x hx).1, a1 _ (mt x hx).2⟩) (allC (⟨(oth x hx).1.ne_il o5, (oth x hx).2.ne_dl o5⟩) (List.forall_mem_nil _))))))
      have sr := lh_rep (w := w) (B := B) hl V3 V2 U9.live U8 zf (allC (nL o3 (by simp)) (allC (nL o4 (by simp)) (allC (nL o1 (by simp)) (allC (nL o2 (by simp)) (allC (nL o6 (by simp)) (allC (nL o5 (by simp)) (List.forall_mem_nil _))))))) nLf
        ⟨_, _, _, _, _, _, _, o1, o2, cd2, cv2⟩ ⟨_, _, _, _, _, _, _, o3, o4, cd1, cv1⟩ o6 hoc9 o5 oth othL (by (first | refine Nd.m3 ?_ | refine Nd.m4 ?_ | refine Nd.m5 ?_ | refine Nd.m6 ?_ | refine Nd.m7 ?_ | refine Nd.m8 ?_ | refine Nd.m11 ?_) <;> constructor <;> first | assumption | (refine NeN.symm ?_; assumption)) told (fun x hx y hy => q.td x hx y hy) q.nd fca fcd fr nca nn nd' g3 g4 g7 g9 g10 g11 g12 ⟨_, g1⟩ ⟨_, g2⟩ ⟨_, g5⟩ xlen l1 l2 l3 l6 l7 oca ocd9 oZ
      have nS : ∀ {a : Addr} {o : Obj}, Own B h4 a o → NeN a L → (∀ x ∈ xs, NeN a x.td) → Own B _ a o := fun qq n n' => V3.own qq (fun e => by
        rcases e with e | e
        · exact notS (qq.ne_fresh fcd) (qq.ne_fresh fod) n' e
        · exact n e)
      refine hQ _ _ (post _ _ _ (Keep.of_fr F9) V4 ⟨_, _, ys2, rfl, sr, rfl, rfl, ⟨?_, ?_, ?_⟩, _, nS o8 (nL o8 (by simp)) (fun x hx => o8.ne_data (oth x hx).2 nofun), c1, c2, oc1, oc2, vc1, vc2, tc1, tc2, rfl, nS o4 (nL o4 (by simp)) (fun x hx => (told x hx c1 (by simp)).2.symm), cd1, cv1, nS o2 (nL o2 (by simp)) (fun x hx => (told x hx c2 (by simp)).2.symm), cd2, cv2, e8⟩)
      · exact allC (.inr (.inr (U0.dead fca))) (allC (.inr (.inr (U0.dead fcd))) (allC (.inr (.inr (U0.dead fod))) (allC (.inr (.inr (U0.dead fma))) (allC (.inr (.inr (U0.dead fmd))) (allC (.inr (.inr zdead)) (allC (.inr (.inr (deadS o3.2 (Nat.ne_of_lt (lf1 (sl, _) (.tail _ (.tail _ (.head _))))) e6.symm (dR r1f)))) (allC (.inl rfl) (allC (.inr (.inr (deadS o1.2 (Nat.ne_of_lt (lf2 (sl, _) (.tail _ (.tail _ (.tail _ (.tail _ (.head _))))))) (Nat.ne_of_lt (lf2 (380, _) (.tail _ (.tail _ (.tail _ (.tail _ (.tail _ (.head _)))))))) (dR r2f)))) (allC (.inr (.inl rfl)) (allC (.inr (.inr (none_of_le (Nat.le_succ_of_le hL)))) (allC (.inr (.inr (deadS o5.2 e2.symm e3.symm a4))) (List.forall_mem_nil _))))))))))))
      · exact allC (U0.dead fgl) (allC (U0.dead fga) (allC (U0.dead fwk) (allC (U0.dead fts) (List.forall_mem_nil _))))
      · intro y hy
        refine hide fun P9 hP9 => ?_
        obtain ⟨j, hj⟩ := List.getElem?_of_mem hy
        obtain ⟨x, hx, w1, w2, _⟩ := l2 j y hj
        refine hP9 ?_; clear hP9 P9
        rw [w1, w2]
        exact q.dead x (List.mem_of_getElem? hx)
end
section
set_option maxRecDepth 100000
open PySem PySem.W PySem.Calls PyProof.Rows
theorem reset_L26 : True := by
  w_top off
  trivial
section
variable {prog : Program} {w : World} {A : Around} {E : Value → Shared → Prop} {s : Shared} {h₀ : Heap} {L : Addr} {m : Str → Option Value} {env : Env}
def vview (d : Addr) : Obj := { cls := .type "dict_values", data := .fields #[.ref d] }
/-- what a list comprehension runs over: the values of a dict of ints -/
structure ValSrcU (prog : Program) (w : World) (A : Around) (h₀ : Heap) (L : Addr) (m : Str → Option Value) (env : Env) (elt : Expr) (x : Str) (scope : Scope) (cl : List (Str × Addr)) (Fin : Shared → List Value → List (Addr × Obj) → Prop) (xv : Value) (s₁ : Shared) : Prop where
  out : ∃ v d o kvs news, xv = .ref v ∧ A.handled = none ∧ Fr h₀ L s₁.heap m ∧ News h₀ L s₁.heap news ∧ (v, vview d) ∈ news ∧ (d, o) ∈ news ∧ o.IsDictOf (PySem.intKind prog w) kvs ∧ kvs.length ≤ sizeLine ∧
    ∀ g, LCg.CompRest prog w A h₀ L m env elt x scope cl { s₁ with heap := g } (fun nw => (d, o) ∈ nw) (fun i u => ∃ k, kvs[i]? = some (k, u)) (Fin { s₁ with heap := g }) kvs.length 0 [] news
structure ValSrcT (prog : Program) (w : World) (A : Around) (h₀ : Heap) (L : Addr) (m : Str → Option Value) (env : Env) (ct elt : Expr) (x : Str) (scope : Scope) (cl : List (Str × Addr)) (Fin : Shared → List Value → List (Addr × Obj) → Prop) (xv : Value) (s₁ : Shared) : Prop where
  out : ∃ v d o kvs news, xv = .ref v ∧ A.handled = none ∧ Fr h₀ L s₁.heap m ∧ News h₀ L s₁.heap news ∧ (v, vview d) ∈ news ∧ (d, o) ∈ news ∧ o.IsDictOf (PySem.intKind prog w) kvs ∧ kvs.length ≤ sizeLine ∧
    ∀ g, LCt.CompRestT prog w A h₀ L m env ct elt x scope cl { s₁ with heap := g } (fun nw => (d, o) ∈ nw) (fun i u => ∃ k, kvs[i]? = some (k, u)) (Fin { s₁ with heap := g }) kvs.length 0 [] news
theorem vals_st {I d : Addr} {o : Obj} {kvs : List (Int × Value)} {ep : Nat} (hd : ∀ h : Heap, h.get? d = some o → h.DictAt (PySem.intKind prog w) d kvs ep) : ∀ i (h h' : Heap) (o' : Obj) (nw : List (Addr × Obj)), (h.IsValIter I d i kvs.length ep ∧ h.DictAt (PySem.intKind prog w) d kvs ep) → h.get? I = some o' → h'.get? I = some o' → (∀ b o, h₀.get? b = some o → h'.get? b = some o) → News h₀ L h' nw → (d, o) ∈ nw → (h'.IsValIter I d i kvs.length ep ∧ h'.DictAt (PySem.intKind prog w) d kvs ep) :=
  fun i h h' o' nw st e e' _ N S => ⟨st.1.at fun o'' q => by rw [e] at q; cases q; exact e', hd h' (N _ S).1⟩
theorem assignVals_U {elt iter : Expr} {x y : Str} {px py : PySem.Pos} {scope : Scope} {cl : List (Str × Addr)} {pos spos : PySem.Pos} {Q : Flow → Shared → Prop} (F₀ : Fr h₀ L s.heap m) (hLe : env.locals = L)
    (hsw : swapsWith (.ListComp elt [⟨.Name x px, iter, [], 0⟩] scope pos) (some (.Name y py)) spos.line env = pure true)
    (hclos : closureFor scope env = pure cl) (hcell : ∀ z ∈ scope.names, z.2 ≠ .cell) (hkind : scope.kind = .function)
    (hnames : ∀ z ∈ scope.names, z.2 = .local → scope.names.lookup z.1 = some .local) (hx : scope.names.lookup x = some .local)
    (hy : env.kindOf y = some .local) (hp : (env.scope.kind == .class || (env.scope.kind == .module && env.locals != env.globals)) = false)
    (h : wpAny (model prog w) A (eval iter env) (ValSrcU prog w A h₀ L m env elt x scope cl (fun s₂ => LCg.FinA h₀ L m s₂ y Q)) E s)
    (hs : ∀ x, foldedSetIterable iter env x = pure x := by intro _; rfl) :
    wpAny (model prog w) A (exec (.Assign [.Name y py] (.ListComp elt [⟨.Name x px, iter, [], 0⟩] scope pos) spos) env) Q E s := by
  subst hLe
  rw [exec_Assign_Name_used _ _ _ _ hsw]
  refine wpAny_bind (wpAny_standAt (wpAny_bind ?_))
  show wpAny _ A (do let _ ← comprehension (.ListComp elt [⟨.Name x px, iter, [], 0⟩] scope pos) scope env _ (newList []) false (eval iter env) (some (assign (.Name y py) env))) _ _ s
  refine wpAny_bind (wpAny_mono (wpAny_comprehension_free (use := some (assign (.Name y py) env)) (Q := fun _ s' => Q .next s') rfl hs hclos hkind hnames
    (wpAny_mono h (fun xv s₁ h₁ => ?_) fun _ _ e => e)) (fun _ s' hq => wpAny_pure (wpAny_pure hq)) fun _ _ e => e)
  refine hide fun P9 hP9 => ?_
  obtain ⟨v, d, o, kvs, news, rfl, hh, F, N, hv, hdm, hd, hsz, R⟩ := h₁.out
  obtain ⟨ep, ha⟩ := KdkAt.of hd
  refine hP9 ?_; clear hP9 P9
  have hdl : d < s₁.heap.objs.size := Heap.lt_size (N _ hdm).1
  refine wpAny_pyIter_values (knd := PySem.intKind prog w) (kvs := kvs) (ep := ep) ⟨_, (N _ hv).1, rfl, rfl⟩ (ha.dictAt (N _ hdm).1) ?_
  have up : ∀ b o, s₁.heap.get? b = some o → (s₁.heap.push { cls := .type "dict_valueiterator", data := .fields #[.ref d, .int 0 0, .int kvs.length 0, .int ep 0] }).get? b = some o := fun b o e => Heap.get?_push_of_some _ e
  refine LCg.block_U (Walks.dictValues hh s₁.heap.objs.size d (Nat.ne_of_lt hdl) kvs ep) hsz (fun i h st => by obtain ⟨o, e, _⟩ := st.1; exact ⟨o, e⟩) (vals_st fun h q => ha.dictAt q) hcell hkind hx
    ⟨⟨_, Heap.get?_push_size _ rfl, rfl, rfl⟩, ha.dictAt (up _ _ (N _ hdm).1)⟩ (fun b hb => ?_)
    (F.keeps up) (N.grown up) (Nat.ne_of_lt F.ns.lt) (next_is_new F) (fun p hp => Nat.ne_of_lt (Heap.lt_size (N p hp).1)) hdm (R _) ?_
  · show b < (s₁.heap.push _).objs.size
    rw [Heap.size_push]
    rcases List.mem_cons.mp hb with rfl | hb
    · exact Nat.lt_succ_self _
    · rw [List.mem_singleton.mp hb]; exact Nat.lt_succ_of_lt hdl
  · intro D C h' tk m' ys news' F' N' o1 hn hC₀ hD₀ hCL hDL hCD offC fin
    show wpAny _ A (assign (.Name y py) env (.ref D)) _ _ _
    refine wpAny_assign_Name (wpAny_storeName_local hy F'.ns (fun h₂ hn₂ hs₂ => ?_) hp)
    have hL₀ : h₀.get? env.locals = none := Heap.get?_none_of_le F'.above
    have F₂ : Fr h₀ env.locals h₂ (fun z => if z = y then some (.ref D) else m z) := ⟨hn₂, fun b o e => hs₂.extBut b o (fun q => by rw [q, hL₀] at e; cases e) (F'.keep b o e), F'.above⟩
    refine ⟨m', hn.sameBut hs₂ hCL, fun h'' hs'' => fin D h'' _ (F₂.change hs'' hCL hC₀) (fun p hp => ?_) o1⟩
    have z : h₂.get? p.1 = some p.2 := hs₂.extBut _ _ (N' p hp).2.1 (N' p hp).1
    refine ⟨hs''.extBut _ _ ?_ z, (N' p hp).2⟩
    rcases List.mem_cons.mp hp with rfl | hp
    · exact Ne.symm hCD
    · exact offC p hp
theorem assignVals_T {ct elt iter : Expr} {x y : Str} {px py : PySem.Pos} {scope : Scope} {cl : List (Str × Addr)} {pos spos : PySem.Pos} {Q : Flow → Shared → Prop} (F₀ : Fr h₀ L s.heap m) (hLe : env.locals = L)
    (hsw : swapsWith (.ListComp elt [⟨.Name x px, iter, [ct], 0⟩] scope pos) (some (.Name y py)) spos.line env = pure true)
    (hclos : closureFor scope env = pure cl) (hcell : ∀ z ∈ scope.names, z.2 ≠ .cell) (hkind : scope.kind = .function)
    (hnames : ∀ z ∈ scope.names, z.2 = .local → scope.names.lookup z.1 = some .local) (hx : scope.names.lookup x = some .local)
    (hy : env.kindOf y = some .local) (hp : (env.scope.kind == .class || (env.scope.kind == .module && env.locals != env.globals)) = false)
    (h : wpAny (model prog w) A (eval iter env) (ValSrcT prog w A h₀ L m env ct elt x scope cl (fun s₂ => LCg.FinA h₀ L m s₂ y Q)) E s)
    (hs : ∀ x, foldedSetIterable iter env x = pure x := by intro _; rfl) :
    wpAny (model prog w) A (exec (.Assign [.Name y py] (.ListComp elt [⟨.Name x px, iter, [ct], 0⟩] scope pos) spos) env) Q E s := by
  subst hLe
  rw [exec_Assign_Name_used _ _ _ _ hsw]
  refine wpAny_bind (wpAny_standAt (wpAny_bind ?_))
  show wpAny _ A (do let _ ← comprehension (.ListComp elt [⟨.Name x px, iter, [ct], 0⟩] scope pos) scope env _ (newList []) false (eval iter env) (some (assign (.Name y py) env))) _ _ s
  refine wpAny_bind (wpAny_mono (wpAny_comprehension_free (use := some (assign (.Name y py) env)) (Q := fun _ s' => Q .next s') rfl hs hclos hkind hnames
    (wpAny_mono h (fun xv s₁ h₁ => ?_) fun _ _ e => e)) (fun _ s' hq => wpAny_pure (wpAny_pure hq)) fun _ _ e => e)
  refine hide fun P9 hP9 => ?_
  obtain ⟨v, d, o, kvs, news, rfl, hh, F, N, hv, hdm, hd, hsz, R⟩ := h₁.out
  obtain ⟨ep, ha⟩ := KdkAt.of hd
  refine hP9 ?_; clear hP9 P9
  have hdl : d < s₁.heap.objs.size := Heap.lt_size (N _ hdm).1
  refine wpAny_pyIter_values (knd := PySem.intKind prog w) (kvs := kvs) (ep := ep) ⟨_, (N _ hv).1, rfl, rfl⟩ (ha.dictAt (N _ hdm).1) ?_
  have up : ∀ b o, s₁.heap.get? b = some o → (s₁.heap.push { cls := .type "dict_valueiterator", data := .fields #[.ref d, .int 0 0, .int kvs.length 0, .int ep 0] }).get? b = some o := fun b o e => Heap.get?_push_of_some _ e
  refine LCt.block_T (Walks.dictValues hh s₁.heap.objs.size d (Nat.ne_of_lt hdl) kvs ep) hsz (fun i h st => by obtain ⟨o, e, _⟩ := st.1; exact ⟨o, e⟩) (vals_st fun h q => ha.dictAt q) hcell hkind hx
    ⟨⟨_, Heap.get?_push_size _ rfl, rfl, rfl⟩, ha.dictAt (up _ _ (N _ hdm).1)⟩ (fun b hb => ?_)
    (F.keeps up) (N.grown up) (Nat.ne_of_lt F.ns.lt) (next_is_new F) (fun p hp => Nat.ne_of_lt (Heap.lt_size (N p hp).1)) hdm (R _) ?_
  · show b < (s₁.heap.push _).objs.size
    rw [Heap.size_push]
    rcases List.mem_cons.mp hb with rfl | hb
    · exact Nat.lt_succ_self _
    · rw [List.mem_singleton.mp hb]; exact Nat.lt_succ_of_lt hdl
  · intro D C h' tk m' ys news' F' N' o1 hn hC₀ hD₀ hCL hDL hCD offC fin
    show wpAny _ A (assign (.Name y py) env (.ref D)) _ _ _
    refine wpAny_assign_Name (wpAny_storeName_local hy F'.ns (fun h₂ hn₂ hs₂ => ?_) hp)
    have hL₀ : h₀.get? env.locals = none := Heap.get?_none_of_le F'.above
    have F₂ : Fr h₀ env.locals h₂ (fun z => if z = y then some (.ref D) else m z) := ⟨hn₂, fun b o e => hs₂.extBut b o (fun q => by rw [q, hL₀] at e; cases e) (F'.keep b o e), F'.above⟩
    refine ⟨m', hn.sameBut hs₂ hCL, fun h'' hs'' => fin D h'' _ (F₂.change hs'' hCL hC₀) (fun p hp => ?_) o1⟩
    have z : h₂.get? p.1 = some p.2 := hs₂.extBut _ _ (N' p hp).2.1 (N' p hp).1
    refine ⟨hs''.extBut _ _ ?_ z, (N' p hp).2⟩
    rcases List.mem_cons.mp hp with rfl | hp
    · exact Ne.symm hCD
    · exact offC p hp
end
theorem compRestT_ind {prog : Program} {w : World} {A : Around} {s : Shared} {h₀ : Heap} {L : Addr} {m : Str → Option Value} {env : Env} {ct elt : Expr} {x : Str} {scope : Scope} {cl : List (Str × Addr)} {S : List (Addr × Obj) → Prop} {P : Nat → Value → Prop} {Fin : List Value → List (Addr × Obj) → Prop} {n : Nat}
    (I : Nat → List Value → List (Addr × Obj) → Prop)
    (turn : ∀ i ys news v Ia oI C oC D m₂ h tk (E' : Value → Shared → Prop), i < n → I i ys news → P i v → LCg.NsObj oC m₂ → m₂ x = some v → Fr h₀ L h m → News h₀ L h ((Ia, oI) :: (C, oC) :: (D, LCg.lst ys) :: news) → LCg.Off3 Ia C D news → ((@Ne Nat Ia C) ∧ (@Ne Nat Ia D) ∧ (@Ne Nat C D)) →
      wpAny (model prog w) A (isTrue ct (compEnvC scope cl C env) (eval ct (compEnvC scope cl C env))) (fun ok s' => if ok = true then
        wpAny (model prog w) A (eval elt (compEnvC scope cl C env)) (LCg.CompEnd h₀ L m { s with heap := h, toks := tk } Ia oI C oC D (LCg.lst ys) S (fun y news' => I (i + 1) (ys ++ [y]) news')) E' s'
        else LCg.CompEnd h₀ L m { s with heap := h, toks := tk } Ia oI C oC D (LCg.lst ys) S (fun _ news' => I (i + 1) ys news') Value.none s') E' { s with heap := h, toks := tk })
    (fin : ∀ ys news, I n ys news → Fin ys news) : ∀ (j i : Nat) (ys : List Value) (news : List (Addr × Obj)), i + j = n → I i ys news → LCt.CompRestT prog w A h₀ L m env ct elt x scope cl s S P Fin j i ys news := by
  intro j
  induction j with
  | zero =>
    intro i ys news hi hI
    exact LCt.CompRestT.zero (fin ys news ((show i = n by omega) ▸ hI))
  | succ j ih =>
    intro i ys news hi hI
    refine LCt.CompRestT.succ ?_
    intro v Ia oI C oC D m₂ h tk E' hv hC hx F N off ne
    refine wpAny_mono (turn i ys news v Ia oI C oC D m₂ h tk E' (by omega) hI hv hC hx F N off ne) (fun ok s₂ hq => ?_) fun _ _ e => e
    cases ok with
    | true =>
      simp only [if_true] at hq ⊢
      refine wpAny_mono hq (fun y s₃ hq => ?_) fun _ _ e => e
      refine hide fun P9 hP9 => ?_
      obtain ⟨h', tk', nw, e, F', N', off', hS, hI'⟩ := hq
      refine hP9 ?_; clear hP9 P9
      exact ⟨h', tk', nw, e, F', N', off', hS, ih (i + 1) _ nw (by omega) hI'⟩
    | false =>
      simp only [Bool.false_eq_true, if_false] at hq ⊢
      refine hide fun P9 hP9 => ?_
      obtain ⟨h', tk', nw, e, F', N', off', hS, hI'⟩ := hq
      refine hP9 ?_; clear hP9 P9
      exact ⟨h', tk', nw, e, F', N', off', hS, ih (i + 1) _ nw (by omega) hI'⟩
end
section
set_option maxRecDepth 100000
open PySem PySem.W PySem.Calls PyProof.Rows
theorem reset_L27 : True := by
  w_top off
  trivial
local macro_rules | `(tactic| walk_at "exec Assign cons ListComp") => `(tactic| (k_here; (with_reducible show wpAny _ _ (exec (Stmt.Assign [Expr.Name (PySem.Str.ofString "marks") _] _ _) _) _ _ _); k_dflt (refine assignVals_U (F₀ := by k_asm) (by rfl) (by with_unfolding_all rfl) (by with_unfolding_all rfl) (by decide) (by rfl) (by decide) (by rfl) (by rfl) (by rfl) ?_)))
variable {w : World} {B h : Heap}
theorem off1Mem {D : Addr} : ∀ {l : List (Addr × Obj)}, LCg.Off1 D l → ∀ p ∈ l, NeN p.1 D
  | [], _, _, hp => nomatch hp
  | _ :: _, h, p, hp => by
    rcases List.mem_cons.1 hp with rfl | hp
    · exact h.1
    · exact off1Mem h.2 p hp
theorem Rest.deadNew {as : List Addr} {rest : List (Addr × Obj)} (hR : Rest B h as rest) {x : Addr} (b : B.get? x = none) (ha : ∀ a ∈ as, NeN a x) (hr : ∀ p ∈ rest, NeN p.1 x) : h.get? x = none := by
  cases hq : h.get? x with
  | none => rfl
  | some o =>
    by_cases hm : x ∈ as
    · exact (ha x hm rfl).elim
    · exact (hr _ (hR.all x o hm ⟨hq, b⟩) rfl).elim
/-- a cycle's state as the law tells it -/
inductive StPost (B h : Heap) (c : Cfg) (xs : List Th) (g : Sg) (v : Value) (h' : Heap) : Prop
  | mk (T ml vs t1 t2 t3 t4 t5 n : _) (p0 : v = .ref T) (p1 : Own B h' T { cls := .type "tuple", data := .seq #[.int g.pos.phase t1, .int g.cyc t2, .int c.total t3, .int g.thr t4, .int g.debt t5, .ref ml] }) (p2 : Own B h' ml (listOf vs.toArray n)) (p3 : IntsAre vs (xs.map (·.mrk))) (p4 : h.get? T = none) (p5 : h.get? ml = none) (p6 : NeN T ml)
set_option maxHeartbeats 400000 in
theorem lawState_con (W : Wd w B) (hB : Keep B h) {c : Cfg} {m : Mut} {xs : List Th} {g : Sg} (q : SR w B h c m xs g) :
    Con w B 3 395 [.ref c.ca] is0 h (StPost B h c xs g) := by
  have hn9 := q.okn
  refine hide fun P9 hP9 => ?_
  obtain ⟨sv, r, hsv⟩ := q.rep
  obtain ⟨z0_1, z0_2, z0_3, z0_4, z0_5, z0_6, z0_7, z0_8, z0_9, z0_10, z0_11, z1_2, z1_3, z1_4, z1_5, z1_6, z1_7, z1_8, z1_9, z1_10, z1_11, z2_3, z2_4, z2_5, z2_6, z2_7, z2_8, z2_9, z2_10, z2_11, z3_4, z3_5, z3_6, z3_7, z3_8, z3_9, z3_10, z3_11, z4_5, z4_6, z4_7, z4_8, z4_9, z4_10, z4_11, z5_6, z5_7, z5_8, z5_9, z5_10, z5_11, z6_7, z6_8, z6_9, z6_10, z6_11, z7_8, z7_9, z7_10, z7_11, z8_9, z8_10, z8_11, z9_10, z9_11, z10_11, y0_1, y0_2, y0_3, y1_2, y1_3, y2_3, w0_0, w0_1, w0_2, w0_3, w1_0, w1_1, w1_2, w1_3, w2_0, w2_1, w2_2, w2_3, w3_0, w3_1, w3_2, w3_3, w4_0, w4_1, w4_2, w4_3, w5_0, w5_1, w5_2, w5_3, w6_0, w6_1, w6_2, w6_3, w7_0, w7_1, w7_2, w7_3, w8_0, w8_1, w8_2, w8_3, w9_0, w9_1, w9_2, w9_3, w10_0, w10_1, w10_2, w10_3, w11_0, w11_1, w11_2, w11_3⟩ := (Sep.fx (Sep.ofLists r.sep rfl) : Fx c m)
  refine hP9 ?_; clear hP9 P9
  have h1 := r.ca; have h2 := r.cd; have h5 := r.od
  have d1 := r.odd; have d2 := r.odn
  have d3 : (xs.map fun x => (x.num, x.ref)).length ≤ 1000 := by rw [List.length_map]; omega
  have W0 := W; (first | (have X9 : ∀ w9 : World, (Mine.hd.heap_39 w9.params).In default → PySem.Challenge.rw_rh0162_01 = PySem.Challenge.rw_rh0162_01 := by (k_fill; fail)) | skip)
  k_dflt (refine' Con.start [("heap_here", .ref c.ca)] W hB (.cons h1 (.cons h2 (.cons h5 .nil))) rfl ?ho ?hcd ?bind ?loc ?a ?b ?c ?d ?_; (case ho => k_is); (case hcd => k_is); (case bind => exact fun _ => BindsTo.of_eq rfl); (case loc => exact locs rfl); (case a => exact rfl); (case b => exact rfl); (case c => exact rfl); (case d => decide))
  intro p0 loose0 mean0 mg0 mb0 dp9 fr9 gd9 un9 s RR h₁ L rest tk Q' X T C R post hL F N hR hQ hQn; clear C
  dsimp only [List.cons_append, List.nil_append] at N
  change Rest B h [c.ca, c.cd, c.od] rest at hR
  have hr0 := hR.off c.ca (.head _)
  have hr1 := hR.off c.cd (.tail _ (.head _))
  have hr2 := hR.off c.od (.tail _ (.tail _ (.head _)))
  have hh := R.handled
  dsimp only [cycEs, Sg.v, Cfg.cy] at N
  k_steps
  (with_reducible rename Fr _ _ _ _ => F9); (with_reducible rename News _ _ _ _ => N9)
  rename_i V _ _
  have hbase : ∃ base, News B L _ base ∧ (V, vview c.od) ∈ base ∧ (c.od, c.oo) ∈ base ∧ (c.ca, instObj 346 c.cd) ∈ base ∧ (c.cd, dictOf (cycEs c.kc m.tc (c.cy m) (g.v c)) 14) ∈ base ∧ ∀ p ∈ rest, p ∈ base := ⟨_, N9, .head _, by k_mem, by k_mem, .tail _ (.tail _ (.head _)), fun p hp => by (repeat' apply List.Mem.tail); exact hp⟩
  refine hide fun P9 hP9 => ?_
  obtain ⟨base, N8, b1, b2, b3, b4, b5⟩ := hbase
  refine hP9 ?_; clear hP9 P9
  refine ⟨⟨V, c.od, c.oo, _, base, rfl, rfl, F9, N8, b1, b2, d1, by rw [sizeLine_eq]; omega, fun g9 => ?_⟩⟩
  clear N8 N9 F9
  refine compRest_ind (fun i ys news => news = base ∧ IntsAre ys ((xs.take i).map (·.mrk))) ?turn ?fin _ 0 [] _ (Nat.zero_add _) ⟨rfl, .nil⟩
  case turn =>
    rintro i ys news v Ia oI Ca oC D m₂ h2 tk2 E' hin ⟨e, qi⟩ ⟨k, hk⟩ hC hx F N off ne
    subst e
    rw [List.getElem?_map] at hk
    refine hide fun P9 hP9 => ?_
    obtain ⟨x, hxi, ex⟩ := Option.map_eq_some_iff.1 hk
    refine hP9 ?_; clear hP9 P9
    cases ex
    have hxm := List.mem_of_getElem? hxi
    have mx1 := b5 _ (hR.all _ _ (fun hm => by
      simp only [List.mem_cons, List.not_mem_nil, or_false] at hm
      refine hide fun P9 hP9 => ?_
      (rcases hm with e | e | e) <;> (refine hP9 ?_; clear hP9 P9)
      · exact r.sep.tf x hxm c.ca (by first | exact Cfg.m0 _ | exact Cfg.m1 _ | exact Cfg.m2 _ | exact Cfg.m3 _ | exact Cfg.m4 _ | exact Cfg.m5 _ | exact Cfg.m6 _ | exact Cfg.m7 _ | exact Cfg.m8 _ | exact Cfg.m9 _ | exact Cfg.m10 _ | exact Cfg.m11 _) e
      · exact r.sep.tf x hxm c.cd (by first | exact Cfg.m0 _ | exact Cfg.m1 _ | exact Cfg.m2 _ | exact Cfg.m3 _ | exact Cfg.m4 _ | exact Cfg.m5 _ | exact Cfg.m6 _ | exact Cfg.m7 _ | exact Cfg.m8 _ | exact Cfg.m9 _ | exact Cfg.m10 _ | exact Cfg.m11 _) e
      · exact r.sep.tf x hxm c.od (by first | exact Cfg.m0 _ | exact Cfg.m1 _ | exact Cfg.m2 _ | exact Cfg.m3 _ | exact Cfg.m4 _ | exact Cfg.m5 _ | exact Cfg.m6 _ | exact Cfg.m7 _ | exact Cfg.m8 _ | exact Cfg.m9 _ | exact Cfg.m10 _ | exact Cfg.m11 _) e) (r.th x hxm).o)
    have mx2 := b5 _ (hR.all _ _ (fun hm => by
      simp only [List.mem_cons, List.not_mem_nil, or_false] at hm
      refine hide fun P9 hP9 => ?_
      (rcases hm with e | e | e) <;> (refine hP9 ?_; clear hP9 P9)
      · exact r.sep.df x hxm c.ca (by first | exact Cfg.m0 _ | exact Cfg.m1 _ | exact Cfg.m2 _ | exact Cfg.m3 _ | exact Cfg.m4 _ | exact Cfg.m5 _ | exact Cfg.m6 _ | exact Cfg.m7 _ | exact Cfg.m8 _ | exact Cfg.m9 _ | exact Cfg.m10 _ | exact Cfg.m11 _) e
      · exact r.sep.df x hxm c.cd (by first | exact Cfg.m0 _ | exact Cfg.m1 _ | exact Cfg.m2 _ | exact Cfg.m3 _ | exact Cfg.m4 _ | exact Cfg.m5 _ | exact Cfg.m6 _ | exact Cfg.m7 _ | exact Cfg.m8 _ | exact Cfg.m9 _ | exact Cfg.m10 _ | exact Cfg.m11 _) e
      · exact r.sep.df x hxm c.od (by first | exact Cfg.m0 _ | exact Cfg.m1 _ | exact Cfg.m2 _ | exact Cfg.m3 _ | exact Cfg.m4 _ | exact Cfg.m5 _ | exact Cfg.m6 _ | exact Cfg.m7 _ | exact Cfg.m8 _ | exact Cfg.m9 _ | exact Cfg.m10 _ | exact Cfg.m11 _) e) (r.th x hxm).d)
    have N2 : News B L h2 ((x.t, instObj 367 x.td) :: (x.td, dictOf (thEs x.k x.num x.mrk x.sz x.t1 x.t2 x.t3) 3) :: (Ia, oI) :: (Ca, oC) :: (D, LCg.lst ys) :: news) := fun p hp => by
      rcases List.mem_cons.1 hp with rfl | hp
      · exact N _ (.tail _ (.tail _ (.tail _ mx1)))
      · rcases List.mem_cons.1 hp with rfl | hp
        · exact N _ (.tail _ (.tail _ (.tail _ mx2)))
        · exact N p hp
    clear N
    k_steps
    have hil : i < xs.length := (List.getElem?_eq_some_iff.1 hxi).1
    have ea : (xs.take (i + 1)).map (·.mrk) = (xs.take i).map (·.mrk) ++ [x.mrk] := by
      rw [List.take_succ, hxi]; simp
    refine ⟨h2, _, news, rfl, F, fun p hp => N2 p (.tail _ (.tail _ hp)), off, b2, rfl, ?_⟩
    rw [ea]
    exact qi.append (.cons _ _ .nil)
  case fin =>
    rintro ys news ⟨e, qi⟩ D hq tk2 F N off
    subst e
    have N2 : News B L hq ((D, listOf ys.toArray ys.length) :: (c.ca, instObj 346 c.cd) :: (c.cd, dictOf (cycEs c.kc m.tc (c.cy m) (g.v c)) 14) :: (c.od, c.oo) :: rest) := fun p hp => by
      rcases List.mem_cons.1 hp with rfl | hp
      · exact N _ (.head _)
      · rcases List.mem_cons.1 hp with rfl | hp
        · exact N _ (.tail _ b3)
        · rcases List.mem_cons.1 hp with rfl | hp
          · exact N _ (.tail _ b4)
          · rcases List.mem_cons.1 hp with rfl | hp
            · exact N _ (.tail _ b2)
            · exact N _ (.tail _ (b5 p hp))
    have fD : h.get? D = none := hR.deadNew (N _ (.head _)).2.2 (allC (off1Mem off _ b3) (allC (off1Mem off _ b4) (allC (off1Mem off _ b2) (List.forall_mem_nil _)))) fun p hp => off1Mem off _ (b5 p hp)
    clear N
    dsimp only [cycEs, Sg.v, Cfg.cy] at N2
    dsimp only
    k_steps
    (with_reducible rename Fr _ _ _ _ => F9); (with_reducible rename News _ _ _ _ => N9)
    rename_i T _ l1
    have fT : h.get? T = none := fresh_of hR (newsOwn N9 (a := T) (by k_mem)).2 (by repeat' (first | exact List.forall_mem_nil _ | refine allC ((by first | exact l1.1 | exact l1 | exact l1.2.1 | exact l1.2 | exact l1.2.2.1 | exact l1.2.2 | exact l1.2.2.2.1 | exact l1.2.2.2 | exact l1.2.2.2.2.1 | exact l1.2.2.2.2 | exact l1.2.2.2.2.2.1 | exact l1.2.2.2.2.2 | exact l1.2.2.2.2.2.2.1 | exact l1.2.2.2.2.2.2 | exact l1.2.2.2.2.2.2.2.1 | exact l1.2.2.2.2.2.2.2 | exact l1.2.2.2.2.2.2.2.2.1 | exact l1.2.2.2.2.2.2.2.2 | exact l1.2.2.2.2.2.2.2.2.2.1 | exact l1.2.2.2.2.2.2.2.2.2 | exact l1.2.2.2.2.2.2.2.2.2.2.1 | exact l1.2.2.2.2.2.2.2.2.2.2 | exact l1.2.2.2.2.2.2.2.2.2.2.2.1 | exact l1.2.2.2.2.2.2.2.2.2.2.2 | exact l1.2.2.2.2.2.2.2.2.2.2.2.2.1 | exact l1.2.2.2.2.2.2.2.2.2.2.2.2 | exact l1.2.2.2.2.2.2.2.2.2.2.2.2.2.1 | exact l1.2.2.2.2.2.2.2.2.2.2.2.2.2 | exact l1.2.2.2.2.2.2.2.2.2.2.2.2.2.2.1 | exact l1.2.2.2.2.2.2.2.2.2.2.2.2.2.2 | exact l1.2.2.2.2.2.2.2.2.2.2.2.2.2.2.2.1 | exact l1.2.2.2.2.2.2.2.2.2.2.2.2.2.2.2 | omega)) (?_))) l1.2.2.2.2
    rw [List.length_map, List.take_length] at qi
    (with_reducible rename Fr _ _ _ _ => F9); (with_reducible rename News _ _ _ _ => N9)
    refine hQ _ _ (post _ _ _ (Keep.of_fr F9) (hR.upto hB F9 N9 (by intro p hp; repeat (first | exact hp | apply List.Mem.tail)) ?_) ?_)
    · refine allC (?_) (allC (?_) (allC (?_) (List.forall_mem_nil _)))
      · first | exact Or.inr ((newsOwn N9 (a := c.ca) (by k_mem)).1.trans h1.1.symm) | exact Or.inl ⟨by first | exact rfl | exact Or.inl rfl | exact Or.inr rfl | exact Or.inr (Or.inl rfl) | exact Or.inr (Or.inr rfl) | exact Or.inr (Or.inr (Or.inr ⟨_, .head _, rfl⟩)) | exact Or.inr (Or.inr (Or.inl (by first | exact Mut.m0 _ | exact Mut.m1 _ | exact Mut.m2 _ | exact Mut.m3 _))), newsLive N9 (by k_mem)⟩
      · first | exact Or.inr ((newsOwn N9 (a := c.cd) (by k_mem)).1.trans h2.1.symm) | exact Or.inl ⟨by first | exact rfl | exact Or.inl rfl | exact Or.inr rfl | exact Or.inr (Or.inl rfl) | exact Or.inr (Or.inr rfl) | exact Or.inr (Or.inr (Or.inr ⟨_, .head _, rfl⟩)) | exact Or.inr (Or.inr (Or.inl (by first | exact Mut.m0 _ | exact Mut.m1 _ | exact Mut.m2 _ | exact Mut.m3 _))), newsLive N9 (by k_mem)⟩
      · first | exact Or.inr ((newsOwn N9 (a := c.od) (by k_mem)).1.trans h5.1.symm) | exact Or.inl ⟨by first | exact rfl | exact Or.inl rfl | exact Or.inr rfl | exact Or.inr (Or.inl rfl) | exact Or.inr (Or.inr rfl) | exact Or.inr (Or.inr (Or.inr ⟨_, .head _, rfl⟩)) | exact Or.inr (Or.inr (Or.inl (by first | exact Mut.m0 _ | exact Mut.m1 _ | exact Mut.m2 _ | exact Mut.m3 _))), newsLive N9 (by k_mem)⟩
    · exact ⟨T, D, ys, _, _, _, _, _, _, rfl, newsOwn N9 (by k_mem), newsOwn N9 (by k_mem), qi, fT, fD, Nat.ne_of_gt (by omega)⟩
end
section
set_option maxRecDepth 100000
open PySem PySem.W PySem.Calls PyProof.Rows
theorem reset_L29 : True := by
  w_top off
  trivial
theorem single_cyc {c : Cfg} {g : Sg} : g.cyc ≤ (single c g).1.cyc ∧ ((single c g).1.pos.phase = 0 → (single c g).1.cyc = g.cyc + 1) ∧ ((single c g).1.pos.phase ≠ 0 → (single c g).1.cyc = g.cyc) := by
  refine hide fun P9 hP9 => ?_
  obtain ⟨pos, white, est, debt, thr, pause, mul, cyc⟩ := g
  refine hP9 ?_; clear hP9 P9
  cases pos with
  | prop j => cases j <;> simp [single, Pos.phase]
  | fin => simp [single, Pos.phase]; omega
  | _ => simp [single, Pos.phase]
theorem goG_cyc {c : Cfg} : ∀ (k : Nat) (g : Sg) (wl : Int), g.cyc ≤ (goG c (k + 1) g wl).cyc ∧ ((goG c (k + 1) g wl).pos.phase = 0 → g.cyc < (goG c (k + 1) g wl).cyc)
  | 0, g, wl => by
    have h := single_cyc (c := c) (g := g)
    have e : goG c (0 + 1) g wl = (single c g).1 := by rw [goG]; split <;> rfl
    rw [e]
    exact ⟨h.1, fun q => by have := h.2.1 q; omega⟩
  | k + 1, g, wl => by
    have h := single_cyc (c := c) (g := g)
    rw [goG]
    split
    · have h2 := goG_cyc (c := c) k (single c g).1 (wl - (single c g).2)
      exact ⟨Int.le_trans h.1 h2.1, fun q => Int.lt_of_le_of_lt h.1 (h2.2 q)⟩
    · exact ⟨h.1, fun q => by have := h.2.1 q; omega⟩
theorem afterG_cyc {c : Cfg} {g : Sg} : (afterG c g).cyc = g.cyc := by
  unfold afterG
  split
  · rfl
  · split <;> rfl
theorem stepG_cyc {c : Cfg} {g : Sg} (h : (stepG c g).pos.phase = 0) : g.cyc < (stepG c g).cyc := by
  unfold stepG at h ⊢
  rw [afterG_pos] at h
  rw [afterG_cyc]
  exact (goG_cyc (c.szs.length + 4) (debtG c g) (workG g.mul)).2 h
theorem afterG_mul {c : Cfg} {g : Sg} : (afterG c g).thr ≤ c.total → (afterG c g).pos.phase ≠ 0 → True := fun _ _ => trivial
theorem stepsG_told {c : Cfg} : ∀ (k : Nat) (g : Sg), (g.pos.phase ≠ 0 ∨ (0 < k ∧ g.thr ≤ c.total)) → (stepsG c k g).2 = decide ((stepsG c k g).1.pos.phase = 0)
  | 0, g, h => by
    rcases h with h | h
    · rw [stepsG]; exact (decide_eq_false h).symm
    · exact absurd h.1 (by omega)
  | k + 1, g, h => by
    rw [stepsG]
    split
    · split
      · rename_i e; exact (decide_eq_true e).symm
      · rename_i e; exact stepsG_told k _ (.inl e)
    · rename_i e
      rcases h with h | h
      · exact (decide_eq_false h).symm
      · exact absurd h.2 e
theorem steps_told {c : Cfg} {g : Sg} (ok : OkG c g) : (stepsG c (c.szs.length + 5) { g with thr := 0 }).2 = decide ((stepsG c (c.szs.length + 5) { g with thr := 0 }).1.pos.phase = 0) :=
  stepsG_told _ _ (.inr ⟨by omega, ok.tot.1⟩)
theorem single_cost {c : Cfg} {g : Sg} (hs : ∀ i, c.szs.getD i 0 ≤ 51) : (single c g).2 ≤ 51 := by
  refine hide fun P9 hP9 => ?_
  obtain ⟨pos, white, est, debt, thr, pause, mul, cyc⟩ := g
  refine hP9 ?_; clear hP9 P9
  cases pos with
  | prop j =>
    cases j with
    | zero => simp [single]
    | succ j => have := hs (j + 1); simp only [single]; omega
  | root => have := hs 0; simp only [single]; omega
  | sweep => simp [single]
  | _ => simp [single]
theorem goG_all {c : Cfg} (hs : ∀ i, c.szs.getD i 0 ≤ 51) : ∀ (k : Nat) (g : Sg) (wl : Int), OkG c g → rk c g.pos ≤ k → 100 * (k : Int) < wl → (goG c k g wl).pos.phase = 0 ∧ (goG c k g wl).cyc = g.cyc + 1
  | 0, g, wl, _, h, _ => absurd h (by have := rk_pos (c := c) (p := g.pos); omega)
  | k + 1, g, wl, ok, h, hw => by
    have h1 := single_cyc (c := c) (g := g)
    have h2 := single_cost (g := g) hs
    rw [goG]
    by_cases e : (single c g).1.pos.phase = 0
    · rw [if_neg (fun q => q.1 e)]
      exact ⟨e, h1.2.1 e⟩
    · rw [if_pos ⟨e, by omega⟩]
      have h3 := rk_single ok e
      have h4 := goG_all hs k (single c g).1 (wl - (single c g).2) ok.single (by omega) (by omega)
      rw [h1.2.2 e] at h4
      exact h4
theorem okG0 {c : Cfg} {share : Int} (hl : 2 ≤ c.szs.length) (ht : 0 ≤ c.total ∧ c.total ≤ 100000) (hsh : -1000 ≤ share ∧ share ≤ 1000) : OkG c { g0 with mul := share } :=
  ⟨by show (-1000 : Int) ≤ 200 ∧ (200 : Int) ≤ 1000; omega, hsh, by show (0 : Int) ≤ 0 ∧ (0 : Int) ≤ 100000; omega, ht, nofun, hl⟩
theorem first0 {c : Cfg} (hs : ∀ i, c.szs.getD i 0 ≤ 51) (hl : 2 ≤ c.szs.length ∧ c.szs.length ≤ 9) (ht : 0 ≤ c.total ∧ c.total ≤ 100000) : (stepG c { g0 with mul := 0 }).pos.phase = 0 ∧ (stepG c { g0 with mul := 0 }).cyc = 1 := by
  unfold stepG
  rw [afterG_pos, afterG_cyc]
  have := goG_all hs (c.szs.length + 5) (debtG c { g0 with mul := 0 }) (workG 0) (debtG_ok (okG0 hl.1 ht (by omega))) (rk_le (debtG_ok (okG0 hl.1 ht (by omega)))) (by
    show 100 * ((c.szs.length + 5 : Nat) : Int) < 1000000000000000000
    omega)
  exact this
theorem firstSmall {c : Cfg} {share : Int} (hl : 2 ≤ c.szs.length ∧ c.szs.length ≤ 9) (hsh : share = 1 ∨ share = 2 ∨ share = -5 ∨ share = -200) :
    (stepG c { g0 with mul := share }).cyc = 0 ∧ ((stepG c { g0 with mul := share }).pos = .root ∨ (stepG c { g0 with mul := share }).pos = .prop (c.szs.length - 1)) := by
  unfold stepG
  rw [afterG_pos, afterG_cyc]
  have hc : max 1 (c.szs.getD 0 0) ≥ 1 := by omega
  rcases hsh with rfl | rfl | rfl | rfl
  · have w : workG 1 = 1 := by decide
    have e : goG c (c.szs.length + 5) (debtG c { g0 with mul := 1 }) (workG 1) = (single c (single c (debtG c { g0 with mul := 1 })).1).1 := by
      rw [show c.szs.length + 5 = (c.szs.length + 3) + 1 + 1 from rfl, w, goG, if_pos ⟨show (1 : Int) ≠ 0 from by decide, show (1 : Int) - 0 > 0 from by decide⟩, goG, if_neg (by
        intro q
        have q2 : (1 : Int) - 0 - max 1 (c.szs.getD 0 0) > 0 := q.2
        omega)]
    rw [e]
    exact ⟨rfl, .inr rfl⟩
  · have w : workG 2 = 1 := by decide
    have e : goG c (c.szs.length + 5) (debtG c { g0 with mul := 2 }) (workG 2) = (single c (single c (debtG c { g0 with mul := 2 })).1).1 := by
      rw [show c.szs.length + 5 = (c.szs.length + 3) + 1 + 1 from rfl, w, goG, if_pos ⟨show (1 : Int) ≠ 0 from by decide, show (1 : Int) - 0 > 0 from by decide⟩, goG, if_neg (by
        intro q
        have q2 : (1 : Int) - 0 - max 1 (c.szs.getD 0 0) > 0 := q.2
        omega)]
    rw [e]
    exact ⟨rfl, .inr rfl⟩
  · have e : goG c (c.szs.length + 5) (debtG c { g0 with mul := -5 }) (workG (-5)) = (single c (debtG c { g0 with mul := -5 })).1 := by
      rw [show c.szs.length + 5 = (c.szs.length + 4) + 1 from rfl, goG, if_neg (fun q => absurd (show workG (-5) - 0 > 0 from q.2) (by decide))]
    rw [e]
    exact ⟨rfl, .inl rfl⟩
  · have e : goG c (c.szs.length + 5) (debtG c { g0 with mul := -200 }) (workG (-200)) = (single c (debtG c { g0 with mul := -200 })).1 := by
      rw [show c.szs.length + 5 = (c.szs.length + 4) + 1 from rfl, goG, if_neg (fun q => absurd (show workG (-200) - 0 > 0 from q.2) (by decide))]
    rw [e]
    exact ⟨rfl, .inl rfl⟩
/-- at the root, or just behind it, one object at most is black -/
theorem few_black {n : Nat} {white : Int} {pos : Pos} {xs : List Th} (hm : ∀ (i : Nat) (x : Th), xs[i]? = some x → x.mrk = markOf white pos i) (hw : white = 0 ∨ white = 1) (hp : pos = .root ∨ pos = .prop n) (hn : xs.length ≤ n + 1) :
    (xs.filter (fun x => x.mrk == 3)).length ≤ 1 := by
  cases xs with
  | nil => exact Nat.zero_le _
  | cons a r =>
    have hr : r.filter (fun x => x.mrk == 3) = [] := by
      rw [List.filter_eq_nil_iff]
      intro x hx
      obtain ⟨i, hi⟩ := List.getElem?_of_mem hx
      have hil : i < r.length := (List.getElem?_eq_some_iff.1 hi).1
      have e := hm (i + 1) x (by simpa using hi)
      rw [e]
      rw [List.length_cons] at hn
      rcases hp with rfl | rfl
      · simp only [markOf, Nat.succ_ne_zero, if_false, beq_iff_eq]; omega
      · simp only [markOf, Nat.succ_ne_zero, if_false, beq_iff_eq]
        rw [if_pos (by omega)]; omega
    rw [List.filter_cons]
    split
    · rw [hr]; exact Nat.le_refl _
    · rw [hr]; exact Nat.zero_le _
theorem checkG_right {c : Cfg} {g : Sg} (hp : g.pos = .pause) : ((checkG c g).pos.phase ≠ 0 ∨ (checkG c g).cyc > g.cyc) ↔ g.thr ≤ c.total := by
  unfold checkG
  split
  · rename_i e
    refine ⟨fun _ => e, fun _ => ?_⟩
    by_cases q : (stepG c g).pos.phase = 0
    · exact .inr (stepG_cyc q)
    · exact .inl q
  · rename_i e
    refine ⟨fun q => ?_, fun q => absurd q e⟩
    rcases q with q | q
    · rw [hp] at q; exact absurd rfl q
    · omega
end
section
set_option maxRecDepth 100000
open PySem PySem.W PySem.Calls PyProof.Rows
theorem reset_L28 : True := by
  w_top off
  trivial
variable {w : World} {B h : Heap}
set_option maxHeartbeats 1000000 in
theorem pauseRight_con (W : Wd w B) (hB : Keep B h) {c : Cfg} {m : Mut} {xs : List Th} {g : Sg} {pause : Int} {tp : Tok} (q : SR w B h c m xs g) (ok : OkG c g) (hp : -1000 ≤ pause ∧ pause ≤ 1000) :
    Con w B 16 402 [.ref c.ca, .int pause tp] (Foot c m xs) h (fun v _ => v = .bool true) := by
  have h1 := q.ca; have h2 := q.cd; have hne := q.nacd
  have W0 := W; (first | (have X9 : ∀ w9 : World, (Mine.hd.heap_39 w9.params).In default → PySem.Challenge.rw_rh0162_01 = PySem.Challenge.rw_rh0162_01 := by (k_fill; fail)) | skip)
  k_dflt (refine' Con.start [("heap_here", .ref c.ca), ("pause", .int pause tp)] W hB (.cons h1 (.cons h2 .nil)) rfl ?ho ?hcd ?bind ?loc ?a ?b ?c ?d ?_; (case ho => k_is); (case hcd => k_is); (case bind => exact fun _ => BindsTo.of_eq rfl); (case loc => exact locs rfl); (case a => exact rfl); (case b => exact rfl); (case c => exact rfl); (case d => decide))
  intro p0 loose0 mean0 mg0 mb0 dp9 fr9 gd9 un9 s RR h₁ L rest tk Q' X T C R post hL F N hR hQ hQn; clear C
  dsimp only [List.cons_append, List.nil_append] at N
  change Rest B h [c.ca, c.cd] rest at hR
  have hr0 := hR.off c.ca (.head _)
  have hr1 := hR.off c.cd (.tail _ (.head _))
  have hh := R.handled
  dsimp only [cycEs, Sg.v] at N
  k_steps
  (with_reducible rename Fr _ _ _ _ => F9); (with_reducible rename News _ _ _ _ => N9)
  have U0 := hR.upto (S := is0) hB F9 N9 (by intro p hp; repeat (first | exact hp | apply List.Mem.tail)) (by
    refine allC (?_) (allC (?_) (List.forall_mem_nil _))
    · first | exact Or.inr ((newsOwn N9 (a := c.ca) (by k_mem)).1.trans h1.1.symm) | exact Or.inl ⟨by first | exact rfl | exact Or.inl rfl | exact Or.inr rfl | exact Or.inr (Or.inl rfl) | exact Or.inr (Or.inr rfl) | exact Or.inr (Or.inr (Or.inr ⟨_, .head _, rfl⟩)) | exact Or.inr (Or.inr (Or.inl (by first | exact Mut.m0 _ | exact Mut.m1 _ | exact Mut.m2 _ | exact Mut.m3 _))), newsLive N9 (by k_mem)⟩
    · first | exact Or.inr ((newsOwn N9 (a := c.cd) (by k_mem)).1.trans h2.1.symm) | exact Or.inl ⟨by first | exact rfl | exact Or.inl rfl | exact Or.inr rfl | exact Or.inr (Or.inl rfl) | exact Or.inr (Or.inr rfl) | exact Or.inr (Or.inr (Or.inr ⟨_, .head _, rfl⟩)) | exact Or.inr (Or.inr (Or.inl (by first | exact Mut.m0 _ | exact Mut.m1 _ | exact Mut.m2 _ | exact Mut.m3 _))), newsLive N9 (by k_mem)⟩)
  have q1 := q.frame U0 ⟨fun _ _ => id, fun _ _ => id, fun _ _ => id, fun _ _ => id⟩
  refine Con.call (setPause_con W0 (Keep.of_fr F9) q1) rfl (Room.deeper (R.le (by decide))) ?_
  rintro v9 H9 tk9 K9 U9 t9_5
  refine hide fun P9 hP9 => ?_
  rcases t9_5 with ⟨m', q2, f2⟩
  refine hP9 ?_; clear hP9 P9
  have oL := q.notL hL
  have F8 := q1.fr F9 oL U9
  have o2 : Off (is1 L) c m' xs := oL.fresh f2 (Fr.is1live F9) (Same.refl xs)
  have n1 : NeN c.ca L := o2.fix c.ca (by first | exact Cfg.m0 _ | exact Cfg.m1 _ | exact Cfg.m2 _ | exact Cfg.m3 _ | exact Cfg.m4 _ | exact Cfg.m5 _ | exact Cfg.m6 _ | exact Cfg.m7 _ | exact Cfg.m8 _ | exact Cfg.m9 _ | exact Cfg.m10 _ | exact Cfg.m11 _)
  have n2 : NeN c.cd L := o2.fix c.cd (by first | exact Cfg.m0 _ | exact Cfg.m1 _ | exact Cfg.m2 _ | exact Cfg.m3 _ | exact Cfg.m4 _ | exact Cfg.m5 _ | exact Cfg.m6 _ | exact Cfg.m7 _ | exact Cfg.m8 _ | exact Cfg.m9 _ | exact Cfg.m10 _ | exact Cfg.m11 _)
  have d1 := q2.ca; have d2 := q2.cd
  have UA : Upto (Foot c m xs) h H9 := U0.trans U9 (fun _ e => e.elim) (fun _ e _ => e)
  have f2' := f2.back U0
  have ok2 : OkG c { g with pause := pause } := ⟨hp, ok.mul, ok.est, ok.tot, ok.j, ok.n⟩
  clear F9 N9 hR
  (try clear hR); (try clear N9); (try clear F9)
  have F9 := F8
  refine hide fun P9 hP9 => ?_
  obtain ⟨rest, hR, N9⟩ := refocus F9 (.cons d1 (.cons d2 .nil)) (allC ((n1)) (allC ((n2)) (List.forall_mem_nil _)))
  refine hP9 ?_; clear hP9 P9
  dsimp only [List.cons_append, List.nil_append] at N9
  change Rest B _ [L, c.ca, c.cd] rest at hR
  have hB9 := Keep.of_fr F9
  have hs0 := hR.off c.ca (.tail _ (.head _))
  have hs1 := hR.off c.cd (.tail _ (.tail _ (.head _)))
  dsimp only [cycEs, Sg.v] at N9
  dsimp only
  k_steps
  (with_reducible rename Fr _ _ _ _ => F9); (with_reducible rename News _ _ _ _ => N9)
  have U6 := hR.upto (S := orL (is0) L) hB9 F9 N9 (by intro p hp; repeat (first | exact hp | apply List.Mem.tail)) (by
    refine allC (.inl ⟨.inr rfl, Fr.liveL F9⟩) (allC (?_) (allC (?_) (List.forall_mem_nil _)))
    · first | exact Or.inr ((newsOwn N9 (a := c.ca) (by k_mem)).1.trans d1.1.symm) | exact Or.inl ⟨Or.inl (by first | exact rfl | exact Or.inl rfl | exact Or.inr rfl | exact Or.inr (Or.inl rfl) | exact Or.inr (Or.inr rfl)), newsLive N9 (by k_mem)⟩
    · first | exact Or.inr ((newsOwn N9 (a := c.cd) (by k_mem)).1.trans d2.1.symm) | exact Or.inl ⟨Or.inl (by first | exact rfl | exact Or.inl rfl | exact Or.inr rfl | exact Or.inr (Or.inl rfl) | exact Or.inr (Or.inr rfl)), newsLive N9 (by k_mem)⟩)
  have q3 := q2.frame U6 o2.orL
  refine Con.call (full_con W0 (Keep.of_fr F9) q3 ok2) rfl (Room.deeper (R.le (by decide))) ?_
  rintro v9 G9 tk9 K9 V9 t9_5
  refine hide fun P9 hP9 => ?_
  rcases t9_5 with ⟨m3, ys, g3, q4, f4, s4, ok4, e1, e2, e3, e4, e5⟩
  refine hP9 ?_; clear hP9 P9
  have F8 := q3.fr F9 o2 V9
  have o4 : Off (is1 L) c m3 ys := o2.fresh f4 (Fr.is1live F9) s4
  have c1 := q4.ca; have c2 := q4.cd
  have UB : Upto (orL (Foot c m xs) L) h G9 := UA.trans (U6.trans V9 (U := orL (Foot c m' xs) L) (fun _ e => e.elim (fun e => e.elim) .inr) (fun _ e _ => .inl e)) (fun _ e => .inl e) (fun a e l => e.imp (fun e => SR.foot f2' (Same.refl xs) e l) id)
  have UBf : Upto (Foot c m xs) h G9 := UB.mono (fun a e q => e.elim id fun e => by cases e; exact not_live (none_of_le hL) q)
  have ed : 0 ≤ pause → g3.thr = (g3.est * pause).fdiv 100 := fun hp0 => by rw [e5, if_neg (show ¬ pause < 0 by omega), e4, Int.fdiv_eq_ediv_of_nonneg _ (by decide)]
  have en : ¬ 0 ≤ pause → ¬ g3.thr ≤ c.total := fun hp0 => by rw [e5, if_pos (show pause < 0 by omega)]; have := ok.tot; omega
  have hck := checkG_right (c := c) e3
  have f5 := f2'.trans (f4.back U6) UA
  have s5 : Same xs ys := s4
  clear F9 N9 hR
  (try clear hR); (try clear N9); (try clear F9)
  have F9 := F8
  refine hide fun P9 hP9 => ?_
  obtain ⟨rest, hR, N9⟩ := refocus F9 (.cons c1 (.cons c2 .nil)) (allC ((n1)) (allC ((n2)) (List.forall_mem_nil _)))
  refine hP9 ?_; clear hP9 P9
  dsimp only [List.cons_append, List.nil_append] at N9
  change Rest B _ [L, c.ca, c.cd] rest at hR
  have hB9 := Keep.of_fr F9
  have hs0 := hR.off c.ca (.tail _ (.head _))
  have hs1 := hR.off c.cd (.tail _ (.tail _ (.head _)))
  dsimp only [cycEs, Sg.v] at N9
  dsimp only
  k_steps
  · have a1 : 0 ≤ pause := by assumption
    have a2 : g3.thr ≠ (g3.est * pause).fdiv 100 := by assumption
    exact absurd (ed a1) a2
  · skip
    (with_reducible rename Fr _ _ _ _ => F9); (with_reducible rename News _ _ _ _ => N9)
    have U8 := hR.upto (S := orL (is0) L) hB9 F9 N9 (by intro p hp; repeat (first | exact hp | apply List.Mem.tail)) (by
      refine allC (.inl ⟨.inr rfl, Fr.liveL F9⟩) (allC (?_) (allC (?_) (List.forall_mem_nil _)))
      · first | exact Or.inr ((newsOwn N9 (a := c.ca) (by k_mem)).1.trans c1.1.symm) | exact Or.inl ⟨Or.inl (by first | exact rfl | exact Or.inl rfl | exact Or.inr rfl | exact Or.inr (Or.inl rfl) | exact Or.inr (Or.inr rfl)), newsLive N9 (by k_mem)⟩
      · first | exact Or.inr ((newsOwn N9 (a := c.cd) (by k_mem)).1.trans c2.1.symm) | exact Or.inl ⟨Or.inl (by first | exact rfl | exact Or.inl rfl | exact Or.inr rfl | exact Or.inr (Or.inl rfl) | exact Or.inr (Or.inr rfl)), newsLive N9 (by k_mem)⟩)
    have q5 := q4.frame U8 o4.orL
    refine Con.call (check_con W0 (Keep.of_fr F9) q5 ok4) rfl (Room.deeper (R.le (by decide))) ?_
    rintro v9 J9 tk9 K9 W9 t9_5
    refine hide fun P9 hP9 => ?_
    rcases t9_5 with ⟨m5, zs, q6, f6, s6, ok6⟩
    refine hP9 ?_; clear hP9 P9
    have F8 := q5.fr F9 o4 W9
    have o6 : Off (is1 L) c m5 zs := o4.fresh f6 (Fr.is1live F9) s6
    have b1 := q6.ca; have b2 := q6.cd
    have UC : Upto (orL (Foot c m xs) L) h J9 := UB.trans (U8.trans W9 (U := orL (Foot c m3 ys) L) (fun _ e => e.elim (fun e => e.elim) .inr) (fun _ e _ => .inl e)) (fun _ e => e) (fun a e l => e.imp (fun e => SR.foot f5 s5 e l) id)
    have UCf : Upto (Foot c m xs) h J9 := UC.mono (fun a e q => e.elim id fun e => by cases e; exact not_live (none_of_le hL) q)
    clear F9 N9 hR
    (try clear hR); (try clear N9); (try clear F9)
    have F9 := F8
    refine hide fun P9 hP9 => ?_
    obtain ⟨rest, hR, N9⟩ := refocus F9 (.cons b1 (.cons b2 .nil)) (allC ((n1)) (allC ((n2)) (List.forall_mem_nil _)))
    refine hP9 ?_; clear hP9 P9
    dsimp only [List.cons_append, List.nil_append] at N9
    change Rest B _ [L, c.ca, c.cd] rest at hR
    have hB9 := Keep.of_fr F9
    have hs0 := hR.off c.ca (.tail _ (.head _))
    have hs1 := hR.off c.cd (.tail _ (.tail _ (.head _)))
    dsimp only [cycEs, Sg.v] at N9
    dsimp only
    k_steps
    · have a0 : (checkG c g3).pos.phase ≠ 0 := by assumption
      have a3 := hck.1 (.inl a0)
      rw [ed (by assumption)] at a3
      rw [show (((checkG c g3).pos.phase != 0) == decide ((g3.est * pause).fdiv 100 ≤ c.total)) = true from by rw [decide_eq_true a3]; simp [a0]]
      (with_reducible rename Fr _ _ _ _ => F9); (with_reducible rename News _ _ _ _ => N9)
      have U7 := hR.upto (S := orL (is0) L) hB9 F9 N9 (by intro p hp; repeat (first | exact hp | apply List.Mem.tail)) (by
        refine allC (.inl ⟨.inr rfl, Fr.liveL F9⟩) (allC (?_) (allC (?_) (List.forall_mem_nil _)))
        · first | exact Or.inr ((newsOwn N9 (a := c.ca) (by k_mem)).1.trans b1.1.symm) | exact Or.inl ⟨Or.inl (by first | exact rfl | exact Or.inl rfl | exact Or.inr rfl | exact Or.inr (Or.inl rfl) | exact Or.inr (Or.inr rfl)), newsLive N9 (by k_mem)⟩
        · first | exact Or.inr ((newsOwn N9 (a := c.cd) (by k_mem)).1.trans b2.1.symm) | exact Or.inl ⟨Or.inl (by first | exact rfl | exact Or.inl rfl | exact Or.inr rfl | exact Or.inr (Or.inl rfl) | exact Or.inr (Or.inr rfl)), newsLive N9 (by k_mem)⟩)
      exact hQ _ _ (post _ _ _ (Keep.of_fr F9) (UCf.trans U7 (fun _ e => e) (fun a e q => e.elim (fun e => e.elim) fun e => by cases e; exact not_live (none_of_le hL) q)) rfl)
    · have a0 : (checkG c g3).pos.phase = 0 := by assumption
      have a3 : g3.cyc < (checkG c g3).cyc ↔ (g3.est * pause).fdiv 100 ≤ c.total := by rw [← ed (by assumption)]; exact ⟨fun e => hck.1 (.inr e), fun e => (hck.2 e).resolve_left (fun q => q a0)⟩
      rw [show (decide (g3.cyc < (checkG c g3).cyc) == decide ((g3.est * pause).fdiv 100 ≤ c.total)) = true from by simp [a3]]
      (with_reducible rename Fr _ _ _ _ => F9); (with_reducible rename News _ _ _ _ => N9)
      have U7 := hR.upto (S := orL (is0) L) hB9 F9 N9 (by intro p hp; repeat (first | exact hp | apply List.Mem.tail)) (by
        refine allC (.inl ⟨.inr rfl, Fr.liveL F9⟩) (allC (?_) (allC (?_) (List.forall_mem_nil _)))
        · first | exact Or.inr ((newsOwn N9 (a := c.ca) (by k_mem)).1.trans b1.1.symm) | exact Or.inl ⟨Or.inl (by first | exact rfl | exact Or.inl rfl | exact Or.inr rfl | exact Or.inr (Or.inl rfl) | exact Or.inr (Or.inr rfl)), newsLive N9 (by k_mem)⟩
        · first | exact Or.inr ((newsOwn N9 (a := c.cd) (by k_mem)).1.trans b2.1.symm) | exact Or.inl ⟨Or.inl (by first | exact rfl | exact Or.inl rfl | exact Or.inr rfl | exact Or.inr (Or.inl rfl) | exact Or.inr (Or.inr rfl)), newsLive N9 (by k_mem)⟩)
      exact hQ _ _ (post _ _ _ (Keep.of_fr F9) (UCf.trans U7 (fun _ e => e) (fun a e q => e.elim (fun e => e.elim) fun e => by cases e; exact not_live (none_of_le hL) q)) rfl)
  · skip
    (with_reducible rename Fr _ _ _ _ => F9); (with_reducible rename News _ _ _ _ => N9)
    have U8 := hR.upto (S := orL (is0) L) hB9 F9 N9 (by intro p hp; repeat (first | exact hp | apply List.Mem.tail)) (by
      refine allC (.inl ⟨.inr rfl, Fr.liveL F9⟩) (allC (?_) (allC (?_) (List.forall_mem_nil _)))
      · first | exact Or.inr ((newsOwn N9 (a := c.ca) (by k_mem)).1.trans c1.1.symm) | exact Or.inl ⟨Or.inl (by first | exact rfl | exact Or.inl rfl | exact Or.inr rfl | exact Or.inr (Or.inl rfl) | exact Or.inr (Or.inr rfl)), newsLive N9 (by k_mem)⟩
      · first | exact Or.inr ((newsOwn N9 (a := c.cd) (by k_mem)).1.trans c2.1.symm) | exact Or.inl ⟨Or.inl (by first | exact rfl | exact Or.inl rfl | exact Or.inr rfl | exact Or.inr (Or.inl rfl) | exact Or.inr (Or.inr rfl)), newsLive N9 (by k_mem)⟩)
    have q5 := q4.frame U8 o4.orL
    refine Con.call (check_con W0 (Keep.of_fr F9) q5 ok4) rfl (Room.deeper (R.le (by decide))) ?_
    rintro v9 J9 tk9 K9 W9 t9_5
    refine hide fun P9 hP9 => ?_
    rcases t9_5 with ⟨m5, zs, q6, f6, s6, ok6⟩
    refine hP9 ?_; clear hP9 P9
    have F8 := q5.fr F9 o4 W9
    have o6 : Off (is1 L) c m5 zs := o4.fresh f6 (Fr.is1live F9) s6
    have b1 := q6.ca; have b2 := q6.cd
    have UC : Upto (orL (Foot c m xs) L) h J9 := UB.trans (U8.trans W9 (U := orL (Foot c m3 ys) L) (fun _ e => e.elim (fun e => e.elim) .inr) (fun _ e _ => .inl e)) (fun _ e => e) (fun a e l => e.imp (fun e => SR.foot f5 s5 e l) id)
    have UCf : Upto (Foot c m xs) h J9 := UC.mono (fun a e q => e.elim id fun e => by cases e; exact not_live (none_of_le hL) q)
    clear F9 N9 hR
    (try clear hR); (try clear N9); (try clear F9)
    have F9 := F8
    refine hide fun P9 hP9 => ?_
    obtain ⟨rest, hR, N9⟩ := refocus F9 (.cons b1 (.cons b2 .nil)) (allC ((n1)) (allC ((n2)) (List.forall_mem_nil _)))
    refine hP9 ?_; clear hP9 P9
    dsimp only [List.cons_append, List.nil_append] at N9
    change Rest B _ [L, c.ca, c.cd] rest at hR
    have hB9 := Keep.of_fr F9
    have hs0 := hR.off c.ca (.tail _ (.head _))
    have hs1 := hR.off c.cd (.tail _ (.tail _ (.head _)))
    dsimp only [cycEs, Sg.v] at N9
    dsimp only
    k_steps
    · have a0 : (checkG c g3).pos.phase ≠ 0 := by assumption
      have a1 : ¬ 0 ≤ pause := by assumption
      exact absurd (hck.1 (.inl a0)) (en a1)
    · have a1 : ¬ 0 ≤ pause := by assumption
      have a3 : ¬ g3.cyc < (checkG c g3).cyc := fun e => en a1 (hck.1 (.inr e))
      rw [show (decide (g3.cyc < (checkG c g3).cyc) == decide (0 ≤ pause)) = true from by simp [a1, a3]]
      (with_reducible rename Fr _ _ _ _ => F9); (with_reducible rename News _ _ _ _ => N9)
      have U7 := hR.upto (S := orL (is0) L) hB9 F9 N9 (by intro p hp; repeat (first | exact hp | apply List.Mem.tail)) (by
        refine allC (.inl ⟨.inr rfl, Fr.liveL F9⟩) (allC (?_) (allC (?_) (List.forall_mem_nil _)))
        · first | exact Or.inr ((newsOwn N9 (a := c.ca) (by k_mem)).1.trans b1.1.symm) | exact Or.inl ⟨Or.inl (by first | exact rfl | exact Or.inl rfl | exact Or.inr rfl | exact Or.inr (Or.inl rfl) | exact Or.inr (Or.inr rfl)), newsLive N9 (by k_mem)⟩
        · first | exact Or.inr ((newsOwn N9 (a := c.cd) (by k_mem)).1.trans b2.1.symm) | exact Or.inl ⟨Or.inl (by first | exact rfl | exact Or.inl rfl | exact Or.inr rfl | exact Or.inr (Or.inl rfl) | exact Or.inr (Or.inr rfl)), newsLive N9 (by k_mem)⟩)
      exact hQ _ _ (post _ _ _ (Keep.of_fr F9) (UCf.trans U7 (fun _ e => e) (fun a e q => e.elim (fun e => e.elim) fun e => by cases e; exact not_live (none_of_le hL) q)) rfl)
end
section
set_option maxRecDepth 100000
open PySem PySem.W PySem.Calls PyProof.Rows
theorem reset_L30 : True := by
  w_top off
  trivial
variable {w : World} {B h : Heap}
def NotCode (o : Obj) : Prop := ∀ vs ql t, o.data = .fields vs → vs[1]? ≠ some (.str ql t)
theorem LamAt.ne {params : Arguments} {body : Expr} {scope : Scope} {cl : List (Str × Addr)} {f cc a : Addr} {o : Obj} (x : LamAt B h params body scope cl f cc) (y : h.get? a = some o) (n : NotCode o) : NeN cc a := fun e => by
  refine hide fun P9 hP9 => ?_
  obtain ⟨_, _, _, _, oc, vs, t, _, q, d, v⟩ := x
  refine hP9 ?_; clear hP9 P9
  cases (e : cc = a)
  have := q.1.symm.trans y
  cases this
  exact n vs _ t d v
/-- what stood before a new heap was made is none of its places -/
theorem NewC.away {h' : Heap} {c : Cfg} {m : Mut} {xs : List Th} {g : Sg} (n : NewC h c m xs) (q : SR w B h' c m xs g) {a : Addr} {o : Obj} (la : (h.get? a).isSome) (oa : h'.get? a = some o) (no : NotCode o) : Off (is1 a) c m xs := by
  refine hide fun P9 hP9 => ?_
  obtain ⟨sv, r, _⟩ := q.rep
  refine hP9 ?_; clear hP9 P9
  have k : ∀ {b : Addr}, h.get? b = none → ¬ is1 a b := fun e e' => by cases e'; exact not_live e la
  refine ⟨fun b hb => ?_, fun b hb => k (n.lists b hb), fun x hx => k (n.th x hx).1, fun x hx => k (n.th x hx).2⟩
  rcases n.fix b hb with rfl | rfl | e
  · exact r.ch.ne oa no
  · exact r.so.ne oa no
  · exact k e
theorem Off.notFoot {c : Cfg} {m : Mut} {xs : List Th} {a : Addr} (o : Off (is1 a) c m xs) : ¬ Foot c m xs a := fun e => by
  refine hide fun P9 hP9 => ?_
  (rcases e with e | e | e | ⟨x, hx, e⟩) <;> (refine hP9 ?_; clear hP9 P9)
  · exact o.fix c.cd (by first | exact Cfg.m0 _ | exact Cfg.m1 _ | exact Cfg.m2 _ | exact Cfg.m3 _ | exact Cfg.m4 _ | exact Cfg.m5 _ | exact Cfg.m6 _ | exact Cfg.m7 _ | exact Cfg.m8 _ | exact Cfg.m9 _ | exact Cfg.m10 _ | exact Cfg.m11 _) e.symm
  · exact o.fix c.md (by first | exact Cfg.m0 _ | exact Cfg.m1 _ | exact Cfg.m2 _ | exact Cfg.m3 _ | exact Cfg.m4 _ | exact Cfg.m5 _ | exact Cfg.m6 _ | exact Cfg.m7 _ | exact Cfg.m8 _ | exact Cfg.m9 _ | exact Cfg.m10 _ | exact Cfg.m11 _) e.symm
  · exact o.lists _ e rfl
  · exact o.td x hx e.symm
theorem CRep.footKind {c : Cfg} {m : Mut} {v : CycI} {white : Int} {xs : List Th} {gv sv : List Value} (r : CRep w B h c m v white xs gv sv) : ∀ a, Foot c m xs a → ∃ o, h.get? a = some o ∧ NotCode o := by
  rintro a (e | e | e | ⟨x, hx, e⟩)
  · exact ⟨_, e ▸ r.cd.1, fun _ _ _ d => by cases d⟩
  · exact ⟨_, e ▸ r.md.1, fun _ _ _ d => by cases d⟩
  · have : ∀ b ∈ [m.gl, m.ga, m.wk, m.ts], ∃ o, h.get? b = some o ∧ NotCode o := allC (⟨_, r.gl.1, fun _ _ _ d => by cases d⟩) (allC (⟨_, r.ga.1, fun _ _ _ d => by cases d⟩) (allC (⟨_, r.wk.1, fun _ _ _ d => by cases d⟩) (allC (⟨_, r.ts.1, fun _ _ _ d => by cases d⟩) (List.forall_mem_nil _))))
    exact this a e
  · exact ⟨_, e ▸ (r.th x hx).d.1, fun _ _ _ d => by cases d⟩
/-- two cycles side by side -/
structure Two (w : World) (B h : Heap) (c1 : Cfg) (m1 : Mut) (xs1 : List Th) (g1 : Sg) (c2 : Cfg) (m2 : Mut) (xs2 : List Th) (g2 : Sg) : Prop where
  q1 : SR w B h c1 m1 xs1 g1
  q2 : SR w B h c2 m2 xs2 g2
  o12 : Off (Foot c1 m1 xs1) c2 m2 xs2
  o21 : Off (Foot c2 m2 xs2) c1 m1 xs1
theorem Two.swap {c1 c2 : Cfg} {m1 m2 : Mut} {xs1 xs2 : List Th} {g1 g2 : Sg} (t : Two w B h c1 m1 xs1 g1 c2 m2 xs2 g2) : Two w B h c2 m2 xs2 g2 c1 m1 xs1 g1 := ⟨t.q2, t.q1, t.o21, t.o12⟩
theorem SR.footLive {c : Cfg} {m : Mut} {xs : List Th} {g : Sg} (q : SR w B h c m xs g) : ∀ a, Foot c m xs a → (h.get? a).isSome := fun a e => by
  refine hide fun P9 hP9 => ?_
  obtain ⟨sv, r, _⟩ := q.rep
  obtain ⟨o, ho⟩ := r.footOwn a e
  refine hP9 ?_; clear hP9 P9
  exact ho.live
theorem SR.offDead {c : Cfg} {m : Mut} {xs : List Th} {g : Sg} (q : SR w B h c m xs g) {S : Addr → Prop} (hS : ∀ a, S a → h.get? a = none) : Off S c m xs := by
  refine hide fun P9 hP9 => ?_
  obtain ⟨sv, r, _⟩ := q.rep
  refine hP9 ?_; clear hP9 P9
  have k : ∀ {a : Addr} {o : Obj}, Own B h a o → ¬ S a := fun o e => not_live (hS _ e) o.live
  refine ⟨fun a ha => ?_, allC (k r.gl) (allC (k r.ga) (allC (k r.wk) (allC (k r.ts) (List.forall_mem_nil _)))), fun x hx => k (r.th x hx).o, fun x hx => k (r.th x hx).d⟩
  obtain ⟨o, ho⟩ := r.fixLive a ha
  exact k ho
/-- the first one turns -/
theorem Two.step1 {h' : Heap} {c1 c2 : Cfg} {m1 m1' m2 : Mut} {xs1 ys1 xs2 : List Th} {g1 g1' g2 : Sg} (t : Two w B h c1 m1 xs1 g1 c2 m2 xs2 g2) (U : Upto (Foot c1 m1 xs1) h h') (q : SR w B h' c1 m1' ys1 g1') (f : Fresh c1 m1 m1' h) (s : Same xs1 ys1) :
    Two w B h' c1 m1' ys1 g1' c2 m2 xs2 g2 := by
  refine ⟨q, t.q2.frame U t.o12, ?_, t.o21.fresh f t.q2.footLive s⟩
  have key : ∀ {a : Addr}, ¬ Foot c1 m1 xs1 a → (h.get? a).isSome → ¬ Foot c1 m1' ys1 a := fun n l e => n (SR.foot f s e l)
  refine hide fun P9 hP9 => ?_
  obtain ⟨sv, r, _⟩ := t.q2.rep
  refine hP9 ?_; clear hP9 P9
  refine ⟨fun a ha => ?_, ?_, fun x hx => key (t.o12.t x hx) (r.th x hx).o.live, fun x hx => key (t.o12.td x hx) (r.th x hx).d.live⟩
  · obtain ⟨o, ho⟩ := r.fixLive a ha
    exact key (t.o12.fix a ha) ho.live
  · have l := t.o12.lists
    exact allC (key (l _ (by first | exact Mut.m0 _ | exact Mut.m1 _ | exact Mut.m2 _ | exact Mut.m3 _)) r.gl.live) (allC (key (l _ (by first | exact Mut.m0 _ | exact Mut.m1 _ | exact Mut.m2 _ | exact Mut.m3 _)) r.ga.live) (allC (key (l _ (by first | exact Mut.m0 _ | exact Mut.m1 _ | exact Mut.m2 _ | exact Mut.m3 _)) r.wk.live) (allC (key (l _ (by first | exact Mut.m0 _ | exact Mut.m1 _ | exact Mut.m2 _ | exact Mut.m3 _)) r.ts.live) (List.forall_mem_nil _))))
theorem Two.step2 {h' : Heap} {c1 c2 : Cfg} {m1 m2' m2 : Mut} {xs1 ys2 xs2 : List Th} {g1 g2' g2 : Sg} (t : Two w B h c1 m1 xs1 g1 c2 m2 xs2 g2) (U : Upto (Foot c2 m2 xs2) h h') (q : SR w B h' c2 m2' ys2 g2') (f : Fresh c2 m2 m2' h) (s : Same xs2 ys2) :
    Two w B h' c1 m1 xs1 g1 c2 m2' ys2 g2' := (t.swap.step1 U q f s).swap
theorem Two.frame {h' : Heap} {S : Addr → Prop} {c1 c2 : Cfg} {m1 m2 : Mut} {xs1 xs2 : List Th} {g1 g2 : Sg} (t : Two w B h c1 m1 xs1 g1 c2 m2 xs2 g2) (U : Upto S h h') (o1 : Off S c1 m1 xs1) (o2 : Off S c2 m2 xs2) : Two w B h' c1 m1 xs1 g1 c2 m2 xs2 g2 :=
  ⟨t.q1.frame U o1, t.q2.frame U o2, t.o12, t.o21⟩
/-- a second heap is made beside the first -/
theorem two_new {h' : Heap} {c1 c2 : Cfg} {m1 m2 : Mut} {xs1 xs2 : List Th} {g1 g2 : Sg} (q : SR w B h c1 m1 xs1 g1) (q1 : SR w B h' c1 m1 xs1 g1) (n : NewC h c2 m2 xs2) (q2 : SR w B h' c2 m2 xs2 g2) : Two w B h' c1 m1 xs1 g1 c2 m2 xs2 g2 := by
  refine hide fun P9 hP9 => ?_
  obtain ⟨sv1, r1, _⟩ := id q1.rep
  obtain ⟨sv2, r2, _⟩ := id q2.rep
  refine hP9 ?_; clear hP9 P9
  have k : ∀ {a : Addr}, h.get? a = none → ¬ Foot c1 m1 xs1 a := fun e f => not_live e (q.footLive _ f)
  refine ⟨q1, q2, ⟨fun b hb => ?_, fun b hb => k (n.lists b hb), fun x hx => k (n.th x hx).1, fun x hx => k (n.th x hx).2⟩, q.offDead fun a e => ?_⟩
  · rcases n.fix b hb with rfl | rfl | e
    · rintro f; obtain ⟨o, ho, no⟩ := r1.footKind _ f; exact r2.ch.ne ho no rfl
    · rintro f; obtain ⟨o, ho, no⟩ := r1.footKind _ f; exact r2.so.ne ho no rfl
    · exact k e
  · have pf := Sep.fx r2.sep
    refine hide fun P9 hP9 => ?_
    (rcases e with rfl | rfl | e | ⟨x, hx, rfl⟩) <;> (refine hP9 ?_; clear hP9 P9)
    · refine hide fun P9 hP9 => ?_
      (rcases n.fix c2.cd (by first | exact Cfg.m0 _ | exact Cfg.m1 _ | exact Cfg.m2 _ | exact Cfg.m3 _ | exact Cfg.m4 _ | exact Cfg.m5 _ | exact Cfg.m6 _ | exact Cfg.m7 _ | exact Cfg.m8 _ | exact Cfg.m9 _ | exact Cfg.m10 _ | exact Cfg.m11 _) with e | e | e) <;> (refine hP9 ?_; clear hP9 P9)
      · exact (pf.z1_7 e).elim
      · exact (pf.z1_9 e).elim
      · exact e
    · refine hide fun P9 hP9 => ?_
      (rcases n.fix c2.md (by first | exact Cfg.m0 _ | exact Cfg.m1 _ | exact Cfg.m2 _ | exact Cfg.m3 _ | exact Cfg.m4 _ | exact Cfg.m5 _ | exact Cfg.m6 _ | exact Cfg.m7 _ | exact Cfg.m8 _ | exact Cfg.m9 _ | exact Cfg.m10 _ | exact Cfg.m11 _) with e | e | e) <;> (refine hP9 ?_; clear hP9 P9)
      · exact (pf.z4_7 e).elim
      · exact (pf.z4_9 e).elim
      · exact e
    · exact n.lists a e
    · exact (n.th x hx).2
/-- nothing of the cycle is among these -/
def Away (as : List Addr) (c : Cfg) (m : Mut) (xs : List Th) : Prop := ∀ a ∈ as, Off (is1 a) c m xs
theorem Away.fresh {as : List Addr} {c : Cfg} {m m' : Mut} {xs ys : List Th} (o : Away as c m xs) (f : Fresh c m m' h) (l : ∀ a ∈ as, (h.get? a).isSome) (s : Same xs ys) : Away as c m' ys := fun a ha => (o a ha).fresh f (fun b e => by cases e; exact l a ha) s
theorem Off.of2 {c : Cfg} {m : Mut} {xs : List Th} {a b : Addr} (x : Off (is1 a) c m xs) (y : Off (is1 b) c m xs) : Off (is2 a b) c m xs :=
  ⟨fun d hd e => e.elim (x.fix d hd) (y.fix d hd), fun d hd e => e.elim (x.lists d hd) (y.lists d hd), fun d hd e => e.elim (x.t d hd) (y.t d hd), fun d hd e => e.elim (x.td d hd) (y.td d hd)⟩
theorem Off.mono {c : Cfg} {m : Mut} {xs : List Th} {S S' : Addr → Prop} (x : Off S c m xs) (k : ∀ a, S' a → S a) : Off S' c m xs :=
  ⟨fun d hd e => x.fix d hd (k d e), fun d hd e => x.lists d hd (k d e), fun d hd e => x.t d hd (k _ e), fun d hd e => x.td d hd (k _ e)⟩
theorem LamAt.keepS {h' : Heap} {I : Addr} {params : Arguments} {body : Expr} {scope : Scope} {cl : List (Str × Addr)} {f cc : Addr} (x : LamAt B h params body scope cl f cc) (k : ∀ a o, NeN a I → h.get? a = some o → h'.get? a = some o) (h1 : NeN f I) (h2 : NeN cc I) : LamAt B h' params body scope cl f cc := by
  refine hide fun P9 hP9 => ?_
  obtain ⟨nm, ql, pm, ctv, oc, vs, t, a, b, c, d⟩ := x
  refine hP9 ?_; clear hP9 P9
  exact ⟨nm, ql, pm, ctv, oc, vs, t, ⟨k _ _ h1 a.1, a.2⟩, ⟨k _ _ h2 b.1, b.2⟩, c, d⟩
theorem SR.keepS {h' : Heap} {I : Addr} {c : Cfg} {m : Mut} {xs : List Th} {g : Sg} (q : SR w B h c m xs g) (k : ∀ a o, NeN a I → h.get? a = some o → h'.get? a = some o) (o : Off (is1 I) c m xs) : SR w B h' c m xs g := by
  refine hide fun P9 hP9 => ?_
  obtain ⟨⟨sv, r, hsv⟩, q2, q3, q4⟩ := q
  refine hP9 ?_; clear hP9 P9
  have kf : ∀ {a : Addr} {ob : Obj}, Own B h a ob → a ∈ c.fix → Own B h' a ob := fun x hm => ⟨k _ _ (o.fix _ hm) x.1, x.2⟩
  have kl : ∀ {a : Addr} {ob : Obj}, Own B h a ob → a ∈ m.lists → Own B h' a ob := fun x hm => ⟨k _ _ (o.lists _ hm) x.1, x.2⟩
  exact ⟨⟨sv, { ca := kf r.ca (by first | exact Cfg.m0 _ | exact Cfg.m1 _ | exact Cfg.m2 _ | exact Cfg.m3 _ | exact Cfg.m4 _ | exact Cfg.m5 _ | exact Cfg.m6 _ | exact Cfg.m7 _ | exact Cfg.m8 _ | exact Cfg.m9 _ | exact Cfg.m10 _ | exact Cfg.m11 _), cd := kf r.cd (by first | exact Cfg.m0 _ | exact Cfg.m1 _ | exact Cfg.m2 _ | exact Cfg.m3 _ | exact Cfg.m4 _ | exact Cfg.m5 _ | exact Cfg.m6 _ | exact Cfg.m7 _ | exact Cfg.m8 _ | exact Cfg.m9 _ | exact Cfg.m10 _ | exact Cfg.m11 _), ma := kf r.ma (by first | exact Cfg.m0 _ | exact Cfg.m1 _ | exact Cfg.m2 _ | exact Cfg.m3 _ | exact Cfg.m4 _ | exact Cfg.m5 _ | exact Cfg.m6 _ | exact Cfg.m7 _ | exact Cfg.m8 _ | exact Cfg.m9 _ | exact Cfg.m10 _ | exact Cfg.m11 _), md := kf r.md (by first | exact Cfg.m0 _ | exact Cfg.m1 _ | exact Cfg.m2 _ | exact Cfg.m3 _ | exact Cfg.m4 _ | exact Cfg.m5 _ | exact Cfg.m6 _ | exact Cfg.m7 _ | exact Cfg.m8 _ | exact Cfg.m9 _ | exact Cfg.m10 _ | exact Cfg.m11 _), od := kf r.od (by first | exact Cfg.m0 _ | exact Cfg.m1 _ | exact Cfg.m2 _ | exact Cfg.m3 _ | exact Cfg.m4 _ | exact Cfg.m5 _ | exact Cfg.m6 _ | exact Cfg.m7 _ | exact Cfg.m8 _ | exact Cfg.m9 _ | exact Cfg.m10 _ | exact Cfg.m11 _), odd := r.odd, odn := r.odn, rl := kf r.rl (by first | exact Cfg.m0 _ | exact Cfg.m1 _ | exact Cfg.m2 _ | exact Cfg.m3 _ | exact Cfg.m4 _ | exact Cfg.m5 _ | exact Cfg.m6 _ | exact Cfg.m7 _ | exact Cfg.m8 _ | exact Cfg.m9 _ | exact Cfg.m10 _ | exact Cfg.m11 _)
                ch := r.ch.keepS k (o.fix _ (by first | exact Cfg.m0 _ | exact Cfg.m1 _ | exact Cfg.m2 _ | exact Cfg.m3 _ | exact Cfg.m4 _ | exact Cfg.m5 _ | exact Cfg.m6 _ | exact Cfg.m7 _ | exact Cfg.m8 _ | exact Cfg.m9 _ | exact Cfg.m10 _ | exact Cfg.m11 _)) (o.fix _ (by first | exact Cfg.m0 _ | exact Cfg.m1 _ | exact Cfg.m2 _ | exact Cfg.m3 _ | exact Cfg.m4 _ | exact Cfg.m5 _ | exact Cfg.m6 _ | exact Cfg.m7 _ | exact Cfg.m8 _ | exact Cfg.m9 _ | exact Cfg.m10 _ | exact Cfg.m11 _)), so := r.so.keepS k (o.fix _ (by first | exact Cfg.m0 _ | exact Cfg.m1 _ | exact Cfg.m2 _ | exact Cfg.m3 _ | exact Cfg.m4 _ | exact Cfg.m5 _ | exact Cfg.m6 _ | exact Cfg.m7 _ | exact Cfg.m8 _ | exact Cfg.m9 _ | exact Cfg.m10 _ | exact Cfg.m11 _)) (o.fix _ (by first | exact Cfg.m0 _ | exact Cfg.m1 _ | exact Cfg.m2 _ | exact Cfg.m3 _ | exact Cfg.m4 _ | exact Cfg.m5 _ | exact Cfg.m6 _ | exact Cfg.m7 _ | exact Cfg.m8 _ | exact Cfg.m9 _ | exact Cfg.m10 _ | exact Cfg.m11 _))
                cell := kf r.cell (by first | exact Cfg.m0 _ | exact Cfg.m1 _ | exact Cfg.m2 _ | exact Cfg.m3 _ | exact Cfg.m4 _ | exact Cfg.m5 _ | exact Cfg.m6 _ | exact Cfg.m7 _ | exact Cfg.m8 _ | exact Cfg.m9 _ | exact Cfg.m10 _ | exact Cfg.m11 _), cod := r.cod, tl := kf r.tl (by first | exact Cfg.m0 _ | exact Cfg.m1 _ | exact Cfg.m2 _ | exact Cfg.m3 _ | exact Cfg.m4 _ | exact Cfg.m5 _ | exact Cfg.m6 _ | exact Cfg.m7 _ | exact Cfg.m8 _ | exact Cfg.m9 _ | exact Cfg.m10 _ | exact Cfg.m11 _)
                gl := kl r.gl (by first | exact Mut.m0 _ | exact Mut.m1 _ | exact Mut.m2 _ | exact Mut.m3 _), ga := kl r.ga (by first | exact Mut.m0 _ | exact Mut.m1 _ | exact Mut.m2 _ | exact Mut.m3 _), wk := kl r.wk (by first | exact Mut.m0 _ | exact Mut.m1 _ | exact Mut.m2 _ | exact Mut.m3 _), ts := kl r.ts (by first | exact Mut.m0 _ | exact Mut.m1 _ | exact Mut.m2 _ | exact Mut.m3 _)
                th := fun x hx => ⟨⟨k _ _ (o.t x hx) (r.th x hx).o.1, (r.th x hx).o.2⟩, ⟨k _ _ (o.td x hx) (r.th x hx).d.1, (r.th x hx).d.2⟩⟩
                num := r.num, szs := r.szs, len := r.len, tot := r.tot, sep := r.sep }, hsv⟩, q2, q3, q4⟩
section
variable {prog : Program} {w : World} {A : Around} {s : Shared} {env : Env}
def tM (x z : Str) (u O : Option Value) (m : Str → Option Value) : Str → Option Value := fun y => if y = x then u else if y = z then O else m y
theorem tM_x {x z : Str} {u O : Option Value} {m : Str → Option Value} {v : Value} : (fun y => if y = x then some v else tM x z u O m y) = tM x z (some v) O m := by
  funext y; unfold tM; by_cases h : y = x <;> simp [h]
theorem tM_z {x z : Str} {u O : Option Value} {m : Str → Option Value} {v : Value} (hn : x ≠ z) : (fun y => if y = z then some v else tM x z u O m y) = tM x z u (some v) m := by
  funext y; unfold tM
  by_cases h : y = z
  · subst h; rw [if_pos rfl, if_neg (Ne.symm hn), if_pos rfl]
  · rw [if_neg h, if_neg h, if_neg h]
theorem tM_0 {x z : Str} {m : Str → Option Value} (h1 : m x = none) (h2 : m z = none) : tM x z none none m = m := by
  funext y; unfold tM
  by_cases h : y = x
  · subst h; rw [if_pos rfl, h1]
  · rw [if_neg h]
    by_cases h' : y = z
    · subst h'; rw [if_pos rfl, h2]
    · rw [if_neg h']
inductive RgEnd (B : Heap) (L I : Addr) (oI : Obj) (x z : Str) (m : Str → Option Value) (P : Heap → Prop) (s : Shared) (f : Flow) (s' : Shared) : Prop
  | mk (p0 : f = .next) (h' tk' u' O' : _) (p1 : s' = { s with heap := h', toks := tk' }) (p2 : Fr B L h' (tM x z u' O' m)) (p3 : Own B h' I oI) (p4 : P h')
inductive RgI (B : Heap) (L : Addr) (x z : Str) (m : Str → Option Value) (P : Nat → Heap → Prop) (s : Shared) (I : Addr) (a0 : Int) (n k : Nat) (s' : Shared) : Prop
  | mk (i h tk : _) (u O : Option Value) (p0 : s' = { s with heap := h, toks := tk }) (p1 : Fr B L h (tM x z u O m)) (p2 : P i h) (p3 : IsRangeIter h I (a0 + (i : Nat) * 1) ((n : Int) - (i : Nat)) 1) (p4 : i ≤ n) (p5 : k = n + 1 - i)
/-- a for over range(a, b) -/
theorem rangeGo {B : Heap} {r : Addr} {a0 b0 : Int} {t0 t1 t2 : Tok} {n : Nat} {x z : Str} {m₀ : Str → Option Value} {px : PySem.Pos} {body : List Stmt} {Q : Flow → Shared → Prop} (P : Addr → Nat → Heap → Prop)
    (hh : A.handled = none) (F : Fr B env.locals s.heap m₀) (hr : IsRange s.heap r a0 b0 1 t0 t1 t2) (hsm : Builtin.Range.small a0 b0 1 = true) (hn : Builtin.Range.rangeSize a0 b0 1 = ((n : Nat) : Int)) (hm : m₀ x = none ∧ m₀ z = none)
    (h0 : ∀ I h, s.heap.get? I = none → (h.get? I).isSome → Upto is0 s.heap h → P I 0 h) (hst : ∀ I i h h', Upto (is2 env.locals I) h h' → P I i h → P I i h')
    (turn : ∀ I (i : Nat) t O h tk oI, i < n → Fr B env.locals h (tM x z (some (.int (a0 + (i : Int)) t)) O m₀) → Own B h I oI → NeN I env.locals → P I i h →
      wpAny (model prog w) A (execs body env) (RgEnd B env.locals I oI x z m₀ (P I (i + 1)) s) (fun _ _ => False) { s with heap := h, toks := tk })
    (done : ∀ I h h' tk u O, P I n h → (∀ a o, NeN a I → h.get? a = some o → h'.get? a = some o) → Fr B env.locals h' (tM x z u O m₀) → Q .next { s with heap := h', toks := tk })
    (hx : env.kindOf x = some .local) (hp : (env.scope.kind == .class || (env.scope.kind == .module && env.locals != env.globals)) = false) :
    ForGo (model prog w) A env (.Name x px) body Q (.ref r) s := by
  refine wpAny_pyIter_range hr hsm ?_
  have hIn : s.heap.get? s.heap.objs.size = none := none_of_le (Nat.le_refl _)
  have hBI : B.get? s.heap.objs.size = none := by
    cases hq : B.get? s.heap.objs.size with
    | none => rfl
    | some o => rw [F.keep _ _ hq] at hIn; cases hIn
  have hBL : B.get? env.locals = none := none_of_le F.above
  have hIL : NeN s.heap.objs.size env.locals := Nat.ne_of_gt F.ns.lt
  have W := Walks.range (prog := prog) (w := w) hh s.heap.objs.size a0 1 n
  refine codeAny_forLoop (RgI B env.locals x z m₀ (P s.heap.objs.size) s s.heap.objs.size a0 n) ?_ (n + 1) ?_
  · rintro k s' ⟨i, h, tk, u, O, rfl, F', hP, hst', hi, rfl⟩
    by_cases hlt : i < n
    · refine W.item i _ _ _ hlt hst' fun v h₁ tk₁ hv hst₁ hk₁ => ?_
      obtain ⟨t, rfl⟩ := hv
      have U₁ : Upto (is1 s.heap.objs.size) h h₁ := ⟨fun a o hn e => hk₁ a o (fun hm => hn (List.mem_singleton.mp hm)) e, fun a e => by
        by_cases hq : a = s.heap.objs.size
        · subst hq; rw [show h₁.get? s.heap.objs.size = _ from hst₁]; rfl
        · obtain ⟨o, ho⟩ := Option.isSome_iff_exists.mp e
          rw [hk₁ a o (fun hm => hq (List.mem_singleton.mp hm)) ho]; rfl⟩
      have F₁ : Fr B env.locals h₁ _ := U₁.fr F' (fun e => hIL e.symm) (base1 hBI)
      refine wpAny_assign_Name (wpAny_storeName_local hx F₁.ns (fun h₂ hn₂ hs₂ => ?_) hp)
      have U₂ : Upto (is1 env.locals) h₁ h₂ := ⟨fun a o hn e => (hs₂.2 a hn).trans e, fun a e => by
        by_cases hq : a = env.locals
        · refine hide fun P9 hP9 => ?_
          obtain ⟨o, _, _, ho, _⟩ := hn₂
          refine hP9 ?_; clear hP9 P9
          rw [hq, ho]; rfl
        · rw [hs₂.2 a hq]; exact e⟩
      have F₂ := F₁.set hn₂ hs₂
      rw [tM_x, Int.mul_one] at F₂
      have hst₂ : IsRangeIter h₂ s.heap.objs.size (a0 + ((i + 1 : Nat) : Int) * 1) ((n : Int) - ((i + 1 : Nat) : Int)) 1 := (hs₂.2 _ hIL).trans hst₁
      have hP₂ := hst _ i h h₂ (U₁.trans U₂ (fun _ e => .inr e) (fun _ e _ => .inl e)) hP
      refine wpAny_mono (turn _ i t O h₂ _ _ hlt F₂ ⟨hst₂, hBI⟩ hIL hP₂) (fun f s₃ q => ?_) fun _ _ e => e.elim
      refine hide fun P9 hP9 => ?_
      obtain ⟨rfl, h₃, tk₃, u', O', rfl, F₃, OI, hP₃⟩ := q
      refine hP9 ?_; clear hP9 P9
      exact ⟨n + 1 - (i + 1), by omega, i + 1, h₃, tk₃, u', O', rfl, F₃, hP₃, OI.1, hlt, rfl⟩
    · have hin : i = n := by omega
      subst hin
      refine W.done _ _ _ hst' fun h₁ tk₁ hk₁ => wpAny_execs_nil ?_
      have hk₂ : ∀ b o, NeN b s.heap.objs.size → h.get? b = some o → h₁.get? b = some o := fun b o n e => hk₁ b o (fun hm => n (List.mem_singleton.mp hm)) e
      refine done _ h h₁ tk₁ u O hP hk₂ ?_
      refine hide fun P9 hP9 => ?_
      obtain ⟨⟨o, es, ep, q1, q2⟩, q3, q4⟩ := F'
      refine hP9 ?_; clear hP9 P9
      exact ⟨⟨o, es, ep, hk₂ _ _ hIL.symm q1, q2⟩, fun b o e => hk₂ b o (fun r => by cases (r : b = _); rw [hBI] at e; cases e) (q3 b o e), q4⟩
  · have hpush : ∀ b o, s.heap.get? b = some o → (s.heap.push { cls := .type "range_iterator", data := .fields #[rawInt a0, rawInt (Builtin.Range.rangeSize a0 b0 1), rawInt 1] }).get? b = some o := fun b o e => Heap.get?_push_of_some _ e
    have U : Upto is0 s.heap (s.heap.push { cls := .type "range_iterator", data := .fields #[rawInt a0, rawInt (Builtin.Range.rangeSize a0 b0 1), rawInt 1] }) := ⟨fun a o _ e => hpush a o e, fun a e => by obtain ⟨o, ho⟩ := Option.isSome_iff_exists.mp e; rw [hpush a o ho]; rfl⟩
    refine ⟨0, _, s.toks, none, none, rfl, ?_, h0 _ _ hIn (by rw [Heap.get?_push_size _ rfl]; rfl) U, ?_, Nat.zero_le _, rfl⟩
    · rw [tM_0 hm.1 hm.2]; exact F.push _
    · show Heap.get? _ _ = _
      rw [Heap.get?_push_size _ rfl, hn]
      simp
end
/-- a list comprehension at its head, its list to be stored -/
structure CompGoA (prog : Program) (w : World) (A : Around) (h₀ : Heap) (L : Addr) (m : Str → Option Value) (env : Env) (elt : Expr) (x y : Str) (scope : Scope) (cl : List (Str × Addr)) (Q : Flow → Shared → Prop) (xv : Value) (s₁ : Shared) : Prop where
  out : LCg.CompSrc prog w A h₀ L m env elt x scope cl (fun s₂ => LCg.FinA h₀ L m s₂ y Q) xv s₁
theorem assignComp_U {prog : Program} {w : World} {A : Around} {E : Value → Shared → Prop} {s : Shared} {h₀ : Heap} {L : Addr} {m : Str → Option Value} {env : Env} {elt iter : Expr} {x y : Str} {px py : PySem.Pos} {scope : Scope} {cl : List (Str × Addr)} {pos spos : PySem.Pos} {Q : Flow → Shared → Prop} (F₀ : Fr h₀ L s.heap m) (hLe : env.locals = L)
    (hsw : swapsWith (.ListComp elt [⟨.Name x px, iter, [], 0⟩] scope pos) (some (.Name y py)) spos.line env = pure true)
    (hclos : closureFor scope env = pure cl) (hcell : ∀ z ∈ scope.names, z.2 ≠ .cell) (hkind : scope.kind = .function)
    (hnames : ∀ z ∈ scope.names, z.2 = .local → scope.names.lookup z.1 = some .local) (hx : scope.names.lookup x = some .local)
    (hy : env.kindOf y = some .local) (hp : (env.scope.kind == .class || (env.scope.kind == .module && env.locals != env.globals)) = false)
    (h : wpAny (model prog w) A (eval iter env) (fun xv s₁ => CompGoA prog w A h₀ L m env elt x y scope cl Q xv s₁) E s)
    (hs : ∀ x, foldedSetIterable iter env x = pure x := by intro _; rfl) :
    wpAny (model prog w) A (exec (.Assign [.Name y py] (.ListComp elt [⟨.Name x px, iter, [], 0⟩] scope pos) spos) env) Q E s :=
  LCg.Assign_ListComp_U F₀ hLe hsw hclos hcell hkind hnames hx hy hp (wpAny_mono h (fun _ _ q => q.out) fun _ _ e => e) hs
end
section
set_option maxRecDepth 100000
open PySem PySem.W PySem.Calls PyProof.Rows
theorem reset_L30a : True := by
  w_top off
  trivial
/-- the law's own statements and scope, read off the row -/
def lawBody : List Stmt := match PySem.Challenge.pw_rh0162_01.main.body.getLast? with
  | some (.FunctionDef _ _ b _ _ _ _ _ _ _) => b
  | _ => []
def lawScope : Scope := match PySem.Challenge.pw_rh0162_01.main.body.getLast? with
  | some (.FunctionDef _ _ _ _ _ _ s _ _ _) => s
  | _ => ⟨.function, [], false, false, []⟩
def lawEnv (L fa : Addr) (cd : Value) : Env := envOfC (Str.ofString "law") lawScope L fa cd
theorem Fr.notCode {B h : Heap} {L : Addr} {m : Str → Option Value} (F : Fr B L h m) : ∃ o, h.get? L = some o ∧ NotCode o := by
  refine hide fun P9 hP9 => ?_
  obtain ⟨⟨o, es, ep, q, d, _⟩, _, _⟩ := F
  refine hP9 ?_; clear hP9 P9
  exact ⟨o, q, fun _ _ _ e => by rw [d] at e; cases e⟩
theorem notCode_list {its : Array Value} {n : Nat} : NotCode (listOf its n) := fun _ _ _ d => by cases d
theorem notCode_cell {o : Obj} {v : Option Value} (e : o.data = .cell v) : NotCode o := fun _ _ _ d => by rw [e] at d; cases d
theorem notCode_tab {B h : Heap} {ps : Array Value} (q : TabFull B h ps) : NotCode (tabObj ps) := fun vs ql t d e => by
  refine hide fun P9 hP9 => ?_
  obtain ⟨c1, c2, _, _, _, _, _, _, rfl, _⟩ := q
  refine hP9 ?_; clear hP9 P9
  cases d
  cases e
theorem RM (env : Env) : Room (callerA.deeper env) 30 := ⟨by rw [depth_deeper]; decide, by rw [units_deeper]; decide, rfl⟩
/-- how the law ends -/
def LawEnd (B : Heap) (L : Addr) (s : Shared) (f : Flow) (s' : Shared) : Prop := ∃ h' tk' ps m, f = .ret (.bool true) ∧ s' = { s with heap := h', toks := tk' } ∧ Fr B L h' m ∧ News B L h' [(380, tabObj ps)]
/-- the statements of the law from here on -/
structure Halt (M : Model) (A : Around) (ss : List Stmt) (env : Env) (Q : Flow → Shared → Prop) (E : Value → Shared → Prop) (s : Shared) : Prop where
  out : wpAny M A (execs ss env) Q E s
/-- what stands while the law runs, from its two heaps on; es are further places of its own -/
structure LawC (w : World) (B h : Heap) (L sl bell cells : Addr) (oc : Obj) (ws ys : List Value) (n5 : Nat) (es : List Addr) (c1 : Cfg) (m1 : Mut) (xs1 : List Th) (g1 : Sg) (c2 : Cfg) (m2 : Mut) (xs2 : List Th) (g2 : Sg) : Prop where
  two : Two w B h c1 m1 xs1 g1 c2 m2 xs2 g2
  a1 : Away [L, bell, cells, L + 1, sl, 380] c1 m1 xs1
  a2 : Away [L, bell, cells, L + 1, sl, 380] c2 m2 xs2
  live : (h.get? L).isSome
  obell : ∃ k t n, 0 ≤ k ∧ Own B h bell (listOf #[.ref cells, .int k t] n)
  ocells : Own B h cells (listOf ws.toArray 0)
  ocell : Own B h (L + 1) oc
  osl : Own B h sl (listOf ys.toArray n5)
  otab : ∃ ps, Own B h 380 (tabObj ps)
  nd : Nd [L, bell, cells, L + 1, sl, 380]
  e1 : Away es c1 m1 xs1
  e2 : Away es c2 m2 xs2
  el : ∀ a ∈ es, (h.get? a).isSome
  en : ∀ a ∈ es, Ap a [L, bell, cells, L + 1, sl, 380]
section
variable {w : World} {B h h' : Heap} {L sl bell cells : Addr} {oc : Obj} {ws ys : List Value} {n5 : Nat} {es : List Addr} {c1 c2 : Cfg} {m1 m1' m2 m2' : Mut} {xs1 xs2 ys1 ys2 : List Th} {g1 g2 g1' g2' : Sg}
theorem LawC.alive (x : LawC w B h L sl bell cells oc ws ys n5 es c1 m1 xs1 g1 c2 m2 xs2 g2) : ∀ a ∈ [L, bell, cells, L + 1, sl, 380], (h.get? a).isSome := by
  refine hide fun P9 hP9 => ?_
  obtain ⟨_, _, _, _, b⟩ := x.obell
  obtain ⟨_, t⟩ := x.otab
  refine hP9 ?_; clear hP9 P9
  exact allC (x.live) (allC (b.live) (allC (x.ocells.live) (allC (x.ocell.live) (allC (x.osl.live) (allC (t.live) (List.forall_mem_nil _))))))
/-- a change that keeps off all that stands -/
theorem LawC.frameS {S : Addr → Prop} (x : LawC w B h L sl bell cells oc ws ys n5 es c1 m1 xs1 g1 c2 m2 xs2 g2) (U : Upto S h h') (f1 : Off S c1 m1 xs1) (f2 : Off S c2 m2 xs2) (hn : ∀ a ∈ [bell, cells, L + 1, sl, 380], ¬ S a) : LawC w B h' L sl bell cells oc ws ys n5 es c1 m1 xs1 g1 c2 m2 xs2 g2 := by
  have k : ∀ {a : Addr} {o : Obj}, Own B h a o → a ∈ [bell, cells, L + 1, sl, 380] → Own B h' a o := fun q m => U.own q (hn _ m)
  refine hide fun P9 hP9 => ?_
  obtain ⟨_, _, _, b0, b⟩ := x.obell
  obtain ⟨_, t⟩ := x.otab
  refine hP9 ?_; clear hP9 P9
  exact ⟨x.two.frame U f1 f2, x.a1, x.a2, U.live _ x.live, ⟨_, _, _, b0, k b (by simp)⟩, k x.ocells (by simp), k x.ocell (by simp), k x.osl (by simp), ⟨_, k t (by simp)⟩, x.nd, x.e1, x.e2, fun a ha => U.live _ (x.el a ha), x.en⟩
theorem LawC.nL (x : LawC w B h L sl bell cells oc ws ys n5 es c1 m1 xs1 g1 c2 m2 xs2 g2) : ∀ a ∈ [bell, cells, L + 1, sl, 380], NeN a L := by
  obtain ⟨z1, z2, z3, z4, z5, _, _, _, _, _, _, _, _, _, _⟩ := Nd.o6 x.nd
  exact allC (z1.symm) (allC (z2.symm) (allC (z3.symm) (allC (z4.symm) (allC (z5.symm) (List.forall_mem_nil _)))))
/-- the law's own frame changes -/
theorem LawC.frame0 (x : LawC w B h L sl bell cells oc ws ys n5 es c1 m1 xs1 g1 c2 m2 xs2 g2) (U : Upto (orL is0 L) h h') : LawC w B h' L sl bell cells oc ws ys n5 es c1 m1 xs1 g1 c2 m2 xs2 g2 := by
  have f : ∀ {c : Cfg} {m : Mut} {xs : List Th}, Off (is1 L) c m xs → Off (orL is0 L) c m xs := fun o => o.mono fun a e => e.elim False.elim id
  exact x.frameS U (f (x.a1 L (.head _))) (f (x.a2 L (.head _))) fun a ha e => e.elim id fun e => x.nL a ha e
/-- the law's own frame and a further place change -/
theorem LawC.iter {I : Addr} (x : LawC w B h L sl bell cells oc ws ys n5 es c1 m1 xs1 g1 c2 m2 xs2 g2) (hI : I ∈ es) (U : Upto (is2 L I) h h') : LawC w B h' L sl bell cells oc ws ys n5 es c1 m1 xs1 g1 c2 m2 xs2 g2 := by
  have n := x.en I hI
  simp only [Ap, and_true] at n
  refine hide fun P9 hP9 => ?_
  obtain ⟨z0, z1, z2, z3, z4, z5⟩ := n
  refine hP9 ?_; clear hP9 P9
  have nI : ∀ a ∈ [bell, cells, L + 1, sl, 380], NeN a I := allC (z1.symm) (allC (z2.symm) (allC (z3.symm) (allC (z4.symm) (allC (z5.symm) (List.forall_mem_nil _)))))
  exact x.frameS U ((x.a1 L (.head _)).of2 (x.e1 I hI)) ((x.a2 L (.head _)).of2 (x.e2 I hI)) fun a ha e => e.elim (x.nL a ha) (nI a ha)
/-- a new place -/
theorem LawC.add {I : Addr} (x : LawC w B h L sl bell cells oc ws ys n5 es c1 m1 xs1 g1 c2 m2 xs2 g2) (d : h.get? I = none) (U : Upto (orL is0 L) h h') (l : (h'.get? I).isSome) : LawC w B h' L sl bell cells oc ws ys n5 (I :: es) c1 m1 xs1 g1 c2 m2 xs2 g2 := by
  have hS : ∀ a, is1 I a → h.get? a = none := fun a e => by cases (e : a = I); exact d
  have y := x.frame0 U
  have hI : ∀ {a : Addr}, (h.get? a).isSome → NeN I a := fun l e => by cases (e : I = _); exact not_live d l
  have al := x.alive
  refine ⟨y.two, y.a1, y.a2, y.live, y.obell, y.ocells, y.ocell, y.osl, y.otab, y.nd, allC (x.two.q1.offDead hS) (y.e1), allC (x.two.q2.offDead hS) (y.e2), allC (l) (y.el), allC (?_) (y.en)⟩
  exact ⟨hI (al _ (by simp)), hI (al _ (by simp)), hI (al _ (by simp)), hI (al _ (by simp)), hI (al _ (by simp)), hI (al _ (by simp)), trivial⟩
theorem LawC.drop (x : LawC w B h L sl bell cells oc ws ys n5 es c1 m1 xs1 g1 c2 m2 xs2 g2) : LawC w B h L sl bell cells oc ws ys n5 [] c1 m1 xs1 g1 c2 m2 xs2 g2 :=
  ⟨x.two, x.a1, x.a2, x.live, x.obell, x.ocells, x.ocell, x.osl, x.otab, x.nd, nofun, nofun, nofun, nofun⟩
/-- a loop has come to its end -/
theorem LawC.gone {I : Addr} (x : LawC w B h L sl bell cells oc ws ys n5 es c1 m1 xs1 g1 c2 m2 xs2 g2) (hI : I ∈ es) (k : ∀ a o, NeN a I → h.get? a = some o → h'.get? a = some o) : LawC w B h' L sl bell cells oc ws ys n5 [] c1 m1 xs1 g1 c2 m2 xs2 g2 := by
  have n := x.en I hI
  simp only [Ap, and_true] at n
  refine hide fun P9 hP9 => ?_
  obtain ⟨z0, z1, z2, z3, z4, z5⟩ := n
  have kk : ∀ {a : Addr} {o : Obj}, Own B h a o → NeN I a → Own B h' a o := fun q n => ⟨k _ _ n.symm q.1, q.2⟩
  obtain ⟨_, _, _, b0, b⟩ := x.obell
  obtain ⟨_, t⟩ := x.otab
  obtain ⟨o, ho⟩ := Option.isSome_iff_exists.mp x.live
  refine hP9 ?_; clear hP9 P9
  exact ⟨⟨x.two.q1.keepS k (x.e1 I hI), x.two.q2.keepS k (x.e2 I hI), x.two.o12, x.two.o21⟩, x.a1, x.a2, by rw [k _ _ z0.symm ho]; rfl, ⟨_, _, _, b0, kk b z1⟩, kk x.ocells z2, kk x.ocell z3, kk x.osl z4, ⟨_, kk t z5⟩, x.nd, nofun, nofun, nofun, nofun⟩
/-- the bell is rung -/
theorem LawC.ring (x : LawC w B h L sl bell cells oc ws ys n5 es c1 m1 xs1 g1 c2 m2 xs2 g2) (U : Upto (is1 bell) h h') (p : ∃ k t n, 0 ≤ k ∧ Own B h' bell (listOf #[.ref cells, .int k t] n)) : LawC w B h' L sl bell cells oc ws ys n5 es c1 m1 xs1 g1 c2 m2 xs2 g2 := by
  obtain ⟨_, _, _, _, _, z1, z2, z3, z4, _, _, _, _, _, _⟩ := Nd.o6 x.nd
  have k : ∀ {a : Addr} {o : Obj}, Own B h a o → NeN bell a → Own B h' a o := fun q n => U.own q (fun e => n e.symm)
  obtain ⟨_, t⟩ := x.otab
  exact ⟨x.two.frame U (x.a1 bell (.tail _ (.head _))) (x.a2 bell (.tail _ (.head _))), x.a1, x.a2, U.live _ x.live, p, k x.ocells z1, k x.ocell z2, k x.osl z3, ⟨_, k t z4⟩, x.nd, x.e1, x.e2, fun a ha => U.live _ (x.el a ha), x.en⟩
/-- the first cycle turns -/
theorem LawC.step1 (x : LawC w B h L sl bell cells oc ws ys n5 es c1 m1 xs1 g1 c2 m2 xs2 g2) (U : Upto (Foot c1 m1 xs1) h h') (q : SR w B h' c1 m1' ys1 g1') (f : Fresh c1 m1 m1' h) (s : Same xs1 ys1) : LawC w B h' L sl bell cells oc ws ys n5 es c1 m1' ys1 g1' c2 m2 xs2 g2 := by
  have k : ∀ {a : Addr} {o : Obj}, Own B h a o → a ∈ [L, bell, cells, L + 1, sl, 380] → Own B h' a o := fun q m => U.own q (x.a1 _ m).notFoot
  refine hide fun P9 hP9 => ?_
  obtain ⟨_, _, _, b0, b⟩ := x.obell
  obtain ⟨_, t⟩ := x.otab
  refine hP9 ?_; clear hP9 P9
  exact ⟨x.two.step1 U q f s, x.a1.fresh f x.alive s, x.a2, U.live _ x.live, ⟨_, _, _, b0, k b (by simp)⟩, k x.ocells (by simp), k x.ocell (by simp), k x.osl (by simp), ⟨_, k t (by simp)⟩, x.nd, x.e1.fresh f x.el s, x.e2, fun a ha => U.live _ (x.el a ha), x.en⟩
theorem LawC.swap (x : LawC w B h L sl bell cells oc ws ys n5 es c1 m1 xs1 g1 c2 m2 xs2 g2) : LawC w B h L sl bell cells oc ws ys n5 es c2 m2 xs2 g2 c1 m1 xs1 g1 :=
  ⟨x.two.swap, x.a2, x.a1, x.live, x.obell, x.ocells, x.ocell, x.osl, x.otab, x.nd, x.e2, x.e1, x.el, x.en⟩
theorem LawC.step2 (x : LawC w B h L sl bell cells oc ws ys n5 es c1 m1 xs1 g1 c2 m2 xs2 g2) (U : Upto (Foot c2 m2 xs2) h h') (q : SR w B h' c2 m2' ys2 g2') (f : Fresh c2 m2 m2' h) (s : Same xs2 ys2) : LawC w B h' L sl bell cells oc ws ys n5 es c1 m1 xs1 g1 c2 m2' ys2 g2' :=
  (x.swap.step1 U q f s).swap
end
section
variable {prog : Program} {w : World} {A : Around} {s : Shared} {env : Env}
def tupOf (its : Array Value) (n : Nat) : Obj := { cls := .type "tuple", data := .seq its n }
/-- a turn over a tuple has come to its end -/
inductive TurnEnd (B : Heap) (L I Tu : Addr) (oI oT : Obj) (m : Str → Option Value) (P : Heap → Prop) (s : Shared) (f : Flow) (s' : Shared) : Prop
  | mk (p0 : f = .next) (h' tk' : _) (p1 : s' = { s with heap := h', toks := tk' }) (p2 : Fr B L h' m) (p3 : Own B h' I oI) (p4 : Own B h' Tu oT) (p5 : P h')
inductive TpI (B : Heap) (L : Addr) (x : Str) (m₀ : Str → Option Value) (P : Nat → Heap → Prop) (s : Shared) (I T : Addr) (its : Array Value) (nT k : Nat) (s' : Shared) : Prop
  | mk (i h tk : _) (u : Option Value) (p0 : s' = { s with heap := h, toks := tk }) (p1 : Fr B L h (fun y => if y = x then (if u.isSome then u else m₀ y) else m₀ y)) (p2 : P i h) (p3 : (h.IsTupleIter I T i ∧ h.IsTuple T its)) (p4 : Own B h T (tupOf its nT)) (p5 : i ≤ its.size) (p6 : (i = 0 ∨ ∃ v, u = some v ∧ its[i - 1]? = some v)) (p7 : k = its.size + 1 - i)
/-- a for over a tuple -/
theorem tupGo {B : Heap} {T : Addr} {its : Array Value} {nT : Nat} {x : Str} {m₀ : Str → Option Value} {px : PySem.Pos} {body : List Stmt} {Q : Flow → Shared → Prop} (P : Addr → Nat → Heap → Prop)
    (hh : A.handled = none) (F : Fr B env.locals s.heap m₀) (hT : Own B s.heap T (tupOf its nT)) (hTL : NeN T env.locals) (hpos : 0 < its.size)
    (h0 : ∀ I h, s.heap.get? I = none → (h.get? I).isSome → Upto is0 s.heap h → P I 0 h) (hst : ∀ I i h h', Upto (is2 env.locals I) h h' → P I i h → P I i h')
    (turn : ∀ I (i : Nat) v h tk oI, its[i]? = some v → Fr B env.locals h (fun y => if y = x then some v else m₀ y) → Own B h I oI → Own B h T (tupOf its nT) → P I i h →
      wpAny (model prog w) A (execs body env) (TurnEnd B env.locals I T oI (tupOf its nT) (fun y => if y = x then some v else m₀ y) (P I (i + 1)) s) (fun _ _ => False) { s with heap := h, toks := tk })
    (done : ∀ I h h' tk v, its[its.size - 1]? = some v → P I its.size h → (∀ a o, NeN a I → h.get? a = some o → h'.get? a = some o) → Fr B env.locals h' (fun y => if y = x then some v else m₀ y) → Q .next { s with heap := h', toks := tk })
    (hx : env.kindOf x = some .local) (hp : (env.scope.kind == .class || (env.scope.kind == .module && env.locals != env.globals)) = false) :
    ForGo (model prog w) A env (.Name x px) body Q (.ref T) s := by
  have hTs : s.heap.IsTuple T its := ⟨_, hT.1, rfl, nT, rfl⟩
  refine wpAny_pyIter_tuple hTs ?_
  have hIn : s.heap.get? s.heap.objs.size = none := none_of_le (Nat.le_refl _)
  have hBI : B.get? s.heap.objs.size = none := by
    cases hq : B.get? s.heap.objs.size with
    | none => rfl
    | some o => rw [F.keep _ _ hq] at hIn; cases hIn
  have hIL : NeN s.heap.objs.size env.locals := Nat.ne_of_gt F.ns.lt
  have hIT : NeN T s.heap.objs.size := Nat.ne_of_lt (Heap.lt_size hT.1)
  have W := Walks.tuple (prog := prog) (w := w) hh s.heap.objs.size T hIT its
  have mm : ∀ {u : Option Value} {v : Value}, u = some v → (fun y => if y = x then (if u.isSome then u else m₀ y) else m₀ y) = fun y => if y = x then some v else m₀ y := by
    rintro _ _ rfl; rfl
  refine codeAny_forLoop (TpI B env.locals x m₀ (P s.heap.objs.size) s s.heap.objs.size T its nT) ?_ (its.size + 1) ?_
  · rintro k s' ⟨i, h, tk, u, rfl, F', hP, hst', hO, hi, hu, rfl⟩
    by_cases hlt : i < its.size
    · refine W.item i _ _ _ hlt hst' fun v h₁ tk₁ hv hst₁ hk₁ => ?_
      have U₁ : Upto (is1 s.heap.objs.size) h h₁ := ⟨fun a o hn e => hk₁ a o (fun hm => hn (List.mem_singleton.mp hm)) e, fun a e => by
        by_cases hq : a = s.heap.objs.size
        · subst hq; obtain ⟨⟨o, ho, _⟩, _⟩ := hst₁; rw [ho]; rfl
        · obtain ⟨o, ho⟩ := Option.isSome_iff_exists.mp e
          rw [hk₁ a o (fun hm => hq (List.mem_singleton.mp hm)) ho]; rfl⟩
      have F₁ : Fr B env.locals h₁ _ := U₁.fr F' (fun e => hIL e.symm) (base1 hBI)
      refine wpAny_assign_Name (wpAny_storeName_local hx F₁.ns (fun h₂ hn₂ hs₂ => ?_) hp)
      have U₂ : Upto (is1 env.locals) h₁ h₂ := ⟨fun a o hn e => (hs₂.2 a hn).trans e, fun a e => by
        by_cases hq : a = env.locals
        · refine hide fun P9 hP9 => ?_
          obtain ⟨o, _, _, ho, _⟩ := hn₂
          refine hP9 ?_; clear hP9 P9
          rw [hq, ho]; rfl
        · rw [hs₂.2 a hq]; exact e⟩
      have F₂ := F₁.set hn₂ hs₂
      rw [bind_any] at F₂
      refine hide fun P9 hP9 => ?_
      obtain ⟨⟨oI, hI1, hI2⟩, _⟩ := id hst₁
      refine hP9 ?_; clear hP9 P9
      have OI : Own B h₂ s.heap.objs.size oI := ⟨(hs₂.2 _ hIL).trans hI1, hBI⟩
      have OT : Own B h₂ T (tupOf its nT) := U₂.own (U₁.own hO hIT) hTL
      have hP₂ := hst _ i h h₂ (U₁.trans U₂ (fun _ e => .inr e) (fun _ e _ => .inl e)) hP
      refine wpAny_mono (turn _ i v h₂ _ oI hv F₂ OI OT hP₂) (fun f s₃ q => ?_) fun _ _ e => e.elim
      refine hide fun P9 hP9 => ?_
      obtain ⟨rfl, h₃, tk₃, rfl, F₃, OI3, OT3, hP₃⟩ := q
      refine hP9 ?_; clear hP9 P9
      exact ⟨its.size + 1 - (i + 1), by omega, i + 1, h₃, tk₃, some v, rfl, F₃, hP₃, ⟨⟨oI, OI3.1, hI2⟩, ⟨_, OT3.1, rfl, nT, rfl⟩⟩, OT3, hlt, .inr ⟨v, rfl, hv⟩, rfl⟩
    · have hin : i = its.size := by omega
      subst hin
      refine W.done _ _ _ hst' fun h₁ tk₁ hk₁ => wpAny_execs_nil ?_
      have hk₂ : ∀ b o, NeN b s.heap.objs.size → h.get? b = some o → h₁.get? b = some o := fun b o n e => hk₁ b o (fun hm => n (List.mem_singleton.mp hm)) e
      obtain ⟨v, rfl, hv⟩ := hu.resolve_left (by omega)
      refine done _ h h₁ tk₁ v hv hP hk₂ ?_
      rw [mm rfl] at F'
      refine hide fun P9 hP9 => ?_
      obtain ⟨⟨o, es, ep, q1, q2⟩, q3, q4⟩ := F'
      refine hP9 ?_; clear hP9 P9
      exact ⟨⟨o, es, ep, hk₂ _ _ hIL.symm q1, q2⟩, fun b o e => hk₂ b o (fun r => by cases (r : b = _); rw [hBI] at e; cases e) (q3 b o e), q4⟩
  · have hpush : ∀ b o, s.heap.get? b = some o → (s.heap.push { cls := .type "tuple_iterator", data := .fields #[.ref T, .int 0 0] }).get? b = some o := fun b o e => Heap.get?_push_of_some _ e
    have U : Upto is0 s.heap (s.heap.push { cls := .type "tuple_iterator", data := .fields #[.ref T, .int 0 0] }) := ⟨fun a o _ e => hpush a o e, fun a e => by obtain ⟨o, ho⟩ := Option.isSome_iff_exists.mp e; rw [hpush a o ho]; rfl⟩
    refine ⟨0, _, s.toks, none, rfl, ?_, h0 _ _ hIn (by rw [Heap.get?_push_size _ rfl]; rfl) U, ⟨⟨_, Heap.get?_push_size _ rfl, rfl, rfl⟩, hTs.push _⟩, ⟨hpush _ _ hT.1, hT.2⟩, Nat.zero_le _, .inl rfl, rfl⟩
    have e : (fun y => if y = x then (if (none : Option Value).isSome then none else m₀ y) else m₀ y) = m₀ := by funext y; simp
    rw [e]; exact F.push _
end
theorem sum_bound {ns : List Int} (hl : ns.length ≤ 9) (h : ∀ x ∈ ns, 2 ≤ x ∧ x ≤ 51) : 0 ≤ ns.sum ∧ ns.sum ≤ 100000 := by
  have key : ∀ {ns : List Int}, (∀ x ∈ ns, 2 ≤ x ∧ x ≤ 51) → 0 ≤ ns.sum ∧ ns.sum ≤ 51 * (ns.length : Int) := by
    intro ns
    induction ns with
    | nil => intro _; exact ⟨by simp, by simp⟩
    | cons a r ih =>
      intro h
      have h1 := h a (.head _)
      have h2 := ih fun x hx => h x (.tail _ hx)
      rw [List.sum_cons, List.length_cons]
      omega
  have := key h
  omega
/-- a heap before its first step, or behind it -/
def gAt (c : Cfg) (share : Int) (b : Bool) : Sg := match b with
  | true => stepG c { g0 with mul := share }
  | false => g0
theorem single_cong {c1 c2 : Cfg} (h1 : c1.szs = c2.szs) (h2 : c1.total = c2.total) (g : Sg) : single c1 g = single c2 g := by
  refine hide fun P9 hP9 => ?_
  obtain ⟨pos, white, est, debt, thr, pause, mul, cyc⟩ := g
  refine hP9 ?_; clear hP9 P9
  cases pos with
  | prop j => cases j <;> simp only [single, h1, h2]
  | _ => first | rfl | simp only [single, h1, h2]
theorem goG_cong {c1 c2 : Cfg} (h1 : c1.szs = c2.szs) (h2 : c1.total = c2.total) : ∀ (k : Nat) (g : Sg) (wl : Int), goG c1 k g wl = goG c2 k g wl
  | 0, _, _ => rfl
  | k + 1, g, wl => by
    simp only [goG, single_cong h1 h2 g, goG_cong h1 h2 k]
theorem stepG_cong {c1 c2 : Cfg} (h1 : c1.szs = c2.szs) (h2 : c1.total = c2.total) (g : Sg) : stepG c1 g = stepG c2 g := by
  have e : debtG c1 g = debtG c2 g := by unfold debtG; rw [h2]
  unfold stepG
  rw [e, h1, goG_cong h1 h2]
  unfold afterG
  rw [h2]
theorem stepsG_cong {c1 c2 : Cfg} (h1 : c1.szs = c2.szs) (h2 : c1.total = c2.total) : ∀ (k : Nat) (g : Sg), stepsG c1 k g = stepsG c2 k g
  | 0, _ => rfl
  | k + 1, g => by
    simp only [stepsG, stepG_cong h1 h2 g, stepsG_cong h1 h2 k, h2]
theorem OkG.cong {c1 c2 : Cfg} (h1 : c1.szs = c2.szs) (h2 : c1.total = c2.total) {g : Sg} (o : OkG c1 g) : OkG c2 g :=
  ⟨o.pause, o.mul, o.est, h2 ▸ o.tot, h1 ▸ o.j, h1 ▸ o.n⟩
/-- the marks of two heaps alike -/
theorem marks_same {w : World} {B h : Heap} {c1 c2 : Cfg} {m1 m2 : Mut} {xs1 xs2 : List Th} {g : Sg} (q1 : SR w B h c1 m1 xs1 g) (q2 : SR w B h c2 m2 xs2 g) (hs : c1.szs = c2.szs) : xs1.map (·.mrk) = xs2.map (·.mrk) := by
  refine hide fun P9 hP9 => ?_
  obtain ⟨_, r1, _⟩ := q1.rep
  obtain ⟨_, r2, _⟩ := q2.rep
  refine hP9 ?_; clear hP9 P9
  have hl : xs1.length = xs2.length := by rw [← List.length_map (f := (·.sz)), r1.szs, hs, ← r2.szs, List.length_map]
  apply List.ext_getElem?
  intro i
  rw [List.getElem?_map, List.getElem?_map]
  cases e1 : xs1[i]? with
  | none =>
    have e2 : xs2[i]? = none := by rw [List.getElem?_eq_none_iff] at e1 ⊢; omega
    rw [e2]
  | some x =>
    have li : i < xs2.length := by have := (List.getElem?_eq_some_iff.1 e1).1; omega
    have e2 := List.getElem?_eq_getElem li
    rw [e2]
    show some x.mrk = some xs2[i].mrk
    rw [q1.marks i x e1, q2.marks i _ e2]
theorem LawC.sub {w : World} {B h : Heap} {L sl bell cells : Addr} {oc : Obj} {ws ys : List Value} {n5 : Nat} {es es' : List Addr} {c1 c2 : Cfg} {m1 m2 : Mut} {xs1 xs2 : List Th} {g1 g2 : Sg} (x : LawC w B h L sl bell cells oc ws ys n5 es c1 m1 xs1 g1 c2 m2 xs2 g2) (k : ∀ a ∈ es', a ∈ es) : LawC w B h L sl bell cells oc ws ys n5 es' c1 m1 xs1 g1 c2 m2 xs2 g2 :=
  ⟨x.two, x.a1, x.a2, x.live, x.obell, x.ocells, x.ocell, x.osl, x.otab, x.nd, fun a ha => x.e1 a (k a ha), fun a ha => x.e2 a (k a ha), fun a ha => x.el a (k a ha), fun a ha => x.en a (k a ha)⟩
/-- a list is read at a place that is not known -/
structure PickGo (M : Model) (A : Around) (value slice : Expr) (o i : Value) (Q : Value → Shared → Prop) (E : Value → Shared → Prop) (s : Shared) : Prop where
  out : wpAny M A (subscriptTail value slice o i) Q E s
theorem pickGo {w : World} {A : Around} {E : Value → Shared → Prop} {s : Shared} {Q : Value → Shared → Prop} {value slice : Expr} {B : Heap} {L a : Addr} {news : List (Addr × Obj)} {its : Array Value} {n : Nat} {ns : List Int} {i : Int} {t : Tok}
    (N : News B L s.heap news) (hm : (a, listOf its n) ∈ news) (hI : IntsAre its.toList ns) (h0 : 0 ≤ i) (h1 : i < ns.length) (hl : ns.length ≤ 1000) (h : ∀ t', Q (.int (ns.getD i.toNat 0) t') s)
    (hs : subscripted slice false (.ref a) (.int i t) = operate [.ref a, .int i t] (getItem (.ref a) (.int i t)) := by with_unfolding_all rfl) :
    PickGo (model PySem.Challenge.rw_rh0162_01.row.prog w) A value slice (.ref a) (.int i t) Q E s :=
  ⟨item_anyK (vs := its.toList) ⟨_, (N _ hm).1, rfl, n, rfl⟩ hI h0 h1 (by omega) h hs⟩
theorem rangeF8 {i : Int} (h0 : 0 ≤ i) (h1 : i < 8) : Builtin.Range.small 0 (2 + i) 1 = true ∧ Builtin.Range.rangeSize 0 (2 + i) 1 = (((2 + i).toNat : Nat) : Int) := by
  have : i = 0 ∨ i = 1 ∨ i = 2 ∨ i = 3 ∨ i = 4 ∨ i = 5 ∨ i = 6 ∨ i = 7 := by omega
  rcases this with rfl | rfl | rfl | rfl | rfl | rfl | rfl | rfl <;> exact ⟨by decide, by decide⟩
theorem rangeF4 {i : Int} (h0 : 0 ≤ i) (h1 : i < 4) : Builtin.Range.small 0 (1 + i) 1 = true ∧ Builtin.Range.rangeSize 0 (1 + i) 1 = (((1 + i).toNat : Nat) : Int) := by
  have : i = 0 ∨ i = 1 ∨ i = 2 ∨ i = 3 := by omega
  rcases this with rfl | rfl | rfl | rfl <;> exact ⟨by decide, by decide⟩
theorem share_small {share : Int} (h : share ∈ ([1, 0, 2, 1000, -5, -200] : List Int)) (h0 : share ≠ 0) (h1 : share ≠ 1000) : share = 1 ∨ share = 2 ∨ share = -5 ∨ share = -200 := by
  simp only [List.mem_cons, List.not_mem_nil, or_false] at h
  omega
theorem share_bound {share : Int} (h : share ∈ ([1, 0, 2, 1000, -5, -200] : List Int)) : -1000 ≤ share ∧ share ≤ 1000 := by
  simp only [List.mem_cons, List.not_mem_nil, or_false] at h
  omega
theorem LawC.nbc {w : World} {B h : Heap} {L sl bell cells : Addr} {oc : Obj} {ws ys : List Value} {n5 : Nat} {es : List Addr} {c1 c2 : Cfg} {m1 m2 : Mut} {xs1 xs2 : List Th} {g1 g2 : Sg} (x : LawC w B h L sl bell cells oc ws ys n5 es c1 m1 xs1 g1 c2 m2 xs2 g2) : NeN bell cells := by
  obtain ⟨_, _, _, _, _, z1, z2, z3, z4, _, _, _, _, _, _⟩ := Nd.o6 x.nd
  exact z1
end
section
set_option maxRecDepth 100000
open PySem PySem.W PySem.Calls PyProof.Rows
theorem reset_L31f : True := by
  w_top off
  trivial
/-- two states that are alike are not unlike -/
theorem state_ne {prog : Program} {w : World} {A : Around} {E : Value → Shared → Prop} {s : Shared} {Q : Value → Shared → Prop} {B : Heap} {T1 T2 M1 M2 : Addr} {v1 v2 : List Value} {mk : List Int} {n1 n2 : Nat} {i1 i2 i3 i4 i5 : Int} {a1 a2 a3 a4 a5 b1 b2 b3 b4 b5 : Tok}
    (t1 : Own B s.heap T1 { cls := .type "tuple", data := .seq #[.int i1 a1, .int i2 a2, .int i3 a3, .int i4 a4, .int i5 a5, .ref M1] }) (l1 : Own B s.heap M1 (listOf v1.toArray n1)) (h1 : IntsAre v1 mk)
    (t2 : Own B s.heap T2 { cls := .type "tuple", data := .seq #[.int i1 b1, .int i2 b2, .int i3 b3, .int i4 b4, .int i5 b5, .ref M2] }) (l2 : Own B s.heap M2 (listOf v2.toArray n2)) (h2 : IntsAre v2 mk)
    (hu : A.units + 64 < cLine) (h : Q (.bool false) s) : wpAny (model prog w) A (compareOp .NotEq (.ref T1) (.ref T2)) Q E s := by
  have rd : ∀ {T M : Addr} {v : List Value} {n : Nat} {c1 c2 c3 c4 c5 : Tok}, Own B s.heap T { cls := .type "tuple", data := .seq #[.int i1 c1, .int i2 c2, .int i3 c3, .int i4 c4, .int i5 c5, .ref M] } → Own B s.heap M (listOf v.toArray n) → IntsAre v mk →
      ∃ as, PySem.Reads s.heap (.ref T) (.tuple [.int i1, .int i2, .int i3, .int i4, .int i5, .list (mk.map PyData.int)]) as := fun t l i =>
    ⟨_, reads_tuple_at t.1 rfl rfl (.cons (.int _ _) (.cons (.int _ _) (.cons (.int _ _) (.cons (.int _ _) (.cons (.int _ _) (.cons (reads_newData ⟨_, l.1, rfl, _, rfl⟩ (ke_carried i)) .nil))))))⟩
  refine hide fun P9 hP9 => ?_
  obtain ⟨as, r1⟩ := rd t1 l1 h1
  obtain ⟨bs, r2⟩ := rd t2 l2 h2
  refine hP9 ?_; clear hP9 P9
  have sh : SeqAt.shaped (.tuple [.int i1, .int i2, .int i3, .int i4, .int i5, .list (mk.map PyData.int)]) = true := by
    simp [SeqAt.shaped, PyData.canLay0, PyData.canLayAll0, PyData.depth, PyData.depthAll, ke_canLayAll0, ke_depthAll]
  refine ne_dataH r1 r2 sh sh hu ?_
  have e : PyData.eqv (.tuple [.int i1, .int i2, .int i3, .int i4, .int i5, .list (mk.map PyData.int)]) (.tuple [.int i1, .int i2, .int i3, .int i4, .int i5, .list (mk.map PyData.int)]) = true := by
    simp [PyData.eqv, PyData.eqvAll, ked_eqvAll]
  rw [e]
  exact h
/-- the second loop's body -/
def lawSecond : List Stmt := match lawBody.drop 9 with
  | .For _ _ b _ _ :: _ => b
  | _ => []
/-- the names of the law in its second loop -/
def lawM (sl0 sl bk a1 a2 : Addr) (share : Int) (ts : Tok) : Str → Option Value := fun z =>
  if z = Str.ofString "black" then some (Value.ref bk) else if z = Str.ofString "heap_here" then some (Value.ref a2) else if z = Str.ofString "one" then some (Value.ref a1) else if z = Str.ofString "other" then some (Value.ref a2) else if z = Str.ofString "sizes" then some (Value.ref sl) else if z = Str.ofString "share" then some (Value.int share ts) else if z = Str.ofString "script" then some (Value.ref sl0) else none
theorem lawM_none {sl0 sl bk a1 a2 : Addr} {share : Int} {ts : Tok} : lawM sl0 sl bk a1 a2 share ts (Str.ofString "turn") = none ∧ lawM sl0 sl bk a1 a2 share ts (Str.ofString "told") = none := by
  constructor <;> (unfold lawM; rw [if_neg (by decide), if_neg (by decide), if_neg (by decide), if_neg (by decide), if_neg (by decide), if_neg (by decide), if_neg (by decide)])
/-- a turn of the second loop has come to its end -/
abbrev SecEnd (B : Heap) (L I : Addr) (oI : Obj) (m : Str → Option Value) (P : Heap → Prop) (s : Shared) : Flow → Shared → Prop :=
  RgEnd B L I oI (Str.ofString "turn") (Str.ofString "told") m P s
inductive LawP (w0 : World) (B : Heap) (L sl bell cells : Addr) (oc : Obj) (ws ys : List Value) (n5 : Nat) (es : List Addr) (c1 c2 : Cfg) (h' : Heap) : Prop
  | mk (m1' ys1 m2' ys2 g' : _) (p0 : LawC w0 B h' L sl bell cells oc ws ys n5 es c1 m1' ys1 g' c2 m2' ys2 g') (p1 : OkG c1 g')
set_option maxHeartbeats 8000000 in
theorem law_body {w0 : World} {B : Heap} {L fa : Addr} {cd : Value} {sl0 sl bell cells bk I : Addr} {oc oI : Obj} {O : Option Value} {ti : Tok} {vi : Int} {ws ys : List Value} {wn ns : List Int} {n5 : Nat} {share : Int} {ts : Tok} {s0 : Shared} {h : Heap} {tk : Nat} {c1 c2 : Cfg} {m1 m2 : Mut} {xs1 xs2 : List Th} {g : Sg} (W : Wd w0 B)
    (F8 : Fr B L h (tM (Str.ofString "turn") (Str.ofString "told") (some (.int vi ti)) O (lawM sl0 sl bk c1.ca c2.ca share ts)))
    (XC : LawC w0 B h L sl bell cells oc ws ys n5 [I] c1 m1 xs1 g c2 m2 xs2 g) (OI : Own B h I oI) (ok : OkG c1 g) (z1 : c1.szs = c2.szs) (z2 : c1.total = c2.total) (hoc : oc.data = .cell (some (.ref bell))) (hI : IntsAre ws wn) (hw : ws.length ≤ 30) :
    wpAny (model PySem.Challenge.rw_rh0162_01.row.prog w0) (callerA.deeper (lawEnv L fa cd)) (execs lawSecond (lawEnv L fa cd))
      (SecEnd B L I oI (lawM sl0 sl bk c1.ca c2.ca share ts) (LawP w0 B L sl bell cells oc ws ys n5 [I] c1 c2) s0) (fun _ _ => False) { s0 with heap := h, toks := tk } := by
  dsimp only [lawSecond, lawBody, lawEnv, lawScope, PySem.Challenge.pw_rh0162_01, List.getLast?, List.getLast, List.drop]
  delta tM lawM at F8
  try dsimp only at F8
  have W0 := W
  refine hide fun P9 hP9 => ?_
  obtain ⟨X, ⟨p0, loose0, mean0, mg0, mb0, T⟩, C⟩ := W
  refine hP9 ?_; clear hP9 P9
  revert X; k_fill; intro X
  have p1 := XC.two.q1.ca; have p2 := XC.two.q1.cd
  have o1 := XC.a1 L (.head _)
  have n1 : NeN c1.ca L := o1.fix c1.ca (by first | exact Cfg.m0 _ | exact Cfg.m1 _ | exact Cfg.m2 _ | exact Cfg.m3 _ | exact Cfg.m4 _ | exact Cfg.m5 _ | exact Cfg.m6 _ | exact Cfg.m7 _ | exact Cfg.m8 _ | exact Cfg.m9 _ | exact Cfg.m10 _ | exact Cfg.m11 _)
  have n2 : NeN c1.cd L := o1.fix c1.cd (by first | exact Cfg.m0 _ | exact Cfg.m1 _ | exact Cfg.m2 _ | exact Cfg.m3 _ | exact Cfg.m4 _ | exact Cfg.m5 _ | exact Cfg.m6 _ | exact Cfg.m7 _ | exact Cfg.m8 _ | exact Cfg.m9 _ | exact Cfg.m10 _ | exact Cfg.m11 _)
  refine hide fun P9 hP9 => ?_
  obtain ⟨kb, tb, nb, hkb, ob⟩ := XC.obell
  refine hP9 ?_; clear hP9 P9
  have p3 := XC.ocell
  have n3 := XC.nL (L + 1) (by simp)
  have n4 := XC.nL bell (by simp)
  (try clear hR); (try clear N9); (try clear F9)
  have F9 := F8
  refine hide fun P9 hP9 => ?_
  obtain ⟨rest, hR, N9⟩ := refocus F9 (.cons p1 (.cons p2 (.cons p3 (.cons ob .nil)))) (allC ((n1)) (allC ((n2)) (allC ((n3)) (allC ((n4)) (List.forall_mem_nil _)))))
  refine hP9 ?_; clear hP9 P9
  dsimp only [List.cons_append, List.nil_append] at N9
  change Rest B _ [L, c1.ca, c1.cd, (L+1), bell] rest at hR
  have hB9 := Keep.of_fr F9
  have hs0 := hR.off c1.ca (.tail _ (.head _))
  have hs1 := hR.off c1.cd (.tail _ (.tail _ (.head _)))
  have hs2 := hR.off (L+1) (.tail _ (.tail _ (.tail _ (.head _))))
  have hs3 := hR.off bell (.tail _ (.tail _ (.tail _ (.tail _ (.head _)))))
  dsimp only [cycEs, Sg.v] at N9
  k_steps
  have nbc := XC.nbc
  have nIb : NeN I bell := (XC.en I (.head _)).2.1
  refine Con.call (rung_con W0 (Keep.of_fr F9) ⟨by omega, by omega⟩ hkb ob XC.ocells hI hw nbc) rfl ((RM _).le (by decide)) ?_
  rintro v9 H1 tk1 K1 U1 t9_5
  refine hide fun P9 hP9 => ?_
  rcases t9_5 with ⟨⟨i1, t1, e9, i10, i11⟩, nb1, tb1, ob1⟩
  refine hP9 ?_; clear hP9 P9
  subst e9
  have X1 := XC.ring U1 ⟨_, _, _, (show 0 ≤ kb + 1 by omega), ob1⟩
  have FA := frStep F9 U1 (fun e => n4 e.symm) (base1 ob.2)
  have OI1 := U1.own OI nIb
  have r1 := X1.two.q1.ca; have r2 := X1.two.q1.cd; have r3 := X1.two.q2.ca; have r4 := X1.two.q2.cd
  have o2 := X1.a2 L (.head _)
  have n5 : NeN c2.ca L := o2.fix c2.ca (by first | exact Cfg.m0 _ | exact Cfg.m1 _ | exact Cfg.m2 _ | exact Cfg.m3 _ | exact Cfg.m4 _ | exact Cfg.m5 _ | exact Cfg.m6 _ | exact Cfg.m7 _ | exact Cfg.m8 _ | exact Cfg.m9 _ | exact Cfg.m10 _ | exact Cfg.m11 _)
  have n6 : NeN c2.cd L := o2.fix c2.cd (by first | exact Cfg.m0 _ | exact Cfg.m1 _ | exact Cfg.m2 _ | exact Cfg.m3 _ | exact Cfg.m4 _ | exact Cfg.m5 _ | exact Cfg.m6 _ | exact Cfg.m7 _ | exact Cfg.m8 _ | exact Cfg.m9 _ | exact Cfg.m10 _ | exact Cfg.m11 _)
  clear F9 N9 hR F8
  (try clear hR); (try clear N9); (try clear F9)
  have F9 := FA
  refine hide fun P9 hP9 => ?_
  obtain ⟨rest, hR, N9⟩ := refocus F9 (.cons r1 (.cons r2 (.cons r3 (.cons r4 .nil)))) (allC ((n1)) (allC ((n2)) (allC ((n5)) (allC ((n6)) (List.forall_mem_nil _)))))
  refine hP9 ?_; clear hP9 P9
  dsimp only [List.cons_append, List.nil_append] at N9
  change Rest B _ [L, c1.ca, c1.cd, c2.ca, c2.cd] rest at hR
  have hB9 := Keep.of_fr F9
  have hs0 := hR.off c1.ca (.tail _ (.head _))
  have hs1 := hR.off c1.cd (.tail _ (.tail _ (.head _)))
  have hs2 := hR.off c2.ca (.tail _ (.tail _ (.tail _ (.head _))))
  have hs3 := hR.off c2.cd (.tail _ (.tail _ (.tail _ (.tail _ (.head _)))))
  dsimp only [cycEs, Sg.v] at N9
  dsimp only
  k_steps
  refine Con.call (steps_con W0 (Keep.of_fr F9) X1.two.q1 ok (.inl (by omega))) rfl ((RM _).le (by decide)) ?_
  have hT := steps_told ok
  refine hide fun P9 hP9 => ?_
  obtain ⟨g', b, eG⟩ : ∃ g' b, stepsG c1 (c1.szs.length + 5) { g with thr := 0 } = (g', b) := ⟨_, _, rfl⟩
  refine hP9 ?_; clear hP9 P9
  rw [eG] at hT ⊢
  have ok2 := ok.cong z1 z2
  have eG2 : stepsG c2 (c2.szs.length + 5) { g with thr := 0 } = (g', b) := by rw [← z1, ← stepsG_cong z1 z2, eG]
  dsimp only at hT
  rintro v9 H2 tk2 K2 U2 t9_5
  refine hide fun P9 hP9 => ?_
  rcases t9_5 with ⟨e9, m1', ys1, q1, f1, s1, ok1⟩
  refine hP9 ?_; clear hP9 P9
  subst e9
  have X2 := X1.step1 U2 q1 f1 s1
  have FB := X1.two.q1.fr F9 (X1.a1 L (.head _)) U2
  have OI2 := U2.own OI1 (X1.e1 I (.head _)).notFoot
  have r1 := X2.two.q1.ca; have r2 := X2.two.q1.cd; have r3 := X2.two.q2.ca; have r4 := X2.two.q2.cd
  clear F9 N9 hR FA
  (try clear hR); (try clear N9); (try clear F9)
  have F9 := FB
  refine hide fun P9 hP9 => ?_
  obtain ⟨rest, hR, N9⟩ := refocus F9 (.cons r1 (.cons r2 (.cons r3 (.cons r4 .nil)))) (allC ((n1)) (allC ((n2)) (allC ((n5)) (allC ((n6)) (List.forall_mem_nil _)))))
  refine hP9 ?_; clear hP9 P9
  dsimp only [List.cons_append, List.nil_append] at N9
  change Rest B _ [L, c1.ca, c1.cd, c2.ca, c2.cd] rest at hR
  have hB9 := Keep.of_fr F9
  have hs0 := hR.off c1.ca (.tail _ (.head _))
  have hs1 := hR.off c1.cd (.tail _ (.tail _ (.head _)))
  have hs2 := hR.off c2.ca (.tail _ (.tail _ (.tail _ (.head _))))
  have hs3 := hR.off c2.cd (.tail _ (.tail _ (.tail _ (.tail _ (.head _)))))
  dsimp only [cycEs, Sg.v] at N9
  dsimp only
  k_steps
  (with_reducible rename Fr _ _ _ _ => F9); (with_reducible rename News _ _ _ _ => N9)
  have UX := hR.upto (S := orL (is0) L) hB9 F9 N9 (by intro p hp; repeat (first | exact hp | apply List.Mem.tail)) (by
    refine allC (.inl ⟨.inr rfl, Fr.liveL F9⟩) (allC (?_) (allC (?_) (allC (?_) (allC (?_) (List.forall_mem_nil _)))))
    · first | exact Or.inr ((newsOwn N9 (a := c1.ca) (by k_mem)).1.trans r1.1.symm) | exact Or.inl ⟨Or.inl (by first | exact rfl | exact Or.inl rfl | exact Or.inr rfl | exact Or.inr (Or.inl rfl) | exact Or.inr (Or.inr rfl)), newsLive N9 (by k_mem)⟩
    · first | exact Or.inr ((newsOwn N9 (a := c1.cd) (by k_mem)).1.trans r2.1.symm) | exact Or.inl ⟨Or.inl (by first | exact rfl | exact Or.inl rfl | exact Or.inr rfl | exact Or.inr (Or.inl rfl) | exact Or.inr (Or.inr rfl)), newsLive N9 (by k_mem)⟩
    · first | exact Or.inr ((newsOwn N9 (a := c2.ca) (by k_mem)).1.trans r3.1.symm) | exact Or.inl ⟨Or.inl (by first | exact rfl | exact Or.inl rfl | exact Or.inr rfl | exact Or.inr (Or.inl rfl) | exact Or.inr (Or.inr rfl)), newsLive N9 (by k_mem)⟩
    · first | exact Or.inr ((newsOwn N9 (a := c2.cd) (by k_mem)).1.trans r4.1.symm) | exact Or.inl ⟨Or.inl (by first | exact rfl | exact Or.inl rfl | exact Or.inr rfl | exact Or.inr (Or.inl rfl) | exact Or.inr (Or.inr rfl)), newsLive N9 (by k_mem)⟩)
  have X3 := X2.frame0 UX
  have nIL : NeN I L := (XC.en I (.head _)).1
  have OI3 := UX.own OI2 (fun e => e.elim id nIL)
  refine Con.call (steps_con W0 (Keep.of_fr F9) X3.two.q2 ok2 (.inr (by have := ok2.tot.2; show c2.total ≤ 10 ^ 9 * 64; omega))) rfl ((RM _).le (by decide)) ?_
  rw [eG2]
  rintro v9 H3 tk3 K3 U3 t9_5
  refine hide fun P9 hP9 => ?_
  rcases t9_5 with ⟨e9, m2', ys2, q2, f2, s2, ok3⟩
  refine hP9 ?_; clear hP9 P9
  subst e9
  have X4 := X3.step2 U3 q2 f2 s2
  have FC := X3.two.q2.fr F9 (X3.a2 L (.head _)) U3
  have OI4 := U3.own OI3 (X3.e2 I (.head _)).notFoot
  have r1 := X4.two.q1.ca; have r2 := X4.two.q1.cd; have r3 := X4.two.q2.ca; have r4 := X4.two.q2.cd
  clear F9 N9 hR UX
  (try clear hR); (try clear N9); (try clear F9)
  have F9 := FC
  refine hide fun P9 hP9 => ?_
  obtain ⟨rest, hR, N9⟩ := refocus F9 (.cons r1 (.cons r2 (.cons r3 (.cons r4 .nil)))) (allC ((n1)) (allC ((n2)) (allC ((n5)) (allC ((n6)) (List.forall_mem_nil _)))))
  refine hP9 ?_; clear hP9 P9
  dsimp only [List.cons_append, List.nil_append] at N9
  change Rest B _ [L, c1.ca, c1.cd, c2.ca, c2.cd] rest at hR
  have hB9 := Keep.of_fr F9
  have hs0 := hR.off c1.ca (.tail _ (.head _))
  have hs1 := hR.off c1.cd (.tail _ (.tail _ (.head _)))
  have hs2 := hR.off c2.ca (.tail _ (.tail _ (.tail _ (.head _))))
  have hs3 := hR.off c2.cd (.tail _ (.tail _ (.tail _ (.tail _ (.head _)))))
  dsimp only [cycEs, Sg.v] at N9
  dsimp only
  k_steps
  · exfalso
    have e : (b != b) = true := by assumption
    simp at e
  · exfalso
    have e : (b != (g'.pos.phase == 0)) = true := by assumption
    rw [hT] at e
    by_cases hp : g'.pos.phase = 0 <;> simp [hp] at e
  · refine Con.call (lawState_con W0 (Keep.of_fr F9) X4.two.q1) rfl ((RM _).le (by decide)) ?_
    rintro v9 H4 tk4 K4 U4 ⟨T1, M1, v1, a1, a2, a3, a4, a5, nv1, e9, t1, l1, iv1, dT1, dM1, nTM1⟩
    subst e9
    have X5 := X4.frame0 (U4.mono fun _ e _ => .inl e)
    have FD := frStep F9 U4 (fun x => x) base0
    have OI5 := U4.own OI4 id
    have nT1 : NeN T1 L := fun e => not_live dT1 (by rw [e]; exact X4.live)
    have nM1 : NeN M1 L := fun e => not_live dM1 (by rw [e]; exact X4.live)
    clear F9 N9 hR
    (try clear hR); (try clear N9); (try clear F9)
    have F9 := FD
    refine hide fun P9 hP9 => ?_
    obtain ⟨rest, hR, N9⟩ := refocus F9 (.cons t1 (.cons l1 .nil)) (allC ((nT1)) (allC ((nM1)) (List.forall_mem_nil _)))
    refine hP9 ?_; clear hP9 P9
    dsimp only [List.cons_append, List.nil_append] at N9
    change Rest B _ [L, T1, M1] rest at hR
    have hB9 := Keep.of_fr F9
    have hs0 := hR.off T1 (.tail _ (.head _))
    have hs1 := hR.off M1 (.tail _ (.tail _ (.head _)))
    dsimp only
    k_steps
    refine Con.call (lawState_con W0 (Keep.of_fr F9) X5.two.q2) rfl ((RM _).le (by decide)) ?_
    rintro v9 H5 tk5 K5 U5 ⟨T2, M2, v2, a6, a7, a8, a9, a10, nv2, e9, t2, l2, iv2, dT2, dM2, nTM2⟩
    subst e9
    have X6 := X5.frame0 (U5.mono fun _ e _ => .inl e)
    have FE := frStep F9 U5 (fun x => x) base0
    have OI6 := U5.own OI5 id
    have t3 := U5.own t1 id
    have l3 := U5.own l1 id
    have nT2 : NeN T2 L := fun e => not_live dT2 (by rw [e]; exact X5.live)
    have nM2 : NeN M2 L := fun e => not_live dM2 (by rw [e]; exact X5.live)
    rw [← marks_same X4.two.q1 X4.two.q2 z1] at iv2
    rw [← z2] at t2
    generalize ys1.map (·.mrk) = mk at iv1 iv2
    clear F9 N9 hR
    (try clear hR); (try clear N9); (try clear F9)
    have F9 := FE
    refine hide fun P9 hP9 => ?_
    obtain ⟨rest, hR, N9⟩ := refocus F9 (.cons t3 (.cons l3 (.cons t2 (.cons l2 .nil)))) (allC ((nT1)) (allC ((nM1)) (allC ((nT2)) (allC ((nM2)) (List.forall_mem_nil _)))))
    refine hP9 ?_; clear hP9 P9
    dsimp only [List.cons_append, List.nil_append] at N9
    change Rest B _ [L, T1, M1, T2, M2] rest at hR
    have hB9 := Keep.of_fr F9
    have hs0 := hR.off T1 (.tail _ (.head _))
    have hs1 := hR.off M1 (.tail _ (.tail _ (.head _)))
    have hs2 := hR.off T2 (.tail _ (.tail _ (.tail _ (.head _))))
    have hs3 := hR.off M2 (.tail _ (.tail _ (.tail _ (.tail _ (.head _)))))
    dsimp only
    refine state_ne t3 l3 iv1 t2 l2 iv2 (by rw [units_deeper]; decide) ?_
    k_steps
    refine ⟨rfl, H5, _, some (.int vi ti), some (.bool b), rfl, ?_, OI6, _, _, _, _, g', X6, ok1⟩
    rw [← tM_z (x := Str.ofString "turn") (z := Str.ofString "told") (u := some (.int vi ti)) (O := O) (by decide)]
    exact FE
end
section
set_option maxRecDepth 100000
open PySem PySem.W PySem.Calls PyProof.Rows
theorem reset_L31g : True := by
  w_top off
  trivial
local macro_rules | `(tactic| walk_at "call builtin:len") => `(tactic| (k_here; (with_reducible show wpAny _ _ (call (Value.builtin "len") [Value.ref _]) _ _ _); k_dflt (refine' kda_len (knd := PySem.intKind _ _) ?N ?p ?d ?lo ?z ?_; (case N => k_asm); (case p => k_mem); (case d => k_asm); (case lo => k_asm); (case z => omega))))
local macro_rules | `(tactic| walk_at "subscriptTail") => `(tactic| (k_here; (with_reducible show wpAny _ _ (subscriptTail _ _ (Value.ref _) (Value.int _ _)) _ _ _); refine PickGo.out ?_))
set_option maxHeartbeats 4000000 in
theorem law_seven {w0 : World} {B : Heap} {L fa : Addr} {cd : Value} {sl0 sl bell cells bk : Addr} {oc : Obj} {u O : Option Value} {ws ys : List Value} {wn ns : List Int} {n5 : Nat} {share : Int} {ts : Tok} {s0 : Shared} {h : Heap} {tk : Nat} {c1 c2 : Cfg} {m1 m2 : Mut} {xs1 xs2 : List Th} {g g2 : Sg} (W : Wd w0 B)
    (F8 : Fr B L h (tM (Str.ofString "turn") (Str.ofString "told") u O (lawM sl0 sl bk c1.ca c2.ca share ts)))
    (XC : LawC w0 B h L sl bell cells oc ws ys n5 [] c1 m1 xs1 g c2 m2 xs2 g2) (ok : OkG c1 g) (z1 : c1.szs = ns) (hoc : oc.data = .cell (some (.ref bell))) (hI : IntsAre ws wn) (hw : ws.length ≤ 30) (hy : IntsAre ys ns) (hl : 2 ≤ ns.length ∧ ns.length ≤ 9) :
    wpAny (model PySem.Challenge.rw_rh0162_01.row.prog w0) (callerA.deeper (lawEnv L fa cd)) (execs (lawBody.drop 10) (lawEnv L fa cd)) (LawEnd B L s0) (fun _ _ => False) { s0 with heap := h, toks := tk } := by
  dsimp only [lawBody, lawEnv, lawScope, PySem.Challenge.pw_rh0162_01, List.getLast?, List.getLast, List.drop]
  delta tM lawM at F8
  have W0 := W
  refine hide fun P9 hP9 => ?_
  obtain ⟨X, ⟨p0, loose0, mean0, mg0, mb0, T⟩, C⟩ := W
  refine hP9 ?_; clear hP9 P9
  revert X; k_fill; intro X
  refine hide fun P9 hP9 => ?_
  obtain ⟨sv, r, hsv⟩ := XC.two.q1.rep
  have p1 := r.ca; have p2 := r.cd; have p3 := r.od
  have d1 := r.odd; have d2 := r.odn
  have o1 := XC.a1 L (.head _)
  have n1 : NeN c1.ca L := o1.fix c1.ca (by first | exact Cfg.m0 _ | exact Cfg.m1 _ | exact Cfg.m2 _ | exact Cfg.m3 _ | exact Cfg.m4 _ | exact Cfg.m5 _ | exact Cfg.m6 _ | exact Cfg.m7 _ | exact Cfg.m8 _ | exact Cfg.m9 _ | exact Cfg.m10 _ | exact Cfg.m11 _)
  have n2 : NeN c1.cd L := o1.fix c1.cd (by first | exact Cfg.m0 _ | exact Cfg.m1 _ | exact Cfg.m2 _ | exact Cfg.m3 _ | exact Cfg.m4 _ | exact Cfg.m5 _ | exact Cfg.m6 _ | exact Cfg.m7 _ | exact Cfg.m8 _ | exact Cfg.m9 _ | exact Cfg.m10 _ | exact Cfg.m11 _)
  have n3 : NeN c1.od L := o1.fix c1.od (by first | exact Cfg.m0 _ | exact Cfg.m1 _ | exact Cfg.m2 _ | exact Cfg.m3 _ | exact Cfg.m4 _ | exact Cfg.m5 _ | exact Cfg.m6 _ | exact Cfg.m7 _ | exact Cfg.m8 _ | exact Cfg.m9 _ | exact Cfg.m10 _ | exact Cfg.m11 _)
  obtain ⟨kb, tb, nb, hkb, ob⟩ := XC.obell
  refine hP9 ?_; clear hP9 P9
  have p4 := XC.ocell; have p5 := XC.osl
  have n4 := XC.nL (L + 1) (by simp)
  have n5 := XC.nL bell (by simp)
  have n6 := XC.nL sl (by simp)
  have hn9 : xs1.length = ns.length := by rw [← List.length_map (f := (·.sz)), r.szs, z1]
  have d3 : (xs1.map fun x => (x.num, x.ref)).length = ns.length := by rw [List.length_map]; exact hn9
  have d4 : ys.toArray.size = ns.length := by rw [List.size_toArray, hy.length]
  (try clear hR); (try clear N9); (try clear F9)
  have F9 := F8
  refine hide fun P9 hP9 => ?_
  obtain ⟨rest, hR, N9⟩ := refocus F9 (.cons p1 (.cons p2 (.cons p3 (.cons p4 (.cons p5 (.cons ob .nil)))))) (allC ((n1)) (allC ((n2)) (allC ((n3)) (allC ((n4)) (allC ((n6)) (allC ((n5)) (List.forall_mem_nil _)))))))
  refine hP9 ?_; clear hP9 P9
  dsimp only [List.cons_append, List.nil_append] at N9
  change Rest B _ [L, c1.ca, c1.cd, c1.od, (L+1), sl, bell] rest at hR
  have hB9 := Keep.of_fr F9
  have hs0 := hR.off c1.ca (.tail _ (.head _))
  have hs1 := hR.off c1.cd (.tail _ (.tail _ (.head _)))
  have hs2 := hR.off c1.od (.tail _ (.tail _ (.tail _ (.head _))))
  have hs3 := hR.off (L+1) (.tail _ (.tail _ (.tail _ (.tail _ (.head _)))))
  have hs4 := hR.off sl (.tail _ (.tail _ (.tail _ (.tail _ (.tail _ (.head _))))))
  have hs5 := hR.off bell (.tail _ (.tail _ (.tail _ (.tail _ (.tail _ (.tail _ (.head _)))))))
  dsimp only [cycEs, Sg.v, Cfg.cy] at N9
  k_steps
  · (with_reducible rename Fr _ _ _ _ => F9); (with_reducible rename News _ _ _ _ => N9)
    rename_i lst _ ll
    (with_reducible rename Fr _ _ _ _ => F9); (with_reducible rename News _ _ _ _ => N9)
    have UX := hR.upto (S := orL (is0) L) hB9 F9 N9 (by intro p hp; repeat (first | exact hp | apply List.Mem.tail)) (by
      refine allC (.inl ⟨.inr rfl, Fr.liveL F9⟩) (allC (?_) (allC (?_) (allC (?_) (allC (?_) (allC (?_) (allC (?_) (List.forall_mem_nil _)))))))
      · first | exact Or.inr ((newsOwn N9 (a := c1.ca) (by k_mem)).1.trans p1.1.symm) | exact Or.inl ⟨Or.inl (by first | exact rfl | exact Or.inl rfl | exact Or.inr rfl | exact Or.inr (Or.inl rfl) | exact Or.inr (Or.inr rfl)), newsLive N9 (by k_mem)⟩
      · first | exact Or.inr ((newsOwn N9 (a := c1.cd) (by k_mem)).1.trans p2.1.symm) | exact Or.inl ⟨Or.inl (by first | exact rfl | exact Or.inl rfl | exact Or.inr rfl | exact Or.inr (Or.inl rfl) | exact Or.inr (Or.inr rfl)), newsLive N9 (by k_mem)⟩
      · first | exact Or.inr ((newsOwn N9 (a := c1.od) (by k_mem)).1.trans p3.1.symm) | exact Or.inl ⟨Or.inl (by first | exact rfl | exact Or.inl rfl | exact Or.inr rfl | exact Or.inr (Or.inl rfl) | exact Or.inr (Or.inr rfl)), newsLive N9 (by k_mem)⟩
      · first | exact Or.inr ((newsOwn N9 (a := (L+1)) (by k_mem)).1.trans p4.1.symm) | exact Or.inl ⟨Or.inl (by first | exact rfl | exact Or.inl rfl | exact Or.inr rfl | exact Or.inr (Or.inl rfl) | exact Or.inr (Or.inr rfl)), newsLive N9 (by k_mem)⟩
      · first | exact Or.inr ((newsOwn N9 (a := sl) (by k_mem)).1.trans p5.1.symm) | exact Or.inl ⟨Or.inl (by first | exact rfl | exact Or.inl rfl | exact Or.inr rfl | exact Or.inr (Or.inl rfl) | exact Or.inr (Or.inr rfl)), newsLive N9 (by k_mem)⟩
      · first | exact Or.inr ((newsOwn N9 (a := bell) (by k_mem)).1.trans ob.1.symm) | exact Or.inl ⟨Or.inl (by first | exact rfl | exact Or.inl rfl | exact Or.inr rfl | exact Or.inr (Or.inl rfl) | exact Or.inr (Or.inr rfl)), newsLive N9 (by k_mem)⟩)
    have X1 := XC.frame0 UX
    have ob1 := newsOwn N9 (a := bell) (by k_mem)
    have ol := newsOwn N9 (a := lst) (by k_mem)
    have nl := newsNeL N9 (a := lst) (by k_mem)
    have nlb : NeN lst bell := Nat.ne_of_gt ll.2.2.2.2.2.1
    have nbc := XC.nbc
    refine Con.call (rung_con W0 (Keep.of_fr F9) ⟨by omega, by omega⟩ hkb ob1 X1.ocells hI hw nbc) rfl ((RM _).le (by decide)) ?_
    rintro v9 H1 tk1 K1 U1 t9_5
    refine hide fun P9 hP9 => ?_
    rcases t9_5 with ⟨⟨i1, t1, e9, i10, i11⟩, nb1, tb1, ob2⟩
    refine hP9 ?_; clear hP9 P9
    subst e9
    have X2 := X1.ring U1 ⟨_, _, _, (show 0 ≤ kb + 1 by omega), ob2⟩
    have FA := frStep F9 U1 (fun e => n5 e.symm) (base1 ob1.2)
    have ol1 := U1.own ol nlb
    have r1 := X2.two.q1.ca
    clear F9 N9 hR UX
    (try clear hR); (try clear N9); (try clear F9)
    have F9 := FA
    refine hide fun P9 hP9 => ?_
    obtain ⟨rest, hR, N9⟩ := refocus F9 (.cons ol1 (.cons r1 .nil)) (allC ((nl)) (allC ((n1)) (List.forall_mem_nil _)))
    refine hP9 ?_; clear hP9 P9
    dsimp only [List.cons_append, List.nil_append] at N9
    change Rest B _ [L, lst, c1.ca] rest at hR
    have hB9 := Keep.of_fr F9
    have hs0 := hR.off lst (.tail _ (.head _))
    have hs1 := hR.off c1.ca (.tail _ (.tail _ (.head _)))
    dsimp only
    k_steps
    refine pickGo N9 (by k_mem) (ns := [200, 0, 50, 0 - 1, 0 - 200]) (.cons _ _ (.cons _ _ (.cons _ _ (.cons _ _ (.cons _ _ .nil))))) i10 i11 (by decide) fun tp => ?_
    have hp : -1000 ≤ ([200, 0, 50, 0 - 1, 0 - 200] : List Int).getD i1.toNat 0 ∧ ([200, 0, 50, 0 - 1, 0 - 200] : List Int).getD i1.toNat 0 ≤ 1000 := by
      have : i1 = 0 ∨ i1 = 1 ∨ i1 = 2 ∨ i1 = 3 ∨ i1 = 4 := by omega
      rcases this with rfl | rfl | rfl | rfl | rfl <;> decide
    generalize ([200, 0, 50, 0 - 1, 0 - 200] : List Int).getD i1.toNat 0 = pause at *
    k_steps
    refine Con.call (pauseRight_con W0 (Keep.of_fr F9) X2.two.q1 ok hp) rfl ((RM _).le (by decide)) ?_
    intro v9 H2 tk2 K2 U2 e9
    subst e9
    obtain ⟨ps, ot⟩ := X2.otab
    have FB := X2.two.q1.fr F9 (X2.a1 L (.head _)) U2
    have ot2 := U2.own ot (X2.a1 380 (by simp)).notFoot
    clear F9 N9
    dsimp only
    k_steps
    exact ⟨H2, _, ps, _, rfl, rfl, FB, newsMk (.cons ot2 .nil) (allC (X2.nL 380 (by simp)) (List.forall_mem_nil _))⟩
  · exfalso
    have e : (((xs1.map fun x => (x.num, x.ref)).length : Nat) : Int) ≠ (ns.length : Int) := by assumption
    exact e (by rw [d3])
end
section
set_option maxRecDepth 100000
open PySem PySem.W PySem.Calls PyProof.Rows
theorem reset_L31e : True := by
  w_top off
  trivial
set_option maxHeartbeats 4000000 in
theorem law_six {w0 : World} {B : Heap} {L fa : Addr} {cd : Value} {sl0 sl bell cells bk : Addr} {oc : Obj} {ws ys : List Value} {wn ns : List Int} {n5 : Nat} {share : Int} {ts : Tok} {s0 : Shared} {h : Heap} {tk : Nat} {c1 c2 : Cfg} {m1 m2 : Mut} {xs1 xs2 : List Th} (W : Wd w0 B)
    (F8 : Fr B L h (fun z => if z = Str.ofString "black" then some (Value.ref bk) else if z = Str.ofString "heap_here" then some (Value.ref c2.ca) else if z = Str.ofString "one" then some (Value.ref c1.ca) else if z = Str.ofString "other" then some (Value.ref c2.ca) else if z = Str.ofString "sizes" then some (Value.ref sl) else if z = Str.ofString "share" then some (Value.int share ts) else if z = Str.ofString "script" then some (Value.ref sl0) else none))
    (XC : LawC w0 B h L sl bell cells oc ws ys n5 [] c1 m1 xs1 (gAt c1 share true) c2 m2 xs2 (gAt c2 share true)) (z1 : c1.szs = ns ∧ c1.total = ns.sum) (z2 : c2.szs = ns ∧ c2.total = ns.sum) (hoc : oc.data = .cell (some (.ref bell))) (hI : IntsAre ws wn) (hw : ws.length ≤ 30) (hy : IntsAre ys ns) (hl : 2 ≤ ns.length ∧ ns.length ≤ 9) (hall : ∀ x ∈ ns, 2 ≤ x ∧ x ≤ 51)
    (hsh : share ∈ ([1, 0, 2, 1000, -5, -200] : List Int)) :
    wpAny (model PySem.Challenge.rw_rh0162_01.row.prog w0) (callerA.deeper (lawEnv L fa cd)) (execs (lawBody.drop 9) (lawEnv L fa cd)) (LawEnd B L s0) (fun _ _ => False) { s0 with heap := h, toks := tk } := by
  dsimp only [lawBody, lawEnv, lawScope, PySem.Challenge.pw_rh0162_01, List.getLast?, List.getLast, List.drop]
  have W0 := W
  refine hide fun P9 hP9 => ?_
  obtain ⟨X, ⟨p0, loose0, mean0, mg0, mb0, T⟩, C⟩ := W
  refine hP9 ?_; clear hP9 P9
  revert X; k_fill; intro X
  refine hide fun P9 hP9 => ?_
  obtain ⟨kb, tb, nb, hkb, ob⟩ := XC.obell
  refine hP9 ?_; clear hP9 P9
  have p1 := XC.ocell
  have n1 := XC.nL (L + 1) (by simp)
  have n2 := XC.nL bell (by simp)
  (try clear hR); (try clear N9); (try clear F9)
  have F9 := F8
  refine hide fun P9 hP9 => ?_
  obtain ⟨rest, hR, N9⟩ := refocus F9 (.cons p1 (.cons ob .nil)) (allC ((n1)) (allC ((n2)) (List.forall_mem_nil _)))
  refine hP9 ?_; clear hP9 P9
  dsimp only [List.cons_append, List.nil_append] at N9
  change Rest B _ [L, (L+1), bell] rest at hR
  have hB9 := Keep.of_fr F9
  have hs0 := hR.off (L+1) (.tail _ (.head _))
  have hs1 := hR.off bell (.tail _ (.tail _ (.head _)))
  k_steps
  have nbc := XC.nbc
  refine Con.call (rung_con W0 (Keep.of_fr F9) ⟨by omega, by omega⟩ hkb ob XC.ocells hI hw nbc) rfl ((RM _).le (by decide)) ?_
  rintro v9 H1 tk1 K1 U1 t9_5
  refine hide fun P9 hP9 => ?_
  rcases t9_5 with ⟨⟨i1, t1, e9, i10, i11⟩, nb1, tb1, ob1⟩
  refine hP9 ?_; clear hP9 P9
  subst e9
  have X1 := XC.ring U1 ⟨_, _, _, (show 0 ≤ kb + 1 by omega), ob1⟩
  have FA := frStep F9 U1 (fun e => n2 e.symm) (base1 ob.2)
  have r1 := X1.two.q1.ca
  have n3 : NeN c1.ca L := (X1.a1 L (.head _)).fix c1.ca (by first | exact Cfg.m0 _ | exact Cfg.m1 _ | exact Cfg.m2 _ | exact Cfg.m3 _ | exact Cfg.m4 _ | exact Cfg.m5 _ | exact Cfg.m6 _ | exact Cfg.m7 _ | exact Cfg.m8 _ | exact Cfg.m9 _ | exact Cfg.m10 _ | exact Cfg.m11 _)
  clear F9 N9 hR
  (try clear hR); (try clear N9); (try clear F9)
  have F9 := FA
  refine hide fun P9 hP9 => ?_
  obtain ⟨rest, hR, N9⟩ := refocus F9 (.cons r1 .nil) (allC ((n3)) (List.forall_mem_nil _))
  refine hP9 ?_; clear hP9 P9
  dsimp only [List.cons_append, List.nil_append] at N9
  change Rest B _ [L, c1.ca] rest at hR
  have hB9 := Keep.of_fr F9
  have hs0 := hR.off c1.ca (.tail _ (.head _))
  dsimp only
  k_steps
  rename_i _ _ h5 tk5 t5 u5 v5 r5 F9 N9 kk5
  have hsB := share_bound hsh
  have zs : c1.szs = c2.szs := z1.1.trans z2.1.symm
  have zt : c1.total = c2.total := z1.2.trans z2.2.symm
  have ok : OkG c1 (gAt c1 share true) := stepG_ok (okG0 (by rw [z1.1]; exact hl.1) (by rw [z1.2]; exact sum_bound hl.2 hall) hsB)
  rw [show gAt c2 share true = gAt c1 share true from (stepG_cong zs zt _).symm] at X1
  have UX : Upto (orL is0 L) H1 h5 := ⟨fun a o _ e => kk5 a o e, fun a e => by obtain ⟨o, ho⟩ := Option.isSome_iff_exists.mp e; rw [kk5 a o ho]; rfl⟩
  have X2 := X1.frame0 UX
  have F10 : Fr B L h5 (lawM sl0 sl bk c1.ca c2.ca share ts) := F9
  refine rangeGo (z := Str.ofString "told") (fun I i => LawP w0 B L sl bell cells oc ws ys n5 [I] c1 c2) rfl F10 r5 (rangeF4 i10 i11).1 (rangeF4 i10 i11).2 lawM_none ?h0 ?hst ?turn ?done rfl rfl
  case h0 => exact fun I h' d l U => ⟨_, _, _, _, _, X2.add d (U.mono fun _ e _ => .inl e) l, ok⟩
  case hst =>
    rintro I i h' h'' U t9_5
    refine hide fun P9 hP9 => ?_
    rcases t9_5 with ⟨_, _, _, _, _, Y, okY⟩
    refine hP9 ?_; clear hP9 P9
    exact ⟨_, _, _, _, _, Y.iter (.head _) U, okY⟩
  case turn =>
    rintro I i t O h6 tk6 oI hi6 F6 OI6 nI t9_11
    refine hide fun P9 hP9 => ?_
    rcases t9_11 with ⟨ma, xa, mb, xb, g, Y, okY⟩
    refine hP9 ?_; clear hP9 P9
    exact law_body (ns := ns) (s0 := ⟨h5, s0.gens, s0.drawn, tk5, s0.os⟩) W0 F6 Y OI6 okY zs zt hoc hI hw
  case done =>
    rintro I h6 h7 tk7 u O t9_6 k F7
    refine hide fun P9 hP9 => ?_
    rcases t9_6 with ⟨ma, xa, mb, xb, g, Y, okY⟩
    refine hP9 ?_; clear hP9 P9
    exact law_seven (s0 := s0) W0 F7 (Y.gone (.head _) k) okY z1.1 hoc hI hw hy hl
end
section
set_option maxRecDepth 100000
open PySem PySem.W PySem.Calls PyProof.Rows
theorem reset_L31d : True := by
  w_top off
  trivial
local macro_rules | `(tactic| walk_at "execs cons") => `(tactic| (k_here; (with_reducible show wpAny _ _ (execs (Stmt.For (Expr.Name _ _) (Expr.Call _ _ _ _) _ _ _ :: _) _) _ _ _); refine Halt.out ?_))
theorem any_false {share : Int} (h : ([0, 1000].any fun x => x == share) = false) : share ≠ 0 ∧ share ≠ 1000 := by
  simp at h
  exact ⟨fun e => h.1 e.symm, fun e => h.2 e.symm⟩
set_option maxHeartbeats 4000000 in
theorem law_five {w0 : World} {B : Heap} {L fa : Addr} {cd : Value} {sl0 sl bell cells bk : Addr} {bs : List Value} {nb : Nat} {oc : Obj} {ws ys : List Value} {wn ns : List Int} {n5 : Nat} {share : Int} {ts : Tok} {s0 : Shared} {h : Heap} {tk : Nat} {c1 c2 : Cfg} {m1 m2 : Mut} {xs1 xs2 : List Th} (W : Wd w0 B)
    (F8 : Fr B L h (fun z => if z = Str.ofString "black" then some (Value.ref bk) else if z = Str.ofString "heap_here" then some (Value.ref c2.ca) else if z = Str.ofString "one" then some (Value.ref c1.ca) else if z = Str.ofString "other" then some (Value.ref c2.ca) else if z = Str.ofString "sizes" then some (Value.ref sl) else if z = Str.ofString "share" then some (Value.int share ts) else if z = Str.ofString "script" then some (Value.ref sl0) else none))
    (XC : LawC w0 B h L sl bell cells oc ws ys n5 [bk] c1 m1 xs1 (gAt c1 share true) c2 m2 xs2 (gAt c2 share true)) (z1 : c1.szs = ns ∧ c1.total = ns.sum) (z2 : c2.szs = ns ∧ c2.total = ns.sum) (hoc : oc.data = .cell (some (.ref bell))) (hI : IntsAre ws wn) (hw : ws.length ≤ 30) (hy : IntsAre ys ns) (hl : 2 ≤ ns.length ∧ ns.length ≤ 9) (hall : ∀ x ∈ ns, 2 ≤ x ∧ x ≤ 51)
    (OB : Own B h bk (listOf bs.toArray nb)) (hbn : bs.length ≤ 9) (hbl : share ≠ 0 → share ≠ 1000 → bs.length ≤ 1) (hsh : share ∈ ([1, 0, 2, 1000, -5, -200] : List Int)) :
    wpAny (model PySem.Challenge.rw_rh0162_01.row.prog w0) (callerA.deeper (lawEnv L fa cd)) (execs (lawBody.drop 7) (lawEnv L fa cd)) (LawEnd B L s0) (fun _ _ => False) { s0 with heap := h, toks := tk } := by
  dsimp only [lawBody, lawEnv, lawScope, PySem.Challenge.pw_rh0162_01, List.getLast?, List.getLast, List.drop]
  have W0 := W
  refine hide fun P9 hP9 => ?_
  obtain ⟨X, ⟨p0, loose0, mean0, mg0, mb0, T⟩, C⟩ := W
  refine hP9 ?_; clear hP9 P9
  revert X; k_fill; intro X
  have hs51 : ∀ i, c1.szs.getD i 0 ≤ 51 := fun i => by
    rw [z1.1, List.getD_eq_getElem?_getD]
    cases e : ns[i]? with
    | none => show (0 : Int) ≤ 51; decide
    | some v => exact (hall v (List.mem_of_getElem? e)).2
  have hG0 : share = 0 → (gAt c1 share true).pos.phase = 0 ∧ (gAt c1 share true).cyc = 1 := fun e => by
    subst e
    exact first0 hs51 (by rw [z1.1]; exact hl) (by rw [z1.2]; exact sum_bound hl.2 hall)
  have hGs : share ≠ 0 → share ≠ 1000 → (gAt c1 share true).cyc = 0 ∧ (gAt c1 share true).pos.phase = 1 := fun s0 s1000 => by
    have hs := share_small hsh s0 s1000
    have hf := firstSmall (c := c1) (by rw [z1.1]; exact hl) hs
    refine ⟨hf.1, ?_⟩
    rcases hf.2 with e | e
    · rw [show (gAt c1 share true).pos = _ from e]; rfl
    · rw [show (gAt c1 share true).pos = _ from e]; rfl
  have p1 := XC.two.q1.ca; have p2 := XC.two.q1.cd
  have o1 := XC.a1 L (.head _)
  have n1 : NeN c1.ca L := o1.fix c1.ca (by first | exact Cfg.m0 _ | exact Cfg.m1 _ | exact Cfg.m2 _ | exact Cfg.m3 _ | exact Cfg.m4 _ | exact Cfg.m5 _ | exact Cfg.m6 _ | exact Cfg.m7 _ | exact Cfg.m8 _ | exact Cfg.m9 _ | exact Cfg.m10 _ | exact Cfg.m11 _)
  have n2 : NeN c1.cd L := o1.fix c1.cd (by first | exact Cfg.m0 _ | exact Cfg.m1 _ | exact Cfg.m2 _ | exact Cfg.m3 _ | exact Cfg.m4 _ | exact Cfg.m5 _ | exact Cfg.m6 _ | exact Cfg.m7 _ | exact Cfg.m8 _ | exact Cfg.m9 _ | exact Cfg.m10 _ | exact Cfg.m11 _)
  have n3 : NeN bk L := (XC.en bk (.head _)).1
  have hbs : bs.toArray.size = bs.length := List.size_toArray
  (try clear hR); (try clear N9); (try clear F9)
  have F9 := F8
  refine hide fun P9 hP9 => ?_
  obtain ⟨rest, hR, N9⟩ := refocus F9 (.cons p1 (.cons p2 (.cons OB .nil))) (allC ((n1)) (allC ((n2)) (allC ((n3)) (List.forall_mem_nil _))))
  refine hP9 ?_; clear hP9 P9
  dsimp only [List.cons_append, List.nil_append] at N9
  change Rest B _ [L, c1.ca, c1.cd, bk] rest at hR
  have hB9 := Keep.of_fr F9
  have hs0 := hR.off c1.ca (.tail _ (.head _))
  have hs1 := hR.off c1.cd (.tail _ (.tail _ (.head _)))
  have hs2 := hR.off bk (.tail _ (.tail _ (.tail _ (.head _))))
  dsimp only [cycEs, Sg.v] at N9
  have XC0 := XC
  generalize (gAt c1 share true) = G at N9 hG0 hGs p2
  k_steps
  · (with_reducible rename Fr _ _ _ _ => F9); (with_reducible rename News _ _ _ _ => N9)
    (with_reducible rename Fr _ _ _ _ => F9); (with_reducible rename News _ _ _ _ => N9)
    have UX := hR.upto (S := orL (is0) L) hB9 F9 N9 (by intro p hp; repeat (first | exact hp | apply List.Mem.tail)) (by
      refine allC (.inl ⟨.inr rfl, Fr.liveL F9⟩) (allC (?_) (allC (?_) (allC (?_) (List.forall_mem_nil _))))
      · first | exact Or.inr ((newsOwn N9 (a := c1.ca) (by k_mem)).1.trans p1.1.symm) | exact Or.inl ⟨Or.inl (by first | exact rfl | exact Or.inl rfl | exact Or.inr rfl | exact Or.inr (Or.inl rfl) | exact Or.inr (Or.inr rfl)), newsLive N9 (by k_mem)⟩
      · first | exact Or.inr ((newsOwn N9 (a := c1.cd) (by k_mem)).1.trans p2.1.symm) | exact Or.inl ⟨Or.inl (by first | exact rfl | exact Or.inl rfl | exact Or.inr rfl | exact Or.inr (Or.inl rfl) | exact Or.inr (Or.inr rfl)), newsLive N9 (by k_mem)⟩
      · first | exact Or.inr ((newsOwn N9 (a := bk) (by k_mem)).1.trans OB.1.symm) | exact Or.inl ⟨Or.inl (by first | exact rfl | exact Or.inl rfl | exact Or.inr rfl | exact Or.inr (Or.inl rfl) | exact Or.inr (Or.inr rfl)), newsLive N9 (by k_mem)⟩)
    exact ⟨law_six W0 F9 (XC0.frame0 UX).drop z1 z2 hoc hI hw hy hl hall hsh⟩
  · exfalso
    have q := any_false (by assumption)
    have q1 := hGs q.1 q.2
    have q2 := hbl q.1 q.2
    omega
  · exfalso
    have q := any_false (by assumption)
    have q1 := hGs q.1 q.2
    have q2 := hbl q.1 q.2
    omega
  · exfalso
    have q := any_false (by assumption)
    have q1 := hGs q.1 q.2
    have q2 := hbl q.1 q.2
    omega
  · (with_reducible rename Fr _ _ _ _ => F9); (with_reducible rename News _ _ _ _ => N9)
    (with_reducible rename Fr _ _ _ _ => F9); (with_reducible rename News _ _ _ _ => N9)
    have UX := hR.upto (S := orL (is0) L) hB9 F9 N9 (by intro p hp; repeat (first | exact hp | apply List.Mem.tail)) (by
      refine allC (.inl ⟨.inr rfl, Fr.liveL F9⟩) (allC (?_) (allC (?_) (allC (?_) (List.forall_mem_nil _))))
      · first | exact Or.inr ((newsOwn N9 (a := c1.ca) (by k_mem)).1.trans p1.1.symm) | exact Or.inl ⟨Or.inl (by first | exact rfl | exact Or.inl rfl | exact Or.inr rfl | exact Or.inr (Or.inl rfl) | exact Or.inr (Or.inr rfl)), newsLive N9 (by k_mem)⟩
      · first | exact Or.inr ((newsOwn N9 (a := c1.cd) (by k_mem)).1.trans p2.1.symm) | exact Or.inl ⟨Or.inl (by first | exact rfl | exact Or.inl rfl | exact Or.inr rfl | exact Or.inr (Or.inl rfl) | exact Or.inr (Or.inr rfl)), newsLive N9 (by k_mem)⟩
      · first | exact Or.inr ((newsOwn N9 (a := bk) (by k_mem)).1.trans OB.1.symm) | exact Or.inl ⟨Or.inl (by first | exact rfl | exact Or.inl rfl | exact Or.inr rfl | exact Or.inr (Or.inl rfl) | exact Or.inr (Or.inr rfl)), newsLive N9 (by k_mem)⟩)
    exact ⟨law_six W0 F9 (XC0.frame0 UX).drop z1 z2 hoc hI hw hy hl hall hsh⟩
  · exfalso
    have q := hG0 (by assumption)
    have e : (G.cyc == 1 && G.pos.phase == 0) = false := by assumption
    rw [q.1, q.2] at e
    cases e
  · (with_reducible rename Fr _ _ _ _ => F9); (with_reducible rename News _ _ _ _ => N9)
    (with_reducible rename Fr _ _ _ _ => F9); (with_reducible rename News _ _ _ _ => N9)
    have UX := hR.upto (S := orL (is0) L) hB9 F9 N9 (by intro p hp; repeat (first | exact hp | apply List.Mem.tail)) (by
      refine allC (.inl ⟨.inr rfl, Fr.liveL F9⟩) (allC (?_) (allC (?_) (allC (?_) (List.forall_mem_nil _))))
      · first | exact Or.inr ((newsOwn N9 (a := c1.ca) (by k_mem)).1.trans p1.1.symm) | exact Or.inl ⟨Or.inl (by first | exact rfl | exact Or.inl rfl | exact Or.inr rfl | exact Or.inr (Or.inl rfl) | exact Or.inr (Or.inr rfl)), newsLive N9 (by k_mem)⟩
      · first | exact Or.inr ((newsOwn N9 (a := c1.cd) (by k_mem)).1.trans p2.1.symm) | exact Or.inl ⟨Or.inl (by first | exact rfl | exact Or.inl rfl | exact Or.inr rfl | exact Or.inr (Or.inl rfl) | exact Or.inr (Or.inr rfl)), newsLive N9 (by k_mem)⟩
      · first | exact Or.inr ((newsOwn N9 (a := bk) (by k_mem)).1.trans OB.1.symm) | exact Or.inl ⟨Or.inl (by first | exact rfl | exact Or.inl rfl | exact Or.inr rfl | exact Or.inr (Or.inl rfl) | exact Or.inr (Or.inr rfl)), newsLive N9 (by k_mem)⟩)
    exact ⟨law_six W0 F9 (XC0.frame0 UX).drop z1 z2 hoc hI hw hy hl hall hsh⟩
  · exfalso
    have q := any_false (by assumption)
    have q1 := hGs q.1 q.2
    have q2 := hbl q.1 q.2
    omega
  · exfalso
    have q := any_false (by assumption)
    have q1 := hGs q.1 q.2
    have q2 := hbl q.1 q.2
    omega
  · exfalso
    have q := any_false (by assumption)
    have q1 := hGs q.1 q.2
    have q2 := hbl q.1 q.2
    omega
  · (with_reducible rename Fr _ _ _ _ => F9); (with_reducible rename News _ _ _ _ => N9)
    (with_reducible rename Fr _ _ _ _ => F9); (with_reducible rename News _ _ _ _ => N9)
    have UX := hR.upto (S := orL (is0) L) hB9 F9 N9 (by intro p hp; repeat (first | exact hp | apply List.Mem.tail)) (by
      refine allC (.inl ⟨.inr rfl, Fr.liveL F9⟩) (allC (?_) (allC (?_) (allC (?_) (List.forall_mem_nil _))))
      · first | exact Or.inr ((newsOwn N9 (a := c1.ca) (by k_mem)).1.trans p1.1.symm) | exact Or.inl ⟨Or.inl (by first | exact rfl | exact Or.inl rfl | exact Or.inr rfl | exact Or.inr (Or.inl rfl) | exact Or.inr (Or.inr rfl)), newsLive N9 (by k_mem)⟩
      · first | exact Or.inr ((newsOwn N9 (a := c1.cd) (by k_mem)).1.trans p2.1.symm) | exact Or.inl ⟨Or.inl (by first | exact rfl | exact Or.inl rfl | exact Or.inr rfl | exact Or.inr (Or.inl rfl) | exact Or.inr (Or.inr rfl)), newsLive N9 (by k_mem)⟩
      · first | exact Or.inr ((newsOwn N9 (a := bk) (by k_mem)).1.trans OB.1.symm) | exact Or.inl ⟨Or.inl (by first | exact rfl | exact Or.inl rfl | exact Or.inr rfl | exact Or.inr (Or.inl rfl) | exact Or.inr (Or.inr rfl)), newsLive N9 (by k_mem)⟩)
    exact ⟨law_six W0 F9 (XC0.frame0 UX).drop z1 z2 hoc hI hw hy hl hall hsh⟩
end
section
set_option maxRecDepth 100000
open PySem PySem.W PySem.Calls PyProof.Rows
theorem reset_L31c : True := by
  w_top off
  trivial
local macro_rules | `(tactic| walk_at "no such key") => `(tactic| skip)
local macro_rules | `(tactic| walk_at "exec Assign cons ListComp") => `(tactic| (k_here; (with_reducible show wpAny _ _ (exec (Stmt.Assign [Expr.Name (PySem.Str.ofString "black") _] _ _) _) _ _ _); k_dflt (refine assignVals_T (F₀ := by k_asm) (by rfl) (by with_unfolding_all rfl) (by with_unfolding_all rfl) (by decide) (by rfl) (by decide) (by rfl) (by rfl) (by rfl) ?_)))
set_option maxHeartbeats 4000000 in
theorem law_four {w0 : World} {B : Heap} {L fa : Addr} {cd : Value} {sl0 sl bell cells : Addr} {oc : Obj} {ws ys : List Value} {wn ns : List Int} {n5 : Nat} {share : Int} {ts : Tok} {s0 : Shared} {h : Heap} {tk : Nat} {c1 c2 : Cfg} {m1 m2 : Mut} {xs1 xs2 : List Th} (W : Wd w0 B)
    (F8 : Fr B L h (fun z => if z = Str.ofString "heap_here" then some (Value.ref c2.ca) else if z = Str.ofString "one" then some (Value.ref c1.ca) else if z = Str.ofString "other" then some (Value.ref c2.ca) else if z = Str.ofString "sizes" then some (Value.ref sl) else if z = Str.ofString "share" then some (Value.int share ts) else if z = Str.ofString "script" then some (Value.ref sl0) else none))
    (XC : LawC w0 B h L sl bell cells oc ws ys n5 [] c1 m1 xs1 (gAt c1 share true) c2 m2 xs2 (gAt c2 share true)) (z1 : c1.szs = ns ∧ c1.total = ns.sum) (z2 : c2.szs = ns ∧ c2.total = ns.sum) (hoc : oc.data = .cell (some (.ref bell))) (hI : IntsAre ws wn) (hw : ws.length ≤ 30) (hy : IntsAre ys ns) (hl : 2 ≤ ns.length ∧ ns.length ≤ 9) (hall : ∀ x ∈ ns, 2 ≤ x ∧ x ≤ 51)
    (hsh : share ∈ ([1, 0, 2, 1000, -5, -200] : List Int)) :
    wpAny (model PySem.Challenge.rw_rh0162_01.row.prog w0) (callerA.deeper (lawEnv L fa cd)) (execs (lawBody.drop 6) (lawEnv L fa cd)) (LawEnd B L s0) (fun _ _ => False) { s0 with heap := h, toks := tk } := by
  dsimp only [lawBody, lawEnv, lawScope, PySem.Challenge.pw_rh0162_01, List.getLast?, List.getLast, List.drop]
  have W0 := W
  refine hide fun P9 hP9 => ?_
  obtain ⟨X, ⟨p0, loose0, mean0, mg0, mb0, T⟩, C⟩ := W
  refine hP9 ?_; clear hP9 P9
  revert X; k_fill; intro X
  refine hide fun P9 hP9 => ?_
  obtain ⟨sv, r, hsv⟩ := XC.two.q1.rep
  refine hP9 ?_; clear hP9 P9
  have p1 := r.ca; have p2 := r.cd; have p3 := r.od
  have d1 := r.odd; have d2 := r.odn
  have hn9 : xs1.length = ns.length := by rw [← List.length_map (f := (·.sz)), r.szs, z1.1]
  have d3 : (xs1.map fun x => (x.num, x.ref)).length ≤ 1000 := by rw [List.length_map]; omega
  have o1 := XC.a1 L (.head _)
  have n1 : NeN c1.ca L := o1.fix c1.ca (by first | exact Cfg.m0 _ | exact Cfg.m1 _ | exact Cfg.m2 _ | exact Cfg.m3 _ | exact Cfg.m4 _ | exact Cfg.m5 _ | exact Cfg.m6 _ | exact Cfg.m7 _ | exact Cfg.m8 _ | exact Cfg.m9 _ | exact Cfg.m10 _ | exact Cfg.m11 _)
  have n2 : NeN c1.cd L := o1.fix c1.cd (by first | exact Cfg.m0 _ | exact Cfg.m1 _ | exact Cfg.m2 _ | exact Cfg.m3 _ | exact Cfg.m4 _ | exact Cfg.m5 _ | exact Cfg.m6 _ | exact Cfg.m7 _ | exact Cfg.m8 _ | exact Cfg.m9 _ | exact Cfg.m10 _ | exact Cfg.m11 _)
  have n3 : NeN c1.od L := o1.fix c1.od (by first | exact Cfg.m0 _ | exact Cfg.m1 _ | exact Cfg.m2 _ | exact Cfg.m3 _ | exact Cfg.m4 _ | exact Cfg.m5 _ | exact Cfg.m6 _ | exact Cfg.m7 _ | exact Cfg.m8 _ | exact Cfg.m9 _ | exact Cfg.m10 _ | exact Cfg.m11 _)
  (try clear hR); (try clear N9); (try clear F9)
  have F9 := F8
  refine hide fun P9 hP9 => ?_
  obtain ⟨rest, hR, N9⟩ := refocus F9 (.cons p1 (.cons p2 (.cons p3 .nil))) (allC ((n1)) (allC ((n2)) (allC ((n3)) (List.forall_mem_nil _))))
  refine hP9 ?_; clear hP9 P9
  dsimp only [List.cons_append, List.nil_append] at N9
  change Rest B _ [L, c1.ca, c1.cd, c1.od] rest at hR
  have hB9 := Keep.of_fr F9
  have hs0 := hR.off c1.ca (.tail _ (.head _))
  have hs1 := hR.off c1.cd (.tail _ (.tail _ (.head _)))
  have hs2 := hR.off c1.od (.tail _ (.tail _ (.tail _ (.head _))))
  dsimp only [cycEs, Sg.v, Cfg.cy] at N9
  k_steps
  (with_reducible rename Fr _ _ _ _ => F9); (with_reducible rename News _ _ _ _ => N9)
  rename_i V _ _
  have hbase : ∃ base, News B L _ base ∧ (V, vview c1.od) ∈ base ∧ (c1.od, c1.oo) ∈ base ∧ (c1.ca, instObj 346 c1.cd) ∈ base ∧ (c1.cd, dictOf (cycEs c1.kc m1.tc (c1.cy m1) ((gAt c1 share true).v c1)) 14) ∈ base ∧ ∀ p ∈ rest, p ∈ base := ⟨_, N9, .head _, by k_mem, by k_mem, .tail _ (.tail _ (.head _)), fun p hp => by (repeat' apply List.Mem.tail); exact hp⟩
  refine hide fun P9 hP9 => ?_
  obtain ⟨base, N8, b1, b2, b3, b4, b5⟩ := hbase
  refine hP9 ?_; clear hP9 P9
  refine ⟨⟨V, c1.od, c1.oo, _, base, rfl, rfl, F9, N8, b1, b2, d1, by rw [sizeLine_eq]; omega, fun g9 => ?_⟩⟩
  clear N8 N9 F9
  refine compRestT_ind (fun i ys news => news = base ∧ ys.length = ((xs1.take i).filter (fun x => x.mrk == 3)).length) ?turn ?fin _ 0 [] _ (Nat.zero_add _) ⟨rfl, rfl⟩
  case turn =>
    rintro i ys news v Ia oI Ca oC D m₂ h2 tk2 E' hin ⟨e, qi⟩ ⟨k, hk⟩ hC hx F N off ne
    subst e
    rw [List.getElem?_map] at hk
    refine hide fun P9 hP9 => ?_
    obtain ⟨x, hxi, ex⟩ := Option.map_eq_some_iff.1 hk
    refine hP9 ?_; clear hP9 P9
    cases ex
    have hxm := List.mem_of_getElem? hxi
    have mx1 := b5 _ (hR.all _ _ (fun hm => by
      simp only [List.mem_cons, List.not_mem_nil, or_false] at hm
      refine hide fun P9 hP9 => ?_
      (rcases hm with e | e | e | e) <;> (refine hP9 ?_; clear hP9 P9)
      · exact o1.t x hxm e
      · exact r.sep.tf x hxm c1.ca (by first | exact Cfg.m0 _ | exact Cfg.m1 _ | exact Cfg.m2 _ | exact Cfg.m3 _ | exact Cfg.m4 _ | exact Cfg.m5 _ | exact Cfg.m6 _ | exact Cfg.m7 _ | exact Cfg.m8 _ | exact Cfg.m9 _ | exact Cfg.m10 _ | exact Cfg.m11 _) e
      · exact r.sep.tf x hxm c1.cd (by first | exact Cfg.m0 _ | exact Cfg.m1 _ | exact Cfg.m2 _ | exact Cfg.m3 _ | exact Cfg.m4 _ | exact Cfg.m5 _ | exact Cfg.m6 _ | exact Cfg.m7 _ | exact Cfg.m8 _ | exact Cfg.m9 _ | exact Cfg.m10 _ | exact Cfg.m11 _) e
      · exact r.sep.tf x hxm c1.od (by first | exact Cfg.m0 _ | exact Cfg.m1 _ | exact Cfg.m2 _ | exact Cfg.m3 _ | exact Cfg.m4 _ | exact Cfg.m5 _ | exact Cfg.m6 _ | exact Cfg.m7 _ | exact Cfg.m8 _ | exact Cfg.m9 _ | exact Cfg.m10 _ | exact Cfg.m11 _) e) (r.th x hxm).o)
    have mx2 := b5 _ (hR.all _ _ (fun hm => by
      simp only [List.mem_cons, List.not_mem_nil, or_false] at hm
      refine hide fun P9 hP9 => ?_
      (rcases hm with e | e | e | e) <;> (refine hP9 ?_; clear hP9 P9)
      · exact o1.td x hxm e
      · exact r.sep.df x hxm c1.ca (by first | exact Cfg.m0 _ | exact Cfg.m1 _ | exact Cfg.m2 _ | exact Cfg.m3 _ | exact Cfg.m4 _ | exact Cfg.m5 _ | exact Cfg.m6 _ | exact Cfg.m7 _ | exact Cfg.m8 _ | exact Cfg.m9 _ | exact Cfg.m10 _ | exact Cfg.m11 _) e
      · exact r.sep.df x hxm c1.cd (by first | exact Cfg.m0 _ | exact Cfg.m1 _ | exact Cfg.m2 _ | exact Cfg.m3 _ | exact Cfg.m4 _ | exact Cfg.m5 _ | exact Cfg.m6 _ | exact Cfg.m7 _ | exact Cfg.m8 _ | exact Cfg.m9 _ | exact Cfg.m10 _ | exact Cfg.m11 _) e
      · exact r.sep.df x hxm c1.od (by first | exact Cfg.m0 _ | exact Cfg.m1 _ | exact Cfg.m2 _ | exact Cfg.m3 _ | exact Cfg.m4 _ | exact Cfg.m5 _ | exact Cfg.m6 _ | exact Cfg.m7 _ | exact Cfg.m8 _ | exact Cfg.m9 _ | exact Cfg.m10 _ | exact Cfg.m11 _) e) (r.th x hxm).d)
    have N2 : News B L h2 ((x.t, instObj 367 x.td) :: (x.td, dictOf (thEs x.k x.num x.mrk x.sz x.t1 x.t2 x.t3) 3) :: (Ia, oI) :: (Ca, oC) :: (D, LCg.lst ys) :: news) := fun p hp => by
      rcases List.mem_cons.1 hp with rfl | hp
      · exact N _ (.tail _ (.tail _ (.tail _ mx1)))
      · rcases List.mem_cons.1 hp with rfl | hp
        · exact N _ (.tail _ (.tail _ (.tail _ mx2)))
        · exact N p hp
    clear N
    have ea : xs1.take (i + 1) = xs1.take i ++ [x] := by rw [List.take_succ, hxi]; rfl
    k_steps
    · have hm : x.mrk = 3 := by assumption
      refine ⟨h2, _, news, rfl, F, fun p hp => N2 p (.tail _ (.tail _ hp)), off, b2, rfl, ?_⟩
      rw [ea, List.filter_append]
      simp [hm, qi]
    · have hm : ¬ x.mrk = 3 := by assumption
      refine ⟨h2, _, news, rfl, F, fun p hp => N2 p (.tail _ (.tail _ hp)), off, b2, rfl, ?_⟩
      rw [ea, List.filter_append]
      simp [hm, qi]
  case fin =>
    rintro ys news ⟨e, qi⟩ D hq tk2 F N off
    subst e
    rw [List.length_map, List.take_length] at qi
    have N9 : News B L hq ((D, listOf ys.toArray ys.length) :: (c1.ca, instObj 346 c1.cd) :: (c1.cd, dictOf (cycEs c1.kc m1.tc (c1.cy m1) ((gAt c1 share true).v c1)) 14) :: (c1.od, c1.oo) :: rest) := fun p hp => by
      rcases List.mem_cons.1 hp with rfl | hp
      · exact N _ (.head _)
      · rcases List.mem_cons.1 hp with rfl | hp
        · exact N _ (.tail _ b3)
        · rcases List.mem_cons.1 hp with rfl | hp
          · exact N _ (.tail _ b4)
          · rcases List.mem_cons.1 hp with rfl | hp
            · exact N _ (.tail _ b2)
            · exact N _ (.tail _ (b5 p hp))
    have fD : h.get? D = none := hR.deadNew (N _ (.head _)).2.2 (allC ((newsNeL N (.head _)).symm) (allC (off1Mem off _ b3) (allC (off1Mem off _ b4) (allC (off1Mem off _ b2) (List.forall_mem_nil _))))) fun p hp => off1Mem off _ (b5 p hp)
    clear N
    have F9 := F
    clear F
    (with_reducible rename Fr _ _ _ _ => F9); (with_reducible rename News _ _ _ _ => N9)
    have UX := hR.upto (S := orL (is0) L) hB9 F9 N9 (by intro p hp; repeat (first | exact hp | apply List.Mem.tail)) (by
      refine allC (.inl ⟨.inr rfl, Fr.liveL F9⟩) (allC (?_) (allC (?_) (allC (?_) (List.forall_mem_nil _))))
      · first | exact Or.inr ((newsOwn N9 (a := c1.ca) (by k_mem)).1.trans p1.1.symm) | exact Or.inl ⟨Or.inl (by first | exact rfl | exact Or.inl rfl | exact Or.inr rfl | exact Or.inr (Or.inl rfl) | exact Or.inr (Or.inr rfl)), newsLive N9 (by k_mem)⟩
      · first | exact Or.inr ((newsOwn N9 (a := c1.cd) (by k_mem)).1.trans p2.1.symm) | exact Or.inl ⟨Or.inl (by first | exact rfl | exact Or.inl rfl | exact Or.inr rfl | exact Or.inr (Or.inl rfl) | exact Or.inr (Or.inr rfl)), newsLive N9 (by k_mem)⟩
      · first | exact Or.inr ((newsOwn N9 (a := c1.od) (by k_mem)).1.trans p3.1.symm) | exact Or.inl ⟨Or.inl (by first | exact rfl | exact Or.inl rfl | exact Or.inr rfl | exact Or.inr (Or.inl rfl) | exact Or.inr (Or.inr rfl)), newsLive N9 (by k_mem)⟩)
    have OD := newsOwn N9 (a := D) (by k_mem)
    refine law_five W0 F9 (XC.add fD UX OD.live) z1 z2 hoc hI hw hy hl hall OD (by rw [qi]; exact Nat.le_trans (List.length_filter_le _ _) (by omega)) (fun s0 s1000 => ?_) hsh
    rw [qi]
    have hs := share_small hsh s0 s1000
    have hf := firstSmall (c := c1) (by rw [z1.1]; exact hl) hs
    refine few_black (white := (gAt c1 share true).white) (pos := (gAt c1 share true).pos) (n := c1.szs.length - 1) XC.two.q1.marks XC.two.q1.white hf.2 (by rw [z1.1]; omega)
end
section
set_option maxRecDepth 100000
open PySem PySem.W PySem.Calls PyProof.Rows
theorem reset_L31b : True := by
  w_top off
  trivial
/-- the first loop's body -/
def lawFirst : List Stmt := match lawBody.drop 5 with
  | .For _ _ b _ _ :: _ => b
  | _ => []
inductive Law1 (w0 : World) (B : Heap) (L sl bell cells : Addr) (oc : Obj) (ws ys : List Value) (n5 : Nat) (es : List Addr) (c1 c2 : Cfg) (m2 : Mut) (xs2 : List Th) (g1 g2 : Sg) (h' : Heap) : Prop
  | mk (m1' ys1 : _) (p0 : LawC w0 B h' L sl bell cells oc ws ys n5 es c1 m1' ys1 g1 c2 m2 xs2 g2)
inductive Law2 (w0 : World) (B : Heap) (L sl bell cells : Addr) (oc : Obj) (ws ys : List Value) (n5 : Nat) (es : List Addr) (c1 c2 : Cfg) (g1 g2 : Sg) (h' : Heap) : Prop
  | mk (m1 xs1 m2 xs2 : _) (p0 : LawC w0 B h' L sl bell cells oc ws ys n5 es c1 m1 xs1 g1 c2 m2 xs2 g2)
set_option maxHeartbeats 4000000 in
/-- one heap takes its first step -/
theorem law_turn {w0 : World} {B : Heap} {L fa : Addr} {cd : Value} {sl0 sl bell cells a1 a2 I Tu : Addr} {oc oI : Obj} {its : Array Value} {nT : Nat} {ws ys : List Value} {n5 : Nat} {es : List Addr} {share : Int} {ts : Tok} {s0 : Shared} {h : Heap} {tk : Nat} {c1 c2 : Cfg} {m1 m2 : Mut} {xs1 xs2 : List Th} {g2 : Sg} (W : Wd w0 B)
    (F8 : Fr B L h (fun z => if z = Str.ofString "heap_here" then some (Value.ref c1.ca) else if z = Str.ofString "one" then some (Value.ref a1) else if z = Str.ofString "other" then some (Value.ref a2) else if z = Str.ofString "sizes" then some (Value.ref sl) else if z = Str.ofString "share" then some (Value.int share ts) else if z = Str.ofString "script" then some (Value.ref sl0) else none))
    (XC : LawC w0 B h L sl bell cells oc ws ys n5 es c1 m1 xs1 g0 c2 m2 xs2 g2) (hI : I ∈ es) (hT : Tu ∈ es) (OI : Own B h I oI) (OT : Own B h Tu (tupOf its nT)) (ok : OkG c1 { g0 with mul := share }) :
    wpAny (model PySem.Challenge.rw_rh0162_01.row.prog w0) (callerA.deeper (lawEnv L fa cd)) (execs lawFirst (lawEnv L fa cd))
      (TurnEnd B L I Tu oI (tupOf its nT) (fun z => if z = Str.ofString "heap_here" then some (Value.ref c1.ca) else if z = Str.ofString "one" then some (Value.ref a1) else if z = Str.ofString "other" then some (Value.ref a2) else if z = Str.ofString "sizes" then some (Value.ref sl) else if z = Str.ofString "share" then some (Value.int share ts) else if z = Str.ofString "script" then some (Value.ref sl0) else none)
        (Law1 w0 B L sl bell cells oc ws ys n5 es c1 c2 m2 xs2 (stepG c1 { g0 with mul := share }) g2) s0) (fun _ _ => False) { s0 with heap := h, toks := tk } := by
  dsimp only [lawFirst, lawBody, lawEnv, lawScope, PySem.Challenge.pw_rh0162_01, List.getLast?, List.getLast, List.drop]
  have W0 := W
  refine hide fun P9 hP9 => ?_
  obtain ⟨X, ⟨p0, loose0, mean0, mg0, mb0, T⟩, C⟩ := W
  refine hP9 ?_; clear hP9 P9
  revert X; k_fill; intro X
  have p1 := XC.two.q1.ca; have p2 := XC.two.q1.cd
  have o1 := XC.a1 L (.head _)
  have n1 : NeN c1.ca L := o1.fix c1.ca (by first | exact Cfg.m0 _ | exact Cfg.m1 _ | exact Cfg.m2 _ | exact Cfg.m3 _ | exact Cfg.m4 _ | exact Cfg.m5 _ | exact Cfg.m6 _ | exact Cfg.m7 _ | exact Cfg.m8 _ | exact Cfg.m9 _ | exact Cfg.m10 _ | exact Cfg.m11 _)
  have n2 : NeN c1.cd L := o1.fix c1.cd (by first | exact Cfg.m0 _ | exact Cfg.m1 _ | exact Cfg.m2 _ | exact Cfg.m3 _ | exact Cfg.m4 _ | exact Cfg.m5 _ | exact Cfg.m6 _ | exact Cfg.m7 _ | exact Cfg.m8 _ | exact Cfg.m9 _ | exact Cfg.m10 _ | exact Cfg.m11 _)
  (try clear hR); (try clear N9); (try clear F9)
  have F9 := F8
  refine hide fun P9 hP9 => ?_
  obtain ⟨rest, hR, N9⟩ := refocus F9 (.cons p1 (.cons p2 .nil)) (allC ((n1)) (allC ((n2)) (List.forall_mem_nil _)))
  refine hP9 ?_; clear hP9 P9
  dsimp only [List.cons_append, List.nil_append] at N9
  change Rest B _ [L, c1.ca, c1.cd] rest at hR
  have hB9 := Keep.of_fr F9
  have hs0 := hR.off c1.ca (.tail _ (.head _))
  have hs1 := hR.off c1.cd (.tail _ (.tail _ (.head _)))
  dsimp only [cycEs, Sg.v] at N9
  k_steps
  refine Con.call (setMul_con W0 (Keep.of_fr F9) XC.two.q1) rfl ((RM _).le (by decide)) ?_
  rintro v9 H1 tk1 K1 U1 t9_5
  refine hide fun P9 hP9 => ?_
  rcases t9_5 with ⟨⟨t9, e9⟩, m', q1, f1⟩
  refine hP9 ?_; clear hP9 P9
  replace e9 : v9 = .int 200 t9 := e9
  subst e9
  have X1 := XC.step1 U1 q1 f1 (Same.refl _)
  have FA := XC.two.q1.fr F9 o1 U1
  have OI1 := U1.own OI (XC.e1 I hI).notFoot
  have OT1 := U1.own OT (XC.e1 Tu hT).notFoot
  have r1 := X1.two.q1.ca; have r2 := X1.two.q1.cd
  have o2 := X1.a1 L (.head _)
  clear F9 N9 hR
  (try clear hR); (try clear N9); (try clear F9)
  have F9 := FA
  refine hide fun P9 hP9 => ?_
  obtain ⟨rest, hR, N9⟩ := refocus F9 (.cons r1 (.cons r2 .nil)) (allC ((n1)) (allC ((n2)) (List.forall_mem_nil _)))
  refine hP9 ?_; clear hP9 P9
  dsimp only [List.cons_append, List.nil_append] at N9
  change Rest B _ [L, c1.ca, c1.cd] rest at hR
  have hB9 := Keep.of_fr F9
  have hs0 := hR.off c1.ca (.tail _ (.head _))
  have hs1 := hR.off c1.cd (.tail _ (.tail _ (.head _)))
  dsimp only [cycEs, Sg.v] at N9
  dsimp only
  k_steps
  refine Con.call (step_con W0 (Keep.of_fr F9) X1.two.q1 ok) rfl ((RM _).le (by decide)) ?_
  rintro v9 H2 tk2 K2 U2 ⟨m'', zs, q2, f2, s2, ok2⟩
  have X2 := X1.step1 U2 q2 f2 s2
  have FB := X1.two.q1.fr F9 o2 U2
  have OI2 := U2.own OI1 (X1.e1 I hI).notFoot
  have OT2 := U2.own OT1 (X1.e1 Tu hT).notFoot
  clear F9 N9
  dsimp only
  k_steps
  exact ⟨rfl, H2, _, rfl, FB, OI2, OT2, m'', zs, X2⟩
section
local macro_rules | `(tactic| walk_at "exec For Name Tuple cons nil") => `(tactic| (k_here; with_unfolding_all refine for_go ?_))
set_option maxHeartbeats 4000000 in
theorem law_three {w0 : World} {B : Heap} {L fa : Addr} {cd : Value} {sl0 sl bell cells : Addr} {oc : Obj} {ws ys : List Value} {wn ns : List Int} {n5 : Nat} {share : Int} {ts : Tok} {s0 : Shared} {h : Heap} {tk : Nat} {c1 c2 : Cfg} {m1 m2 : Mut} {xs1 xs2 : List Th} (W : Wd w0 B)
    (F8 : Fr B L h (fun z => if z = Str.ofString "one" then some (Value.ref c1.ca) else if z = Str.ofString "other" then some (Value.ref c2.ca) else if z = Str.ofString "sizes" then some (Value.ref sl) else if z = Str.ofString "share" then some (Value.int share ts) else if z = Str.ofString "script" then some (Value.ref sl0) else none))
    (XC : LawC w0 B h L sl bell cells oc ws ys n5 [] c1 m1 xs1 g0 c2 m2 xs2 g0) (z1 : c1.szs = ns ∧ c1.total = ns.sum) (z2 : c2.szs = ns ∧ c2.total = ns.sum) (hoc : oc.data = .cell (some (.ref bell))) (hI : IntsAre ws wn) (hw : ws.length ≤ 30) (hy : IntsAre ys ns) (hl : 2 ≤ ns.length ∧ ns.length ≤ 9) (hall : ∀ x ∈ ns, 2 ≤ x ∧ x ≤ 51)
    (hsh : share ∈ ([1, 0, 2, 1000, -5, -200] : List Int)) :
    wpAny (model PySem.Challenge.rw_rh0162_01.row.prog w0) (callerA.deeper (lawEnv L fa cd)) (execs (lawBody.drop 5) (lawEnv L fa cd)) (LawEnd B L s0) (fun _ _ => False) { s0 with heap := h, toks := tk } := by
  dsimp only [lawBody, lawEnv, lawScope, PySem.Challenge.pw_rh0162_01, List.getLast?, List.getLast, List.drop]
  have W0 := W
  refine hide fun P9 hP9 => ?_
  obtain ⟨X, ⟨p0, loose0, mean0, mg0, mb0, T⟩, C⟩ := W
  refine hP9 ?_; clear hP9 P9
  revert X; k_fill; intro X
  have hsB := share_bound hsh
  have p1 := XC.two.q1.ca; have p3 := XC.two.q2.ca
  have o1 := XC.a1 L (.head _); have o2 := XC.a2 L (.head _)
  have n1 : NeN c1.ca L := o1.fix c1.ca (by first | exact Cfg.m0 _ | exact Cfg.m1 _ | exact Cfg.m2 _ | exact Cfg.m3 _ | exact Cfg.m4 _ | exact Cfg.m5 _ | exact Cfg.m6 _ | exact Cfg.m7 _ | exact Cfg.m8 _ | exact Cfg.m9 _ | exact Cfg.m10 _ | exact Cfg.m11 _)
  have n3 : NeN c2.ca L := o2.fix c2.ca (by first | exact Cfg.m0 _ | exact Cfg.m1 _ | exact Cfg.m2 _ | exact Cfg.m3 _ | exact Cfg.m4 _ | exact Cfg.m5 _ | exact Cfg.m6 _ | exact Cfg.m7 _ | exact Cfg.m8 _ | exact Cfg.m9 _ | exact Cfg.m10 _ | exact Cfg.m11 _)
  (try clear hR); (try clear N9); (try clear F9)
  have F9 := F8
  refine hide fun P9 hP9 => ?_
  obtain ⟨rest, hR, N9⟩ := refocus F9 (.cons p1 (.cons p3 .nil)) (allC ((n1)) (allC ((n3)) (List.forall_mem_nil _)))
  refine hP9 ?_; clear hP9 P9
  dsimp only [List.cons_append, List.nil_append] at N9
  change Rest B _ [L, c1.ca, c2.ca] rest at hR
  have hB9 := Keep.of_fr F9
  have hs0 := hR.off c1.ca (.tail _ (.head _))
  have hs1 := hR.off c2.ca (.tail _ (.tail _ (.head _)))
  k_steps
  rename_i Tu q8 F9 N9 lT
  (with_reducible rename Fr _ _ _ _ => F9); (with_reducible rename News _ _ _ _ => N9)
  have UX := hR.upto (S := orL (is0) L) hB9 F9 N9 (by intro p hp; repeat (first | exact hp | apply List.Mem.tail)) (by
    refine allC (.inl ⟨.inr rfl, Fr.liveL F9⟩) (allC (?_) (allC (?_) (List.forall_mem_nil _)))
    · first | exact Or.inr ((newsOwn N9 (a := c1.ca) (by k_mem)).1.trans p1.1.symm) | exact Or.inl ⟨Or.inl (by first | exact rfl | exact Or.inl rfl | exact Or.inr rfl | exact Or.inr (Or.inl rfl) | exact Or.inr (Or.inr rfl)), newsLive N9 (by k_mem)⟩
    · first | exact Or.inr ((newsOwn N9 (a := c2.ca) (by k_mem)).1.trans p3.1.symm) | exact Or.inl ⟨Or.inl (by first | exact rfl | exact Or.inl rfl | exact Or.inr rfl | exact Or.inr (Or.inl rfl) | exact Or.inr (Or.inr rfl)), newsLive N9 (by k_mem)⟩)
  have OT := newsOwn N9 (a := Tu) (by k_mem)
  have dT : h.get? Tu = none := hR.deadNew OT.2 (allC ((newsNeL N9 (a := Tu) (by k_mem)).symm) (allC (Nat.ne_of_lt lT.1) (allC (Nat.ne_of_lt lT.2.1) (List.forall_mem_nil _)))) (allNe_of lT.2.2)
  have X1 := XC.add dT UX OT.live
  have ok1 : OkG c1 { g0 with mul := share } := okG0 (by rw [z1.1]; exact hl.1) (by rw [z1.2]; exact sum_bound hl.2 hall) hsB
  have ok2 : OkG c2 { g0 with mul := share } := okG0 (by rw [z2.1]; exact hl.1) (by rw [z2.2]; exact sum_bound hl.2 hall) hsB
  refine tupGo (T := Tu) (its := #[.ref c1.ca, .ref c2.ca]) (nT := 0) (fun I i => Law2 w0 B L sl bell cells oc ws ys n5 [I, Tu] c1 c2 (gAt c1 share (decide (0 < i))) (gAt c2 share (decide (1 < i)))) rfl F9 OT (newsNeL N9 (a := Tu) (by k_mem)) (show 0 < 2 from by decide) ?h0 ?hst ?turn ?done rfl rfl
  case h0 => exact fun I h' d l U => ⟨_, _, _, _, X1.add d (U.mono fun _ e _ => .inl e) l⟩
  case hst =>
    rintro I i h' h'' U t9_5
    refine hide fun P9 hP9 => ?_
    rcases t9_5 with ⟨_, _, _, _, Y⟩
    refine hP9 ?_; clear hP9 P9
    exact ⟨_, _, _, _, Y.iter (.head _) U⟩
  case turn =>
    rintro I i v h6 tk6 oI hv F6 OI6 OT6 t9_10
    refine hide fun P9 hP9 => ?_
    rcases t9_10 with ⟨ma, xa, mb, xb, Y⟩
    refine hP9 ?_; clear hP9 P9
    match i, hv, Y with
    | 0, hv, Y =>
      cases hv
      refine wpAny_mono (law_turn (a1 := c1.ca) (a2 := c2.ca) (I := I) (Tu := Tu) (s0 := s0) W0 F6 Y (.head _) (.tail _ (.head _)) OI6 OT6 ok1) ?_ fun _ _ e => e
      rintro f s' t9_2
      refine hide fun P9 hP9 => ?_
      rcases t9_2 with ⟨rfl, h7, tk7, rfl, F7, OI7, OT7, m9, x9, Y9⟩
      refine hP9 ?_; clear hP9 P9
      exact ⟨rfl, h7, tk7, rfl, F7, OI7, OT7, m9, x9, _, _, Y9⟩
    | 1, hv, Y =>
      cases hv
      refine wpAny_mono (law_turn (a1 := c1.ca) (a2 := c2.ca) (I := I) (Tu := Tu) (s0 := s0) W0 F6 Y.swap (.head _) (.tail _ (.head _)) OI6 OT6 ok2) ?_ fun _ _ e => e
      rintro f s' t9_2
      refine hide fun P9 hP9 => ?_
      rcases t9_2 with ⟨rfl, h7, tk7, rfl, F7, OI7, OT7, m9, x9, Y9⟩
      refine hP9 ?_; clear hP9 P9
      exact ⟨rfl, h7, tk7, rfl, F7, OI7, OT7, _, _, m9, x9, Y9.swap⟩
    | i + 2, hv, _ => simp at hv
  case done =>
    rintro I h6 h7 tk7 v hv t9_6 k F7
    refine hide fun P9 hP9 => ?_
    rcases t9_6 with ⟨ma, xa, mb, xb, Y⟩
    refine hP9 ?_; clear hP9 P9
    cases hv
    exact law_four W0 F7 (Y.gone (.head _) k) z1 z2 hoc hI hw hy hl hall hsh
end
end
section
set_option maxRecDepth 100000
open PySem PySem.W PySem.Calls PyProof.Rows
theorem reset_L31a : True := by
  w_top off
  trivial
local macro_rules | `(tactic| walk_at "no such key") => `(tactic| skip)
local macro_rules | `(tactic| walk_at "execs cons") => `(tactic| (k_here; (with_reducible show wpAny _ _ (execs (Stmt.For (Expr.Name _ _) (Expr.Tuple _ _ _) _ _ _ :: _) _) _ _ _); refine Halt.out ?_))
set_option maxHeartbeats 4000000 in
theorem law_two {w0 : World} {B : Heap} {L fa : Addr} {cd : Value} {sl0 sl bell cells : Addr} {oc : Obj} {ws ys : List Value} {wn ns : List Int} {n5 n k : _} {t : Tok} {share : Int} {ts : Tok} {s0 : Shared} {h : Heap} {tk : Nat} (W : Wd w0 B)
    (F8 : Fr B L h (fun z => if z = Str.ofString "sizes" then some (Value.ref sl) else if z = Str.ofString "share" then some (Value.int share ts) else if z = Str.ofString "script" then some (Value.ref sl0) else none))
    (N8 : News B L h [(sl, listOf ys.toArray n5), (bell, listOf #[.ref cells, .int k t] n), (cells, listOf ws.toArray 0), (L + 1, oc), (380, tabObj #[])])
    (nd : Nd [sl, bell, cells, L + 1, 380]) (hoc : oc.data = .cell (some (.ref bell))) (hk : 0 ≤ k) (hI : IntsAre ws wn) (hw : ws.length ≤ 30) (hy : IntsAre ys ns) (hl : 2 ≤ ns.length ∧ ns.length ≤ 9) (hall : ∀ x ∈ ns, 2 ≤ x ∧ x ≤ 51)
    (hsh : share ∈ ([1, 0, 2, 1000, -5, -200] : List Int)) :
    wpAny (model PySem.Challenge.rw_rh0162_01.row.prog w0) (callerA.deeper (lawEnv L fa cd)) (execs (lawBody.drop 4) (lawEnv L fa cd)) (LawEnd B L s0) (fun _ _ => False) { s0 with heap := h, toks := tk } := by
  dsimp only [lawBody, lawEnv, lawScope, PySem.Challenge.pw_rh0162_01, List.getLast?, List.getLast, List.drop]
  have W0 := W
  refine hide fun P9 hP9 => ?_
  obtain ⟨X, ⟨p0, loose0, mean0, mg0, mb0, T⟩, C⟩ := W
  refine hP9 ?_; clear hP9 P9
  revert X; k_fill; intro X
  have hsB := share_bound hsh
  have N9 := N8
  have F9 := F8
  have p1 := newsOwn N9 (a := sl) (by k_mem)
  have p2 := newsOwn N9 (a := bell) (by k_mem)
  have p3 := newsOwn N9 (a := cells) (by k_mem)
  have p4 := newsOwn N9 (a := L + 1) (by k_mem)
  have p5 := newsOwn N9 (a := 380) (by k_mem)
  have n1 := newsNeL N9 (a := sl) (by k_mem)
  have n2 := newsNeL N9 (a := bell) (by k_mem)
  have n3 := newsNeL N9 (a := cells) (by k_mem)
  have n4 := newsNeL N9 (a := L + 1) (by k_mem)
  have n6 := newsNeL N9 (a := 380) (by k_mem)
  obtain ⟨nd_0_1, nd_0_2, nd_0_3, nd_0_4, nd_1_2, nd_1_3, nd_1_4, nd_2_3, nd_2_4, nd_3_4⟩ := Nd.o5 nd
  clear N8
  (try clear hR); (try clear N9); (try clear F9)
  have F9 := F8
  refine hide fun P9 hP9 => ?_
  obtain ⟨rest, hR, N9⟩ := refocus F9 (.cons p1 (.cons p2 (.cons p3 (.cons p4 (.cons p5 .nil))))) (allC ((n1)) (allC ((n2)) (allC ((n3)) (allC ((n4)) (allC ((n6)) (List.forall_mem_nil _))))))
  refine hP9 ?_; clear hP9 P9
  dsimp only [List.cons_append, List.nil_append] at N9
  change Rest B _ [L, sl, bell, cells, (L+1), 380] rest at hR
  have hB9 := Keep.of_fr F9
  have hs0 := hR.off sl (.tail _ (.head _))
  have hs1 := hR.off bell (.tail _ (.tail _ (.head _)))
  have hs2 := hR.off cells (.tail _ (.tail _ (.tail _ (.head _))))
  have hs3 := hR.off (L+1) (.tail _ (.tail _ (.tail _ (.tail _ (.head _)))))
  have hs4 := hR.off 380 (.tail _ (.tail _ (.tail _ (.tail _ (.tail _ (.head _))))))
  k_steps
  refine Con.call (lawHeap_con W0 (Keep.of_fr F9) p1 p5 (.inl rfl) hy hl hall nd_0_4) rfl ((RM _).le (by decide)) ?_
  rintro v9 H1 tk1 K1 U1 ⟨c1, m1, xs1, e9, q1, z1, tot1, nw1, ps1, pt1, tf1⟩
  subst e9
  have FA := frStep F9 U1 (fun e => n6 e.symm) (base1 p5.2)
  have r1 := U1.own p1 nd_0_4
  have r2 := U1.own p2 nd_1_4
  have r3 := U1.own p3 nd_2_4
  have r4 := U1.own p4 nd_3_4
  refine hide fun P9 hP9 => ?_
  obtain ⟨oL, eL, nL⟩ := Fr.notCode FA
  refine hP9 ?_; clear hP9 P9
  have aw1 : Away [L, bell, cells, L + 1, sl, 380] c1 m1 xs1 := allC (nw1.away q1 (Fr.liveL F9) eL nL) (allC (nw1.away q1 p2.live r2.1 notCode_list) (allC (nw1.away q1 p3.live r3.1 notCode_list) (allC (nw1.away q1 p4.live r4.1 (notCode_cell hoc)) (allC (nw1.away q1 p1.live r1.1 notCode_list) (allC (nw1.away q1 p5.live pt1.1 (notCode_tab tf1)) (List.forall_mem_nil _))))))
  clear F9 N9 F8 hR
  (try clear hR); (try clear N9); (try clear F9)
  have F9 := FA
  refine hide fun P9 hP9 => ?_
  obtain ⟨rest, hR, N9⟩ := refocus F9 (.cons r1 (.cons r2 (.cons r3 (.cons r4 (.cons pt1 .nil))))) (allC ((n1)) (allC ((n2)) (allC ((n3)) (allC ((n4)) (allC ((n6)) (List.forall_mem_nil _))))))
  refine hP9 ?_; clear hP9 P9
  dsimp only [List.cons_append, List.nil_append] at N9
  change Rest B _ [L, sl, bell, cells, (L+1), 380] rest at hR
  have hB9 := Keep.of_fr F9
  have hs0 := hR.off sl (.tail _ (.head _))
  have hs1 := hR.off bell (.tail _ (.tail _ (.head _)))
  have hs2 := hR.off cells (.tail _ (.tail _ (.tail _ (.head _))))
  have hs3 := hR.off (L+1) (.tail _ (.tail _ (.tail _ (.tail _ (.head _)))))
  have hs4 := hR.off 380 (.tail _ (.tail _ (.tail _ (.tail _ (.tail _ (.head _))))))
  dsimp only
  k_steps
  refine Con.call (lawHeap_con W0 (Keep.of_fr F9) r1 pt1 (.inr tf1) hy hl hall nd_0_4) rfl ((RM _).le (by decide)) ?_
  rintro v9 H2 tk2 K2 U2 ⟨c2, m2, xs2, e9, q2, z2, tot2, nw2, ps2, pt2, tf2⟩
  subst e9
  have FB := frStep F9 U2 (fun e => n6 e.symm) (base1 pt1.2)
  have s1 := U2.own r1 nd_0_4
  have s2 := U2.own r2 nd_1_4
  have s3 := U2.own r3 nd_2_4
  have s4 := U2.own r4 nd_3_4
  refine hide fun P9 hP9 => ?_
  obtain ⟨oL2, eL2, nL2⟩ := Fr.notCode FB
  refine hP9 ?_; clear hP9 P9
  have aw2 : Away [L, bell, cells, L + 1, sl, 380] c2 m2 xs2 := allC (nw2.away q2 (Fr.liveL F9) eL2 nL2) (allC (nw2.away q2 r2.live s2.1 notCode_list) (allC (nw2.away q2 r3.live s3.1 notCode_list) (allC (nw2.away q2 r4.live s4.1 (notCode_cell hoc)) (allC (nw2.away q2 r1.live s1.1 notCode_list) (allC (nw2.away q2 pt1.live pt2.1 (notCode_tab tf2)) (List.forall_mem_nil _))))))
  have XC : LawC w0 B H2 L sl bell cells oc ws ys n5 [] c1 m1 xs1 g0 c2 m2 xs2 g0 := ⟨two_new q1 (q1.frame U2 (aw1 380 (by simp))) nw2 q2, aw1, aw2, Fr.liveL FB, ⟨_, _, _, hk, s2⟩, s3, s4, s1, ⟨_, pt2⟩, (by
    have m1 := NeN.symm n1; have m2 := NeN.symm n2; have m3 := NeN.symm n3; have m4 := NeN.symm n4; have m5 := NeN.symm n6
    exact (by (first | refine Nd.m3 ?_ | refine Nd.m4 ?_ | refine Nd.m5 ?_ | refine Nd.m6 ?_ | refine Nd.m7 ?_ | refine Nd.m8 ?_ | refine Nd.m11 ?_) <;> constructor <;> first | assumption | (refine NeN.symm ?_; assumption))), nofun, nofun, nofun, nofun⟩
  clear F9 N9 FA hR
  (try clear hR); (try clear N9); (try clear F9)
  have F9 := FB
  refine hide fun P9 hP9 => ?_
  obtain ⟨rest, hR, N9⟩ := refocus F9 (.cons s1 (.cons s2 (.cons s3 (.cons s4 (.cons pt2 .nil))))) (allC ((n1)) (allC ((n2)) (allC ((n3)) (allC ((n4)) (allC ((n6)) (List.forall_mem_nil _))))))
  refine hP9 ?_; clear hP9 P9
  dsimp only [List.cons_append, List.nil_append] at N9
  change Rest B _ [L, sl, bell, cells, (L+1), 380] rest at hR
  have hB9 := Keep.of_fr F9
  have hs0 := hR.off sl (.tail _ (.head _))
  have hs1 := hR.off bell (.tail _ (.tail _ (.head _)))
  have hs2 := hR.off cells (.tail _ (.tail _ (.tail _ (.head _))))
  have hs3 := hR.off (L+1) (.tail _ (.tail _ (.tail _ (.tail _ (.head _)))))
  have hs4 := hR.off 380 (.tail _ (.tail _ (.tail _ (.tail _ (.tail _ (.head _))))))
  dsimp only
  k_steps
  (with_reducible rename Fr _ _ _ _ => F9); (with_reducible rename News _ _ _ _ => N9)
  (with_reducible rename Fr _ _ _ _ => F9); (with_reducible rename News _ _ _ _ => N9)
  have UX := hR.upto (S := orL (is0) L) hB9 F9 N9 (by intro p hp; repeat (first | exact hp | apply List.Mem.tail)) (by
    refine allC (.inl ⟨.inr rfl, Fr.liveL F9⟩) (allC (?_) (allC (?_) (allC (?_) (allC (?_) (allC (?_) (List.forall_mem_nil _))))))
    · first | exact Or.inr ((newsOwn N9 (a := sl) (by k_mem)).1.trans s1.1.symm) | exact Or.inl ⟨Or.inl (by first | exact rfl | exact Or.inl rfl | exact Or.inr rfl | exact Or.inr (Or.inl rfl) | exact Or.inr (Or.inr rfl)), newsLive N9 (by k_mem)⟩
    · first | exact Or.inr ((newsOwn N9 (a := bell) (by k_mem)).1.trans s2.1.symm) | exact Or.inl ⟨Or.inl (by first | exact rfl | exact Or.inl rfl | exact Or.inr rfl | exact Or.inr (Or.inl rfl) | exact Or.inr (Or.inr rfl)), newsLive N9 (by k_mem)⟩
    · first | exact Or.inr ((newsOwn N9 (a := cells) (by k_mem)).1.trans s3.1.symm) | exact Or.inl ⟨Or.inl (by first | exact rfl | exact Or.inl rfl | exact Or.inr rfl | exact Or.inr (Or.inl rfl) | exact Or.inr (Or.inr rfl)), newsLive N9 (by k_mem)⟩
    · first | exact Or.inr ((newsOwn N9 (a := (L+1)) (by k_mem)).1.trans s4.1.symm) | exact Or.inl ⟨Or.inl (by first | exact rfl | exact Or.inl rfl | exact Or.inr rfl | exact Or.inr (Or.inl rfl) | exact Or.inr (Or.inr rfl)), newsLive N9 (by k_mem)⟩
    · first | exact Or.inr ((newsOwn N9 (a := 380) (by k_mem)).1.trans pt2.1.symm) | exact Or.inl ⟨Or.inl (by first | exact rfl | exact Or.inl rfl | exact Or.inr rfl | exact Or.inr (Or.inl rfl) | exact Or.inr (Or.inr rfl)), newsLive N9 (by k_mem)⟩)
  exact ⟨law_three W0 F9 (XC.frame0 UX) ⟨z1, tot1⟩ ⟨z2, tot2⟩ hoc hI hw hy hl hall hsh⟩
end
section
set_option maxRecDepth 100000
open PySem PySem.W PySem.Calls PyProof.Rows
theorem reset_L31 : True := by
  w_top off
  trivial
local macro_rules | `(tactic| walk_at "exec Assign cons ListComp") => `(tactic| (k_here; (with_reducible show wpAny _ _ (exec (Stmt.Assign [Expr.Name (PySem.Str.ofString "black") _] _ _) _) _ _ _); k_dflt (refine assignVals_T (F₀ := by k_asm) (by rfl) (by with_unfolding_all rfl) (by with_unfolding_all rfl) (by decide) (by rfl) (by decide) (by rfl) (by rfl) (by rfl) ?_)))
local macro_rules | `(tactic| walk_at "exec Assign cons ListComp") => `(tactic| (k_here; (with_reducible show wpAny _ _ (exec (Stmt.Assign [Expr.Name (PySem.Str.ofString "sizes") _] _ _) _) _ _ _); k_dflt (refine assignComp_U (F₀ := by k_asm) (by rfl) (by with_unfolding_all rfl) (by with_unfolding_all rfl) (by decide) (by rfl) (by decide) (by rfl) (by rfl) (by rfl) ?_)))
local macro_rules | `(tactic| walk_at "subscriptTail") => `(tactic| (k_here; (with_reducible show wpAny _ _ (subscriptTail _ _ (Value.ref _) (Value.int _ _)) _ _ _); refine PickGo.out ?_))
theorem pick6 {i : Int} (h : 0 ≤ i) (g : i < 6) : ([1, 0, 2, 1000, 0 - 5, 0 - 200] : List Int).getD i.toNat 0 ∈ ([1, 0, 2, 1000, -5, -200] : List Int) := by
  have : i = 0 ∨ i = 1 ∨ i = 2 ∨ i = 3 ∨ i = 4 ∨ i = 5 := by omega
  rcases this with rfl | rfl | rfl | rfl | rfl | rfl <;> decide
set_option maxHeartbeats 8000000 in
theorem fin : PySem.Challenge.rw_rh0162_01.Holds := Mine.hd (by
  k_go0
  (with_reducible rename Fr _ _ _ _ => F9); (with_reducible rename News _ _ _ _ => N9)
  (with_reducible rename Top _ _ _ _ _ _ => T1)
  (with_reducible rename Frag.In _ _ => X1)
  have W0 := Wd.mk X1 ⟨_, _, _, _, _, T1⟩ codeHd
  (with_reducible rename Below _ _ _ _ => K1)
  rename_i w0 s0 s1 mg mb G Y fa ob pm cd doc ho hcd hgens XM V T0 B0 TE TW ns hs hlay0 hL1 hr1 hl2 w5 w4 sl0 vs w1 hL0 ra w1w r0 hi hr hlen htrue hD h1 tk1 co hco X0 l0
  refine wpAny_mono (Q := LawEnd (ghostOf s1.heap [(382, 380)]) s1.heap.objs.size ⟨h1, s1.gens, s1.drawn, tk1, s1.os⟩) (E := fun _ _ => False) ?_ ?_ (fun _ _ x => x.elim)
  rotate_left
  · rintro f s' t9_2
    refine hide fun P9 hP9 => ?_
    rcases t9_2 with ⟨h', tk', ps, m, rfl, rfl, F2, N2⟩
    refine hP9 ?_; clear hP9 P9
    clear F9 N9
    k_steps
  clear K1
  have hcell : co.data = .cell none := hco
  have F8 : Fr (ghostOf s1.heap [(382, 380)]) s1.heap.objs.size h1 (fun y => if y = PySem.Str.ofString "script" then some (.ref sl0) else none) := F9
  clear F9 hco X0 hD htrue hr r0 w1w ra hL0 hl2 hr1 hL1 hlay0 hs hT9 TW TE B0 T0 V XM hT8 hgens hcd ho Y G l0
  generalize ghostOf s1.heap [(382, 380)] = B at *
  generalize s1.heap.objs.size = L at *
  dsimp only at *
  k_steps
  rename_i cells ws q1 hI hC hLn lc bell q2 lb q3 oc hoc sh q4 F9 N9 lsh
  have o1 := newsOwn N9 (a := bell) (by k_mem)
  have o2 := newsOwn N9 (a := cells) (by k_mem)
  have o3 := newsOwn N9 (a := L + 1) (by k_mem)
  have o4 := newsOwn N9 (a := sh) (by k_mem)
  have o5 := newsOwn N9 (a := 380) (by k_mem)
  have n1 := newsNeL N9 (a := bell) (by k_mem)
  have n2 := newsNeL N9 (a := cells) (by k_mem)
  have n3 := newsNeL N9 (a := L + 1) (by k_mem)
  have n4 := newsNeL N9 (a := sh) (by k_mem)
  have n5 := newsNeL N9 (a := 380) (by k_mem)
  have b1 : NeN cells bell := Nat.ne_of_lt lb.1
  have b2 : NeN (L + 1) bell := Nat.ne_of_lt lb.2.1
  have b3 : NeN sh bell := Nat.ne_of_gt (lsh _ (.head _))
  have b4 : NeN 380 bell := Nat.ne_of_lt lb.2.2
  have hw : ws.length ≤ 30 := by rw [hI.length]; omega
  refine Con.call (rung_con W0 (Keep.of_fr F9) (k := 0) ⟨by omega, by omega⟩ (by omega) o1 o2 hI hw b1.symm) rfl ((RM _).le (by decide)) ?_
  rintro v9 H1 tk9 K9 U1 t9_5
  refine hide fun P9 hP9 => ?_
  rcases t9_5 with ⟨⟨i6, t6, e9, i60, i66⟩, nb, tb, p1⟩
  refine hP9 ?_; clear hP9 P9
  subst e9
  have F8 := frStep F9 U1 (fun e => n1 e.symm) (base1 o1.2)
  have p2 := U1.own o2 b1; have p3 := U1.own o3 b2; have p4 := U1.own o4 b3; have p5 := U1.own o5 b4
  (try clear hR); (try clear N9); (try clear F9)
  have F9 := F8
  refine hide fun P9 hP9 => ?_
  obtain ⟨rest, hR, N9⟩ := refocus F9 (.cons p1 (.cons p2 (.cons p3 (.cons p4 (.cons p5 .nil))))) (allC ((n1)) (allC ((n2)) (allC ((n3)) (allC ((n4)) (allC ((n5)) (List.forall_mem_nil _))))))
  refine hP9 ?_; clear hP9 P9
  dsimp only [List.cons_append, List.nil_append] at N9
  change Rest B _ [L, bell, cells, (L+1), sh, 380] rest at hR
  have hB9 := Keep.of_fr F9
  have hs0 := hR.off bell (.tail _ (.head _))
  have hs1 := hR.off cells (.tail _ (.tail _ (.head _)))
  have hs2 := hR.off (L+1) (.tail _ (.tail _ (.tail _ (.head _))))
  have hs3 := hR.off sh (.tail _ (.tail _ (.tail _ (.tail _ (.head _)))))
  have hs4 := hR.off 380 (.tail _ (.tail _ (.tail _ (.tail _ (.tail _ (.head _))))))
  dsimp only
  k_steps
  refine pickGo N9 (by k_mem) (ns := [1, 0, 2, 1000, 0 - 5, 0 - 200]) (.cons _ _ (.cons _ _ (.cons _ _ (.cons _ _ (.cons _ _ (.cons _ _ .nil)))))) i60 i66 (by decide) fun ts => ?_
  have hsh := pick6 i60 i66
  generalize ([1, 0, 2, 1000, 0 - 5, 0 - 200] : List Int).getD i6.toNat 0 = share at *
  k_steps
  have hsB := share_bound hsh
  (with_reducible rename Fr _ _ _ _ => F9); (with_reducible rename News _ _ _ _ => N9)
  have o1 := newsOwn N9 (a := bell) (by k_mem)
  have o2 := newsOwn N9 (a := cells) (by k_mem)
  have o3 := newsOwn N9 (a := (L+1)) (by k_mem)
  have o4 := newsOwn N9 (a := 380) (by k_mem)
  refine Con.call (rung_con W0 (Keep.of_fr F9) ⟨by omega, by omega⟩ (by omega) o1 o2 hI hw b1.symm) rfl ((RM _).le (by decide)) ?_
  rintro v9 H2 tk9 K9 U9 t9_5
  refine hide fun P9 hP9 => ?_
  rcases t9_5 with ⟨⟨i7, t9, e9, i70, i71⟩, nb, tb, p1⟩
  refine hP9 ?_; clear hP9 P9
  subst e9
  have F8 := frStep F9 U9 (fun e => n1 e.symm) (base1 o1.2)
  have p2 := U9.own o2 b1
  have p3 := U9.own o3 b2
  have p4 := U9.own o4 b4
  (try clear hR); (try clear N9); (try clear F9)
  have F9 := F8
  refine hide fun P9 hP9 => ?_
  obtain ⟨rest, hR, N9⟩ := refocus F9 (.cons p1 (.cons p2 (.cons p3 (.cons p4 .nil)))) (allC ((n1)) (allC ((n2)) (allC ((n3)) (allC ((n5)) (List.forall_mem_nil _)))))
  refine hP9 ?_; clear hP9 P9
  dsimp only [List.cons_append, List.nil_append] at N9
  change Rest B _ [L, bell, cells, (L+1), 380] rest at hR
  have hB9 := Keep.of_fr F9
  have hs0 := hR.off bell (.tail _ (.head _))
  have hs1 := hR.off cells (.tail _ (.tail _ (.head _)))
  have hs2 := hR.off (L+1) (.tail _ (.tail _ (.tail _ (.head _))))
  have hs3 := hR.off 380 (.tail _ (.tail _ (.tail _ (.tail _ (.head _)))))
  dsimp only
  k_steps
  (with_reducible rename Fr _ _ _ _ => F9); (with_reducible rename News _ _ _ _ => N9)
  refine Con.call (workRight_con W0 (Keep.of_fr F9) hsB (by omega)) rfl ((RM _).le (by decide)) ?_
  intro v9 H3 tk9 K9 U3 e9
  subst e9
  have F8 := frStep F9 U3 (fun x => x) base0
  have N8 := newsKeep N9 U3 (fun _ _ x => x)
  clear F9 N9
  dsimp only
  k_steps
  (with_reducible rename Fr _ _ _ _ => F9); (with_reducible rename News _ _ _ _ => N9)
  have o1 := newsOwn N9 (a := bell) (by k_mem)
  have o2 := newsOwn N9 (a := cells) (by k_mem)
  have o3 := newsOwn N9 (a := (L+1)) (by k_mem)
  have o4 := newsOwn N9 (a := 380) (by k_mem)
  refine Con.call (rung_con W0 (Keep.of_fr F9) ⟨by omega, by omega⟩ (by omega) o1 o2 hI hw b1.symm) rfl ((RM _).le (by decide)) ?_
  rintro v9 H4 tk9 K9 U9 t9_5
  refine hide fun P9 hP9 => ?_
  rcases t9_5 with ⟨⟨i8, t9, e9, i80, i81⟩, nb, tb, p1⟩
  refine hP9 ?_; clear hP9 P9
  subst e9
  have F8 := frStep F9 U9 (fun e => n1 e.symm) (base1 o1.2)
  have p2 := U9.own o2 b1
  have p3 := U9.own o3 b2
  have p4 := U9.own o4 b4
  (try clear hR); (try clear N9); (try clear F9)
  have F9 := F8
  refine hide fun P9 hP9 => ?_
  obtain ⟨rest, hR, N9⟩ := refocus F9 (.cons p1 (.cons p2 (.cons p3 (.cons p4 .nil)))) (allC ((n1)) (allC ((n2)) (allC ((n3)) (allC ((n5)) (List.forall_mem_nil _)))))
  refine hP9 ?_; clear hP9 P9
  dsimp only [List.cons_append, List.nil_append] at N9
  change Rest B _ [L, bell, cells, (L+1), 380] rest at hR
  have hB9 := Keep.of_fr F9
  have hs0 := hR.off bell (.tail _ (.head _))
  have hs1 := hR.off cells (.tail _ (.tail _ (.head _)))
  have hs2 := hR.off (L+1) (.tail _ (.tail _ (.tail _ (.head _))))
  have hs3 := hR.off 380 (.tail _ (.tail _ (.tail _ (.tail _ (.head _)))))
  dsimp only
  k_steps
  rename_i F7 N7 h5 tk5 t5 u5 v5 r5 F9 N9 kk5
  clear F7 N7
  refine CompGoA.mk (LCg.CompSrc.range rfl F9 N9 r5 (rangeF8 i80 i81).1 (rangeF8 i80 i81).2 (by rw [sizeLine_eq]; omega) (fun g9 => ?_))
  clear F9 N9
  refine compRest_ind (fun i ys news => ∃ k t n ns', 0 ≤ k ∧ news = (bell, listOf #[.ref cells, .int k t] n) :: (cells, listOf ws.toArray 0) :: (L + 1, oc) :: (380, tabObj #[]) :: rest ∧ IntsAre ys ns' ∧ ns'.length = i ∧ ∀ x ∈ ns', (2 : Int) ≤ x ∧ x ≤ 51) ?turn ?fin _ 0 [] _ (Nat.zero_add _)
    ⟨0 + 1 + 1 + 1, tb, nb, [], by omega, rfl, .nil, rfl, nofun⟩
  case turn =>
    rintro i ys news v Ia oI Ca oC D m₂ h2 tk2 E' hin t9_14 hv hC hx F N off ne
    refine hide fun P9 hP9 => ?_
    rcases t9_14 with ⟨k, t, n, ns', hk, rfl, hy, hlen', hall⟩
    refine hP9 ?_; clear hP9 P9
    k_steps
    (with_reducible rename Fr _ _ _ _ => F9); (with_reducible rename News _ _ _ _ => N9)
    have o1 := newsOwn N9 (a := bell) (by k_mem)
    have o2 := newsOwn N9 (a := cells) (by k_mem)
    refine Con.call (rung_con W0 (Keep.of_fr F9) ⟨by omega, by omega⟩ hk o1 o2 hI hw b1.symm) rfl ((RM _).le (by decide)) ?_
    rintro v9 H9 tk9 K9 U9 t9_5
    refine hide fun P9 hP9 => ?_
    rcases t9_5 with ⟨⟨iz, tz, e9, iz0, iz1⟩, nz, tz2, pz⟩
    refine hP9 ?_; clear hP9 P9
    subst e9
    have F8 := frStep F9 U9 (fun e => n1 e.symm) (base1 o1.2)
    have N8 : News B L H9 ((Ia, oI) :: (Ca, oC) :: (D, LCg.lst ys) :: (bell, listOf #[.ref cells, .int (k + 1) tz2] nz) :: (cells, listOf ws.toArray 0) :: (L + 1, oc) :: (380, tabObj #[]) :: rest) := by
      refine newsStep N9 U9 ?_
      have ob := off.mem (bell, _) (.head _)
      refine allC (.inl ⟨.head _, fun e => ob.1 e.symm⟩) (allC (.inl ⟨.tail _ (.head _), fun e => ob.2.1 e.symm⟩) (allC (.inl ⟨.tail _ (.tail _ (.head _)), fun e => ob.2.2 e.symm⟩) (allC (.inr ⟨pz, n1⟩) (allC (.inl ⟨by k_mem, b1⟩) (allC (.inl ⟨by k_mem, b2⟩) (allC (.inl ⟨by k_mem, b4⟩) (fun p hp => .inl ⟨by (repeat' apply List.Mem.tail); exact hp, hs0 p hp⟩)))))))
    clear F9 N9
    dsimp only
    k_steps
    show LCg.CompEnd _ _ _ _ _ _ _ _ _ _ _ _ _ _
    refine ⟨H9, _, (bell, listOf #[.ref cells, .int (k + 1) tz2] nz) :: (cells, listOf ws.toArray 0) :: (L + 1, oc) :: (380, tabObj #[]) :: rest, rfl, F8, N8, LCg.Off3.of ?_, trivial, k + 1, tz2, nz, ns' ++ [2 + iz], by omega, rfl, hy.append (.cons _ _ .nil), by rw [List.length_append, hlen']; rfl, fun x hx => ?_⟩
    · refine allC (?_) (fun p hp => off.mem p (.tail _ hp))
      have ob := off.mem (bell, _) (.head _)
      exact ob
    · rcases List.mem_append.1 hx with hx | hx
      · exact hall x hx
      · rw [List.mem_singleton.1 hx]; omega
  case fin =>
    rintro ys news t9_2 sl h5 tk5 F N off
    refine hide fun P9 hP9 => ?_
    rcases t9_2 with ⟨k, t, n, ns', hk, rfl, hy, hlen', hall⟩
    refine hP9 ?_; clear hP9 P9
    dsimp only
    have N8 : News B L h5 [(sl, LCg.lst ys), (bell, listOf #[.ref cells, .int k t] n), (cells, listOf ws.toArray 0), (L + 1, oc), (380, tabObj #[])] := fun p hp => N p (by
      simp only [List.mem_cons, List.not_mem_nil, or_false] at hp ⊢
      rcases hp with rfl | rfl | rfl | rfl | rfl <;> simp)
    have q := off1Mem off
    have k1 : NeN bell sl := q _ (.head _)
    have k2 : NeN cells sl := q _ (.tail _ (.head _))
    have k3 : NeN (L + 1) sl := q _ (.tail _ (.tail _ (.head _)))
    have k4 : NeN 380 sl := q _ (.tail _ (.tail _ (.tail _ (.head _))))
    have k5 : NeN cells (L + 1) := Nat.ne_of_gt lc.1
    have k6 : NeN cells 380 := Nat.ne_of_gt lc.2
    have k7 : NeN (L + 1) 380 := by
      refine hide fun P9 hP9 => ?_
      obtain ⟨_, _, _, _, _, _, _, _, _, e, _⟩ := codeHd
      refine hP9 ?_; clear hP9 P9
      exact Nat.ne_of_gt (Nat.lt_succ_of_lt (Nat.lt_of_lt_of_le (Nat.lt_trans (show 380 < 382 by decide) (Heap.lt_size e)) F.above))
    exact law_two (s0 := ⟨h1, s1.gens, s1.drawn, tk1, s1.os⟩) W0 F N8 (by (first | refine Nd.m3 ?_ | refine Nd.m4 ?_ | refine Nd.m5 ?_ | refine Nd.m6 ?_ | refine Nd.m7 ?_ | refine Nd.m8 ?_ | refine Nd.m11 ?_) <;> constructor <;> first | assumption | (refine NeN.symm ?_; assumption)) hoc hk hI hw hy (by omega) hall hsh)
end
end Mine
set_option maxRecDepth 100000 in
theorem PySem.Challenge.cw_rh0162_01_holds : PySem.Challenge.rw_rh0162_01.Holds :=
  Mine.fin
