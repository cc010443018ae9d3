import PyProof.Rows.All
import Wide.All
import OpenK.AllK
import Wide.FinOn
import PySem.Challenge.RW_qd0132_01
open PySem PySem.W PyProof.Rows
set_option Elab.async false
set_option maxRecDepth 100000
set_option maxHeartbeats 40000000
set_option linter.unusedVariables false
set_option linter.constructorNameAsVariable false
set_option genSizeOf false
set_option genInjectivity false
set_option rowWalk.seconds 0
name_quick tw10007627690174824804 for PySem.W.S.findZ by PySem.W.S.findZ_eq
name_quick tw10010936943081839664 for PySem.W.S.findZ by PySem.W.S.findZ_eq
name_quick tw10015664371746657536 for PySem.W.S.findZ by PySem.W.S.findZ_eq
name_quick tw10028428298569065181 for PySem.W.S.findZ by PySem.W.S.findZ_eq
name_quick tw10029231156530900338 for PySem.W.S.findZ by PySem.W.S.findZ_eq
name_quick tw10030586065758793078 for PySem.W.S.findZ by PySem.W.S.findZ_eq
name_quick tw10042830170769951172 for PySem.W.S.findZ by PySem.W.S.findZ_eq
name_quick tw10045867985992453528 for PySem.W.S.findZ by PySem.W.S.findZ_eq
name_quick tw10057510723706494237 for PySem.W.S.findZ by PySem.W.S.findZ_eq
name_quick tw10073347824450446311 for PySem.W.S.findZ by PySem.W.S.findZ_eq
name_quick tw10138199336372458610 for PySem.W.S.findZ by PySem.W.S.findZ_eq
name_quick tw10181792811725400092 for PySem.W.S.findZ by PySem.W.S.findZ_eq
name_quick tw10190238754879171395 for PySem.W.S.findZ by PySem.W.S.findZ_eq
name_quick tw10205541121877940668 for PySem.W.S.findZ by PySem.W.S.findZ_eq
name_quick tw10227693086864044499 for PySem.W.S.findZ by PySem.W.S.findZ_eq
name_quick tw10308316962582663543 for PySem.W.S.findZ by PySem.W.S.findZ_eq
name_quick tw10317580896714288900 for PySem.W.S.findZ by PySem.W.S.findZ_eq
name_quick tw10323183001455561277 for PySem.W.S.findZ by PySem.W.S.findZ_eq
name_quick tw10352308551163946355 for PySem.W.S.findZ by PySem.W.S.findZ_eq
name_quick tw10379131730601215995 for PySem.W.S.findZ by PySem.W.S.findZ_eq
name_quick tw10424941004445345732 for PySem.W.S.findZ by PySem.W.S.findZ_eq
name_quick tw10428236867944961458 for PySem.W.S.findZ by PySem.W.S.findZ_eq
name_quick tw10487160056961263569 for PySem.W.S.findZ by PySem.W.S.findZ_eq
name_quick tw10500077913531017323 for PySem.W.S.findZ by PySem.W.S.findZ_eq
name_quick tw10508251915553800215 for PySem.W.S.findZ by PySem.W.S.findZ_eq
name_quick tw10528696920762540405 for PySem.W.S.findZ by PySem.W.S.findZ_eq
name_quick tw1055568401681811165 for PySem.W.S.findZ by PySem.W.S.findZ_eq
name_quick tw10650810973499830745 for PySem.W.S.findZ by PySem.W.S.findZ_eq
name_quick tw10670733350059645105 for PySem.W.S.findZ by PySem.W.S.findZ_eq
name_quick tw10758392820592806131 for PySem.W.S.findZ by PySem.W.S.findZ_eq
name_quick tw10819683100428557426 for PySem.W.S.findZ by PySem.W.S.findZ_eq
name_quick tw10833955939284561965 for PySem.W.S.findZ by PySem.W.S.findZ_eq
name_quick tw1085346719588807367 for PySem.W.S.findZ by PySem.W.S.findZ_eq
name_quick tw10885399304501877467 for PySem.W.S.findZ by PySem.W.S.findZ_eq
name_quick tw10887116778572429059 for PySem.W.S.findZ by PySem.W.S.findZ_eq
name_quick tw10919533547850550483 for PySem.W.S.findZ by PySem.W.S.findZ_eq
name_quick tw1092655722715705105 for PySem.W.S.findZ by PySem.W.S.findZ_eq
name_quick tw10937704242876631626 for PySem.W.S.findZ by PySem.W.S.findZ_eq
name_quick tw10938465397075749097 for PySem.W.S.findZ by PySem.W.S.findZ_eq
name_quick tw10939839348159177617 for PySem.W.S.findZ by PySem.W.S.findZ_eq
name_quick tw10942035263794033107 for PySem.W.S.findZ by PySem.W.S.findZ_eq
name_quick tw10948738476641704880 for PySem.W.S.findZ by PySem.W.S.findZ_eq
name_quick tw10964334890339321822 for PySem.W.S.findZ by PySem.W.S.findZ_eq
name_quick tw10996506086634736982 for PySem.W.S.findZ by PySem.W.S.findZ_eq
name_quick tw11013792430000457035 for PySem.W.S.findZ by PySem.W.S.findZ_eq
name_quick tw11036193050239951465 for PySem.W.S.findZ by PySem.W.S.findZ_eq
name_quick tw1107438419126420414 for PySem.W.S.findZ by PySem.W.S.findZ_eq
name_quick tw11108263761283441063 for PySem.W.S.findZ by PySem.W.S.findZ_eq
name_quick tw11130039905162102590 for PySem.W.S.findZ by PySem.W.S.findZ_eq
name_quick tw11161088081135249708 for PySem.W.S.findZ by PySem.W.S.findZ_eq
name_quick tw11166942722945506595 for PySem.W.S.findZ by PySem.W.S.findZ_eq
name_quick tw11186114360453789277 for PySem.W.S.findZ by PySem.W.S.findZ_eq
name_quick tw11270796479367742343 for PySem.W.S.findZ by PySem.W.S.findZ_eq
name_quick tw11277716924127702174 for PySem.W.S.findZ by PySem.W.S.findZ_eq
name_quick tw11306939235166856333 for PySem.W.S.findZ by PySem.W.S.findZ_eq
name_quick tw11310463157757771331 for PySem.W.S.findZ by PySem.W.S.findZ_eq
name_quick tw11317593695737139937 for PySem.W.S.findZ by PySem.W.S.findZ_eq
name_quick tw11328821685186248670 for PySem.W.S.findZ by PySem.W.S.findZ_eq
name_quick tw11420187438672877268 for PySem.W.S.findZ by PySem.W.S.findZ_eq
name_quick tw11445135464325071761 for PySem.W.S.findZ by PySem.W.S.findZ_eq
name_quick tw11452132507678324671 for PySem.W.S.findZ by PySem.W.S.findZ_eq
name_quick tw11462045893675790159 for PySem.W.S.findZ by PySem.W.S.findZ_eq
name_quick tw11519604305632133818 for PySem.W.S.findZ by PySem.W.S.findZ_eq
name_quick tw11543547407058413889 for PySem.W.S.findZ by PySem.W.S.findZ_eq
name_quick tw1156252341971683116 for PySem.W.S.findZ by PySem.W.S.findZ_eq
name_quick tw11566699232636054958 for PySem.W.S.findZ by PySem.W.S.findZ_eq
name_quick tw11588390666370768167 for PySem.W.S.findZ by PySem.W.S.findZ_eq
name_quick tw11707371222683016368 for PySem.W.S.findZ by PySem.W.S.findZ_eq
name_quick tw117213463901210413 for PySem.W.S.findZ by PySem.W.S.findZ_eq
name_quick tw11740888236361828772 for PySem.W.S.findZ by PySem.W.S.findZ_eq
name_quick tw11767421526060770920 for PySem.W.S.findZ by PySem.W.S.findZ_eq
name_quick tw11788150170368784547 for PySem.W.S.findZ by PySem.W.S.findZ_eq
name_quick tw11790162104776037713 for PySem.W.S.findZ by PySem.W.S.findZ_eq
name_quick tw11796506867022685745 for PySem.W.S.findZ by PySem.W.S.findZ_eq
name_quick tw11817470609975844035 for PySem.W.S.findZ by PySem.W.S.findZ_eq
name_quick tw11825729669827539873 for PySem.W.S.findZ by PySem.W.S.findZ_eq
name_quick tw11838138170533393997 for PySem.W.S.findZ by PySem.W.S.findZ_eq
name_quick tw11853533878840232495 for PySem.W.S.findZ by PySem.W.S.findZ_eq
name_quick tw11863081143760314161 for PySem.W.S.findZ by PySem.W.S.findZ_eq
name_quick tw11891824955294080559 for PySem.W.S.findZ by PySem.W.S.findZ_eq
name_quick tw11892598404827812706 for PySem.W.S.findZ by PySem.W.S.findZ_eq
name_quick tw1189734492583310 for PySem.W.S.findZ by PySem.W.S.findZ_eq
name_quick tw11935384120112590319 for PySem.W.S.findZ by PySem.W.S.findZ_eq
name_quick tw11939915149646268982 for PySem.W.S.findZ by PySem.W.S.findZ_eq
name_quick tw11957962974430299695 for PySem.W.S.findZ by PySem.W.S.findZ_eq
name_quick tw11964429278604863157 for PySem.W.S.findZ by PySem.W.S.findZ_eq
name_quick tw11994158751524154303 for PySem.W.S.findZ by PySem.W.S.findZ_eq
name_quick tw12022618010286034681 for PySem.W.S.findZ by PySem.W.S.findZ_eq
name_quick tw1204117194425446250 for PySem.W.S.findZ by PySem.W.S.findZ_eq
name_quick tw12095823642532355627 for PySem.W.S.findZ by PySem.W.S.findZ_eq
name_quick tw12114495157272644582 for PySem.W.S.findZ by PySem.W.S.findZ_eq
name_quick tw12172078356533094185 for PySem.W.S.findZ by PySem.W.S.findZ_eq
name_quick tw12177639751122801600 for PySem.W.S.findZ by PySem.W.S.findZ_eq
name_quick tw12177649209318274912 for PySem.W.S.findZ by PySem.W.S.findZ_eq
name_quick tw12182807814244774211 for PySem.W.S.findZ by PySem.W.S.findZ_eq
name_quick tw1218959903707654005 for PySem.W.S.findZ by PySem.W.S.findZ_eq
name_quick tw12224578244612797663 for PySem.W.S.findZ by PySem.W.S.findZ_eq
name_quick tw12233582284571471492 for PySem.W.S.findZ by PySem.W.S.findZ_eq
name_quick tw12237943961548833269 for PySem.W.S.findZ by PySem.W.S.findZ_eq
name_quick tw12268644228514654432 for PySem.W.S.findZ by PySem.W.S.findZ_eq
name_quick tw12290603225136948437 for PySem.W.S.findZ by PySem.W.S.findZ_eq
name_quick tw12329403913580668285 for PySem.W.S.findZ by PySem.W.S.findZ_eq
name_quick tw12359285113459375979 for PySem.W.S.findZ by PySem.W.S.findZ_eq
name_quick tw12371321757623732685 for PySem.W.S.findZ by PySem.W.S.findZ_eq
name_quick tw12392613427281201732 for PySem.W.S.findZ by PySem.W.S.findZ_eq
name_quick tw12393455550290869266 for PySem.W.S.findZ by PySem.W.S.findZ_eq
name_quick tw12450158673883907302 for PySem.W.S.findZ by PySem.W.S.findZ_eq
name_quick tw12456492676567594705 for PySem.W.S.findZ by PySem.W.S.findZ_eq
name_quick tw12488000419048109807 for PySem.W.S.findZ by PySem.W.S.findZ_eq
name_quick tw12529633836043197938 for PySem.W.S.findZ by PySem.W.S.findZ_eq
name_quick tw1258299570235058372 for PySem.W.S.findZ by PySem.W.S.findZ_eq
name_quick tw1258717718454355964 for PySem.W.S.findZ by PySem.W.S.findZ_eq
name_quick tw12635297910168745909 for PySem.W.S.findZ by PySem.W.S.findZ_eq
name_quick tw12635813782599140982 for PySem.W.S.findZ by PySem.W.S.findZ_eq
name_quick tw12636566329202547608 for PySem.W.S.findZ by PySem.W.S.findZ_eq
name_quick tw12647630874787467225 for PySem.W.S.findZ by PySem.W.S.findZ_eq
name_quick tw12659028871203227004 for PySem.W.S.findZ by PySem.W.S.findZ_eq
name_quick tw12660628722211587041 for PySem.W.S.findZ by PySem.W.S.findZ_eq
name_quick tw12679591844961189642 for PySem.W.S.findZ by PySem.W.S.findZ_eq
name_quick tw12682352545654495088 for PySem.W.S.findZ by PySem.W.S.findZ_eq
name_quick tw12726346659333912481 for PySem.W.S.findZ by PySem.W.S.findZ_eq
name_quick tw12734952128020822468 for PySem.W.S.findZ by PySem.W.S.findZ_eq
name_quick tw12809422525583811893 for PySem.W.S.findZ by PySem.W.S.findZ_eq
name_quick tw12813236842856870187 for PySem.W.S.findZ by PySem.W.S.findZ_eq
name_quick tw12821735335276811757 for PySem.W.S.findZ by PySem.W.S.findZ_eq
name_quick tw12825359941727978080 for PySem.W.S.findZ by PySem.W.S.findZ_eq
name_quick tw12832477231654346042 for PySem.W.S.findZ by PySem.W.S.findZ_eq
name_quick tw12835720964997663042 for PySem.W.S.findZ by PySem.W.S.findZ_eq
name_quick tw12850107946570832962 for PySem.W.S.findZ by PySem.W.S.findZ_eq
name_quick tw12895876180207180836 for PySem.W.S.findZ by PySem.W.S.findZ_eq
name_quick tw12898947447245864913 for PySem.W.S.findZ by PySem.W.S.findZ_eq
name_quick tw1291980286583624508 for PySem.W.S.findZ by PySem.W.S.findZ_eq
name_quick tw12945451867199242903 for PySem.W.S.findZ by PySem.W.S.findZ_eq
name_quick tw12945968074294007009 for PySem.W.S.findZ by PySem.W.S.findZ_eq
name_quick tw12973657651903071711 for PySem.W.S.findZ by PySem.W.S.findZ_eq
name_quick tw12981051755390344553 for PySem.W.S.findZ by PySem.W.S.findZ_eq
name_quick tw12989987162080215863 for PySem.W.S.findZ by PySem.W.S.findZ_eq
name_quick tw13002492023102617099 for PySem.W.S.findZ by PySem.W.S.findZ_eq
name_quick tw13016732220969518872 for PySem.W.S.findZ by PySem.W.S.findZ_eq
name_quick tw13036272033356848781 for PySem.W.S.findZ by PySem.W.S.findZ_eq
name_quick tw13102660428377437172 for PySem.W.S.findZ by PySem.W.S.findZ_eq
name_quick tw13141144453892091621 for PySem.W.S.findZ by PySem.W.S.findZ_eq
name_quick tw13145125596335152023 for PySem.W.S.findZ by PySem.W.S.findZ_eq
name_quick tw13169248704851481478 for PySem.W.S.findZ by PySem.W.S.findZ_eq
name_quick tw13180171748994924942 for PySem.W.S.findZ by PySem.W.S.findZ_eq
name_quick tw13200701876752130231 for PySem.W.S.findZ by PySem.W.S.findZ_eq
name_quick tw13215998728584607739 for PySem.W.S.findZ by PySem.W.S.findZ_eq
name_quick tw13236226663087606529 for PySem.W.S.findZ by PySem.W.S.findZ_eq
name_quick tw13241461904039861399 for PySem.W.S.findZ by PySem.W.S.findZ_eq
name_quick tw13251646731365433171 for PySem.W.S.findZ by PySem.W.S.findZ_eq
name_quick tw13252181687094117063 for PySem.W.S.findZ by PySem.W.S.findZ_eq
name_quick tw13254397897704925713 for PySem.W.S.findZ by PySem.W.S.findZ_eq
name_quick tw13314330512976039754 for PySem.W.S.findZ by PySem.W.S.findZ_eq
name_quick tw13317431791736044220 for PySem.W.S.findZ by PySem.W.S.findZ_eq
name_quick tw1333364371103165705 for PySem.W.S.findZ by PySem.W.S.findZ_eq
name_quick tw13335737130258781183 for PySem.W.S.findZ by PySem.W.S.findZ_eq
name_quick tw13414170097400970785 for PySem.W.S.findZ by PySem.W.S.findZ_eq
name_quick tw13471461260053382970 for PySem.W.S.findZ by PySem.W.S.findZ_eq
name_quick tw13505292571300825877 for PySem.W.S.findZ by PySem.W.S.findZ_eq
name_quick tw13512673800721320934 for PySem.W.S.findZ by PySem.W.S.findZ_eq
name_quick tw13526986893379352335 for PySem.W.S.findZ by PySem.W.S.findZ_eq
name_quick tw13551572312386263098 for PySem.W.S.findZ by PySem.W.S.findZ_eq
name_quick tw1355338860687761863 for PySem.W.S.findZ by PySem.W.S.findZ_eq
name_quick tw13559156169165276386 for PySem.W.S.findZ by PySem.W.S.findZ_eq
name_quick tw13580328829973926956 for PySem.W.S.findZ by PySem.W.S.findZ_eq
name_quick tw13581749221687468397 for PySem.W.S.findZ by PySem.W.S.findZ_eq
name_quick tw13597890204796452341 for PySem.W.S.findZ by PySem.W.S.findZ_eq
name_quick tw13607416678640721797 for PySem.W.S.findZ by PySem.W.S.findZ_eq
name_quick tw13640514254501968386 for PySem.W.S.findZ by PySem.W.S.findZ_eq
name_quick tw13642483538084851733 for PySem.W.S.findZ by PySem.W.S.findZ_eq
name_quick tw136631920214876835 for PySem.W.S.findZ by PySem.W.S.findZ_eq
name_quick tw13678640442995254988 for PySem.W.S.findZ by PySem.W.S.findZ_eq
name_quick tw1370275717833778536 for PySem.W.S.findZ by PySem.W.S.findZ_eq
name_quick tw13721567128424951087 for PySem.W.S.findZ by PySem.W.S.findZ_eq
name_quick tw13725850141900786883 for PySem.W.S.findZ by PySem.W.S.findZ_eq
name_quick tw13759679279233594173 for PySem.W.S.findZ by PySem.W.S.findZ_eq
name_quick tw1377046205977697930 for PySem.W.S.findZ by PySem.W.S.findZ_eq
name_quick tw13776390136698705113 for PySem.W.S.findZ by PySem.W.S.findZ_eq
name_quick tw13789449189825218787 for PySem.W.S.findZ by PySem.W.S.findZ_eq
name_quick tw13809362725867891129 for PySem.W.S.findZ by PySem.W.S.findZ_eq
name_quick tw13871001218405608335 for PySem.W.S.findZ by PySem.W.S.findZ_eq
name_quick tw13892231520521813962 for PySem.W.S.findZ by PySem.W.S.findZ_eq
name_quick tw13900631225919944168 for PySem.W.S.findZ by PySem.W.S.findZ_eq
name_quick tw13903129631018457399 for PySem.W.S.findZ by PySem.W.S.findZ_eq
name_quick tw13912434898499826684 for PySem.W.S.findZ by PySem.W.S.findZ_eq
name_quick tw13925586954763233925 for PySem.W.S.findZ by PySem.W.S.findZ_eq
name_quick tw1393629259489396696 for PySem.W.S.findZ by PySem.W.S.findZ_eq
name_quick tw13981391230805400906 for PySem.W.S.findZ by PySem.W.S.findZ_eq
name_quick tw13987355940573415152 for PySem.W.S.findZ by PySem.W.S.findZ_eq
name_quick tw1401972060568974870 for PySem.W.S.findZ by PySem.W.S.findZ_eq
name_quick tw14023627001141898710 for PySem.W.S.findZ by PySem.W.S.findZ_eq
name_quick tw1402947280878808549 for PySem.W.S.findZ by PySem.W.S.findZ_eq
name_quick tw14043711374191979534 for PySem.W.S.findZ by PySem.W.S.findZ_eq
name_quick tw14073706353221006472 for PySem.W.S.findZ by PySem.W.S.findZ_eq
name_quick tw14097648870716263351 for PySem.W.S.findZ by PySem.W.S.findZ_eq
name_quick tw14108194823987119177 for PySem.W.S.findZ by PySem.W.S.findZ_eq
name_quick tw14112274594779413971 for PySem.W.S.findZ by PySem.W.S.findZ_eq
name_quick tw1414301608579184545 for PySem.W.S.findZ by PySem.W.S.findZ_eq
name_quick tw14185684948912167051 for PySem.W.S.findZ by PySem.W.S.findZ_eq
name_quick tw1419416864934026935 for PySem.W.S.findZ by PySem.W.S.findZ_eq
name_quick tw14209830616999942402 for PySem.W.S.findZ by PySem.W.S.findZ_eq
name_quick tw14210447440969649564 for PySem.W.S.findZ by PySem.W.S.findZ_eq
name_quick tw14214133299417103183 for PySem.W.S.findZ by PySem.W.S.findZ_eq
name_quick tw14223099787259518943 for PySem.W.S.findZ by PySem.W.S.findZ_eq
name_quick tw14224011070414065920 for PySem.W.S.findZ by PySem.W.S.findZ_eq
name_quick tw14285029430470858289 for PySem.W.S.findZ by PySem.W.S.findZ_eq
name_quick tw14311459727803291754 for PySem.W.S.findZ by PySem.W.S.findZ_eq
name_quick tw14323765505736481980 for PySem.W.S.findZ by PySem.W.S.findZ_eq
name_quick tw14326252917377295143 for PySem.W.S.findZ by PySem.W.S.findZ_eq
name_quick tw14333388528381170442 for PySem.W.S.findZ by PySem.W.S.findZ_eq
name_quick tw14376050681354390291 for PySem.W.S.findZ by PySem.W.S.findZ_eq
name_quick tw14386061602966655976 for PySem.W.S.findZ by PySem.W.S.findZ_eq
name_quick tw14420389602138693270 for PySem.W.S.findZ by PySem.W.S.findZ_eq
name_quick tw14427280190107063356 for PySem.W.S.findZ by PySem.W.S.findZ_eq
name_quick tw14433975572909055671 for PySem.W.S.findZ by PySem.W.S.findZ_eq
name_quick tw14530364306720264245 for PySem.W.S.findZ by PySem.W.S.findZ_eq
name_quick tw14537914154153760125 for PySem.W.S.findZ by PySem.W.S.findZ_eq
name_quick tw14544052848187043789 for PySem.W.S.findZ by PySem.W.S.findZ_eq
name_quick tw14553827428707814869 for PySem.W.S.findZ by PySem.W.S.findZ_eq
name_quick tw14714103240675001986 for PySem.W.S.findZ by PySem.W.S.findZ_eq
name_quick tw14766643958189025262 for PySem.W.S.findZ by PySem.W.S.findZ_eq
name_quick tw14778209649434054790 for PySem.W.S.findZ by PySem.W.S.findZ_eq
name_quick tw148260917463534702 for PySem.W.S.findZ by PySem.W.S.findZ_eq
name_quick tw14837249469386935497 for PySem.W.S.findZ by PySem.W.S.findZ_eq
name_quick tw14884601019740666482 for PySem.W.S.findZ by PySem.W.S.findZ_eq
name_quick tw14896874001708588922 for PySem.W.S.findZ by PySem.W.S.findZ_eq
name_quick tw14907048974825807369 for PySem.W.S.findZ by PySem.W.S.findZ_eq
name_quick tw14934708107589980039 for PySem.W.S.findZ by PySem.W.S.findZ_eq
name_quick tw14952990662201256454 for PySem.W.S.findZ by PySem.W.S.findZ_eq
name_quick tw14971970265804392439 for PySem.W.S.findZ by PySem.W.S.findZ_eq
name_quick tw14973007898608030118 for PySem.W.S.findZ by PySem.W.S.findZ_eq
name_quick tw14979626087600564940 for PySem.W.S.findZ by PySem.W.S.findZ_eq
name_quick tw14981143343336467331 for PySem.W.S.findZ by PySem.W.S.findZ_eq
name_quick tw15007238320947547705 for PySem.W.S.findZ by PySem.W.S.findZ_eq
name_quick tw1503297043503765363 for PySem.W.S.findZ by PySem.W.S.findZ_eq
name_quick tw15034313371233782410 for PySem.W.S.findZ by PySem.W.S.findZ_eq
name_quick tw15041003319150489328 for PySem.W.S.findZ by PySem.W.S.findZ_eq
name_quick tw15059462757989803610 for PySem.W.S.findZ by PySem.W.S.findZ_eq
name_quick tw15066959818950650227 for PySem.W.S.findZ by PySem.W.S.findZ_eq
name_quick tw15079194523842364033 for PySem.W.S.findZ by PySem.W.S.findZ_eq
name_quick tw15112985482279097393 for PySem.W.S.findZ by PySem.W.S.findZ_eq
name_quick tw15157221202141545114 for PySem.W.S.findZ by PySem.W.S.findZ_eq
name_quick tw15168306246750427876 for PySem.W.S.findZ by PySem.W.S.findZ_eq
name_quick tw151948405760981731 for PySem.W.S.findZ by PySem.W.S.findZ_eq
name_quick tw15202239659555905331 for PySem.W.S.findZ by PySem.W.S.findZ_eq
name_quick tw15215539614974913122 for PySem.W.S.findZ by PySem.W.S.findZ_eq
name_quick tw15263041282635125899 for PySem.W.S.findZ by PySem.W.S.findZ_eq
name_quick tw15278061642289888581 for PySem.W.S.findZ by PySem.W.S.findZ_eq
name_quick tw15300170045991075079 for PySem.W.S.findZ by PySem.W.S.findZ_eq
name_quick tw15323854079317868165 for PySem.W.S.findZ by PySem.W.S.findZ_eq
name_quick tw1536587703002861866 for PySem.W.S.findZ by PySem.W.S.findZ_eq
name_quick tw15376083050721069600 for PySem.W.S.findZ by PySem.W.S.findZ_eq
name_quick tw1537898542681612871 for PySem.W.S.findZ by PySem.W.S.findZ_eq
name_quick tw15423634916342008072 for PySem.W.S.findZ by PySem.W.S.findZ_eq
name_quick tw1544652992362985085 for PySem.W.S.findZ by PySem.W.S.findZ_eq
name_quick tw15450981722951097364 for PySem.W.S.findZ by PySem.W.S.findZ_eq
name_quick tw15468230090516036684 for PySem.W.S.findZ by PySem.W.S.findZ_eq
name_quick tw15475462885187679331 for PySem.W.S.findZ by PySem.W.S.findZ_eq
name_quick tw15480198773659482676 for PySem.W.S.findZ by PySem.W.S.findZ_eq
name_quick tw15490439104401381959 for PySem.W.S.findZ by PySem.W.S.findZ_eq
name_quick tw15542503528162795033 for PySem.W.S.findZ by PySem.W.S.findZ_eq
name_quick tw15542691292777871779 for PySem.W.S.findZ by PySem.W.S.findZ_eq
name_quick tw15560500314895047343 for PySem.W.S.findZ by PySem.W.S.findZ_eq
name_quick tw15560853006256673968 for PySem.W.S.findZ by PySem.W.S.findZ_eq
name_quick tw15663404670287596823 for PySem.W.S.findZ by PySem.W.S.findZ_eq
name_quick tw15723139421904318646 for PySem.W.S.findZ by PySem.W.S.findZ_eq
name_quick tw15736541856241217950 for PySem.W.S.findZ by PySem.W.S.findZ_eq
name_quick tw15742981410569661332 for PySem.W.S.findZ by PySem.W.S.findZ_eq
name_quick tw1574873078441994576 for PySem.W.S.findZ by PySem.W.S.findZ_eq
name_quick tw15766043655864335149 for PySem.W.S.findZ by PySem.W.S.findZ_eq
name_quick tw15773981995205291829 for PySem.W.S.findZ by PySem.W.S.findZ_eq
name_quick tw15806122291839087668 for PySem.W.S.findZ by PySem.W.S.findZ_eq
name_quick tw15808557625122938864 for PySem.W.S.findZ by PySem.W.S.findZ_eq
name_quick tw15823609455315575823 for PySem.W.S.findZ by PySem.W.S.findZ_eq
name_quick tw15832565104096599602 for PySem.W.S.findZ by PySem.W.S.findZ_eq
name_quick tw15880737140895825463 for PySem.W.S.findZ by PySem.W.S.findZ_eq
name_quick tw15894407043143930727 for PySem.W.S.findZ by PySem.W.S.findZ_eq
name_quick tw15900120412870309639 for PySem.W.S.findZ by PySem.W.S.findZ_eq
name_quick tw15902184279288820625 for PySem.W.S.findZ by PySem.W.S.findZ_eq
name_quick tw15919542637913265678 for PySem.W.S.findZ by PySem.W.S.findZ_eq
name_quick tw15965015591981942514 for PySem.W.S.findZ by PySem.W.S.findZ_eq
name_quick tw15980859228951719591 for PySem.W.S.findZ by PySem.W.S.findZ_eq
name_quick tw16018607276475445134 for PySem.W.S.findZ by PySem.W.S.findZ_eq
name_quick tw16039550372008468697 for PySem.W.S.findZ by PySem.W.S.findZ_eq
name_quick tw16049961110935095269 for PySem.W.S.findZ by PySem.W.S.findZ_eq
name_quick tw16127339712140622707 for PySem.W.S.findZ by PySem.W.S.findZ_eq
name_quick tw16145008321745377990 for PySem.W.S.findZ by PySem.W.S.findZ_eq
name_quick tw1615719349143574890 for PySem.W.S.findZ by PySem.W.S.findZ_eq
name_quick tw16172117957621229858 for PySem.W.S.findZ by PySem.W.S.findZ_eq
name_quick tw16176465441171805009 for PySem.W.S.findZ by PySem.W.S.findZ_eq
name_quick tw1617757218408452269 for PySem.W.S.findZ by PySem.W.S.findZ_eq
name_quick tw16180483070735683940 for PySem.W.S.findZ by PySem.W.S.findZ_eq
name_quick tw16180582048198870337 for PySem.W.S.findZ by PySem.W.S.findZ_eq
name_quick tw16189536214700107852 for PySem.W.S.findZ by PySem.W.S.findZ_eq
name_quick tw16223305294053301992 for PySem.W.S.findZ by PySem.W.S.findZ_eq
name_quick tw16241802466949684156 for PySem.W.S.findZ by PySem.W.S.findZ_eq
name_quick tw16280195873916505411 for PySem.W.S.findZ by PySem.W.S.findZ_eq
name_quick tw16289391198768371057 for PySem.W.S.findZ by PySem.W.S.findZ_eq
name_quick tw16292439048969090190 for PySem.W.S.findZ by PySem.W.S.findZ_eq
name_quick tw16296994325663420285 for PySem.W.S.findZ by PySem.W.S.findZ_eq
name_quick tw1631149150583789468 for PySem.W.S.findZ by PySem.W.S.findZ_eq
name_quick tw16326889199254633757 for PySem.W.S.findZ by PySem.W.S.findZ_eq
name_quick tw16328912562034613984 for PySem.W.S.findZ by PySem.W.S.findZ_eq
name_quick tw16349216596472256690 for PySem.W.S.findZ by PySem.W.S.findZ_eq
name_quick tw16349804527192203551 for PySem.W.S.findZ by PySem.W.S.findZ_eq
name_quick tw16350708796919097252 for PySem.W.S.findZ by PySem.W.S.findZ_eq
name_quick tw16366562015402752707 for PySem.W.S.findZ by PySem.W.S.findZ_eq
name_quick tw16374537267813192141 for PySem.W.S.findZ by PySem.W.S.findZ_eq
name_quick tw1638017585896720355 for PySem.W.S.findZ by PySem.W.S.findZ_eq
name_quick tw16406328271908756883 for PySem.W.S.findZ by PySem.W.S.findZ_eq
name_quick tw16413264400604254196 for PySem.W.S.findZ by PySem.W.S.findZ_eq
name_quick tw16413963553889246368 for PySem.W.S.findZ by PySem.W.S.findZ_eq
name_quick tw16417370028952169744 for PySem.W.S.findZ by PySem.W.S.findZ_eq
name_quick tw16430206352603755434 for PySem.W.S.findZ by PySem.W.S.findZ_eq
name_quick tw16432479971616331241 for PySem.W.S.findZ by PySem.W.S.findZ_eq
name_quick tw16439824349840649037 for PySem.W.S.findZ by PySem.W.S.findZ_eq
name_quick tw16445137174393261586 for PySem.W.S.findZ by PySem.W.S.findZ_eq
name_quick tw16494616584097029746 for PySem.W.S.findZ by PySem.W.S.findZ_eq
name_quick tw16531745337717519161 for PySem.W.S.findZ by PySem.W.S.findZ_eq
name_quick tw16548257151911338427 for PySem.W.S.findZ by PySem.W.S.findZ_eq
name_quick tw16593013826814733010 for PySem.W.S.findZ by PySem.W.S.findZ_eq
name_quick tw16643379632663270332 for PySem.W.S.findZ by PySem.W.S.findZ_eq
name_quick tw16643706677886111943 for PySem.W.S.findZ by PySem.W.S.findZ_eq
name_quick tw16644606511662114574 for PySem.W.S.findZ by PySem.W.S.findZ_eq
name_quick tw16645262185327669138 for PySem.W.S.findZ by PySem.W.S.findZ_eq
name_quick tw16648231224745350325 for PySem.W.S.findZ by PySem.W.S.findZ_eq
name_quick tw16741492637210864865 for PySem.W.S.findZ by PySem.W.S.findZ_eq
name_quick tw16752143609539240740 for PySem.W.S.findZ by PySem.W.S.findZ_eq
name_quick tw16758808235637498351 for PySem.W.S.findZ by PySem.W.S.findZ_eq
name_quick tw16792545251062261874 for PySem.W.S.findZ by PySem.W.S.findZ_eq
name_quick tw16817318245366136608 for PySem.W.S.findZ by PySem.W.S.findZ_eq
name_quick tw16846860572762119324 for PySem.W.S.findZ by PySem.W.S.findZ_eq
name_quick tw16865151637890581275 for PySem.W.S.findZ by PySem.W.S.findZ_eq
name_quick tw16869277618539721502 for PySem.W.S.findZ by PySem.W.S.findZ_eq
name_quick tw16873187988247708562 for PySem.W.S.findZ by PySem.W.S.findZ_eq
name_quick tw16874561944515371726 for PySem.W.S.findZ by PySem.W.S.findZ_eq
name_quick tw1690735587144091376 for PySem.W.S.findZ by PySem.W.S.findZ_eq
name_quick tw16916688483869632129 for PySem.W.S.findZ by PySem.W.S.findZ_eq
name_quick tw16942194440817826258 for PySem.W.S.findZ by PySem.W.S.findZ_eq
name_quick tw16942504070071679284 for PySem.W.S.findZ by PySem.W.S.findZ_eq
name_quick tw16947794391021106201 for PySem.W.S.findZ by PySem.W.S.findZ_eq
name_quick tw16966814322356759819 for PySem.W.S.findZ by PySem.W.S.findZ_eq
name_quick tw16979880578912567463 for PySem.W.S.findZ by PySem.W.S.findZ_eq
name_quick tw17000155066101142889 for PySem.W.S.findZ by PySem.W.S.findZ_eq
name_quick tw17000458434675057986 for PySem.W.S.findZ by PySem.W.S.findZ_eq
name_quick tw17001327861769816259 for PySem.W.S.findZ by PySem.W.S.findZ_eq
name_quick tw17015423121036801654 for PySem.W.S.findZ by PySem.W.S.findZ_eq
name_quick tw17018628822417861297 for PySem.W.S.findZ by PySem.W.S.findZ_eq
name_quick tw17020146562604978829 for PySem.W.S.findZ by PySem.W.S.findZ_eq
name_quick tw17024950926791866790 for PySem.W.S.findZ by PySem.W.S.findZ_eq
name_quick tw1702518465993881591 for PySem.W.S.findZ by PySem.W.S.findZ_eq
name_quick tw17026713947507217902 for PySem.W.S.findZ by PySem.W.S.findZ_eq
name_quick tw17057272898397164401 for PySem.W.S.findZ by PySem.W.S.findZ_eq
name_quick tw1706496860858754268 for PySem.W.S.findZ by PySem.W.S.findZ_eq
name_quick tw17069979004554194336 for PySem.W.S.findZ by PySem.W.S.findZ_eq
name_quick tw17071476683966804577 for PySem.W.S.findZ by PySem.W.S.findZ_eq
name_quick tw1708024556718086227 for PySem.W.S.findZ by PySem.W.S.findZ_eq
name_quick tw17101871299007795629 for PySem.W.S.findZ by PySem.W.S.findZ_eq
name_quick tw17110612718182012539 for PySem.W.S.findZ by PySem.W.S.findZ_eq
name_quick tw17111948838632640456 for PySem.W.S.findZ by PySem.W.S.findZ_eq
name_quick tw17138261911001417010 for PySem.W.S.findZ by PySem.W.S.findZ_eq
name_quick tw17139780236743587250 for PySem.W.S.findZ by PySem.W.S.findZ_eq
name_quick tw17164873540382356111 for PySem.W.S.findZ by PySem.W.S.findZ_eq
name_quick tw17172517015917474193 for PySem.W.S.findZ by PySem.W.S.findZ_eq
name_quick tw17183712847048597117 for PySem.W.S.findZ by PySem.W.S.findZ_eq
name_quick tw17230556039016184743 for PySem.W.S.findZ by PySem.W.S.findZ_eq
name_quick tw17244072584429378644 for PySem.W.S.findZ by PySem.W.S.findZ_eq
name_quick tw17274371674624000324 for PySem.W.S.findZ by PySem.W.S.findZ_eq
name_quick tw17279654841073493023 for PySem.W.S.findZ by PySem.W.S.findZ_eq
name_quick tw17280976486791472633 for PySem.W.S.findZ by PySem.W.S.findZ_eq
name_quick tw17300597898927385350 for PySem.W.S.findZ by PySem.W.S.findZ_eq
name_quick tw17325535178939296128 for PySem.W.S.findZ by PySem.W.S.findZ_eq
name_quick tw17341736924252097559 for PySem.W.S.findZ by PySem.W.S.findZ_eq
name_quick tw17344680358763864322 for PySem.W.S.findZ by PySem.W.S.findZ_eq
name_quick tw17352973434858128600 for PySem.W.S.findZ by PySem.W.S.findZ_eq
name_quick tw1735497430108182060 for PySem.W.S.findZ by PySem.W.S.findZ_eq
name_quick tw17394056326795013819 for PySem.W.S.findZ by PySem.W.S.findZ_eq
name_quick tw17429684086410527887 for PySem.W.S.findZ by PySem.W.S.findZ_eq
name_quick tw17434858337260393937 for PySem.W.S.findZ by PySem.W.S.findZ_eq
name_quick tw17475289236778735526 for PySem.W.S.findZ by PySem.W.S.findZ_eq
name_quick tw17476080006546285661 for PySem.W.S.findZ by PySem.W.S.findZ_eq
name_quick tw17497748084772794779 for PySem.W.S.findZ by PySem.W.S.findZ_eq
name_quick tw17503288770812694035 for PySem.W.S.findZ by PySem.W.S.findZ_eq
name_quick tw17520869792638436183 for PySem.W.S.findZ by PySem.W.S.findZ_eq
name_quick tw17532440430192770315 for PySem.W.S.findZ by PySem.W.S.findZ_eq
name_quick tw17532718790514356516 for PySem.W.S.findZ by PySem.W.S.findZ_eq
name_quick tw17537794083376710389 for PySem.W.S.findZ by PySem.W.S.findZ_eq
name_quick tw17543720450777214874 for PySem.W.S.findZ by PySem.W.S.findZ_eq
name_quick tw17554001833073541016 for PySem.W.S.findZ by PySem.W.S.findZ_eq
name_quick tw1763209079605825380 for PySem.W.S.findZ by PySem.W.S.findZ_eq
name_quick tw17650711565324242784 for PySem.W.S.findZ by PySem.W.S.findZ_eq
name_quick tw17672482021469178181 for PySem.W.S.findZ by PySem.W.S.findZ_eq
name_quick tw17679261114430710190 for PySem.W.S.findZ by PySem.W.S.findZ_eq
name_quick tw1771862750571323454 for PySem.W.S.findZ by PySem.W.S.findZ_eq
name_quick tw17719373434677690450 for PySem.W.S.findZ by PySem.W.S.findZ_eq
name_quick tw1772237422875290029 for PySem.W.S.findZ by PySem.W.S.findZ_eq
name_quick tw17730448691065144110 for PySem.W.S.findZ by PySem.W.S.findZ_eq
name_quick tw17768419659990539469 for PySem.W.S.findZ by PySem.W.S.findZ_eq
name_quick tw17803129079492736432 for PySem.W.S.findZ by PySem.W.S.findZ_eq
name_quick tw17804436615005485693 for PySem.W.S.findZ by PySem.W.S.findZ_eq
name_quick tw17814930658547583709 for PySem.W.S.findZ by PySem.W.S.findZ_eq
name_quick tw17815586953681464072 for PySem.W.S.findZ by PySem.W.S.findZ_eq
name_quick tw17827458813498177553 for PySem.W.S.findZ by PySem.W.S.findZ_eq
name_quick tw17828083071136270317 for PySem.W.S.findZ by PySem.W.S.findZ_eq
name_quick tw17842620306162639686 for PySem.W.S.findZ by PySem.W.S.findZ_eq
name_quick tw178441218286455893 for PySem.W.S.findZ by PySem.W.S.findZ_eq
name_quick tw17846936440860909165 for PySem.W.S.findZ by PySem.W.S.findZ_eq
name_quick tw17853915177807527196 for PySem.W.S.findZ by PySem.W.S.findZ_eq
name_quick tw17863021456227041891 for PySem.W.S.findZ by PySem.W.S.findZ_eq
name_quick tw17888162413812561239 for PySem.W.S.findZ by PySem.W.S.findZ_eq
name_quick tw17899373020297197333 for PySem.W.S.findZ by PySem.W.S.findZ_eq
name_quick tw17943406268862710625 for PySem.W.S.findZ by PySem.W.S.findZ_eq
name_quick tw17954471519018878134 for PySem.W.S.findZ by PySem.W.S.findZ_eq
name_quick tw17954736447514056666 for PySem.W.S.findZ by PySem.W.S.findZ_eq
name_quick tw17975652961387846372 for PySem.W.S.findZ by PySem.W.S.findZ_eq
name_quick tw17988542015724977305 for PySem.W.S.findZ by PySem.W.S.findZ_eq
name_quick tw17993156020533580102 for PySem.W.S.findZ by PySem.W.S.findZ_eq
name_quick tw18056578402003937789 for PySem.W.S.findZ by PySem.W.S.findZ_eq
name_quick tw18101931140130867144 for PySem.W.S.findZ by PySem.W.S.findZ_eq
name_quick tw18123110421147349612 for PySem.W.S.findZ by PySem.W.S.findZ_eq
name_quick tw18126140380344562322 for PySem.W.S.findZ by PySem.W.S.findZ_eq
name_quick tw18163462532019968843 for PySem.W.S.findZ by PySem.W.S.findZ_eq
name_quick tw18163708392712065173 for PySem.W.S.findZ by PySem.W.S.findZ_eq
name_quick tw1817086562840047905 for PySem.W.S.findZ by PySem.W.S.findZ_eq
name_quick tw18188234029961486008 for PySem.W.S.findZ by PySem.W.S.findZ_eq
name_quick tw18211773271919218964 for PySem.W.S.findZ by PySem.W.S.findZ_eq
name_quick tw18220123701641295943 for PySem.W.S.findZ by PySem.W.S.findZ_eq
name_quick tw18260038339965228139 for PySem.W.S.findZ by PySem.W.S.findZ_eq
name_quick tw18263319221461684349 for PySem.W.S.findZ by PySem.W.S.findZ_eq
name_quick tw18273839248471157720 for PySem.W.S.findZ by PySem.W.S.findZ_eq
name_quick tw1829445100760108279 for PySem.W.S.findZ by PySem.W.S.findZ_eq
name_quick tw18310272354389090212 for PySem.W.S.findZ by PySem.W.S.findZ_eq
name_quick tw18340240734955500558 for PySem.W.S.findZ by PySem.W.S.findZ_eq
name_quick tw18345786424863182364 for PySem.W.S.findZ by PySem.W.S.findZ_eq
name_quick tw18350330562280901221 for PySem.W.S.findZ by PySem.W.S.findZ_eq
name_quick tw18350638575300117064 for PySem.W.S.findZ by PySem.W.S.findZ_eq
name_quick tw183835017167291270 for PySem.W.S.findZ by PySem.W.S.findZ_eq
name_quick tw18410474027866654770 for PySem.W.S.findZ by PySem.W.S.findZ_eq
name_quick tw18416463498863911781 for PySem.W.S.findZ by PySem.W.S.findZ_eq
name_quick tw1869930749605803152 for PySem.W.S.findZ by PySem.W.S.findZ_eq
name_quick tw1886563365779066154 for PySem.W.S.findZ by PySem.W.S.findZ_eq
name_quick tw1962928258387122110 for PySem.W.S.findZ by PySem.W.S.findZ_eq
name_quick tw196644378293983589 for PySem.W.S.findZ by PySem.W.S.findZ_eq
name_quick tw2001226814458364393 for PySem.W.S.findZ by PySem.W.S.findZ_eq
name_quick tw2011108890870493169 for PySem.W.S.findZ by PySem.W.S.findZ_eq
name_quick tw2134368852220247820 for PySem.W.S.findZ by PySem.W.S.findZ_eq
name_quick tw2193789692954389824 for PySem.W.S.findZ by PySem.W.S.findZ_eq
name_quick tw219737044198020058 for PySem.W.S.findZ by PySem.W.S.findZ_eq
name_quick tw2315820567201803617 for PySem.W.S.findZ by PySem.W.S.findZ_eq
name_quick tw2334299552400917057 for PySem.W.S.findZ by PySem.W.S.findZ_eq
name_quick tw2354101950205528012 for PySem.W.S.findZ by PySem.W.S.findZ_eq
name_quick tw2364824441312284604 for PySem.W.S.findZ by PySem.W.S.findZ_eq
name_quick tw2370070277545300124 for PySem.W.S.findZ by PySem.W.S.findZ_eq
name_quick tw2370425770031549630 for PySem.W.S.findZ by PySem.W.S.findZ_eq
name_quick tw2378363196638174374 for PySem.W.S.findZ by PySem.W.S.findZ_eq
name_quick tw2401699919119007470 for PySem.W.S.findZ by PySem.W.S.findZ_eq
name_quick tw2422670821966735624 for PySem.W.S.findZ by PySem.W.S.findZ_eq
name_quick tw2447775223705975068 for PySem.W.S.findZ by PySem.W.S.findZ_eq
name_quick tw2460228577881660442 for PySem.W.S.findZ by PySem.W.S.findZ_eq
name_quick tw2478078296215019888 for PySem.W.S.findZ by PySem.W.S.findZ_eq
name_quick tw2504098582860672743 for PySem.W.S.findZ by PySem.W.S.findZ_eq
name_quick tw2506853364499732696 for PySem.W.S.findZ by PySem.W.S.findZ_eq
name_quick tw2569364866550412066 for PySem.W.S.findZ by PySem.W.S.findZ_eq
name_quick tw2571919107429820419 for PySem.W.S.findZ by PySem.W.S.findZ_eq
name_quick tw2599325451414397859 for PySem.W.S.findZ by PySem.W.S.findZ_eq
name_quick tw2611137233208623240 for PySem.W.S.findZ by PySem.W.S.findZ_eq
name_quick tw2627984346626558326 for PySem.W.S.findZ by PySem.W.S.findZ_eq
name_quick tw2660918139993853925 for PySem.W.S.findZ by PySem.W.S.findZ_eq
name_quick tw2664551874359636763 for PySem.W.S.findZ by PySem.W.S.findZ_eq
name_quick tw2670528217467546775 for PySem.W.S.findZ by PySem.W.S.findZ_eq
name_quick tw2674190319118857908 for PySem.W.S.findZ by PySem.W.S.findZ_eq
name_quick tw2711585505577850959 for PySem.W.S.findZ by PySem.W.S.findZ_eq
name_quick tw2719445374943340272 for PySem.W.S.findZ by PySem.W.S.findZ_eq
name_quick tw2736616831223182526 for PySem.W.S.findZ by PySem.W.S.findZ_eq
name_quick tw282004115355043989 for PySem.W.S.findZ by PySem.W.S.findZ_eq
name_quick tw2862820112641550484 for PySem.W.S.findZ by PySem.W.S.findZ_eq
name_quick tw2902314222560053993 for PySem.W.S.findZ by PySem.W.S.findZ_eq
name_quick tw2905824091091238844 for PySem.W.S.findZ by PySem.W.S.findZ_eq
name_quick tw2922074901204462755 for PySem.W.S.findZ by PySem.W.S.findZ_eq
name_quick tw2948108419219029167 for PySem.W.S.findZ by PySem.W.S.findZ_eq
name_quick tw2951486255847992690 for PySem.W.S.findZ by PySem.W.S.findZ_eq
name_quick tw2968979199505139716 for PySem.W.S.findZ by PySem.W.S.findZ_eq
name_quick tw3093977132361051618 for PySem.W.S.findZ by PySem.W.S.findZ_eq
name_quick tw3118938333895590913 for PySem.W.S.findZ by PySem.W.S.findZ_eq
name_quick tw3131671291697673992 for PySem.W.S.findZ by PySem.W.S.findZ_eq
name_quick tw313226197891681235 for PySem.W.S.findZ by PySem.W.S.findZ_eq
name_quick tw3142773779024712118 for PySem.W.S.findZ by PySem.W.S.findZ_eq
name_quick tw3152983702415266003 for PySem.W.S.findZ by PySem.W.S.findZ_eq
name_quick tw3209381107111851631 for PySem.W.S.findZ by PySem.W.S.findZ_eq
name_quick tw325292655437039998 for PySem.W.S.findZ by PySem.W.S.findZ_eq
name_quick tw3267979357774110234 for PySem.W.S.findZ by PySem.W.S.findZ_eq
name_quick tw3282434896037501709 for PySem.W.S.findZ by PySem.W.S.findZ_eq
name_quick tw3315324234476444515 for PySem.W.S.findZ by PySem.W.S.findZ_eq
name_quick tw3325841961599345399 for PySem.W.S.findZ by PySem.W.S.findZ_eq
name_quick tw3327986453032591115 for PySem.W.S.findZ by PySem.W.S.findZ_eq
name_quick tw3335403542217685292 for PySem.W.S.findZ by PySem.W.S.findZ_eq
name_quick tw3362959441861295915 for PySem.W.S.findZ by PySem.W.S.findZ_eq
name_quick tw3365093317950918147 for PySem.W.S.findZ by PySem.W.S.findZ_eq
name_quick tw3386650904741475044 for PySem.W.S.findZ by PySem.W.S.findZ_eq
name_quick tw3424931102881643321 for PySem.W.S.findZ by PySem.W.S.findZ_eq
name_quick tw3427515755752030745 for PySem.W.S.findZ by PySem.W.S.findZ_eq
name_quick tw3436264866546951355 for PySem.W.S.findZ by PySem.W.S.findZ_eq
name_quick tw3442601649717412197 for PySem.W.S.findZ by PySem.W.S.findZ_eq
name_quick tw3470799630455053000 for PySem.W.S.findZ by PySem.W.S.findZ_eq
name_quick tw347637069881736656 for PySem.W.S.findZ by PySem.W.S.findZ_eq
name_quick tw3504847659760329788 for PySem.W.S.findZ by PySem.W.S.findZ_eq
name_quick tw3560238982266916124 for PySem.W.S.findZ by PySem.W.S.findZ_eq
name_quick tw3577408171920636059 for PySem.W.S.findZ by PySem.W.S.findZ_eq
name_quick tw3619232141914619222 for PySem.W.S.findZ by PySem.W.S.findZ_eq
name_quick tw3636048126100218174 for PySem.W.S.findZ by PySem.W.S.findZ_eq
name_quick tw3695515675974049574 for PySem.W.S.findZ by PySem.W.S.findZ_eq
name_quick tw3698559305507148144 for PySem.W.S.findZ by PySem.W.S.findZ_eq
name_quick tw3740020263889925745 for PySem.W.S.findZ by PySem.W.S.findZ_eq
name_quick tw3764465048917985505 for PySem.W.S.findZ by PySem.W.S.findZ_eq
name_quick tw3766158894648301139 for PySem.W.S.findZ by PySem.W.S.findZ_eq
name_quick tw3768068617246420682 for PySem.W.S.findZ by PySem.W.S.findZ_eq
name_quick tw3797612339304411714 for PySem.W.S.findZ by PySem.W.S.findZ_eq
name_quick tw3820604794100220378 for PySem.W.S.findZ by PySem.W.S.findZ_eq
name_quick tw383695940523520267 for PySem.W.S.findZ by PySem.W.S.findZ_eq
name_quick tw3865406201487662470 for PySem.W.S.findZ by PySem.W.S.findZ_eq
name_quick tw387338674003428930 for PySem.W.S.findZ by PySem.W.S.findZ_eq
name_quick tw3880421473898291048 for PySem.W.S.findZ by PySem.W.S.findZ_eq
name_quick tw3891137856419664920 for PySem.W.S.findZ by PySem.W.S.findZ_eq
name_quick tw392140993173905013 for PySem.W.S.findZ by PySem.W.S.findZ_eq
name_quick tw3952652319720093869 for PySem.W.S.findZ by PySem.W.S.findZ_eq
name_quick tw3953757239420563355 for PySem.W.S.findZ by PySem.W.S.findZ_eq
name_quick tw3972328310683599613 for PySem.W.S.findZ by PySem.W.S.findZ_eq
name_quick tw3976722010076183465 for PySem.W.S.findZ by PySem.W.S.findZ_eq
name_quick tw4042386549635913901 for PySem.W.S.findZ by PySem.W.S.findZ_eq
name_quick tw4071324889030633612 for PySem.W.S.findZ by PySem.W.S.findZ_eq
name_quick tw4075660801711882420 for PySem.W.S.findZ by PySem.W.S.findZ_eq
name_quick tw4090926877573551719 for PySem.W.S.findZ by PySem.W.S.findZ_eq
name_quick tw411341824665146567 for PySem.W.S.findZ by PySem.W.S.findZ_eq
name_quick tw4172830789200971933 for PySem.W.S.findZ by PySem.W.S.findZ_eq
name_quick tw4224760802259116069 for PySem.W.S.findZ by PySem.W.S.findZ_eq
name_quick tw4275521005467322725 for PySem.W.S.findZ by PySem.W.S.findZ_eq
name_quick tw4287028408620065468 for PySem.W.S.findZ by PySem.W.S.findZ_eq
name_quick tw4292500188555128830 for PySem.W.S.findZ by PySem.W.S.findZ_eq
name_quick tw4299136966843209011 for PySem.W.S.findZ by PySem.W.S.findZ_eq
name_quick tw4302124980754421698 for PySem.W.S.findZ by PySem.W.S.findZ_eq
name_quick tw4318056027017086478 for PySem.W.S.findZ by PySem.W.S.findZ_eq
name_quick tw4319705520415482375 for PySem.W.S.findZ by PySem.W.S.findZ_eq
name_quick tw43969757491396457 for PySem.W.S.findZ by PySem.W.S.findZ_eq
name_quick tw4405960384096086239 for PySem.W.S.findZ by PySem.W.S.findZ_eq
name_quick tw4407734736301137906 for PySem.W.S.findZ by PySem.W.S.findZ_eq
name_quick tw4527066259768149269 for PySem.W.S.findZ by PySem.W.S.findZ_eq
name_quick tw4549333791460862111 for PySem.W.S.findZ by PySem.W.S.findZ_eq
name_quick tw4552823106982906706 for PySem.W.S.findZ by PySem.W.S.findZ_eq
name_quick tw4558998842232669794 for PySem.W.S.findZ by PySem.W.S.findZ_eq
name_quick tw460243522976405022 for PySem.W.S.findZ by PySem.W.S.findZ_eq
name_quick tw4613930686462287906 for PySem.W.S.findZ by PySem.W.S.findZ_eq
name_quick tw4636218855388986860 for PySem.W.S.findZ by PySem.W.S.findZ_eq
name_quick tw4658958612460137192 for PySem.W.S.findZ by PySem.W.S.findZ_eq
name_quick tw4679858250743294509 for PySem.W.S.findZ by PySem.W.S.findZ_eq
name_quick tw4681523508651956083 for PySem.W.S.findZ by PySem.W.S.findZ_eq
name_quick tw470574548607681690 for PySem.W.S.findZ by PySem.W.S.findZ_eq
name_quick tw4748654258956052638 for PySem.W.S.findZ by PySem.W.S.findZ_eq
name_quick tw4800724452203346748 for PySem.W.S.findZ by PySem.W.S.findZ_eq
name_quick tw4824431525194463578 for PySem.W.S.findZ by PySem.W.S.findZ_eq
name_quick tw4858009861420398278 for PySem.W.S.findZ by PySem.W.S.findZ_eq
name_quick tw4879560196417449868 for PySem.W.S.findZ by PySem.W.S.findZ_eq
name_quick tw4904739604578439355 for PySem.W.S.findZ by PySem.W.S.findZ_eq
name_quick tw4921902886906138986 for PySem.W.S.findZ by PySem.W.S.findZ_eq
name_quick tw4936483359421988267 for PySem.W.S.findZ by PySem.W.S.findZ_eq
name_quick tw4966893808263662355 for PySem.W.S.findZ by PySem.W.S.findZ_eq
name_quick tw4980102563643897964 for PySem.W.S.findZ by PySem.W.S.findZ_eq
name_quick tw5032809538720368765 for PySem.W.S.findZ by PySem.W.S.findZ_eq
name_quick tw503676674663206642 for PySem.W.S.findZ by PySem.W.S.findZ_eq
name_quick tw505943868828395459 for PySem.W.S.findZ by PySem.W.S.findZ_eq
name_quick tw5068434257544371817 for PySem.W.S.findZ by PySem.W.S.findZ_eq
name_quick tw5076957145309523181 for PySem.W.S.findZ by PySem.W.S.findZ_eq
name_quick tw5135500740108067664 for PySem.W.S.findZ by PySem.W.S.findZ_eq
name_quick tw5149714755402479525 for PySem.W.S.findZ by PySem.W.S.findZ_eq
name_quick tw5152784196030571298 for PySem.W.S.findZ by PySem.W.S.findZ_eq
name_quick tw5189142188285759775 for PySem.W.S.findZ by PySem.W.S.findZ_eq
name_quick tw5200128776193632040 for PySem.W.S.findZ by PySem.W.S.findZ_eq
name_quick tw5219266419695470693 for PySem.W.S.findZ by PySem.W.S.findZ_eq
name_quick tw5228443966233409354 for PySem.W.S.findZ by PySem.W.S.findZ_eq
name_quick tw5248340912204065574 for PySem.W.S.findZ by PySem.W.S.findZ_eq
name_quick tw5268983451555188008 for PySem.W.S.findZ by PySem.W.S.findZ_eq
name_quick tw5310036984924271277 for PySem.W.S.findZ by PySem.W.S.findZ_eq
name_quick tw5345256250457102556 for PySem.W.S.findZ by PySem.W.S.findZ_eq
name_quick tw5349121933718820234 for PySem.W.S.findZ by PySem.W.S.findZ_eq
name_quick tw535072334866317008 for PySem.W.S.findZ by PySem.W.S.findZ_eq
name_quick tw5357591511691535388 for PySem.W.S.findZ by PySem.W.S.findZ_eq
name_quick tw5386766301290243201 for PySem.W.S.findZ by PySem.W.S.findZ_eq
name_quick tw5396446701170858492 for PySem.W.S.findZ by PySem.W.S.findZ_eq
name_quick tw5450187663091677483 for PySem.W.S.findZ by PySem.W.S.findZ_eq
name_quick tw5529568453561195837 for PySem.W.S.findZ by PySem.W.S.findZ_eq
name_quick tw5565278806992967083 for PySem.W.S.findZ by PySem.W.S.findZ_eq
name_quick tw558745408833754511 for PySem.W.S.findZ by PySem.W.S.findZ_eq
name_quick tw563124612126607214 for PySem.W.S.findZ by PySem.W.S.findZ_eq
name_quick tw5646442142991981755 for PySem.W.S.findZ by PySem.W.S.findZ_eq
name_quick tw5697894365363955025 for PySem.W.S.findZ by PySem.W.S.findZ_eq
name_quick tw5701610774189311196 for PySem.W.S.findZ by PySem.W.S.findZ_eq
name_quick tw5720267713326709755 for PySem.W.S.findZ by PySem.W.S.findZ_eq
name_quick tw5721027456603625697 for PySem.W.S.findZ by PySem.W.S.findZ_eq
name_quick tw5732905514179830355 for PySem.W.S.findZ by PySem.W.S.findZ_eq
name_quick tw5758256569797452207 for PySem.W.S.findZ by PySem.W.S.findZ_eq
name_quick tw5770868932273138760 for PySem.W.S.findZ by PySem.W.S.findZ_eq
name_quick tw5823794197072137003 for PySem.W.S.findZ by PySem.W.S.findZ_eq
name_quick tw5832503352825792928 for PySem.W.S.findZ by PySem.W.S.findZ_eq
name_quick tw5853609219237828028 for PySem.W.S.findZ by PySem.W.S.findZ_eq
name_quick tw5862295025349918931 for PySem.W.S.findZ by PySem.W.S.findZ_eq
name_quick tw5882768191206486792 for PySem.W.S.findZ by PySem.W.S.findZ_eq
name_quick tw5923252988546675246 for PySem.W.S.findZ by PySem.W.S.findZ_eq
name_quick tw5925582254088234700 for PySem.W.S.findZ by PySem.W.S.findZ_eq
name_quick tw5950129339639070837 for PySem.W.S.findZ by PySem.W.S.findZ_eq
name_quick tw5952267759425050802 for PySem.W.S.findZ by PySem.W.S.findZ_eq
name_quick tw5976474108018559520 for PySem.W.S.findZ by PySem.W.S.findZ_eq
name_quick tw5978237884098788730 for PySem.W.S.findZ by PySem.W.S.findZ_eq
name_quick tw6004533443673955352 for PySem.W.S.findZ by PySem.W.S.findZ_eq
name_quick tw6019396324639902685 for PySem.W.S.findZ by PySem.W.S.findZ_eq
name_quick tw6059929106960060952 for PySem.W.S.findZ by PySem.W.S.findZ_eq
name_quick tw607167704815816724 for PySem.W.S.findZ by PySem.W.S.findZ_eq
name_quick tw608726401823008365 for PySem.W.S.findZ by PySem.W.S.findZ_eq
name_quick tw6090905460779295987 for PySem.W.S.findZ by PySem.W.S.findZ_eq
name_quick tw6123655918767846522 for PySem.W.S.findZ by PySem.W.S.findZ_eq
name_quick tw6125931036764729998 for PySem.W.S.findZ by PySem.W.S.findZ_eq
name_quick tw6127375697748050860 for PySem.W.S.findZ by PySem.W.S.findZ_eq
name_quick tw6132934438814934913 for PySem.W.S.findZ by PySem.W.S.findZ_eq
name_quick tw6135381517318000843 for PySem.W.S.findZ by PySem.W.S.findZ_eq
name_quick tw6144853644547557980 for PySem.W.S.findZ by PySem.W.S.findZ_eq
name_quick tw6148621092414575339 for PySem.W.S.findZ by PySem.W.S.findZ_eq
name_quick tw6176516700144440145 for PySem.W.S.findZ by PySem.W.S.findZ_eq
name_quick tw6179359751918216688 for PySem.W.S.findZ by PySem.W.S.findZ_eq
name_quick tw618205885557783147 for PySem.W.S.findZ by PySem.W.S.findZ_eq
name_quick tw6213141578215901147 for PySem.W.S.findZ by PySem.W.S.findZ_eq
name_quick tw6214688769961185500 for PySem.W.S.findZ by PySem.W.S.findZ_eq
name_quick tw6245536207120538393 for PySem.W.S.findZ by PySem.W.S.findZ_eq
name_quick tw6250672158363226905 for PySem.W.S.findZ by PySem.W.S.findZ_eq
name_quick tw6363645014702824404 for PySem.W.S.findZ by PySem.W.S.findZ_eq
name_quick tw6380047634161181297 for PySem.W.S.findZ by PySem.W.S.findZ_eq
name_quick tw6380782515089751550 for PySem.W.S.findZ by PySem.W.S.findZ_eq
name_quick tw6426273055680023932 for PySem.W.S.findZ by PySem.W.S.findZ_eq
name_quick tw6434138532213402376 for PySem.W.S.findZ by PySem.W.S.findZ_eq
name_quick tw6434265647005701932 for PySem.W.S.findZ by PySem.W.S.findZ_eq
name_quick tw6448080314894763839 for PySem.W.S.findZ by PySem.W.S.findZ_eq
name_quick tw6519424955469430661 for PySem.W.S.findZ by PySem.W.S.findZ_eq
name_quick tw6523098627680743467 for PySem.W.S.findZ by PySem.W.S.findZ_eq
name_quick tw6550987210724342151 for PySem.W.S.findZ by PySem.W.S.findZ_eq
name_quick tw6580340599500149305 for PySem.W.S.findZ by PySem.W.S.findZ_eq
name_quick tw6587116730350146372 for PySem.W.S.findZ by PySem.W.S.findZ_eq
name_quick tw6589095468515690095 for PySem.W.S.findZ by PySem.W.S.findZ_eq
name_quick tw6607189417530752870 for PySem.W.S.findZ by PySem.W.S.findZ_eq
name_quick tw6624491594363574236 for PySem.W.S.findZ by PySem.W.S.findZ_eq
name_quick tw6654550962395885724 for PySem.W.S.findZ by PySem.W.S.findZ_eq
name_quick tw6662432510661729299 for PySem.W.S.findZ by PySem.W.S.findZ_eq
name_quick tw667198328695590252 for PySem.W.S.findZ by PySem.W.S.findZ_eq
name_quick tw6679490504615227074 for PySem.W.S.findZ by PySem.W.S.findZ_eq
name_quick tw6683783046931543321 for PySem.W.S.findZ by PySem.W.S.findZ_eq
name_quick tw6711915476519705758 for PySem.W.S.findZ by PySem.W.S.findZ_eq
name_quick tw6714822604882049554 for PySem.W.S.findZ by PySem.W.S.findZ_eq
name_quick tw6722154040420286063 for PySem.W.S.findZ by PySem.W.S.findZ_eq
name_quick tw6735346659252874535 for PySem.W.S.findZ by PySem.W.S.findZ_eq
name_quick tw6760867035383208335 for PySem.W.S.findZ by PySem.W.S.findZ_eq
name_quick tw6789855027759293466 for PySem.W.S.findZ by PySem.W.S.findZ_eq
name_quick tw6792406925840432001 for PySem.W.S.findZ by PySem.W.S.findZ_eq
name_quick tw6813294653679155843 for PySem.W.S.findZ by PySem.W.S.findZ_eq
name_quick tw6817277305950994716 for PySem.W.S.findZ by PySem.W.S.findZ_eq
name_quick tw682011567655089306 for PySem.W.S.findZ by PySem.W.S.findZ_eq
name_quick tw6832808476680081064 for PySem.W.S.findZ by PySem.W.S.findZ_eq
name_quick tw6834602518627153040 for PySem.W.S.findZ by PySem.W.S.findZ_eq
name_quick tw6891000109920058784 for PySem.W.S.findZ by PySem.W.S.findZ_eq
name_quick tw6909570525239066004 for PySem.W.S.findZ by PySem.W.S.findZ_eq
name_quick tw6929956602132211858 for PySem.W.S.findZ by PySem.W.S.findZ_eq
name_quick tw6952355047532471503 for PySem.W.S.findZ by PySem.W.S.findZ_eq
name_quick tw6967401301877209104 for PySem.W.S.findZ by PySem.W.S.findZ_eq
name_quick tw6993175162768986339 for PySem.W.S.findZ by PySem.W.S.findZ_eq
name_quick tw7009043117176579089 for PySem.W.S.findZ by PySem.W.S.findZ_eq
name_quick tw7035115661146626270 for PySem.W.S.findZ by PySem.W.S.findZ_eq
name_quick tw704327219915372674 for PySem.W.S.findZ by PySem.W.S.findZ_eq
name_quick tw7057405563618977329 for PySem.W.S.findZ by PySem.W.S.findZ_eq
name_quick tw7074795694173733578 for PySem.W.S.findZ by PySem.W.S.findZ_eq
name_quick tw7082770336023389322 for PySem.W.S.findZ by PySem.W.S.findZ_eq
name_quick tw7098571738820278039 for PySem.W.S.findZ by PySem.W.S.findZ_eq
name_quick tw7140130562030077042 for PySem.W.S.findZ by PySem.W.S.findZ_eq
name_quick tw716658179208862652 for PySem.W.S.findZ by PySem.W.S.findZ_eq
name_quick tw7195987923619896802 for PySem.W.S.findZ by PySem.W.S.findZ_eq
name_quick tw7198390536060210744 for PySem.W.S.findZ by PySem.W.S.findZ_eq
name_quick tw721709456127091705 for PySem.W.S.findZ by PySem.W.S.findZ_eq
name_quick tw7229665172594901996 for PySem.W.S.findZ by PySem.W.S.findZ_eq
name_quick tw7232422423428716515 for PySem.W.S.findZ by PySem.W.S.findZ_eq
name_quick tw724751600484774222 for PySem.W.S.findZ by PySem.W.S.findZ_eq
name_quick tw725871291056497461 for PySem.W.S.findZ by PySem.W.S.findZ_eq
name_quick tw7269565832213808900 for PySem.W.S.findZ by PySem.W.S.findZ_eq
name_quick tw7275051467321613617 for PySem.W.S.findZ by PySem.W.S.findZ_eq
name_quick tw7276740287692124622 for PySem.W.S.findZ by PySem.W.S.findZ_eq
name_quick tw7286323032743288035 for PySem.W.S.findZ by PySem.W.S.findZ_eq
name_quick tw7299303143086499733 for PySem.W.S.findZ by PySem.W.S.findZ_eq
name_quick tw7299951869573292228 for PySem.W.S.findZ by PySem.W.S.findZ_eq
name_quick tw7323676302269181137 for PySem.W.S.findZ by PySem.W.S.findZ_eq
name_quick tw7392212959928792091 for PySem.W.S.findZ by PySem.W.S.findZ_eq
name_quick tw7397068168572129948 for PySem.W.S.findZ by PySem.W.S.findZ_eq
name_quick tw7401281599722004195 for PySem.W.S.findZ by PySem.W.S.findZ_eq
name_quick tw7405434945208526273 for PySem.W.S.findZ by PySem.W.S.findZ_eq
name_quick tw7442322636096158391 for PySem.W.S.findZ by PySem.W.S.findZ_eq
name_quick tw7469732015759309437 for PySem.W.S.findZ by PySem.W.S.findZ_eq
name_quick tw7483462131439158144 for PySem.W.S.findZ by PySem.W.S.findZ_eq
name_quick tw7496433998918960881 for PySem.W.S.findZ by PySem.W.S.findZ_eq
name_quick tw7504490480230193789 for PySem.W.S.findZ by PySem.W.S.findZ_eq
name_quick tw757081541053455785 for PySem.W.S.findZ by PySem.W.S.findZ_eq
name_quick tw7573151900890175926 for PySem.W.S.findZ by PySem.W.S.findZ_eq
name_quick tw7574553109774388169 for PySem.W.S.findZ by PySem.W.S.findZ_eq
name_quick tw7585139358526817783 for PySem.W.S.findZ by PySem.W.S.findZ_eq
name_quick tw7618406622816332465 for PySem.W.S.findZ by PySem.W.S.findZ_eq
name_quick tw7619357645376055252 for PySem.W.S.findZ by PySem.W.S.findZ_eq
name_quick tw764782834095389478 for PySem.W.S.findZ by PySem.W.S.findZ_eq
name_quick tw7650934615059315214 for PySem.W.S.findZ by PySem.W.S.findZ_eq
name_quick tw7670514497116975361 for PySem.W.S.findZ by PySem.W.S.findZ_eq
name_quick tw7733015712792483723 for PySem.W.S.findZ by PySem.W.S.findZ_eq
name_quick tw774047393022817027 for PySem.W.S.findZ by PySem.W.S.findZ_eq
name_quick tw7745614565497352828 for PySem.W.S.findZ by PySem.W.S.findZ_eq
name_quick tw7783732958741208154 for PySem.W.S.findZ by PySem.W.S.findZ_eq
name_quick tw7788680626742099145 for PySem.W.S.findZ by PySem.W.S.findZ_eq
name_quick tw7802139600951554647 for PySem.W.S.findZ by PySem.W.S.findZ_eq
name_quick tw7892128664451923741 for PySem.W.S.findZ by PySem.W.S.findZ_eq
name_quick tw7987952416473584550 for PySem.W.S.findZ by PySem.W.S.findZ_eq
name_quick tw8017206721242287953 for PySem.W.S.findZ by PySem.W.S.findZ_eq
name_quick tw8032284361305108907 for PySem.W.S.findZ by PySem.W.S.findZ_eq
name_quick tw8047484207015712433 for PySem.W.S.findZ by PySem.W.S.findZ_eq
name_quick tw8075568018651887793 for PySem.W.S.findZ by PySem.W.S.findZ_eq
name_quick tw8098380416015320538 for PySem.W.S.findZ by PySem.W.S.findZ_eq
name_quick tw8119918657739134586 for PySem.W.S.findZ by PySem.W.S.findZ_eq
name_quick tw8125055898148337911 for PySem.W.S.findZ by PySem.W.S.findZ_eq
name_quick tw8172093975534723114 for PySem.W.S.findZ by PySem.W.S.findZ_eq
name_quick tw8180830640274347804 for PySem.W.S.findZ by PySem.W.S.findZ_eq
name_quick tw8206430501311747189 for PySem.W.S.findZ by PySem.W.S.findZ_eq
name_quick tw8224813933742928703 for PySem.W.S.findZ by PySem.W.S.findZ_eq
name_quick tw8253183596043897158 for PySem.W.S.findZ by PySem.W.S.findZ_eq
name_quick tw8376441433122354887 for PySem.W.S.findZ by PySem.W.S.findZ_eq
name_quick tw8385612375773290118 for PySem.W.S.findZ by PySem.W.S.findZ_eq
name_quick tw8400853705098224536 for PySem.W.S.findZ by PySem.W.S.findZ_eq
name_quick tw8424611434330503625 for PySem.W.S.findZ by PySem.W.S.findZ_eq
name_quick tw8430678208038309684 for PySem.W.S.findZ by PySem.W.S.findZ_eq
name_quick tw8450942572126056277 for PySem.W.S.findZ by PySem.W.S.findZ_eq
name_quick tw8459811325457737761 for PySem.W.S.findZ by PySem.W.S.findZ_eq
name_quick tw8488268690174267210 for PySem.W.S.findZ by PySem.W.S.findZ_eq
name_quick tw8537084889766193716 for PySem.W.S.findZ by PySem.W.S.findZ_eq
name_quick tw8540232549379673566 for PySem.W.S.findZ by PySem.W.S.findZ_eq
name_quick tw856264945809894966 for PySem.W.S.findZ by PySem.W.S.findZ_eq
name_quick tw8579058602437062094 for PySem.W.S.findZ by PySem.W.S.findZ_eq
name_quick tw8595292554425487202 for PySem.W.S.findZ by PySem.W.S.findZ_eq
name_quick tw8603108125212654177 for PySem.W.S.findZ by PySem.W.S.findZ_eq
name_quick tw8610040677353227653 for PySem.W.S.findZ by PySem.W.S.findZ_eq
name_quick tw8642067239939848140 for PySem.W.S.findZ by PySem.W.S.findZ_eq
name_quick tw8649964590619651473 for PySem.W.S.findZ by PySem.W.S.findZ_eq
name_quick tw8656719876789144132 for PySem.W.S.findZ by PySem.W.S.findZ_eq
name_quick tw8658103293671471659 for PySem.W.S.findZ by PySem.W.S.findZ_eq
name_quick tw8686407601681055034 for PySem.W.S.findZ by PySem.W.S.findZ_eq
name_quick tw8704618095886561957 for PySem.W.S.findZ by PySem.W.S.findZ_eq
name_quick tw8708707556590381134 for PySem.W.S.findZ by PySem.W.S.findZ_eq
name_quick tw8719427161674164953 for PySem.W.S.findZ by PySem.W.S.findZ_eq
name_quick tw8727135674562949291 for PySem.W.S.findZ by PySem.W.S.findZ_eq
name_quick tw8732485361984058174 for PySem.W.S.findZ by PySem.W.S.findZ_eq
name_quick tw8753696776887207221 for PySem.W.S.findZ by PySem.W.S.findZ_eq
name_quick tw8770023094457601474 for PySem.W.S.findZ by PySem.W.S.findZ_eq
name_quick tw8777329075199875621 for PySem.W.S.findZ by PySem.W.S.findZ_eq
name_quick tw878741703135273975 for PySem.W.S.findZ by PySem.W.S.findZ_eq
name_quick tw8796240567053077481 for PySem.W.S.findZ by PySem.W.S.findZ_eq
name_quick tw8800560270773162519 for PySem.W.S.findZ by PySem.W.S.findZ_eq
name_quick tw8802822988693486460 for PySem.W.S.findZ by PySem.W.S.findZ_eq
name_quick tw8860024209350480642 for PySem.W.S.findZ by PySem.W.S.findZ_eq
name_quick tw8881496252177385917 for PySem.W.S.findZ by PySem.W.S.findZ_eq
name_quick tw8946543629884556368 for PySem.W.S.findZ by PySem.W.S.findZ_eq
name_quick tw8987815912523675519 for PySem.W.S.findZ by PySem.W.S.findZ_eq
name_quick tw8989982439271903415 for PySem.W.S.findZ by PySem.W.S.findZ_eq
name_quick tw8999186272805695465 for PySem.W.S.findZ by PySem.W.S.findZ_eq
name_quick tw9011979029575296479 for PySem.W.S.findZ by PySem.W.S.findZ_eq
name_quick tw912392155897948271 for PySem.W.S.findZ by PySem.W.S.findZ_eq
name_quick tw9182703555413624314 for PySem.W.S.findZ by PySem.W.S.findZ_eq
name_quick tw9206804518496725263 for PySem.W.S.findZ by PySem.W.S.findZ_eq
name_quick tw921073385446354868 for PySem.W.S.findZ by PySem.W.S.findZ_eq
name_quick tw9219426015542480343 for PySem.W.S.findZ by PySem.W.S.findZ_eq
name_quick tw9236875199018929784 for PySem.W.S.findZ by PySem.W.S.findZ_eq
name_quick tw9285146279643344392 for PySem.W.S.findZ by PySem.W.S.findZ_eq
name_quick tw9300948228871686676 for PySem.W.S.findZ by PySem.W.S.findZ_eq
name_quick tw9305782018832362445 for PySem.W.S.findZ by PySem.W.S.findZ_eq
name_quick tw930746551332336609 for PySem.W.S.findZ by PySem.W.S.findZ_eq
name_quick tw932993149863042379 for PySem.W.S.findZ by PySem.W.S.findZ_eq
name_quick tw9376109419431680627 for PySem.W.S.findZ by PySem.W.S.findZ_eq
name_quick tw9396933662098498411 for PySem.W.S.findZ by PySem.W.S.findZ_eq
name_quick tw9413167413068371254 for PySem.W.S.findZ by PySem.W.S.findZ_eq
name_quick tw9436652128876820446 for PySem.W.S.findZ by PySem.W.S.findZ_eq
name_quick tw9467589175468403638 for PySem.W.S.findZ by PySem.W.S.findZ_eq
name_quick tw9501820088010722379 for PySem.W.S.findZ by PySem.W.S.findZ_eq
name_quick tw9504726810853072989 for PySem.W.S.findZ by PySem.W.S.findZ_eq
name_quick tw951843321253372498 for PySem.W.S.findZ by PySem.W.S.findZ_eq
name_quick tw9529234661008812162 for PySem.W.S.findZ by PySem.W.S.findZ_eq
name_quick tw9537544019596298400 for PySem.W.S.findZ by PySem.W.S.findZ_eq
name_quick tw9564595351457756722 for PySem.W.S.findZ by PySem.W.S.findZ_eq
name_quick tw9575731206691268911 for PySem.W.S.findZ by PySem.W.S.findZ_eq
name_quick tw9577309144901391297 for PySem.W.S.findZ by PySem.W.S.findZ_eq
name_quick tw9594665118957945026 for PySem.W.S.findZ by PySem.W.S.findZ_eq
name_quick tw9626621113073979434 for PySem.W.S.findZ by PySem.W.S.findZ_eq
name_quick tw9674257727999782656 for PySem.W.S.findZ by PySem.W.S.findZ_eq
name_quick tw9676229304581654039 for PySem.W.S.findZ by PySem.W.S.findZ_eq
name_quick tw9691624938235723451 for PySem.W.S.findZ by PySem.W.S.findZ_eq
name_quick tw9720828393056574044 for PySem.W.S.findZ by PySem.W.S.findZ_eq
name_quick tw973662469405803806 for PySem.W.S.findZ by PySem.W.S.findZ_eq
name_quick tw9736788993784561348 for PySem.W.S.findZ by PySem.W.S.findZ_eq
name_quick tw9759809726879904816 for PySem.W.S.findZ by PySem.W.S.findZ_eq
name_quick tw9763268239775435451 for PySem.W.S.findZ by PySem.W.S.findZ_eq
name_quick tw9787396351842916947 for PySem.W.S.findZ by PySem.W.S.findZ_eq
name_quick tw9787463984185863102 for PySem.W.S.findZ by PySem.W.S.findZ_eq
name_quick tw9800571698397750058 for PySem.W.S.findZ by PySem.W.S.findZ_eq
name_quick tw9821368406582625841 for PySem.W.S.findZ by PySem.W.S.findZ_eq
name_quick tw9908251947323293946 for PySem.W.S.findZ by PySem.W.S.findZ_eq
name_quick tw9924806364573543464 for PySem.W.S.findZ by PySem.W.S.findZ_eq
name_quick tw9931943479562821362 for PySem.W.S.findZ by PySem.W.S.findZ_eq
name_quick tw9948023125614773506 for PySem.W.S.findZ by PySem.W.S.findZ_eq
name_quick tw9949986773486449285 for PySem.W.S.findZ by PySem.W.S.findZ_eq
name_quick tw9951705424602377420 for PySem.W.S.findZ by PySem.W.S.findZ_eq
name_quick tw9976185976690106402 for PySem.W.S.findZ by PySem.W.S.findZ_eq
name_quick tw9979284746773624096 for PySem.W.S.findZ by PySem.W.S.findZ_eq
namespace Mine
open_top hd for PySem.Challenge.rw_qd0132_01
theorem fill_all : PySem.Challenge.rw_qd0132_01 = PySem.Challenge.rw_qd0132_01 ∧ (∀ P, hd.heap_39 P = hd.heap_39 P) := by w_top off; k_fill; exact ⟨rfl, fun _ => rfl⟩
theorem up {M : Model} {A : Around} {α : Type} {t : Sem α} {Q : α → Shared → Prop} {E : Value → Shared → Prop} {s : Shared} {D U : Nat} (h : wpAny M { A with depth := D, units := U } t Q E s) (hd : A.depth ≤ D) (hu : A.units ≤ U) : wpAny M A t Q E s :=
  fun Γ p hΓ => h Γ p ⟨hΓ.1, Nat.le_trans hΓ.2.1 hd, hΓ.2.2.1, hΓ.2.2.2.1, Nat.le_trans hΓ.2.2.2.2 hu⟩
/-- a call of a text's def at depth D and units U -/
noncomputable abbrev CallAt (D U : Nat) (prog : Program) (w : World) (gd : Option (List Code)) (cn : Str) (cs : Scope) (L a : Addr) (ccd : Value) (cl : List (Str × Addr)) (outer : List Env) (f : Addr) (vs : List Value) (Q E : Value → Shared → Prop) (s : Shared) : Prop :=
  wpAny (model prog w) (ktrTop D U gd cn cs L a ccd cl outer) (call (.ref f) vs) Q E s
theorem nt1 {h₀ h : Heap} {L : Addr} {x : Addr × Obj} {l : List (Addr × Obj)} (N : News h₀ L h (x :: l)) : News h₀ L h l := fun p hp => N p (.tail _ hp)
theorem nt2 {h₀ h : Heap} {L : Addr} {x y : Addr × Obj} {l : List (Addr × Obj)} (N : News h₀ L h (x :: y :: l)) : News h₀ L h l := fun p hp => N p (.tail _ (.tail _ hp))

theorem allLt_mem {d : Nat} {l : List (Addr × Obj)} (h : AllLt d l) : ∀ q ∈ l, @LT.lt Nat _ q.1 d := by
  induction l with
  | nil => exact fun q hq => absurd hq List.not_mem_nil
  | cons p r ih => exact List.forall_mem_cons.mpr ⟨h.1, ih h.2⟩
theorem allLt_ne {d x : Nat} {l : List (Addr × Obj)} (h : AllLt d l) (hx : d ≤ x) : ∀ q ∈ l, q.1 ≠ x := fun q hq => Nat.ne_of_lt (Nat.lt_of_lt_of_le (allLt_mem h q hq) hx)

/-- a cut behind the first statement: its states -/
structure CutAt (h₀ : Heap) (L : Addr) (s : Shared) {σ : Type} (fm : σ → Str → Option Value) (led : σ → List (Addr × Obj)) (fact : σ → Prop) (s' : Shared) : Prop where
  ex : ∃ c h' tk, s' = { s with heap := h', toks := tk } ∧ Fr h₀ L h' (fm c) ∧ News h₀ L h' (led c) ∧ fact c
theorem CutAt.of {h₀ : Heap} {L : Addr} {s : Shared} {σ : Type} {fm : σ → Str → Option Value} {led : σ → List (Addr × Obj)} {fact : σ → Prop} {h' : Heap} {tk : Nat} (c : σ) (F : Fr h₀ L h' (fm c)) (N : News h₀ L h' (led c)) (hf : fact c) :
    CutAt h₀ L s fm led fact { s with heap := h', toks := tk } := ⟨c, h', tk, rfl, F, N, hf⟩
theorem cut {M : Model} {A : Around} {env : Env} {st : Stmt} {rest : List Stmt} {Q : Flow → Shared → Prop} {E : Value → Shared → Prop} {s : Shared} {h₀ : Heap} {L : Addr} {m : Str → Option Value} (F : Fr h₀ L s.heap m) {σ : Type} (fm : (Str → Option Value) → σ → Str → Option Value) (led : σ → List (Addr × Obj)) (fact : σ → Prop)
    (h1 : wpAny M A (exec st env) (fun f s' => match f with | .next => CutAt h₀ L s (fm m) led fact s' | f => Q f s') E s)
    (h2 : ∀ c h' tk, Fr h₀ L h' (fm m c) → News h₀ L h' (led c) → fact c → wpAny M A (execs rest env) Q E { s with heap := h', toks := tk }) : wpAny M A (execs (st :: rest) env) Q E s :=
  wpAny_execs_cons (wpAny_mono h1 (fun f s' h => by
    cases f with
    | next => obtain ⟨c, h', tk, rfl, F, N, hc⟩ := h; exact h2 c h' tk F N hc
    | _ => exact h) fun _ _ x => x)

theorem mem1 {p : Addr × Obj} {l : List (Addr × Obj)} {x0 : Addr × Obj} (h : p ∈ l) : p ∈ x0 :: l := List.mem_cons_of_mem _ (h)
theorem mem2 {p : Addr × Obj} {l : List (Addr × Obj)} {x0 x1 : Addr × Obj} (h : p ∈ l) : p ∈ x0 :: x1 :: l := List.mem_cons_of_mem _ (List.mem_cons_of_mem _ (h))
theorem mem3 {p : Addr × Obj} {l : List (Addr × Obj)} {x0 x1 x2 : Addr × Obj} (h : p ∈ l) : p ∈ x0 :: x1 :: x2 :: l := List.mem_cons_of_mem _ (List.mem_cons_of_mem _ (List.mem_cons_of_mem _ (h)))
theorem mem4 {p : Addr × Obj} {l : List (Addr × Obj)} {x0 x1 x2 x3 : Addr × Obj} (h : p ∈ l) : p ∈ x0 :: x1 :: x2 :: x3 :: l := List.mem_cons_of_mem _ (List.mem_cons_of_mem _ (List.mem_cons_of_mem _ (List.mem_cons_of_mem _ (h))))
theorem mem5 {p : Addr × Obj} {l : List (Addr × Obj)} {x0 x1 x2 x3 x4 : Addr × Obj} (h : p ∈ l) : p ∈ x0 :: x1 :: x2 :: x3 :: x4 :: l := List.mem_cons_of_mem _ (List.mem_cons_of_mem _ (List.mem_cons_of_mem _ (List.mem_cons_of_mem _ (List.mem_cons_of_mem _ (h)))))
theorem mem6 {p : Addr × Obj} {l : List (Addr × Obj)} {x0 x1 x2 x3 x4 x5 : Addr × Obj} (h : p ∈ l) : p ∈ x0 :: x1 :: x2 :: x3 :: x4 :: x5 :: l := List.mem_cons_of_mem _ (List.mem_cons_of_mem _ (List.mem_cons_of_mem _ (List.mem_cons_of_mem _ (List.mem_cons_of_mem _ (List.mem_cons_of_mem _ (h))))))
theorem mem7 {p : Addr × Obj} {l : List (Addr × Obj)} {x0 x1 x2 x3 x4 x5 x6 : Addr × Obj} (h : p ∈ l) : p ∈ x0 :: x1 :: x2 :: x3 :: x4 :: x5 :: x6 :: l := List.mem_cons_of_mem _ (List.mem_cons_of_mem _ (List.mem_cons_of_mem _ (List.mem_cons_of_mem _ (List.mem_cons_of_mem _ (List.mem_cons_of_mem _ (List.mem_cons_of_mem _ (h)))))))
theorem mem8 {p : Addr × Obj} {l : List (Addr × Obj)} {x0 x1 x2 x3 x4 x5 x6 x7 : Addr × Obj} (h : p ∈ l) : p ∈ x0 :: x1 :: x2 :: x3 :: x4 :: x5 :: x6 :: x7 :: l := List.mem_cons_of_mem _ (List.mem_cons_of_mem _ (List.mem_cons_of_mem _ (List.mem_cons_of_mem _ (List.mem_cons_of_mem _ (List.mem_cons_of_mem _ (List.mem_cons_of_mem _ (List.mem_cons_of_mem _ (h))))))))
theorem mem9 {p : Addr × Obj} {l : List (Addr × Obj)} {x0 x1 x2 x3 x4 x5 x6 x7 x8 : Addr × Obj} (h : p ∈ l) : p ∈ x0 :: x1 :: x2 :: x3 :: x4 :: x5 :: x6 :: x7 :: x8 :: l := List.mem_cons_of_mem _ (List.mem_cons_of_mem _ (List.mem_cons_of_mem _ (List.mem_cons_of_mem _ (List.mem_cons_of_mem _ (List.mem_cons_of_mem _ (List.mem_cons_of_mem _ (List.mem_cons_of_mem _ (List.mem_cons_of_mem _ (h)))))))))
theorem mem10 {p : Addr × Obj} {l : List (Addr × Obj)} {x0 x1 x2 x3 x4 x5 x6 x7 x8 x9 : Addr × Obj} (h : p ∈ l) : p ∈ x0 :: x1 :: x2 :: x3 :: x4 :: x5 :: x6 :: x7 :: x8 :: x9 :: l := List.mem_cons_of_mem _ (List.mem_cons_of_mem _ (List.mem_cons_of_mem _ (List.mem_cons_of_mem _ (List.mem_cons_of_mem _ (List.mem_cons_of_mem _ (List.mem_cons_of_mem _ (List.mem_cons_of_mem _ (List.mem_cons_of_mem _ (List.mem_cons_of_mem _ (h))))))))))
theorem split2 {r : Int} (h1 : r < 2) (h0 : 0 ≤ r) : r = 0 ∨ r = 1 := by
  obtain ⟨k, rfl⟩ := Int.eq_ofNat_of_zero_le h0
  exact (by decide : ∀ k : Nat, k < 2 → ((k : Int) = 0 ∨ (k : Int) = 1)) k (Int.ofNat_lt.mp h1)
theorem split3 {r : Int} (h1 : r < 3) (h0 : 0 ≤ r) : r = 0 ∨ r = 1 ∨ r = 2 := by
  obtain ⟨k, rfl⟩ := Int.eq_ofNat_of_zero_le h0
  exact (by decide : ∀ k : Nat, k < 3 → ((k : Int) = 0 ∨ (k : Int) = 1 ∨ (k : Int) = 2)) k (Int.ofNat_lt.mp h1)
theorem split4 {r : Int} (h1 : r < 4) (h0 : 0 ≤ r) : r = 0 ∨ r = 1 ∨ r = 2 ∨ r = 3 := by
  obtain ⟨k, rfl⟩ := Int.eq_ofNat_of_zero_le h0
  exact (by decide : ∀ k : Nat, k < 4 → ((k : Int) = 0 ∨ (k : Int) = 1 ∨ (k : Int) = 2 ∨ (k : Int) = 3)) k (Int.ofNat_lt.mp h1)
theorem split5 {r : Int} (h1 : r < 5) (h0 : 0 ≤ r) : r = 0 ∨ r = 1 ∨ r = 2 ∨ r = 3 ∨ r = 4 := by
  obtain ⟨k, rfl⟩ := Int.eq_ofNat_of_zero_le h0
  exact (by decide : ∀ k : Nat, k < 5 → ((k : Int) = 0 ∨ (k : Int) = 1 ∨ (k : Int) = 2 ∨ (k : Int) = 3 ∨ (k : Int) = 4)) k (Int.ofNat_lt.mp h1)
theorem split6 {r : Int} (h1 : r < 6) (h0 : 0 ≤ r) : r = 0 ∨ r = 1 ∨ r = 2 ∨ r = 3 ∨ r = 4 ∨ r = 5 := by
  obtain ⟨k, rfl⟩ := Int.eq_ofNat_of_zero_le h0
  exact (by decide : ∀ k : Nat, k < 6 → ((k : Int) = 0 ∨ (k : Int) = 1 ∨ (k : Int) = 2 ∨ (k : Int) = 3 ∨ (k : Int) = 4 ∨ (k : Int) = 5)) k (Int.ofNat_lt.mp h1)
theorem cut_len2 {x y : Int} {n k : Nat} (x0 : 0 ≤ x) (xy : x ≤ y) (yn : y ≤ n) (h : k = min (y.toNat - x.toNat) (n - x.toNat)) : (k : Int) = y - x := by
  obtain ⟨a, rfl⟩ := Int.eq_ofNat_of_zero_le x0
  obtain ⟨b, rfl⟩ := Int.eq_ofNat_of_zero_le (Int.le_trans x0 xy)
  rw [h, Int.toNat_natCast, Int.toNat_natCast, Nat.min_eq_left (Nat.sub_le_sub_right (Int.ofNat_le.mp yn) a), Int.natCast_sub (Int.ofNat_le.mp xy)]
theorem cut_len {x y : Int} {n k : Nat} (x0 : 0 ≤ x) (xy : x ≤ y) (yn : y ≤ n) (h : k = min (min y.toNat n - x.toNat) (n - x.toNat)) : (k : Int) = y - x :=
  cut_len2 x0 xy yn (by rw [h, Nat.min_eq_left (Int.toNat_le.mpr yn)])
theorem cut_pos {x y : Int} {n : Nat} (x0 : 0 ≤ x) (xy : x < y) (xn : x < n) (h : 0 = min (min y.toNat n - x.toNat) (n - x.toNat)) : False := by
  obtain ⟨a, rfl⟩ := Int.eq_ofNat_of_zero_le x0
  obtain ⟨b, rfl⟩ := Int.eq_ofNat_of_zero_le (Int.le_trans x0 (Int.le_of_lt xy))
  have an := Int.ofNat_lt.mp xn
  exact Nat.ne_of_lt (Nat.lt_min.mpr ⟨Nat.sub_pos_of_lt (Nat.lt_min.mpr ⟨Int.ofNat_lt.mp xy, an⟩), Nat.sub_pos_of_lt an⟩) h
theorem div_ceil {x c : Int} (h : 1 ≤ c) : (x * c + c - 1) / c = x := by
  rw [Int.add_sub_assoc, Int.add_comm, Int.add_mul_ediv_right _ _ (Int.ne_of_gt (Int.lt_of_lt_of_le (by decide) h)), Int.ediv_eq_zero_of_lt (Int.sub_nonneg_of_le h) (Int.sub_one_lt_of_le (Int.le_refl c)), Int.zero_add]
theorem len_int {n : Nat} {x : Int} (h0 : 0 ≤ x) (h : n = x.toNat) : (n : Int) = x := by rw [h, Int.toNat_of_nonneg h0]
theorem ceil8 {n : Int} : (n + 7) / 8 = (n - 1) / 8 + 1 := by
  rw [← Int.add_mul_ediv_right (n - 1) 1 (by decide : (8 : Int) ≠ 0), Int.sub_eq_add_neg, Int.add_assoc]; rfl
theorem four {c : Int} (h0 : 1 ≤ c) (h1 : c ≤ 4) : c = 1 ∨ c = 2 ∨ c = 3 ∨ c = 4 := by
  obtain ⟨k, rfl⟩ := Int.eq_ofNat_of_zero_le (Int.le_trans (by decide) h0)
  exact (by decide : ∀ k : Nat, k < 5 → 1 ≤ k → ((k : Int) = 1 ∨ (k : Int) = 2 ∨ (k : Int) = 3 ∨ (k : Int) = 4)) k (Int.ofNat_lt.mp (Int.lt_of_le_of_lt h1 (by decide))) (Int.ofNat_le.mp h0)
theorem eight {k : Nat} (h : k < 8) : (1 : Int) ≤ 2 ^ k ∧ (2 : Int) ^ k ≤ 128 := (by decide : ∀ k : Nat, k < 8 → (1 : Int) ≤ 2 ^ k ∧ (2 : Int) ^ k ≤ 128) k h

theorem and1 {a0 c : Prop} (h : a0 ∧ c) : c := h.2
theorem and2 {a0 a1 c : Prop} (h : a0 ∧ a1 ∧ c) : c := h.2.2
theorem and3 {a0 a1 a2 c : Prop} (h : a0 ∧ a1 ∧ a2 ∧ c) : c := h.2.2.2
theorem and4 {a0 a1 a2 a3 c : Prop} (h : a0 ∧ a1 ∧ a2 ∧ a3 ∧ c) : c := h.2.2.2.2
theorem and5 {a0 a1 a2 a3 a4 c : Prop} (h : a0 ∧ a1 ∧ a2 ∧ a3 ∧ a4 ∧ c) : c := h.2.2.2.2.2
theorem and6 {a0 a1 a2 a3 a4 a5 c : Prop} (h : a0 ∧ a1 ∧ a2 ∧ a3 ∧ a4 ∧ a5 ∧ c) : c := h.2.2.2.2.2.2
theorem and7 {a0 a1 a2 a3 a4 a5 a6 c : Prop} (h : a0 ∧ a1 ∧ a2 ∧ a3 ∧ a4 ∧ a5 ∧ a6 ∧ c) : c := h.2.2.2.2.2.2.2
theorem and8 {a0 a1 a2 a3 a4 a5 a6 a7 c : Prop} (h : a0 ∧ a1 ∧ a2 ∧ a3 ∧ a4 ∧ a5 ∧ a6 ∧ a7 ∧ c) : c := h.2.2.2.2.2.2.2.2
theorem and9 {a0 a1 a2 a3 a4 a5 a6 a7 a8 c : Prop} (h : a0 ∧ a1 ∧ a2 ∧ a3 ∧ a4 ∧ a5 ∧ a6 ∧ a7 ∧ a8 ∧ c) : c := h.2.2.2.2.2.2.2.2.2
theorem and10 {a0 a1 a2 a3 a4 a5 a6 a7 a8 a9 c : Prop} (h : a0 ∧ a1 ∧ a2 ∧ a3 ∧ a4 ∧ a5 ∧ a6 ∧ a7 ∧ a8 ∧ a9 ∧ c) : c := h.2.2.2.2.2.2.2.2.2.2
theorem and11 {a0 a1 a2 a3 a4 a5 a6 a7 a8 a9 a10 c : Prop} (h : a0 ∧ a1 ∧ a2 ∧ a3 ∧ a4 ∧ a5 ∧ a6 ∧ a7 ∧ a8 ∧ a9 ∧ a10 ∧ c) : c := h.2.2.2.2.2.2.2.2.2.2.2
theorem and12 {a0 a1 a2 a3 a4 a5 a6 a7 a8 a9 a10 a11 c : Prop} (h : a0 ∧ a1 ∧ a2 ∧ a3 ∧ a4 ∧ a5 ∧ a6 ∧ a7 ∧ a8 ∧ a9 ∧ a10 ∧ a11 ∧ c) : c := h.2.2.2.2.2.2.2.2.2.2.2.2
theorem ltAll_ne {d x : Nat} {l : List (Addr × Obj)} (h : ∀ p ∈ l, @LT.lt Nat _ p.1 d) (hx : @LE.le Nat _ d x) : ∀ q ∈ l, q.1 ≠ x := fun q hq => Nat.ne_of_lt (Nat.lt_of_lt_of_le (h q hq) hx)
/-- the walk stands here -/
noncomputable def Hold (P : Prop) : Prop := P
theorem hold {P : Prop} (h : Hold P) : P := h
theorem Hold.go {P : Prop} (h : P) : Hold P := h
theorem nadd {h₀ h : Heap} {L : Addr} {q : Addr × Obj} {l : List (Addr × Obj)} (N : News h₀ L h l) (hm : q ∈ l) : News h₀ L h (q :: l) := List.forall_mem_cons.mpr ⟨N q hm, N⟩
theorem mem11 {p : Addr × Obj} {l : List (Addr × Obj)} {x0 x1 x2 x3 x4 x5 x6 x7 x8 x9 x10 : Addr × Obj} (h : p ∈ l) : p ∈ x0 :: x1 :: x2 :: x3 :: x4 :: x5 :: x6 :: x7 :: x8 :: x9 :: x10 :: l := List.mem_cons_of_mem _ (List.mem_cons_of_mem _ (List.mem_cons_of_mem _ (List.mem_cons_of_mem _ (List.mem_cons_of_mem _ (List.mem_cons_of_mem _ (List.mem_cons_of_mem _ (List.mem_cons_of_mem _ (List.mem_cons_of_mem _ (List.mem_cons_of_mem _ (List.mem_cons_of_mem _ (h)))))))))))
theorem mem12 {p : Addr × Obj} {l : List (Addr × Obj)} {x0 x1 x2 x3 x4 x5 x6 x7 x8 x9 x10 x11 : Addr × Obj} (h : p ∈ l) : p ∈ x0 :: x1 :: x2 :: x3 :: x4 :: x5 :: x6 :: x7 :: x8 :: x9 :: x10 :: x11 :: l := List.mem_cons_of_mem _ (List.mem_cons_of_mem _ (List.mem_cons_of_mem _ (List.mem_cons_of_mem _ (List.mem_cons_of_mem _ (List.mem_cons_of_mem _ (List.mem_cons_of_mem _ (List.mem_cons_of_mem _ (List.mem_cons_of_mem _ (List.mem_cons_of_mem _ (List.mem_cons_of_mem _ (List.mem_cons_of_mem _ (h))))))))))))
theorem mem13 {p : Addr × Obj} {l : List (Addr × Obj)} {x0 x1 x2 x3 x4 x5 x6 x7 x8 x9 x10 x11 x12 : Addr × Obj} (h : p ∈ l) : p ∈ x0 :: x1 :: x2 :: x3 :: x4 :: x5 :: x6 :: x7 :: x8 :: x9 :: x10 :: x11 :: x12 :: l := List.mem_cons_of_mem _ (List.mem_cons_of_mem _ (List.mem_cons_of_mem _ (List.mem_cons_of_mem _ (List.mem_cons_of_mem _ (List.mem_cons_of_mem _ (List.mem_cons_of_mem _ (List.mem_cons_of_mem _ (List.mem_cons_of_mem _ (List.mem_cons_of_mem _ (List.mem_cons_of_mem _ (List.mem_cons_of_mem _ (List.mem_cons_of_mem _ (h)))))))))))))
theorem mem14 {p : Addr × Obj} {l : List (Addr × Obj)} {x0 x1 x2 x3 x4 x5 x6 x7 x8 x9 x10 x11 x12 x13 : Addr × Obj} (h : p ∈ l) : p ∈ x0 :: x1 :: x2 :: x3 :: x4 :: x5 :: x6 :: x7 :: x8 :: x9 :: x10 :: x11 :: x12 :: x13 :: l := List.mem_cons_of_mem _ (List.mem_cons_of_mem _ (List.mem_cons_of_mem _ (List.mem_cons_of_mem _ (List.mem_cons_of_mem _ (List.mem_cons_of_mem _ (List.mem_cons_of_mem _ (List.mem_cons_of_mem _ (List.mem_cons_of_mem _ (List.mem_cons_of_mem _ (List.mem_cons_of_mem _ (List.mem_cons_of_mem _ (List.mem_cons_of_mem _ (List.mem_cons_of_mem _ (h))))))))))))))
theorem mem15 {p : Addr × Obj} {l : List (Addr × Obj)} {x0 x1 x2 x3 x4 x5 x6 x7 x8 x9 x10 x11 x12 x13 x14 : Addr × Obj} (h : p ∈ l) : p ∈ x0 :: x1 :: x2 :: x3 :: x4 :: x5 :: x6 :: x7 :: x8 :: x9 :: x10 :: x11 :: x12 :: x13 :: x14 :: l := List.mem_cons_of_mem _ (List.mem_cons_of_mem _ (List.mem_cons_of_mem _ (List.mem_cons_of_mem _ (List.mem_cons_of_mem _ (List.mem_cons_of_mem _ (List.mem_cons_of_mem _ (List.mem_cons_of_mem _ (List.mem_cons_of_mem _ (List.mem_cons_of_mem _ (List.mem_cons_of_mem _ (List.mem_cons_of_mem _ (List.mem_cons_of_mem _ (List.mem_cons_of_mem _ (List.mem_cons_of_mem _ (h)))))))))))))))
theorem mem16 {p : Addr × Obj} {l : List (Addr × Obj)} {x0 x1 x2 x3 x4 x5 x6 x7 x8 x9 x10 x11 x12 x13 x14 x15 : Addr × Obj} (h : p ∈ l) : p ∈ x0 :: x1 :: x2 :: x3 :: x4 :: x5 :: x6 :: x7 :: x8 :: x9 :: x10 :: x11 :: x12 :: x13 :: x14 :: x15 :: l := List.mem_cons_of_mem _ (List.mem_cons_of_mem _ (List.mem_cons_of_mem _ (List.mem_cons_of_mem _ (List.mem_cons_of_mem _ (List.mem_cons_of_mem _ (List.mem_cons_of_mem _ (List.mem_cons_of_mem _ (List.mem_cons_of_mem _ (List.mem_cons_of_mem _ (List.mem_cons_of_mem _ (List.mem_cons_of_mem _ (List.mem_cons_of_mem _ (List.mem_cons_of_mem _ (List.mem_cons_of_mem _ (List.mem_cons_of_mem _ (h))))))))))))))))
theorem c0 {a r : Prop} (h : a ∧ r) : a := h.1
theorem c1 {a0 a r : Prop} (h : a0 ∧ a ∧ r) : a := h.2.1
theorem c2 {a0 a1 a r : Prop} (h : a0 ∧ a1 ∧ a ∧ r) : a := h.2.2.1
theorem c3 {a0 a1 a2 a r : Prop} (h : a0 ∧ a1 ∧ a2 ∧ a ∧ r) : a := h.2.2.2.1
theorem c4 {a0 a1 a2 a3 a r : Prop} (h : a0 ∧ a1 ∧ a2 ∧ a3 ∧ a ∧ r) : a := h.2.2.2.2.1
theorem c5 {a0 a1 a2 a3 a4 a r : Prop} (h : a0 ∧ a1 ∧ a2 ∧ a3 ∧ a4 ∧ a ∧ r) : a := h.2.2.2.2.2.1
theorem c6 {a0 a1 a2 a3 a4 a5 a r : Prop} (h : a0 ∧ a1 ∧ a2 ∧ a3 ∧ a4 ∧ a5 ∧ a ∧ r) : a := h.2.2.2.2.2.2.1
theorem c7 {a0 a1 a2 a3 a4 a5 a6 a r : Prop} (h : a0 ∧ a1 ∧ a2 ∧ a3 ∧ a4 ∧ a5 ∧ a6 ∧ a ∧ r) : a := h.2.2.2.2.2.2.2.1
theorem c8 {a0 a1 a2 a3 a4 a5 a6 a7 a r : Prop} (h : a0 ∧ a1 ∧ a2 ∧ a3 ∧ a4 ∧ a5 ∧ a6 ∧ a7 ∧ a ∧ r) : a := h.2.2.2.2.2.2.2.2.1
theorem c9 {a0 a1 a2 a3 a4 a5 a6 a7 a8 a r : Prop} (h : a0 ∧ a1 ∧ a2 ∧ a3 ∧ a4 ∧ a5 ∧ a6 ∧ a7 ∧ a8 ∧ a ∧ r) : a := h.2.2.2.2.2.2.2.2.2.1
theorem c10 {a0 a1 a2 a3 a4 a5 a6 a7 a8 a9 a r : Prop} (h : a0 ∧ a1 ∧ a2 ∧ a3 ∧ a4 ∧ a5 ∧ a6 ∧ a7 ∧ a8 ∧ a9 ∧ a ∧ r) : a := h.2.2.2.2.2.2.2.2.2.2.1
theorem c11 {a0 a1 a2 a3 a4 a5 a6 a7 a8 a9 a10 a r : Prop} (h : a0 ∧ a1 ∧ a2 ∧ a3 ∧ a4 ∧ a5 ∧ a6 ∧ a7 ∧ a8 ∧ a9 ∧ a10 ∧ a ∧ r) : a := h.2.2.2.2.2.2.2.2.2.2.2.1
theorem c12 {a0 a1 a2 a3 a4 a5 a6 a7 a8 a9 a10 a11 a r : Prop} (h : a0 ∧ a1 ∧ a2 ∧ a3 ∧ a4 ∧ a5 ∧ a6 ∧ a7 ∧ a8 ∧ a9 ∧ a10 ∧ a11 ∧ a ∧ r) : a := h.2.2.2.2.2.2.2.2.2.2.2.2.1
theorem c13 {a0 a1 a2 a3 a4 a5 a6 a7 a8 a9 a10 a11 a12 a r : Prop} (h : a0 ∧ a1 ∧ a2 ∧ a3 ∧ a4 ∧ a5 ∧ a6 ∧ a7 ∧ a8 ∧ a9 ∧ a10 ∧ a11 ∧ a12 ∧ a ∧ r) : a := h.2.2.2.2.2.2.2.2.2.2.2.2.2.1
theorem c14 {a0 a1 a2 a3 a4 a5 a6 a7 a8 a9 a10 a11 a12 a13 a r : Prop} (h : a0 ∧ a1 ∧ a2 ∧ a3 ∧ a4 ∧ a5 ∧ a6 ∧ a7 ∧ a8 ∧ a9 ∧ a10 ∧ a11 ∧ a12 ∧ a13 ∧ a ∧ r) : a := h.2.2.2.2.2.2.2.2.2.2.2.2.2.2.1
theorem z_tr {a m b : Nat} (h2 : m < b) (h1 : a < m) : a < b := Nat.lt_trans h1 h2
theorem bi_lt {v k n : Int} (h : v ≤ k) (e : k < n) : v < n := Int.lt_of_le_of_lt h e
theorem bi_le {v k n : Int} (h : v ≤ k) (e : k ≤ n) : v ≤ n := Int.le_trans h e
theorem bi_ll {v k n : Int} (h : v < k) (e : k ≤ n) : v < n := Int.lt_of_lt_of_le h e
theorem bi_ge {v k n : Int} (h : k ≤ v) (e : n ≤ k) : n ≤ v := Int.le_trans e h
theorem bi_lt1 {v k n : Int} (h : v ≤ k) (e : k + 1 < n) : v + 1 < n := Int.lt_of_le_of_lt (Int.add_le_add_right h 1) e
theorem bi_le1 {v k n : Int} (h : v ≤ k) (e : k + 1 ≤ n) : v + 1 ≤ n := Int.le_trans (Int.add_le_add_right h 1) e
theorem bi_lt2 {v k n : Int} (h : v ≤ k) (e : k + 1 + 1 < n) : v + 1 + 1 < n := bi_lt1 (bi_le1 h (Int.le_refl _)) e
theorem bi_le2 {v k n : Int} (h : v ≤ k) (e : k + 1 + 1 ≤ n) : v + 1 + 1 ≤ n := bi_le1 (bi_le1 h (Int.le_refl _)) e
theorem bi_nn1 {v : Int} (h : 0 ≤ v) : 0 ≤ v + 1 := Int.add_nonneg h (by decide)
theorem bi_nn2 {v : Int} (h : 0 ≤ v) : 0 ≤ v + 1 + 1 := bi_nn1 (bi_nn1 h)
/-- a mark in the context -/
noncomputable def Gate (_ : Nat) : Prop := True
theorem gen_tk {M : Model} {A : Around} {α : Type} {q : Sem α} {Q : α → Shared → Prop} {E : Value → Shared → Prop} {h : Heap} {g : Array GenState} {d : Drawn} {o : OsState} {t : Nat} (k : ∀ tk, wpAny M A q Q E { heap := h, gens := g, drawn := d, toks := tk, os := o }) : wpAny M A q Q E { heap := h, gens := g, drawn := d, toks := t + 1, os := o } := k (t + 1)
theorem letE {M : Model} {A : Around} {e : Env} {b : List Stmt} {Q : Flow → Shared → Prop} {E : Value → Shared → Prop} {s : Shared} (h : let e' := e; wpAny M A (execs b e') Q E s) : wpAny M A (execs b e) Q E s := h
theorem gen_tk0 {M : Model} {A : Around} {α : Type} {q : Sem α} {Q : α → Shared → Prop} {E : Value → Shared → Prop} {h : Heap} {g : Array GenState} {d : Drawn} {o : OsState} {t : Nat} (k : ∀ tk, wpAny M A q Q E { heap := h, gens := g, drawn := d, toks := tk, os := o }) : wpAny M A q Q E { heap := h, gens := g, drawn := d, toks := t, os := o } := k t
theorem letF {P : Prop} {g : Heap} {L : Addr} {h : Heap} {m : Str → Option Value} (k : let m' := m; Fr g L h m' → P) : Fr g L h m → P := k
theorem letA {M : Model} {A : Around} {α : Type} {q : Sem α} {Q : α → Shared → Prop} {E : Value → Shared → Prop} {s : Shared} (h : let A' := A; wpAny M A' q Q E s) : wpAny M A q Q E s := h
theorem le_s1 {v : Int} : v ≤ v + 1 := Int.le_add_of_nonneg_right (by decide)
theorem le_s2 {v : Int} : v ≤ v + 1 + 1 := Int.le_trans le_s1 le_s1
theorem le_s3 {v : Int} : v ≤ v + 1 + 1 + 1 := Int.le_trans le_s2 le_s1
theorem le_s4 {v : Int} : v ≤ v + 1 + 1 + 1 + 1 := Int.le_trans le_s2 le_s2
theorem le_s5 {v : Int} : v ≤ v + 1 + 1 + 1 + 1 + 1 := Int.le_trans le_s3 le_s2
theorem bi_nn3 {v : Int} (h : 0 ≤ v) : 0 ≤ v + 1 + 1 + 1 := bi_nn1 (bi_nn2 h)
theorem bi_nn4 {v : Int} (h : 0 ≤ v) : 0 ≤ v + 1 + 1 + 1 + 1 := bi_nn2 (bi_nn2 h)
theorem bi_1p {v k n : Int} (h : v < k) (e : k ≤ n) : 1 + v ≤ n := by rw [Int.add_comm]; exact Int.le_trans h e
theorem bi_1q {v : Int} (h : 0 ≤ v) : 1 ≤ 1 + v := Int.le_add_of_nonneg_right h
theorem slN {v k n c : Int} (h : v < k) (e : k + c ≤ n) : v + c < n := Int.lt_of_lt_of_le (Int.add_lt_add_right h c) e
theorem ad2 {v : Int} : v + 1 + 1 = v + 2 := Int.add_assoc v 1 1
theorem ad3 {v : Int} : v + 1 + 1 + 1 = v + 3 := by rw [ad2]; exact Int.add_assoc v 1 2
theorem ad4 {v : Int} : v + 1 + 1 + 1 + 1 = v + 4 := by rw [ad3]; exact Int.add_assoc v 1 3
theorem sl1 {v k n : Int} (h : v < k) (e : k + 1 ≤ n) : v + 1 < n := slN h e
theorem sl2 {v k n : Int} (h : v < k) (e : k + 2 ≤ n) : v + 1 + 1 < n := by rw [ad2]; exact slN h e
theorem sl3 {v k n : Int} (h : v < k) (e : k + 3 ≤ n) : v + 1 + 1 + 1 < n := by rw [ad3]; exact slN h e
theorem sl4 {v k n : Int} (h : v < k) (e : k + 4 ≤ n) : v + 1 + 1 + 1 + 1 < n := by rw [ad4]; exact slN h e
theorem ne_s1 {a d : Nat} (h : a < d) : d + 1 ≠ a := Nat.ne_of_gt (Nat.lt_succ_of_lt h)
theorem ne_s2 {a d : Nat} (h : a < d) : d + 1 + 1 ≠ a := ne_s1 (Nat.lt_succ_of_lt h)
theorem ne_s3 {a d : Nat} (h : a < d) : d + 1 + 1 + 1 ≠ a := ne_s2 (Nat.lt_succ_of_lt h)
theorem ne_n1 {d : Nat} : d + 1 ≠ d := Nat.succ_ne_self d
theorem ne_n2 {d : Nat} : d + 1 + 1 ≠ d := ne_s1 (Nat.lt_succ_self d)
theorem ne_n3 {d : Nat} : d + 1 + 1 ≠ d + 1 := Nat.succ_ne_self _
theorem lt_int {i : Nat} {x : Int} (h : i < x.toNat) : (i : Int) < x := Int.lt_toNat.mp h
theorem step2 {i c n : Nat} (hi : i < c) (hn : (n : Int) = 2 * c) : 0 + (i : Int) * 2 < n ∧ 0 + (i : Int) * 2 + 1 < n := by
  have h : (i : Int) * 2 + 1 < n := by rw [hn, Int.mul_comm 2]; exact Int.ofNat_lt.mpr (by have h2 := Nat.mul_le_mul_right 2 (Nat.succ_le_of_lt hi); rw [Nat.succ_mul] at h2; exact h2)
  rw [Int.zero_add]
  exact ⟨Int.lt_trans (Int.lt_succ _) h, h⟩
theorem half_ceil {c : Nat} {n : Int} (h : n = 2 * c) : (n + 2 - 1) / 2 = c := by rw [h, Int.mul_comm]; exact div_ceil (by decide)
theorem c15 {a0 a1 a2 a3 a4 a5 a6 a7 a8 a9 a10 a11 a12 a13 a14 a r : Prop} (h : a0 ∧ a1 ∧ a2 ∧ a3 ∧ a4 ∧ a5 ∧ a6 ∧ a7 ∧ a8 ∧ a9 ∧ a10 ∧ a11 ∧ a12 ∧ a13 ∧ a14 ∧ a ∧ r) : a := h.2.2.2.2.2.2.2.2.2.2.2.2.2.2.2.1
theorem c16 {a0 a1 a2 a3 a4 a5 a6 a7 a8 a9 a10 a11 a12 a13 a14 a15 a r : Prop} (h : a0 ∧ a1 ∧ a2 ∧ a3 ∧ a4 ∧ a5 ∧ a6 ∧ a7 ∧ a8 ∧ a9 ∧ a10 ∧ a11 ∧ a12 ∧ a13 ∧ a14 ∧ a15 ∧ a ∧ r) : a := h.2.2.2.2.2.2.2.2.2.2.2.2.2.2.2.2.1
theorem c17 {a0 a1 a2 a3 a4 a5 a6 a7 a8 a9 a10 a11 a12 a13 a14 a15 a16 a r : Prop} (h : a0 ∧ a1 ∧ a2 ∧ a3 ∧ a4 ∧ a5 ∧ a6 ∧ a7 ∧ a8 ∧ a9 ∧ a10 ∧ a11 ∧ a12 ∧ a13 ∧ a14 ∧ a15 ∧ a16 ∧ a ∧ r) : a := h.2.2.2.2.2.2.2.2.2.2.2.2.2.2.2.2.2.1
theorem c18 {a0 a1 a2 a3 a4 a5 a6 a7 a8 a9 a10 a11 a12 a13 a14 a15 a16 a17 a r : Prop} (h : a0 ∧ a1 ∧ a2 ∧ a3 ∧ a4 ∧ a5 ∧ a6 ∧ a7 ∧ a8 ∧ a9 ∧ a10 ∧ a11 ∧ a12 ∧ a13 ∧ a14 ∧ a15 ∧ a16 ∧ a17 ∧ a ∧ r) : a := h.2.2.2.2.2.2.2.2.2.2.2.2.2.2.2.2.2.2.1
theorem c19 {a0 a1 a2 a3 a4 a5 a6 a7 a8 a9 a10 a11 a12 a13 a14 a15 a16 a17 a18 a r : Prop} (h : a0 ∧ a1 ∧ a2 ∧ a3 ∧ a4 ∧ a5 ∧ a6 ∧ a7 ∧ a8 ∧ a9 ∧ a10 ∧ a11 ∧ a12 ∧ a13 ∧ a14 ∧ a15 ∧ a16 ∧ a17 ∧ a18 ∧ a ∧ r) : a := h.2.2.2.2.2.2.2.2.2.2.2.2.2.2.2.2.2.2.2.1
theorem c20 {a0 a1 a2 a3 a4 a5 a6 a7 a8 a9 a10 a11 a12 a13 a14 a15 a16 a17 a18 a19 a r : Prop} (h : a0 ∧ a1 ∧ a2 ∧ a3 ∧ a4 ∧ a5 ∧ a6 ∧ a7 ∧ a8 ∧ a9 ∧ a10 ∧ a11 ∧ a12 ∧ a13 ∧ a14 ∧ a15 ∧ a16 ∧ a17 ∧ a18 ∧ a19 ∧ a ∧ r) : a := h.2.2.2.2.2.2.2.2.2.2.2.2.2.2.2.2.2.2.2.2.1
theorem c21 {a0 a1 a2 a3 a4 a5 a6 a7 a8 a9 a10 a11 a12 a13 a14 a15 a16 a17 a18 a19 a20 a r : Prop} (h : a0 ∧ a1 ∧ a2 ∧ a3 ∧ a4 ∧ a5 ∧ a6 ∧ a7 ∧ a8 ∧ a9 ∧ a10 ∧ a11 ∧ a12 ∧ a13 ∧ a14 ∧ a15 ∧ a16 ∧ a17 ∧ a18 ∧ a19 ∧ a20 ∧ a ∧ r) : a := h.2.2.2.2.2.2.2.2.2.2.2.2.2.2.2.2.2.2.2.2.2.1
theorem c22 {a0 a1 a2 a3 a4 a5 a6 a7 a8 a9 a10 a11 a12 a13 a14 a15 a16 a17 a18 a19 a20 a21 a r : Prop} (h : a0 ∧ a1 ∧ a2 ∧ a3 ∧ a4 ∧ a5 ∧ a6 ∧ a7 ∧ a8 ∧ a9 ∧ a10 ∧ a11 ∧ a12 ∧ a13 ∧ a14 ∧ a15 ∧ a16 ∧ a17 ∧ a18 ∧ a19 ∧ a20 ∧ a21 ∧ a ∧ r) : a := h.2.2.2.2.2.2.2.2.2.2.2.2.2.2.2.2.2.2.2.2.2.2.1
theorem c23 {a0 a1 a2 a3 a4 a5 a6 a7 a8 a9 a10 a11 a12 a13 a14 a15 a16 a17 a18 a19 a20 a21 a22 a r : Prop} (h : a0 ∧ a1 ∧ a2 ∧ a3 ∧ a4 ∧ a5 ∧ a6 ∧ a7 ∧ a8 ∧ a9 ∧ a10 ∧ a11 ∧ a12 ∧ a13 ∧ a14 ∧ a15 ∧ a16 ∧ a17 ∧ a18 ∧ a19 ∧ a20 ∧ a21 ∧ a22 ∧ a ∧ r) : a := h.2.2.2.2.2.2.2.2.2.2.2.2.2.2.2.2.2.2.2.2.2.2.2.1
theorem c24 {a0 a1 a2 a3 a4 a5 a6 a7 a8 a9 a10 a11 a12 a13 a14 a15 a16 a17 a18 a19 a20 a21 a22 a23 a r : Prop} (h : a0 ∧ a1 ∧ a2 ∧ a3 ∧ a4 ∧ a5 ∧ a6 ∧ a7 ∧ a8 ∧ a9 ∧ a10 ∧ a11 ∧ a12 ∧ a13 ∧ a14 ∧ a15 ∧ a16 ∧ a17 ∧ a18 ∧ a19 ∧ a20 ∧ a21 ∧ a22 ∧ a23 ∧ a ∧ r) : a := h.2.2.2.2.2.2.2.2.2.2.2.2.2.2.2.2.2.2.2.2.2.2.2.2.1
theorem c25 {a0 a1 a2 a3 a4 a5 a6 a7 a8 a9 a10 a11 a12 a13 a14 a15 a16 a17 a18 a19 a20 a21 a22 a23 a24 a r : Prop} (h : a0 ∧ a1 ∧ a2 ∧ a3 ∧ a4 ∧ a5 ∧ a6 ∧ a7 ∧ a8 ∧ a9 ∧ a10 ∧ a11 ∧ a12 ∧ a13 ∧ a14 ∧ a15 ∧ a16 ∧ a17 ∧ a18 ∧ a19 ∧ a20 ∧ a21 ∧ a22 ∧ a23 ∧ a24 ∧ a ∧ r) : a := h.2.2.2.2.2.2.2.2.2.2.2.2.2.2.2.2.2.2.2.2.2.2.2.2.2.1
theorem c26 {a0 a1 a2 a3 a4 a5 a6 a7 a8 a9 a10 a11 a12 a13 a14 a15 a16 a17 a18 a19 a20 a21 a22 a23 a24 a25 a r : Prop} (h : a0 ∧ a1 ∧ a2 ∧ a3 ∧ a4 ∧ a5 ∧ a6 ∧ a7 ∧ a8 ∧ a9 ∧ a10 ∧ a11 ∧ a12 ∧ a13 ∧ a14 ∧ a15 ∧ a16 ∧ a17 ∧ a18 ∧ a19 ∧ a20 ∧ a21 ∧ a22 ∧ a23 ∧ a24 ∧ a25 ∧ a ∧ r) : a := h.2.2.2.2.2.2.2.2.2.2.2.2.2.2.2.2.2.2.2.2.2.2.2.2.2.2.1
theorem and13 {a0 a1 a2 a3 a4 a5 a6 a7 a8 a9 a10 a11 a12 c : Prop} (h : a0 ∧ a1 ∧ a2 ∧ a3 ∧ a4 ∧ a5 ∧ a6 ∧ a7 ∧ a8 ∧ a9 ∧ a10 ∧ a11 ∧ a12 ∧ c) : c := h.2.2.2.2.2.2.2.2.2.2.2.2.2
theorem and14 {a0 a1 a2 a3 a4 a5 a6 a7 a8 a9 a10 a11 a12 a13 c : Prop} (h : a0 ∧ a1 ∧ a2 ∧ a3 ∧ a4 ∧ a5 ∧ a6 ∧ a7 ∧ a8 ∧ a9 ∧ a10 ∧ a11 ∧ a12 ∧ a13 ∧ c) : c := h.2.2.2.2.2.2.2.2.2.2.2.2.2.2
theorem and15 {a0 a1 a2 a3 a4 a5 a6 a7 a8 a9 a10 a11 a12 a13 a14 c : Prop} (h : a0 ∧ a1 ∧ a2 ∧ a3 ∧ a4 ∧ a5 ∧ a6 ∧ a7 ∧ a8 ∧ a9 ∧ a10 ∧ a11 ∧ a12 ∧ a13 ∧ a14 ∧ c) : c := h.2.2.2.2.2.2.2.2.2.2.2.2.2.2.2
theorem and16 {a0 a1 a2 a3 a4 a5 a6 a7 a8 a9 a10 a11 a12 a13 a14 a15 c : Prop} (h : a0 ∧ a1 ∧ a2 ∧ a3 ∧ a4 ∧ a5 ∧ a6 ∧ a7 ∧ a8 ∧ a9 ∧ a10 ∧ a11 ∧ a12 ∧ a13 ∧ a14 ∧ a15 ∧ c) : c := h.2.2.2.2.2.2.2.2.2.2.2.2.2.2.2.2
theorem and17 {a0 a1 a2 a3 a4 a5 a6 a7 a8 a9 a10 a11 a12 a13 a14 a15 a16 c : Prop} (h : a0 ∧ a1 ∧ a2 ∧ a3 ∧ a4 ∧ a5 ∧ a6 ∧ a7 ∧ a8 ∧ a9 ∧ a10 ∧ a11 ∧ a12 ∧ a13 ∧ a14 ∧ a15 ∧ a16 ∧ c) : c := h.2.2.2.2.2.2.2.2.2.2.2.2.2.2.2.2.2
theorem and18 {a0 a1 a2 a3 a4 a5 a6 a7 a8 a9 a10 a11 a12 a13 a14 a15 a16 a17 c : Prop} (h : a0 ∧ a1 ∧ a2 ∧ a3 ∧ a4 ∧ a5 ∧ a6 ∧ a7 ∧ a8 ∧ a9 ∧ a10 ∧ a11 ∧ a12 ∧ a13 ∧ a14 ∧ a15 ∧ a16 ∧ a17 ∧ c) : c := h.2.2.2.2.2.2.2.2.2.2.2.2.2.2.2.2.2.2
theorem and19 {a0 a1 a2 a3 a4 a5 a6 a7 a8 a9 a10 a11 a12 a13 a14 a15 a16 a17 a18 c : Prop} (h : a0 ∧ a1 ∧ a2 ∧ a3 ∧ a4 ∧ a5 ∧ a6 ∧ a7 ∧ a8 ∧ a9 ∧ a10 ∧ a11 ∧ a12 ∧ a13 ∧ a14 ∧ a15 ∧ a16 ∧ a17 ∧ a18 ∧ c) : c := h.2.2.2.2.2.2.2.2.2.2.2.2.2.2.2.2.2.2.2
theorem and20 {a0 a1 a2 a3 a4 a5 a6 a7 a8 a9 a10 a11 a12 a13 a14 a15 a16 a17 a18 a19 c : Prop} (h : a0 ∧ a1 ∧ a2 ∧ a3 ∧ a4 ∧ a5 ∧ a6 ∧ a7 ∧ a8 ∧ a9 ∧ a10 ∧ a11 ∧ a12 ∧ a13 ∧ a14 ∧ a15 ∧ a16 ∧ a17 ∧ a18 ∧ a19 ∧ c) : c := h.2.2.2.2.2.2.2.2.2.2.2.2.2.2.2.2.2.2.2.2
theorem and21 {a0 a1 a2 a3 a4 a5 a6 a7 a8 a9 a10 a11 a12 a13 a14 a15 a16 a17 a18 a19 a20 c : Prop} (h : a0 ∧ a1 ∧ a2 ∧ a3 ∧ a4 ∧ a5 ∧ a6 ∧ a7 ∧ a8 ∧ a9 ∧ a10 ∧ a11 ∧ a12 ∧ a13 ∧ a14 ∧ a15 ∧ a16 ∧ a17 ∧ a18 ∧ a19 ∧ a20 ∧ c) : c := h.2.2.2.2.2.2.2.2.2.2.2.2.2.2.2.2.2.2.2.2.2
theorem and22 {a0 a1 a2 a3 a4 a5 a6 a7 a8 a9 a10 a11 a12 a13 a14 a15 a16 a17 a18 a19 a20 a21 c : Prop} (h : a0 ∧ a1 ∧ a2 ∧ a3 ∧ a4 ∧ a5 ∧ a6 ∧ a7 ∧ a8 ∧ a9 ∧ a10 ∧ a11 ∧ a12 ∧ a13 ∧ a14 ∧ a15 ∧ a16 ∧ a17 ∧ a18 ∧ a19 ∧ a20 ∧ a21 ∧ c) : c := h.2.2.2.2.2.2.2.2.2.2.2.2.2.2.2.2.2.2.2.2.2.2
theorem and23 {a0 a1 a2 a3 a4 a5 a6 a7 a8 a9 a10 a11 a12 a13 a14 a15 a16 a17 a18 a19 a20 a21 a22 c : Prop} (h : a0 ∧ a1 ∧ a2 ∧ a3 ∧ a4 ∧ a5 ∧ a6 ∧ a7 ∧ a8 ∧ a9 ∧ a10 ∧ a11 ∧ a12 ∧ a13 ∧ a14 ∧ a15 ∧ a16 ∧ a17 ∧ a18 ∧ a19 ∧ a20 ∧ a21 ∧ a22 ∧ c) : c := h.2.2.2.2.2.2.2.2.2.2.2.2.2.2.2.2.2.2.2.2.2.2.2
theorem and24 {a0 a1 a2 a3 a4 a5 a6 a7 a8 a9 a10 a11 a12 a13 a14 a15 a16 a17 a18 a19 a20 a21 a22 a23 c : Prop} (h : a0 ∧ a1 ∧ a2 ∧ a3 ∧ a4 ∧ a5 ∧ a6 ∧ a7 ∧ a8 ∧ a9 ∧ a10 ∧ a11 ∧ a12 ∧ a13 ∧ a14 ∧ a15 ∧ a16 ∧ a17 ∧ a18 ∧ a19 ∧ a20 ∧ a21 ∧ a22 ∧ a23 ∧ c) : c := h.2.2.2.2.2.2.2.2.2.2.2.2.2.2.2.2.2.2.2.2.2.2.2.2
theorem and25 {a0 a1 a2 a3 a4 a5 a6 a7 a8 a9 a10 a11 a12 a13 a14 a15 a16 a17 a18 a19 a20 a21 a22 a23 a24 c : Prop} (h : a0 ∧ a1 ∧ a2 ∧ a3 ∧ a4 ∧ a5 ∧ a6 ∧ a7 ∧ a8 ∧ a9 ∧ a10 ∧ a11 ∧ a12 ∧ a13 ∧ a14 ∧ a15 ∧ a16 ∧ a17 ∧ a18 ∧ a19 ∧ a20 ∧ a21 ∧ a22 ∧ a23 ∧ a24 ∧ c) : c := h.2.2.2.2.2.2.2.2.2.2.2.2.2.2.2.2.2.2.2.2.2.2.2.2.2
theorem and26 {a0 a1 a2 a3 a4 a5 a6 a7 a8 a9 a10 a11 a12 a13 a14 a15 a16 a17 a18 a19 a20 a21 a22 a23 a24 a25 c : Prop} (h : a0 ∧ a1 ∧ a2 ∧ a3 ∧ a4 ∧ a5 ∧ a6 ∧ a7 ∧ a8 ∧ a9 ∧ a10 ∧ a11 ∧ a12 ∧ a13 ∧ a14 ∧ a15 ∧ a16 ∧ a17 ∧ a18 ∧ a19 ∧ a20 ∧ a21 ∧ a22 ∧ a23 ∧ a24 ∧ a25 ∧ c) : c := h.2.2.2.2.2.2.2.2.2.2.2.2.2.2.2.2.2.2.2.2.2.2.2.2.2.2
theorem z_tr3 {a m n b : Nat} (h3 : n < b) (h2 : m < n) (h1 : a < m) : a < b := Nat.lt_trans (Nat.lt_trans h1 h2) h3
theorem gt865 {a : Nat} (h : 865 < a) : a ≠ 1 := Nat.ne_of_gt (Nat.lt_trans (by decide) h)
theorem sy_ne {a : Nat} (h : 865 < a) : (a == sysModules) = false := beq_false_of_ne (gt865 h)
theorem sz_ok {n : Nat} {z : Int} {c : Prop} [Decidable c] (h : (n : Int) = z - if c then 1 else 0) (hz : z ≤ 400) : n ≤ 100000 :=
  Int.ofNat_le.mp (h ▸ Int.le_trans (Int.sub_le_self z (by split <;> decide)) (Int.le_trans hz (by decide)))
theorem up5 {v a k n : Int} (h1 : v ≤ a + 5) (h2 : a ≤ k) (e : k + 5 ≤ n) : v ≤ n := Int.le_trans h1 (Int.le_trans (Int.add_le_add_right h2 5) e)
theorem up5l {v a k n : Int} (h1 : v ≤ a + 5) (h2 : a ≤ k) (e : k + 5 < n) : v < n := Int.lt_of_le_of_lt h1 (Int.lt_of_le_of_lt (Int.add_le_add_right h2 5) e)
theorem up10 {v a c k n : Int} (h0 : v ≤ a + 5) (h1 : a ≤ c + 5) (h2 : c ≤ k) (e : k + 10 ≤ n) : v ≤ n :=
  up5 h0 (up5 h1 h2 (Int.le_refl _)) (by rw [Int.add_assoc]; exact e)
theorem dn1 {v a : Int} (h1 : a ≤ v) (h2 : 0 ≤ a) : 0 ≤ v := Int.le_trans h2 h1
theorem dn2 {v a c : Int} (h0 : a ≤ v) (h1 : c ≤ a) (h2 : 0 ≤ c) : 0 ≤ v := Int.le_trans h2 (Int.le_trans h1 h0)
theorem len_int1 {n : Nat} {x : Int} (h0 : 1 ≤ x) (h : n = x.toNat) : (n : Int) = x := len_int (Int.le_trans (by decide) h0) h
theorem bn_le {n k k' : Nat} (h : n ≤ k) (e : k ≤ k') : n ≤ k' := Nat.le_trans h e
theorem bn_lt {n k k' : Nat} (h : n < k) (e : k ≤ k') : n ≤ k' := Nat.le_trans (Nat.le_of_lt h) e
theorem bt_le {n k' : Nat} {x k : Int} (h : n = x.toNat) (hx : x ≤ k) (e : k.toNat ≤ k') : n ≤ k' := by rw [h]; exact Nat.le_trans (Int.toNat_le_toNat hx) e
theorem bt_le' {n k' : Nat} {x k : Int} (h : (n : Int) = x) (hx : x ≤ k) (e : k ≤ (k' : Int)) : n ≤ k' := Int.ofNat_le.mp (h ▸ Int.le_trans hx e)
theorem bx_le {x k : Int} {k' : Nat} (hx : x ≤ k) (e : k.toNat ≤ k') : x.toNat ≤ k' := Nat.le_trans (Int.toNat_le_toNat hx) e
theorem bc_le {n k : Nat} {k' : Int} (h : n ≤ k) (e : (k : Int) ≤ k') : (n : Int) ≤ k' := Int.le_trans (Int.ofNat_le.mpr h) e
theorem bc_lt {n k : Nat} {k' : Int} (h : n ≤ k) (e : (k : Int) < k') : (n : Int) < k' := Int.lt_of_le_of_lt (Int.ofNat_le.mpr h) e
theorem bi_gt {v k n : Int} (h : k ≤ v) (e : n < k) : n < v := Int.lt_of_lt_of_le e h
theorem bi_gtl {v k n : Int} (h : k < v) (e : n ≤ k) : n < v := Int.lt_of_le_of_lt e h
theorem bi_gel {v k n : Int} (h : k < v) (e : n ≤ k) : n ≤ v := Int.le_of_lt (Int.lt_of_le_of_lt e h)
theorem nabs {v k : Int} {n : Nat} (h0 : 0 ≤ v) (h : v < k) (e : k.toNat ≤ n) (hk : 0 < k) : v.natAbs < n := by
  obtain ⟨a, rfl⟩ := Int.eq_ofNat_of_zero_le h0
  obtain ⟨b, rfl⟩ := Int.eq_ofNat_of_zero_le (Int.le_of_lt hk)
  exact Nat.lt_of_lt_of_le (Int.ofNat_lt.mp h) e
theorem bi_sub {v : Int} : v - 1 ≤ v := Int.sub_le_self v (by decide)
theorem all_cons {α : Type} {p : α → Prop} {a : α} {l : List α} (h : p a) (t : ∀ x, x ∈ l → p x) : ∀ x, x ∈ a :: l → p x := List.forall_mem_cons.mpr ⟨h, t⟩
theorem cz_int {M : Model} {A : Around} {E : Value → Shared → Prop} {env : Env} {i : Int} {n : Nat} {pos : Pos} {Q : Value → Shared → Prop} {h : Heap} {g : Array GenState} {d : Drawn} {t : Nat} {o : OsState} (k : Q (.int i t) { heap := h, gens := g, drawn := d, toks := t + 1, os := o }) : wpAny M A (eval (.Constant (.int i) n pos) env) Q E { heap := h, gens := g, drawn := d, toks := t, os := o } := wpAny_Constant_int k
theorem store_z {M : Model} {A : Around} {E : Value → Shared → Prop} {h₀ : Heap} {L a : Addr} {m : Str → Option Value} {cn : Str} {cs : Scope} {ccd : Value} {cl : List (Str × Addr)} {x : Str} {v : Value} {Q : Unit → Shared → Prop} {news : List (Addr × Obj)} {h : Heap} {g : Array GenState} {d : Drawn} {t : Nat} {o : OsState}
    (F : Fr h₀ L h m) (N : News h₀ L h news) (k : ∀ h', Fr h₀ L h' (fun y => if y = x then some v else m y) → News h₀ L h' news → Q () { heap := h', gens := g, drawn := d, toks := t + 1, os := o })
    (hk : cs.kind = .function := by rfl) (hx : (envX cn cs L a ccd cl).kindOf x = some .local := by rfl) : wpAny M A (storeName (envX cn cs L a ccd cl) x v) Q E { heap := h, gens := g, drawn := d, toks := t, os := o } := storeX_L (s := ⟨h, g, d, t, o⟩) F N k hk hx
theorem args_z {M : Model} {A : Around} {E : Value → Shared → Prop} {s : Shared} {h₀ : Heap} {L a : Addr} {m : Str → Option Value} {cn : Str} {cs : Scope} {ccd : Value} {cl : List (Str × Addr)} {x : Str} {pos p2 : Pos} {v : Value} {rest : List PySem.Expr} {Q : List Value → Shared → Prop} (F : Fr h₀ L s.heap m) (hv : m x = some v)
    (k : wpAny M A (spliced (backTo p2 (starEach rest (envX cn cs L a ccd cl)))) (fun vs s₂ => Q (v :: vs) s₂) E s)
    (hk : cs.kind = .function := by rfl) (hx : (envX cn cs L a ccd cl).kindOf x = some .local := by rfl) (hd : (x == Str.ofString "__debug__") = false := by decide) :
    wpAny M A (spliced (backTo p2 (starEach (.Name x pos :: rest) (envX cn cs L a ccd cl)))) Q E s := args_cons (nameX_L F hv k hk hx hd)
theorem args_one {M : Model} {A : Around} {E : Value → Shared → Prop} {s : Shared} {env : Env} {p2 : Pos} {e : PySem.Expr} {Q : List Value → Shared → Prop} (k : wpAny M A (eval e env) (fun v s₁ => Q [v] s₁) E s) (he : starEach [e] env = (false, eval e env) :: starEach [] env := by rfl) :
    wpAny M A (spliced (backTo p2 (starEach [e] env))) Q E s := args_cons (wpAny_mono k (fun _ _ q => args_nil q) fun _ _ q => q) he
theorem args_z1 {M : Model} {A : Around} {E : Value → Shared → Prop} {s : Shared} {h₀ : Heap} {L a : Addr} {m : Str → Option Value} {cn : Str} {cs : Scope} {ccd : Value} {cl : List (Str × Addr)} {x : Str} {pos p2 : Pos} {v : Value} {Q : List Value → Shared → Prop} (F : Fr h₀ L s.heap m) (hv : m x = some v) (k : Q [v] s)
    (hk : cs.kind = .function := by rfl) (hx : (envX cn cs L a ccd cl).kindOf x = some .local := by rfl) (hd : (x == Str.ofString "__debug__") = false := by decide) :
    wpAny M A (spliced (backTo p2 (starEach [.Name x pos] (envX cn cs L a ccd cl)))) Q E s := args_one (nameX_L F hv k hk hx hd)
section
variable {prog : Program} {w : World} {p : Program} {loose : List Str} {mean : ExcName → Option Value} {mg mb : Str → Option Value} {A₀ : Around} {base h₀ : Heap} {L : Addr} {m : Str → Option Value} {news : List (Addr × Obj)}
/-- a plain call of a written def: the frame's map, its env and its surroundings as lets -/
theorem code_z {A : Around} {K : Frag} {zh : Heap} {zg : Array GenState} {zd : Drawn} {zk : Nat} {zo : OsState} {env : Env} {outer : List Env} {Q E : Value → Shared → Prop} {name qual : Str} {params : Arguments} {body : List Stmt} {scope : Scope} {dV kV doc pm cdv ct oc : Value} {an od : Option Addr} {osl : Array (Option Value)} {f : Addr} {vs : List Value}
    (ho : K.lookup f = some ⟨oc, od, .func (fnOf name qual params body scope dV kV doc pm an cdv ct), osl⟩) (hcd : codeIn K cdv qual = true) (hco : scope.isCoroutine = false) (hgen : scope.isGenerator = false) (hk : scope.kind = .function)
    (hcell : ∀ x ∈ scope.names, x.2 ≠ .cell) (hloc : ((params.args.map (·.arg)).all fun y => decide (scope.names.lookup y = some .local)) = true)
    (B : Below A₀ base outer h₀) (F : Fr h₀ L zh m) (X₀ : K.In h₀) (N : News h₀ L zh news) (T : Top p loose mean mg mb h₀) (hA : A.frames = some (env :: outer)) (hf : env.frame = some L) (hke : env.scope.kind = .function)
    (hroom : A.depth < recursionLimit)
    (hbind : bindArgs (fnOf name qual params body scope dV kV doc pm an cdv ct) ⟨vs, []⟩ = pure ((params.args.map (·.arg)).zip vs))
    (h : ∀ g L' h₁, Fr h₀ L g m → News g L' h₁ news → K.In g → Top p loose mean mg mb g → Below A base (env :: outer) g →
      let qk : Flow → Shared → Prop := fun fl s' => LeaveK h₀ L m g (fun r s' => match r with | .ok (.ret v) => Q v s' | .ok _ => False | .error e => E e s') (match fl with | .ret v => v | _ => .none) s'
      let zE := envX qual scope L' f cdv []
      let zA := A.deeper zE
      let ek : Value → Shared → Prop := fun e s' => wpAny (model prog w) zA (leaving zE e) (fun _ s'' => E e s'') (fun e' s'' => E e' s'') s'
      ∀ tk, let zm : Str → Option Value := fun y => ((params.args.map (·.arg)).zip vs).reverse.lookup y
        Fr g L' h₁ zm → wpAny (model prog w) zA (execs body zE) qk ek ⟨h₁, zg, zd, tk, zo⟩) :
    codeAny (model prog w) A (.call (.ref f) ⟨vs, []⟩) (fun r s' => match r with | .ok (.ret v) => Q v s' | .ok _ => False | .error e => E e s') ⟨zh, zg, zd, zk, zo⟩ := by
  refine code_def B F X₀ N T hA hf hke ho hcd hroom (.of_eq hbind) ?_ (fun g L' h₁ FG F' N' B' X' T' => h g L' h₁ FG N' X' T' B' _ F') hco hgen hk hcell
  intro y hy
  exact of_decide_eq_true (List.all_eq_true.mp hloc y.1 (List.of_mem_zip hy).1)
end
/-- leaving a plain call's frame -/
theorem leaveR_z {h₀ g h : Heap} {L L' : Addr} {m m' : Str → Option Value} {news' : List (Addr × Obj)} {Q E : Value → Shared → Prop} {v : Value} {gs : Array GenState} {ds : Drawn} {tk : Nat} {o : OsState} (F' : Fr g L' h m') (N' : News g L' h news')
    (k : News h₀ L h news' → Fr h₀ L h m → Q v ⟨h, gs, ds, tk, o⟩) :
    LeaveK h₀ L m g (fun r s' => match r with | .ok (.ret v) => Q v s' | .ok _ => False | .error e => E e s') (match Flow.ret v with | .ret v => v | _ => .none) ⟨h, gs, ds, tk, o⟩ := ⟨L', m', news', F', N', fun F N => k N F⟩
theorem leaveR_y {K : Frag} {p : Program} {loose : List Str} {mean : ExcName → Option Value} {mg mb : Str → Option Value} {h₀ g h : Heap} {L L' : Addr} {m m' : Str → Option Value} {news' : List (Addr × Obj)} {Q E : Value → Shared → Prop} {v : Value} {gs : Array GenState} {ds : Drawn} {tk : Nat} {o : OsState} (F' : Fr g L' h m') (N' : News g L' h news')
    (T : Top p loose mean mg mb h₀) (X : K.In h₀) (k : Fr h₀ L h m → News h₀ L h news' → Top p loose mean mg mb h₀ → K.In h₀ → Q v ⟨h, gs, ds, tk, o⟩) :
    LeaveK h₀ L m g (fun r s' => match r with | .ok (.ret v) => Q v s' | .ok _ => False | .error e => E e s') (match Flow.ret v with | .ret v => v | _ => .none) ⟨h, gs, ds, tk, o⟩ := ⟨L', m', news', F', N', fun F N => k F N T X⟩
section
variable {prog : Program} {w : World} {p : Program} {loose : List Str} {mean : ExcName → Option Value} {mg mb : Str → Option Value} {A₀ : Around} {base h₀ : Heap} {L : Addr} {m : Str → Option Value} {news : List (Addr × Obj)}
theorem kinds_zip {names : List Str} {vs : List Value} {P : Str → Bool} (e : (names.all P) = true) : ((names.zip vs).all fun y => P y.1) = true := by
  rw [List.all_eq_true] at e ⊢
  exact fun y hy => e y.1 (List.of_mem_zip hy).1
theorem cellsone {cm : Str → Option Value} {n : Str} {c : Addr} {cells : List (Addr × Obj)} {P : List (Addr × Obj) → Prop} (Y : CellsAre cm [(n, c)] cells) (k : ∀ o : Obj, o.data = .cell (cm n) → P [(c, o)]) : P cells := by
  obtain ⟨o, rfl, d⟩ := Y.one; exact k o d
theorem cellstwo {cm : Str → Option Value} {n n' : Str} {c c' : Addr} {cells : List (Addr × Obj)} {P : List (Addr × Obj) → Prop} (Y : CellsAre cm [(n, c), (n', c')] cells) (k : ∀ o o' : Obj, o.data = .cell (cm n) → o'.data = .cell (cm n') → P [(c, o), (c', o')]) : P cells := by
  obtain ⟨o, o', rfl, d, d'⟩ := Y.two; exact k o o' d d'
theorem cellsthree {cm : Str → Option Value} {n n' n2 : Str} {c c' c2 : Addr} {cells : List (Addr × Obj)} {P : List (Addr × Obj) → Prop} (Y : CellsAre cm [(n, c), (n', c'), (n2, c2)] cells) (k : ∀ o o' o2 : Obj, o.data = .cell (cm n) → o'.data = .cell (cm n') → o2.data = .cell (cm n2) → P [(c, o), (c', o'), (c2, o2)]) : P cells := by
  obtain ⟨o, o', o2, rfl, d, d', d2⟩ := Y.three; exact k o o' o2 d d' d2
theorem code_zCG {A : Around} {K : Frag} {zh : Heap} {zg : Array GenState} {zd : Drawn} {zk : Nat} {zo : OsState} {env : Env} {outer : List Env} {R : Result → Shared → Prop} {name qual : Str} {params : Arguments} {body : List Stmt} {scope : Scope} {dV kV doc pm cdv ct oc : Value} {an od : Option Addr} {osl : Array (Option Value)} {f : Addr} {vs : List Value} {ze : Addr → Env}
    (ho : K.lookup f = some ⟨oc, od, .func (fnOf name qual params body scope dV kV doc pm an cdv ct), osl⟩) (hcd : codeIn K cdv qual = true) (hco : scope.isCoroutine = false) (hgen : scope.isGenerator = false) (hk : scope.kind = .function)
    (hkind : ((params.args.map (·.arg)).all fun y => scope.names.lookup y == some .local || scope.names.lookup y == some .cell) = true) (hnd : ((cellsFrom 0 scope.names []).map (·.1)).Nodup)
    (he : (fun L' => envOfC qual scope L' f cdv) = ze)
    (B : Below A₀ base outer h₀) (F : Fr h₀ L zh m) (X₀ : K.In h₀) (N : News h₀ L zh news) (T : Top p loose mean mg mb h₀) (hA : A.frames = some (env :: outer)) (hf : env.frame = some L) (hke : env.scope.kind = .function)
    (hroom : A.depth < recursionLimit)
    (hbind : bindArgs (fnOf name qual params body scope dV kV doc pm an cdv ct) ⟨vs, []⟩ = pure ((params.args.map (·.arg)).zip vs))
    (h : ∀ g L' h₁ (_ : Nat) cells, Fr h₀ L g m → K.In g → Top p loose mean mg mb g → CellsAre (bindC (fun y => scope.names.lookup y) ((params.args.map (·.arg)).zip vs) (fun _ => none)) (ze L').cells cells → Below A base (env :: outer) g → (∀ p ∈ news, p.1 < L') → News g L' h₁ (cells ++ news) →
      ∀ tk, Fr g L' h₁ (bindL (fun y => scope.names.lookup y) ((params.args.map (·.arg)).zip vs) (fun _ => none)) → wpAny (model prog w) (A.deeper (ze L')) (execs body (ze L')) (fun fl s' => LeaveK h₀ L m g R (match fl with | .ret v => v | _ => .none) s') (fun e s' => wpAny (model prog w) (A.deeper (ze L')) (leaving (ze L') e) (fun _ s'' => R (.error e) s'') (fun e' s'' => R (.error e') s'') s') ⟨h₁, zg, zd, tk, zo⟩) :
    codeAny (model prog w) A (.call (.ref f) ⟨vs, []⟩) R ⟨zh, zg, zd, zk, zo⟩ := by
  subst he
  exact code_defC B F X₀ N T hA hf hke ho hcd hroom (.of_eq hbind) (kinds_zip hkind) hnd (fun g L' h₁ tk cells FG F' N' Y B' X' T' l => h g L' h₁ tk cells FG X' T' Y B' l N' tk F') hco hgen hk
theorem code_zC1 {A : Around} {K : Frag} {zh : Heap} {zg : Array GenState} {zd : Drawn} {zk : Nat} {zo : OsState} {env : Env} {outer : List Env} {Q E : Value → Shared → Prop} {name qual : Str} {params : Arguments} {body : List Stmt} {scope : Scope} {dV kV doc pm cdv ct oc : Value} {an od : Option Addr} {osl : Array (Option Value)} {f : Addr} {vs : List Value} {n1 : Str} {c1 : Option Value}
    (ho : K.lookup f = some ⟨oc, od, .func (fnOf name qual params body scope dV kV doc pm an cdv ct), osl⟩) (hcd : codeIn K cdv qual = true) (hco : scope.isCoroutine = false) (hgen : scope.isGenerator = false) (hk : scope.kind = .function)
    (hkind : ((params.args.map (·.arg)).all fun y => scope.names.lookup y == some .local || scope.names.lookup y == some .cell) = true) (hnd : ((cellsFrom 0 scope.names []).map (·.1)).Nodup)
    (hcs : ∀ L', cellsFrom (L' + 1) scope.names [] = [(n1, L' + 1)])
    (hc1 : bindC (fun y => scope.names.lookup y) ((params.args.map (·.arg)).zip vs) (fun _ => none) n1 = c1)
    (B : Below A₀ base outer h₀) (F : Fr h₀ L zh m) (X₀ : K.In h₀) (N : News h₀ L zh news) (T : Top p loose mean mg mb h₀) (hA : A.frames = some (env :: outer)) (hf : env.frame = some L) (hke : env.scope.kind = .function)
    (hroom : A.depth < recursionLimit)
    (hbind : bindArgs (fnOf name qual params body scope dV kV doc pm an cdv ct) ⟨vs, []⟩ = pure ((params.args.map (·.arg)).zip vs))
    (h : ∀ g L' h₁ (_ : Nat), Fr h₀ L g m → K.In g → Top p loose mean mg mb g → ∀ o1 : Obj, o1.data = .cell c1 → Below A base (env :: outer) g → (∀ p ∈ news, p.1 < L') → News g L' h₁ ((L' + 1, o1) :: news) →
      let qk : Flow → Shared → Prop := fun fl s' => LeaveK h₀ L m g (fun r s' => match r with | .ok (.ret v) => Q v s' | .ok _ => False | .error e => E e s') (match fl with | .ret v => v | _ => .none) s'
      let zE := envX qual scope L' f cdv [(n1, L' + 1)]
      let zA := A.deeper zE
      let ek : Value → Shared → Prop := fun e s' => wpAny (model prog w) zA (leaving zE e) (fun _ s'' => E e s'') (fun e' s'' => E e' s'') s'
      ∀ tk, let zm : Str → Option Value := bindL (fun y => scope.names.lookup y) ((params.args.map (·.arg)).zip vs) (fun _ => none)
        Fr g L' h₁ zm → wpAny (model prog w) zA (execs body zE) qk ek ⟨h₁, zg, zd, tk, zo⟩) :
    codeAny (model prog w) A (.call (.ref f) ⟨vs, []⟩) (fun r s' => match r with | .ok (.ret v) => Q v s' | .ok _ => False | .error e => E e s') ⟨zh, zg, zd, zk, zo⟩ :=
  code_zCG (ze := fun L' => envX qual scope L' f cdv [(n1, L' + 1)]) ho hcd hco hgen hk hkind hnd (funext fun L' => congrArg (envX qual scope L' f cdv) (hcs L')) B F X₀ N T hA hf hke hroom hbind
    fun g L' h₁ tk cells FG X' T' Y B' l N' => cellsone (P := fun cells => News g L' h₁ (cells ++ news) → _) Y (fun o1 d1 N' => h g L' h₁ tk FG X' T' o1 (d1.trans (congrArg _ hc1)) B' l N') N'
theorem code_zC2 {A : Around} {K : Frag} {zh : Heap} {zg : Array GenState} {zd : Drawn} {zk : Nat} {zo : OsState} {env : Env} {outer : List Env} {Q E : Value → Shared → Prop} {name qual : Str} {params : Arguments} {body : List Stmt} {scope : Scope} {dV kV doc pm cdv ct oc : Value} {an od : Option Addr} {osl : Array (Option Value)} {f : Addr} {vs : List Value} {n1 n2 : Str} {c1 c2 : Option Value}
    (ho : K.lookup f = some ⟨oc, od, .func (fnOf name qual params body scope dV kV doc pm an cdv ct), osl⟩) (hcd : codeIn K cdv qual = true) (hco : scope.isCoroutine = false) (hgen : scope.isGenerator = false) (hk : scope.kind = .function)
    (hkind : ((params.args.map (·.arg)).all fun y => scope.names.lookup y == some .local || scope.names.lookup y == some .cell) = true) (hnd : ((cellsFrom 0 scope.names []).map (·.1)).Nodup)
    (hcs : ∀ L', cellsFrom (L' + 1) scope.names [] = [(n1, L' + 1 + 1), (n2, L' + 1)])
    (hc1 : bindC (fun y => scope.names.lookup y) ((params.args.map (·.arg)).zip vs) (fun _ => none) n1 = c1) (hc2 : bindC (fun y => scope.names.lookup y) ((params.args.map (·.arg)).zip vs) (fun _ => none) n2 = c2)
    (B : Below A₀ base outer h₀) (F : Fr h₀ L zh m) (X₀ : K.In h₀) (N : News h₀ L zh news) (T : Top p loose mean mg mb h₀) (hA : A.frames = some (env :: outer)) (hf : env.frame = some L) (hke : env.scope.kind = .function)
    (hroom : A.depth < recursionLimit)
    (hbind : bindArgs (fnOf name qual params body scope dV kV doc pm an cdv ct) ⟨vs, []⟩ = pure ((params.args.map (·.arg)).zip vs))
    (h : ∀ g L' h₁ (_ : Nat), Fr h₀ L g m → K.In g → Top p loose mean mg mb g → ∀ o1 o2 : Obj, o1.data = .cell c1 → o2.data = .cell c2 → Below A base (env :: outer) g → (∀ p ∈ news, p.1 < L') → News g L' h₁ ((L' + 1 + 1, o1) :: (L' + 1, o2) :: news) →
      let qk : Flow → Shared → Prop := fun fl s' => LeaveK h₀ L m g (fun r s' => match r with | .ok (.ret v) => Q v s' | .ok _ => False | .error e => E e s') (match fl with | .ret v => v | _ => .none) s'
      let zE := envX qual scope L' f cdv [(n1, L' + 1 + 1), (n2, L' + 1)]
      let zA := A.deeper zE
      let ek : Value → Shared → Prop := fun e s' => wpAny (model prog w) zA (leaving zE e) (fun _ s'' => E e s'') (fun e' s'' => E e' s'') s'
      ∀ tk, let zm : Str → Option Value := bindL (fun y => scope.names.lookup y) ((params.args.map (·.arg)).zip vs) (fun _ => none)
        Fr g L' h₁ zm → wpAny (model prog w) zA (execs body zE) qk ek ⟨h₁, zg, zd, tk, zo⟩) :
    codeAny (model prog w) A (.call (.ref f) ⟨vs, []⟩) (fun r s' => match r with | .ok (.ret v) => Q v s' | .ok _ => False | .error e => E e s') ⟨zh, zg, zd, zk, zo⟩ :=
  code_zCG (ze := fun L' => envX qual scope L' f cdv [(n1, L' + 1 + 1), (n2, L' + 1)]) ho hcd hco hgen hk hkind hnd (funext fun L' => congrArg (envX qual scope L' f cdv) (hcs L')) B F X₀ N T hA hf hke hroom hbind
    fun g L' h₁ tk cells FG X' T' Y B' l N' => cellstwo (P := fun cells => News g L' h₁ (cells ++ news) → _) Y (fun o1 o2 d1 d2 N' => h g L' h₁ tk FG X' T' o1 o2 (d1.trans (congrArg _ hc1)) (d2.trans (congrArg _ hc2)) B' l N') N'
theorem code_zC3 {A : Around} {K : Frag} {zh : Heap} {zg : Array GenState} {zd : Drawn} {zk : Nat} {zo : OsState} {env : Env} {outer : List Env} {Q E : Value → Shared → Prop} {name qual : Str} {params : Arguments} {body : List Stmt} {scope : Scope} {dV kV doc pm cdv ct oc : Value} {an od : Option Addr} {osl : Array (Option Value)} {f : Addr} {vs : List Value} {n1 n2 n3 : Str} {c1 c2 c3 : Option Value}
    (ho : K.lookup f = some ⟨oc, od, .func (fnOf name qual params body scope dV kV doc pm an cdv ct), osl⟩) (hcd : codeIn K cdv qual = true) (hco : scope.isCoroutine = false) (hgen : scope.isGenerator = false) (hk : scope.kind = .function)
    (hkind : ((params.args.map (·.arg)).all fun y => scope.names.lookup y == some .local || scope.names.lookup y == some .cell) = true) (hnd : ((cellsFrom 0 scope.names []).map (·.1)).Nodup)
    (hcs : ∀ L', cellsFrom (L' + 1) scope.names [] = [(n1, L' + 1 + 1 + 1), (n2, L' + 1 + 1), (n3, L' + 1)])
    (hc1 : bindC (fun y => scope.names.lookup y) ((params.args.map (·.arg)).zip vs) (fun _ => none) n1 = c1) (hc2 : bindC (fun y => scope.names.lookup y) ((params.args.map (·.arg)).zip vs) (fun _ => none) n2 = c2) (hc3 : bindC (fun y => scope.names.lookup y) ((params.args.map (·.arg)).zip vs) (fun _ => none) n3 = c3)
    (B : Below A₀ base outer h₀) (F : Fr h₀ L zh m) (X₀ : K.In h₀) (N : News h₀ L zh news) (T : Top p loose mean mg mb h₀) (hA : A.frames = some (env :: outer)) (hf : env.frame = some L) (hke : env.scope.kind = .function)
    (hroom : A.depth < recursionLimit)
    (hbind : bindArgs (fnOf name qual params body scope dV kV doc pm an cdv ct) ⟨vs, []⟩ = pure ((params.args.map (·.arg)).zip vs))
    (h : ∀ g L' h₁ (_ : Nat), Fr h₀ L g m → K.In g → Top p loose mean mg mb g → ∀ o1 o2 o3 : Obj, o1.data = .cell c1 → o2.data = .cell c2 → o3.data = .cell c3 → Below A base (env :: outer) g → (∀ p ∈ news, p.1 < L') → News g L' h₁ ((L' + 1 + 1 + 1, o1) :: (L' + 1 + 1, o2) :: (L' + 1, o3) :: news) →
      let qk : Flow → Shared → Prop := fun fl s' => LeaveK h₀ L m g (fun r s' => match r with | .ok (.ret v) => Q v s' | .ok _ => False | .error e => E e s') (match fl with | .ret v => v | _ => .none) s'
      let zE := envX qual scope L' f cdv [(n1, L' + 1 + 1 + 1), (n2, L' + 1 + 1), (n3, L' + 1)]
      let zA := A.deeper zE
      let ek : Value → Shared → Prop := fun e s' => wpAny (model prog w) zA (leaving zE e) (fun _ s'' => E e s'') (fun e' s'' => E e' s'') s'
      ∀ tk, let zm : Str → Option Value := bindL (fun y => scope.names.lookup y) ((params.args.map (·.arg)).zip vs) (fun _ => none)
        Fr g L' h₁ zm → wpAny (model prog w) zA (execs body zE) qk ek ⟨h₁, zg, zd, tk, zo⟩) :
    codeAny (model prog w) A (.call (.ref f) ⟨vs, []⟩) (fun r s' => match r with | .ok (.ret v) => Q v s' | .ok _ => False | .error e => E e s') ⟨zh, zg, zd, zk, zo⟩ :=
  code_zCG (ze := fun L' => envX qual scope L' f cdv [(n1, L' + 1 + 1 + 1), (n2, L' + 1 + 1), (n3, L' + 1)]) ho hcd hco hgen hk hkind hnd (funext fun L' => congrArg (envX qual scope L' f cdv) (hcs L')) B F X₀ N T hA hf hke hroom hbind
    fun g L' h₁ tk cells FG X' T' Y B' l N' => cellsthree (P := fun cells => News g L' h₁ (cells ++ news) → _) Y (fun o1 o2 o3 d1 d2 d3 N' => h g L' h₁ tk FG X' T' o1 o2 o3 (d1.trans (congrArg _ hc1)) (d2.trans (congrArg _ hc2)) (d3.trans (congrArg _ hc3)) B' l N') N'
end
section
variable {prog : Program} {w : World} {A : Around} {E Q : Value → Shared → Prop} {h : Heap} {g : Array GenState} {d : Drawn} {k : Nat} {o : OsState} {a b : Int} {t u : Tok}
theorem add_z (q : Q (.int (a + b) k) ⟨h, g, d, k + 1, o⟩) : wpAny (model prog w) A (binaryOp .Add (.int a t) (.int b u)) Q E ⟨h, g, d, k, o⟩ := add_int q
theorem sub_z (q : Q (.int (a - b) k) ⟨h, g, d, k + 1, o⟩) : wpAny (model prog w) A (binaryOp .Sub (.int a t) (.int b u)) Q E ⟨h, g, d, k, o⟩ := sub_int q
theorem mul_z (hm : IntMulOk a b) (q : Q (.int (a * b) k) ⟨h, g, d, k + 1, o⟩) : wpAny (model prog w) A (binaryOp .Mult (.int a t) (.int b u)) Q E ⟨h, g, d, k, o⟩ := mul_int q hm
end
theorem mok_l {a b : Int} (h0 : 0 ≤ a) (h : a < 18446744073709551616) : IntMulOk a b := .of_left (intBits_le_64 (Int.lt_of_lt_of_le (by decide) h0) h)
theorem mok_r {a b : Int} (h0 : 0 ≤ b) (h : b < 18446744073709551616) : IntMulOk a b := .of_right (intBits_le_64 (Int.lt_of_lt_of_le (by decide) h0) h)
theorem ad2k {v k : Int} (e : 2 ≤ k) : v + 1 + 1 ≤ v + k := by rw [ad2]; exact Int.add_le_add_left e v
theorem ad3k {v k : Int} (e : 3 ≤ k) : v + 1 + 1 + 1 ≤ v + k := by rw [ad3]; exact Int.add_le_add_left e v
theorem ad4k {v k : Int} (e : 4 ≤ k) : v + 1 + 1 + 1 + 1 ≤ v + k := by rw [ad4]; exact Int.add_le_add_left e v
theorem pr1 {c r n : Int} (h0 : 0 ≤ r) (e : n ≤ c + 1) : n ≤ c + (1 + r) := Int.le_trans e (Int.add_le_add_left (Int.le_add_of_nonneg_right h0) c)
theorem pr2 {c r k n : Int} (h : r < k) (e : c + k ≤ n) : c + (1 + r) ≤ n := Int.le_trans (Int.add_le_add_left (bi_1p h (Int.le_refl k)) c) e
theorem mr1 {c r n : Int} (h0 : 0 ≤ r) (e : n ≤ c ∧ 0 ≤ c) : n ≤ c * (1 + r) := Int.le_trans e.1 (by rw [Int.mul_add, Int.mul_one]; exact Int.le_add_of_nonneg_right (Int.mul_nonneg e.2 h0))
theorem mr2 {c r k n : Int} (h : r < k) (e : 0 ≤ c ∧ c * k ≤ n) : c * (1 + r) ≤ n := Int.le_trans (Int.mul_le_mul_of_nonneg_left (bi_1p h (Int.le_refl k)) e.1) e.2
theorem nzA {N r : Int} {c : Prop} [Decidable c] (h : 1 + r ≤ N) (h0 : 0 ≤ r) : 0 ≤ N - if c then 1 else 0 := Int.sub_nonneg_of_le (Int.le_trans (by split <;> decide : (if c then (1 : Int) else 0) ≤ 1) (Int.le_trans (bi_1q h0) h))
theorem nzB {N k n : Int} {c : Prop} [Decidable c] (h : N ≤ k) (e : k < n) : (N - if c then 1 else 0) < n := Int.lt_of_le_of_lt (Int.sub_le_self N (by split <;> decide)) (Int.lt_of_le_of_lt h e)
theorem ts0 {c : Int} (h : 0 ≤ c) : ((c - 0).toNat : Int) = c := by rw [Int.sub_zero]; exact Int.toNat_of_nonneg h
theorem abs_if {n : Int} : 0 ≤ if n < 0 then -n else n := by
  split
  · exact Int.neg_nonneg_of_nonpos (Int.le_of_lt (by assumption))
  · exact Int.not_lt.mp (by assumption)
theorem le2c {k : Nat} (h : k ≤ 2) : k = 0 ∨ k = 1 ∨ k = 2 := (by decide : ∀ k : Nat, k < 3 → k = 0 ∨ k = 1 ∨ k = 2) k (Nat.lt_succ_of_le h)
theorem le1c {k : Nat} (h : k ≤ 1) : k = 0 ∨ k = 1 := (by decide : ∀ k : Nat, k < 2 → k = 0 ∨ k = 1) k (Nat.lt_succ_of_le h)
theorem tnat8 {b c : Int} (h : c < b) : (b - (c + 8)).toNat < (b - c).toNat := (Int.toNat_lt_toNat (Int.sub_pos_of_lt h)).mpr (Int.sub_lt_sub_left (Int.lt_add_of_pos_right c (by decide)) b)
theorem cr2 {i k n : Nat} (h : i + (k + 1) = n) : i + 1 + k = n := (Nat.add_right_comm i 1 k).trans h
theorem cr1 {i k n : Nat} (h : i + (k + 1) = n) : i < n := h ▸ Nat.lt_add_of_pos_right (Nat.succ_pos k)
theorem wl1 {i n : Nat} (h : i < n) : n + 1 - (i + 1) < n + 1 - i := Nat.sub_lt_sub_left (Nat.lt_succ_of_lt h) (Nat.lt_succ_self i)
theorem it1 {k : Int} {n : Nat} (h : k.toNat < n) (h0 : 0 ≤ k) : k < n := (Int.toNat_lt h0).mp h
theorem sm1 {i : Nat} {n : Int} (h : i < n.toNat) : (i : Int) + 1 ≤ n := Int.add_one_le_of_lt (lt_int h)
theorem zi0 {i : Nat} : (0 : Int) ≤ 0 + i := by rw [Int.zero_add]; exact Int.natCast_nonneg i
theorem zi1 {i y : Int} (h : i < y) : 0 + i + 1 ≤ y := by rw [Int.zero_add]; exact h
theorem zx0 {x : Int} (h : 0 ≤ x) : 0 ≤ 0 + x := by rw [Int.zero_add]; exact h
theorem nabs1 {v k : Int} {n : Nat} (h0 : 0 < v) (h : v < k) (e : k.toNat ≤ n ∧ 0 < k) : v.natAbs < n := nabs (Int.le_of_lt h0) h e.1 e.2
theorem nabs2 {v k : Int} {n : Nat} (h0 : 1 ≤ v) (h : v ≤ k) (e : (k + 1).toNat ≤ n ∧ 0 < k + 1) : v.natAbs < n := nabs (Int.le_trans (by decide) h0) (Int.lt_add_one_of_le h) e.1 e.2
theorem zmE {X v : Int} : 0 * X + 1 * v = v := by rw [Int.zero_mul, Int.zero_add, Int.one_mul]
theorem zm0 {X v : Int} (h : 0 ≤ v) : 0 ≤ 0 * X + 1 * v := by rw [zmE]; exact h
theorem zm1 {X v k n : Int} (h : v < k) (e : k ≤ n) : 0 * X + 1 * v < n := by rw [zmE]; exact Int.lt_of_lt_of_le h e
theorem zm2 {X v k n r : Int} (q : r ≤ 0 * X + 1 * v) (h : v < k) (e : k ≤ n) : r < n := Int.lt_of_le_of_lt q (zm1 h e)
theorem bt1 {r x k n : Int} (h1 : r ≤ x) (h2 : x < k) (e : k ≤ n) : r < n := Int.lt_of_lt_of_le (Int.lt_of_le_of_lt h1 h2) e
theorem bt2 {r x k n : Int} (h1 : r ≤ x) (h2 : x ≤ k) (e : k < n) : r < n := Int.lt_of_le_of_lt (Int.le_trans h1 h2) e
theorem le_s2n {a : Nat} : a ≤ a + 1 + 1 := Nat.le_add_right a 2
theorem lt_s2n {a b : Nat} (h : a + 1 + 1 < b) : a < b := Nat.lt_trans (Nat.lt_succ_of_lt (Nat.lt_succ_self a)) h
noncomputable def okN (cs : Scope) (x : Str) : Bool := decide (cs.kind = .function) && (decide (cs.names.lookup x = some .local) && !(x == Str.ofString "__debug__"))
section
variable {M : Model} {A : Around} {E : Value → Shared → Prop} {s : Shared} {h₀ : Heap} {L a : Addr} {m : Str → Option Value} {cn : Str} {cs : Scope} {ccd : Value} {cl : List (Str × Addr)} {x y : Str} {v u : Value} {px py pos pos' : Pos}
theorem nameZ {Q : Value → Shared → Prop} (ok : okN cs x = true) (F : Fr h₀ L s.heap m) (mx : m x = some v) (h : Q v s) : wpAny M A (eval (.Name x px) (envX cn cs L a ccd cl)) Q E s := by
  unfold okN at ok
  rw [Bool.and_eq_true, Bool.and_eq_true] at ok
  exact nameX_L F mx h (of_decide_eq_true ok.1) (of_decide_eq_true ok.2.1) (by have := ok.2.2; rwa [Bool.not_eq_true'] at this)
theorem attrN {attr : Str} {Q : Value → Shared → Prop} (ok : okN cs x = true) (F : Fr h₀ L s.heap m) (mx : m x = some v) (h : wpAny M A (getAttr v attr true) Q E s) : wpAny M A (eval ((Expr.Name x px).Attribute attr pos) (envX cn cs L a ccd cl)) Q E s :=
  Attribute_Name_ (nameZ ok F mx h)
theorem asgNN {attr : Str} {Q : Flow → Shared → Prop} (okx : okN cs x = true) (oky : okN cs y = true) (F : Fr h₀ L s.heap m) (mx : m x = some v) (my : m y = some u) (h : wpAny M A (setAttr v attr u) (fun _ => Q .next) E s) (hs : swapsWith (.Name y py) (some ((Expr.Name x px).Attribute attr pos')) pos.line (envX cn cs L a ccd cl) = pure false) :
    wpAny M A (exec (.Assign [(Expr.Name x px).Attribute attr pos'] (.Name y py) pos) (envX cn cs L a ccd cl)) Q E s :=
  plainObj_wpAny_Assign_Attribute (nameZ oky F my (nameZ okx F mx h)) hs
theorem cmpN {op : CmpOp} {r : Expr} {whole : Sem Value} {Q : Bool → Shared → Prop} (ok : okN cs x = true) (hb : behindInMarks op r = false) (F : Fr h₀ L s.heap m) (mx : m x = some v)
    (h : wpAny M A (eval r (envX cn cs L a ccd cl)) (fun b s₂ => wpAny M A (compareOp op v b) (fun c s₃ => wpAny M A (truthy c) Q E s₃) E s₂) E s) : wpAny M A (PySem.isTrue ((Expr.Name x px).Compare [op] [r] pos) (envX cn cs L a ccd cl) whole) Q E s :=
  wpAny_isTrue_Compare1 (nameZ ok F mx h) hb
theorem subN {sl : Expr} {Q : Value → Shared → Prop} (ok : okN cs x = true) (F : Fr h₀ L s.heap m) (mx : m x = some v)
    (h : wpAny M A (eval sl (envX cn cs L a ccd cl)) (fun i s₂ => wpAny M A (subscriptTail (.Name x px) sl v i) Q E s₂) E s) : wpAny M A (eval ((Expr.Name x px).Subscript sl pos) (envX cn cs L a ccd cl)) Q E s :=
  Subscript_ (nameZ ok F mx h)
theorem binN {op : Operator} {r : Expr} {Q : Value → Shared → Prop} (ok : okN cs x = true) (F : Fr h₀ L s.heap m) (mx : m x = some v)
    (h : wpAny M A (eval r (envX cn cs L a ccd cl)) (fun b s₂ => wpAny M A (binaryOp op v b) Q E s₂) E s) : wpAny M A (eval ((Expr.Name x px).BinOp op r pos) (envX cn cs L a ccd cl)) Q E s :=
  wpAny_BinOp (nameZ ok F mx h)
theorem binNN {op : Operator} {Q : Value → Shared → Prop} (ok : okN cs x = true) (oky : okN cs y = true) (F : Fr h₀ L s.heap m) (mx : m x = some v) (my : m y = some u)
    (h : wpAny M A (binaryOp op v u) Q E s) : wpAny M A (eval ((Expr.Name x px).BinOp op (.Name y py) pos) (envX cn cs L a ccd cl)) Q E s :=
  binN ok F mx (nameZ oky F my h)
theorem retN {Q : Flow → Shared → Prop} (ok : okN cs x = true) (F : Fr h₀ L s.heap m) (mx : m x = some v) (h : Q (.ret v) s) : wpAny M A (exec (.Return (some (.Name x px)) pos) (envX cn cs L a ccd cl)) Q E s :=
  wpAny_Return_some (nameZ ok F mx h)
variable {h : Heap} {g : Array GenState} {d : Drawn} {t : Nat} {o : OsState} {i : Int} {n : Nat}
theorem subNC {Q : Value → Shared → Prop} (ok : okN cs x = true) (F : Fr h₀ L h m) (mx : m x = some v)
    (q : wpAny M A (subscriptTail (.Name x px) (.Constant (.int i) n py) v (.int i t)) Q E ⟨h, g, d, t + 1, o⟩) : wpAny M A (eval ((Expr.Name x px).Subscript (.Constant (.int i) n py) pos) (envX cn cs L a ccd cl)) Q E ⟨h, g, d, t, o⟩ :=
  subN ok F mx (cz_int q)
theorem binNC {op : Operator} {Q : Value → Shared → Prop} (ok : okN cs x = true) (F : Fr h₀ L h m) (mx : m x = some v)
    (q : wpAny M A (binaryOp op v (.int i t)) Q E ⟨h, g, d, t + 1, o⟩) : wpAny M A (eval ((Expr.Name x px).BinOp op (.Constant (.int i) n py) pos) (envX cn cs L a ccd cl)) Q E ⟨h, g, d, t, o⟩ :=
  binN ok F mx (cz_int q)
theorem cmpNC {op : CmpOp} {whole : Sem Value} {Q : Bool → Shared → Prop} (ok : okN cs x = true) (hb : behindInMarks op (.Constant (.int i) n py) = false) (F : Fr h₀ L h m) (mx : m x = some v)
    (q : wpAny M A (compareOp op v (.int i t)) (fun c s₃ => wpAny M A (truthy c) Q E s₃) E ⟨h, g, d, t + 1, o⟩) : wpAny M A (PySem.isTrue ((Expr.Name x px).Compare [op] [.Constant (.int i) n py] pos) (envX cn cs L a ccd cl) whole) Q E ⟨h, g, d, t, o⟩ :=
  cmpN ok hb F mx (cz_int q)
end
theorem cs_str {M : Model} {A : Around} {E : Value → Shared → Prop} {env : Env} {x : Str} {k : Nat} {pos : Pos} {Q : Value → Shared → Prop} {h : Heap} {g : Array GenState} {d : Drawn} {t : Nat} {o : OsState} (q : Q (.str x t) ⟨h, g, d, t + 1, o⟩) : wpAny M A (eval (.Constant (.str x) k pos) env) Q E ⟨h, g, d, t, o⟩ := PySem.Calls.Constant_str q
theorem tnlt {r s : Int} (h : 0 ≤ r ∧ r < s) : r.toNat < s.toNat := (Int.toNat_lt_toNat (Int.lt_of_le_of_lt h.1 h.2)).mpr h.2
theorem tz0 {i : Nat} : (0 : Int) ≤ 2 * (0 + i) + 1 := Int.add_nonneg (Int.mul_nonneg (by decide) zi0) (by decide)
theorem tz1 {i : Nat} {y : Int} (h : (i : Int) < y) : 2 * (0 + (i : Int)) + 1 < 2 * y := by
  have q := Int.mul_le_mul_of_nonneg_left (Int.add_one_le_of_lt h) (by decide : (0 : Int) ≤ 2)
  rw [Int.mul_add] at q
  rw [Int.zero_add]
  exact Int.lt_of_lt_of_le (Int.add_lt_add_left (by decide : (1 : Int) < 2 * 1) (2 * (i : Int))) q
theorem tz2 {i : Nat} {y k n : Int} (h : (i : Int) < y) (h2 : y ≤ k) (e : 2 * k ≤ n) : 2 * (0 + (i : Int)) + 1 < n := Int.lt_of_lt_of_le (tz1 h) (Int.le_trans (Int.mul_le_mul_of_nonneg_left h2 (by decide)) e)
theorem ltr1 {a b : Nat} {y : Int} (h : (b : Int) = y) (e : a = b) : (a : Int) = y := e ▸ h
theorem ltr2 {a b : Nat} {N : Int} (h : (b : Int) < N) (e : b = a) : (a : Int) < N := e ▸ h
theorem ltr3 {a b n : Nat} (e : b = a) (h : a ≤ n) : b ≤ n := e ▸ h
theorem lnI {l i n : Nat} {y k : Int} (e : l = i) (h : (i : Int) < y) (h2 : y ≤ k) (d : k ≤ n) : l ≤ n := e ▸ Int.ofNat_le.mp (Int.le_trans (Int.le_of_lt h) (Int.le_trans h2 d))
theorem lar1 {X c : Int} (h : 1 ≤ c) : X ≤ X + c := Int.le_add_of_nonneg_right (Int.le_trans (by decide) h)
theorem pzL {X c L N : Int} (e : L = N) (h : X + c ≤ N) : 0 + X + c ≤ L := by rw [e, Int.zero_add]; exact h
theorem d8a {X : Int} (h : 0 ≤ X) : 0 ≤ (X + 7) / 8 := Int.ediv_nonneg (Int.add_nonneg h (by decide)) (by decide)
theorem ge1_0 {v : Int} (h : 1 ≤ v) : 0 ≤ v := Int.le_trans (by decide) h
theorem imp1 {P : Prop} {r : Int} (h : P → 1 ≤ r) (p : P) : 0 < r := h p
theorem it2 {k : Int} {n : Nat} (h0 : 0 ≤ k) (h : k < n) : k.toNat < n := (Int.toNat_lt h0).mpr h
theorem sam2 {A S X N b : Int} (q : A = S - X) (z : X + b ≤ N) (h : N ≤ S) : b ≤ A := by rw [q]; exact Int.le_sub_left_of_add_le (Int.le_trans z h)
theorem sam3 {A A' S X b : Int} (e2 : A' = A - b) (e1 : A = S - X) : A' = S - (X + b) := by rw [e2, e1, Int.sub_sub]
theorem d8b {X : Int} : X ≤ 8 * ((X + 7) / 8) := by
  have q := Int.lt_mul_ediv_self_add (x := X + 7) (k := 8) (by decide)
  rw [show (8 : Int) * ((X + 7) / 8) + 8 = (8 * ((X + 7) / 8) + 1) + 7 from (Int.add_assoc _ 1 7).symm] at q
  exact Int.le_of_lt_add_one (Int.lt_of_add_lt_add_right q)
theorem viaLt {α : Type} {i : LT α} {x y d : α} {r : Prop} (h : y < d ∧ r) (f : y < d ∧ r → x < d) : x < d := f h
theorem argsZ {M : Model} {A : Around} {E : Value → Shared → Prop} {s : Shared} {h₀ : Heap} {L a : Addr} {m : Str → Option Value} {cn : Str} {cs : Scope} {ccd : Value} {cl : List (Str × Addr)} {x : Str} {pos p2 : Pos} {v : Value} {rest : List PySem.Expr} {Q : List Value → Shared → Prop} (ok : okN cs x = true) (F : Fr h₀ L s.heap m) (mx : m x = some v)
    (k : wpAny M A (spliced (backTo p2 (starEach rest (envX cn cs L a ccd cl)))) (fun vs s₂ => Q (v :: vs) s₂) E s) : wpAny M A (spliced (backTo p2 (starEach (.Name x pos :: rest) (envX cn cs L a ccd cl)))) Q E s := args_cons (nameZ ok F mx k)
theorem argsZ1 {M : Model} {A : Around} {E : Value → Shared → Prop} {s : Shared} {h₀ : Heap} {L a : Addr} {m : Str → Option Value} {cn : Str} {cs : Scope} {ccd : Value} {cl : List (Str × Addr)} {x : Str} {pos p2 : Pos} {v : Value} {Q : List Value → Shared → Prop} (ok : okN cs x = true) (F : Fr h₀ L s.heap m) (mx : m x = some v) (k : Q [v] s) :
    wpAny M A (spliced (backTo p2 (starEach [.Name x pos] (envX cn cs L a ccd cl)))) Q E s := args_one (nameZ ok F mx k)
theorem stZ {M : Model} {A : Around} {E : Value → Shared → Prop} {h₀ : Heap} {L a : Addr} {m : Str → Option Value} {cn : Str} {cs : Scope} {ccd : Value} {cl : List (Str × Addr)} {x : Str} {v : Value} {Q : Unit → Shared → Prop} {news : List (Addr × Obj)} {h : Heap} {g : Array GenState} {d : Drawn} {t : Nat} {o : OsState} (ok : okN cs x = true) (F : Fr h₀ L h m) (N : News h₀ L h news)
    (k : ∀ h', (Fr h₀ L h' fun y => if y = x then some v else m y) → News h₀ L h' news → Q () ⟨h', g, d, t + 1, o⟩) : wpAny M A (storeName (envX cn cs L a ccd cl) x v) Q E ⟨h, g, d, t, o⟩ := by
  unfold okN at ok
  rw [Bool.and_eq_true, Bool.and_eq_true] at ok
  exact store_z F N k (of_decide_eq_true ok.1) (of_decide_eq_true ok.2.1)
section
variable {prog : Program} {w : World} {p : Program} {loose : List Str} {mean : ExcName → Option Value} {mg mb : Str → Option Value}
 {gd : Option (List Code)} {cn : Str} {cs : Scope} {a : Addr} {ccd : Value} {cl : List (Str × Addr)} {outer : List Env} {A₀ : Around} {base h₀ : Heap} {L : Addr} {m : Str → Option Value} {news : List (Addr × Obj)} {s : Shared} {Q E : Value → Shared → Prop}
variable {sx sd ha tb tr : Addr} {st1 st2 : Tok} {sn : Nat} {ho : Obj} {kvs : List (Str × Value)}
variable {zh : Heap} {zg : Array GenState} {zd : Drawn} {zk : Nat} {zo : OsState}
example : True := by
  k_with "call ref" => (k_here; k_dflt (refine wpAny_call ?_; k_extra "z:enterz"))
  k_with "z:lts" => (with_reducible (first | (refine' c0 ?zq1; (case zq1 => assumption)) | (refine' c1 ?zq1; (case zq1 => assumption)) | (refine' c2 ?zq1; (case zq1 => assumption)) | (refine' c3 ?zq1; (case zq1 => assumption)) | (refine' c4 ?zq1; (case zq1 => assumption)) | (refine' c5 ?zq1; (case zq1 => assumption)) | (refine' c6 ?zq1; (case zq1 => assumption)) | (refine' c7 ?zq1; (case zq1 => assumption)) | (refine' c8 ?zq1; (case zq1 => assumption)) | (refine' c9 ?zq1; (case zq1 => assumption)) | (refine' c10 ?zq1; (case zq1 => assumption)) | (refine' c11 ?zq1; (case zq1 => assumption)) | (refine' c12 ?zq1; (case zq1 => assumption)) | (refine' c13 ?zq1; (case zq1 => assumption)) | (refine' c14 ?zq1; (case zq1 => assumption)) | (refine' and1 ?zq1; (case zq1 => assumption)) | (refine' and2 ?zq1; (case zq1 => assumption)) | (refine' and3 ?zq1; (case zq1 => assumption)) | (refine' and4 ?zq1; (case zq1 => assumption)) | (refine' and5 ?zq1; (case zq1 => assumption)) | (refine' and6 ?zq1; (case zq1 => assumption)) | k_extra "z:lt2"))
  k_with "z:lt" => (with_reducible (first | assumption | ((fail_if_success (fail_if_success (refine' viaLt ?zh ?zf; (case zh => assumption); (case zf => first | exact c0 | exact c1 | exact c2 | exact c3 | exact c4 | exact c5 | exact c6 | exact c7 | exact c8 | exact c9 | exact c10 | exact c11 | exact c12 | exact c13 | exact c14 | exact c15 | exact c16 | exact c17 | exact c18 | exact c19 | exact c20 | exact c21 | exact c22 | exact c23 | exact c24 | exact c25 | exact c26 | exact and1 | exact and2 | exact and3 | exact and4 | exact and5 | exact and6 | exact and7 | exact and8 | exact and9 | exact and10 | exact and11 | exact and12 | exact and13 | exact and14 | exact and15 | exact and16 | exact and17 | exact and18 | exact and19 | exact and20 | exact and21 | exact and22 | exact and23 | exact and24 | exact and25 | exact and26)))); first | (refine' c0 ?zq1; (case zq1 => assumption)) | (refine' c1 ?zq1; (case zq1 => assumption)) | (refine' c2 ?zq1; (case zq1 => assumption)) | (refine' c3 ?zq1; (case zq1 => assumption)) | (refine' c4 ?zq1; (case zq1 => assumption)) | (refine' c5 ?zq1; (case zq1 => assumption)) | (refine' c6 ?zq1; (case zq1 => assumption)) | (refine' c7 ?zq1; (case zq1 => assumption)) | (refine' c8 ?zq1; (case zq1 => assumption)) | (refine' c9 ?zq1; (case zq1 => assumption)) | (refine' c10 ?zq1; (case zq1 => assumption)) | (refine' c11 ?zq1; (case zq1 => assumption)) | (refine' c12 ?zq1; (case zq1 => assumption)) | (refine' c13 ?zq1; (case zq1 => assumption)) | (refine' c14 ?zq1; (case zq1 => assumption)) | (refine' and1 ?zq1; (case zq1 => assumption)) | (refine' and2 ?zq1; (case zq1 => assumption)) | (refine' and3 ?zq1; (case zq1 => assumption)) | (refine' and4 ?zq1; (case zq1 => assumption)) | (refine' and5 ?zq1; (case zq1 => assumption)) | (refine' and6 ?zq1; (case zq1 => assumption)) | k_extra "z:lt2")))
  k_with "z:l" => (first | k_extra "z:lt" | (with_reducible (refine' z_tr ?zq1 ?zq2; (case zq1 => assumption); (case zq2 => k_extra "z:lt"))) | (with_reducible (refine' z_tr3 ?zq1 ?zq2 ?zq3; (case zq1 => assumption); (case zq2 => assumption); (case zq3 => k_extra "z:lt"))) | k_extra "z:lts" | (with_reducible (refine' z_tr ?zq1 ?zq2; (case zq1 => assumption); (case zq2 => k_extra "z:lts"))) | omega)
  k_with "z:ne" => (first | (with_reducible (first | assumption | (refine' Ne.symm ?zq1; (case zq1 => assumption)) | (refine' Nat.ne_of_gt ?zq1; (case zq1 => k_extra "z:lt")) | (refine' Nat.ne_of_lt ?zq1; (case zq1 => k_extra "z:lt")) | exact ne_n1 | exact ne_n2 | exact ne_n3 | exact Ne.symm ne_n1 | exact Ne.symm ne_n2 | exact Ne.symm ne_n3 | (refine' Nat.ne_of_gt (z_tr ?zq1 ?zq2); (case zq1 => assumption); (case zq2 => k_extra "z:lt")) | (refine' Nat.ne_of_lt (z_tr ?zq1 ?zq2); (case zq1 => assumption); (case zq2 => k_extra "z:lt")) | (refine' gt865 ?zq1; (case zq1 => k_extra "z:lt")) | (refine' ne_s1 ?zq1; (case zq1 => k_extra "z:lt")) | (refine' ne_s2 ?zq1; (case zq1 => k_extra "z:lt")) | (refine' ne_s3 ?zq1; (case zq1 => k_extra "z:lt")) | (refine' Ne.symm (ne_s1 ?zq1); (case zq1 => k_extra "z:lt")) | (refine' Ne.symm (ne_s2 ?zq1); (case zq1 => k_extra "z:lt")) | (refine' Ne.symm (ne_s3 ?zq1); (case zq1 => k_extra "z:lt")) | (refine' c0 ?zq1; (case zq1 => assumption)) | (refine' c1 ?zq1; (case zq1 => assumption)) | (refine' c2 ?zq1; (case zq1 => assumption)) | (refine' and1 ?zq1; (case zq1 => assumption)) | (refine' and2 ?zq1; (case zq1 => assumption)) | (refine' Ne.symm (c0 ?zq1); (case zq1 => assumption)) | (refine' Ne.symm (c1 ?zq1); (case zq1 => assumption)) | (refine' Ne.symm (c2 ?zq1); (case zq1 => assumption)) | (refine' Ne.symm (and1 ?zq1); (case zq1 => assumption)) | (refine' Ne.symm (and2 ?zq1); (case zq1 => assumption)) | (refine' Nat.ne_of_gt (z_tr3 ?zq1 ?zq2 ?zq3); (case zq1 => assumption); (case zq2 => assumption); (case zq3 => k_extra "z:lt")) | (refine' Nat.ne_of_lt (z_tr3 ?zq1 ?zq2 ?zq3); (case zq1 => assumption); (case zq2 => assumption); (case zq3 => k_extra "z:lt")) | (refine' Nat.ne_of_gt ?zq1; (case zq1 => k_extra "z:lts")) | (refine' Nat.ne_of_lt ?zq1; (case zq1 => k_extra "z:lts")) | (refine' Nat.ne_of_gt (z_tr ?zq1 ?zq2); (case zq1 => assumption); (case zq2 => k_extra "z:lts")) | (refine' Nat.ne_of_lt (z_tr ?zq1 ?zq2); (case zq1 => assumption); (case zq2 => k_extra "z:lts")))) | omega)
  k_with "z:o" => (first | (with_reducible (first | assumption | decide | (refine' bi_lt ?zq1 ?zq2; (case zq1 => assumption); (case zq2 => decide)) | (refine' bi_le ?zq1 ?zq2; (case zq1 => assumption); (case zq2 => decide)) | (refine' bi_ll ?zq1 ?zq2; (case zq1 => assumption); (case zq2 => decide)) | (refine' bi_ge ?zq1 ?zq2; (case zq1 => assumption); (case zq2 => decide)) | (refine' bi_lt1 ?zq1 ?zq2; (case zq1 => assumption); (case zq2 => decide)) | (refine' bi_le1 ?zq1 ?zq2; (case zq1 => assumption); (case zq2 => decide)) | (refine' bi_lt2 ?zq1 ?zq2; (case zq1 => assumption); (case zq2 => decide)) | (refine' bi_le2 ?zq1 ?zq2; (case zq1 => assumption); (case zq2 => decide)) | (refine' bi_nn1 ?zq1; (case zq1 => assumption)) | (refine' bi_nn2 ?zq1; (case zq1 => assumption)) | (refine' bi_nn3 ?zq1; (case zq1 => assumption)) | (refine' bi_nn4 ?zq1; (case zq1 => assumption)) | exact le_s1 | exact le_s2 | exact le_s3 | exact le_s4 | exact le_s5 | (refine' bi_1p ?zq1 ?zq2; (case zq1 => assumption); (case zq2 => decide)) | (refine' bi_1q ?zq1; (case zq1 => assumption)) | (refine' sl1 ?zq1 ?zq2; (case zq1 => assumption); (case zq2 => decide)) | (refine' sl2 ?zq1 ?zq2; (case zq1 => assumption); (case zq2 => decide)) | (refine' sl3 ?zq1 ?zq2; (case zq1 => assumption); (case zq2 => decide)) | (refine' sl4 ?zq1 ?zq2; (case zq1 => assumption); (case zq2 => decide)) | (refine' up5 ?zq1 ?zq2 ?zq3; (case zq1 => assumption); (case zq2 => assumption); (case zq3 => decide)) | (refine' up5l ?zq1 ?zq2 ?zq3; (case zq1 => assumption); (case zq2 => assumption); (case zq3 => decide)) | (refine' up10 ?zq1 ?zq2 ?zq3 ?zq4; (case zq1 => assumption); (case zq2 => assumption); (case zq3 => assumption); (case zq4 => decide)) | (refine' dn1 ?zq1 ?zq2; (case zq1 => assumption); (case zq2 => assumption)) | (refine' dn2 ?zq1 ?zq2 ?zq3; (case zq1 => assumption); (case zq2 => assumption); (case zq3 => assumption)) | (refine' len_int ?zq1 ?zq2; (case zq1 => assumption); (case zq2 => assumption)) | (refine' len_int1 ?zq1 ?zq2; (case zq1 => assumption); (case zq2 => assumption)) | (refine' lt_int ?zq1; (case zq1 => assumption)) | (refine' bn_le ?zq1 ?zq2; (case zq1 => assumption); (case zq2 => decide)) | (refine' bn_lt ?zq1 ?zq2; (case zq1 => assumption); (case zq2 => decide)) | (refine' bt_le ?zq1 ?zq2 ?zq3; (case zq1 => assumption); (case zq2 => assumption); (case zq3 => decide)) | (refine' bt_le' ?zq1 ?zq2 ?zq3; (case zq1 => assumption); (case zq2 => assumption); (case zq3 => decide)) | (refine' bx_le ?zq1 ?zq2; (case zq1 => assumption); (case zq2 => decide)) | (refine' bc_le ?zq1 ?zq2; (case zq1 => assumption); (case zq2 => decide)) | (refine' bc_lt ?zq1 ?zq2; (case zq1 => assumption); (case zq2 => decide)) | (refine' bi_gt ?zq1 ?zq2; (case zq1 => assumption); (case zq2 => decide)) | (refine' bi_gtl ?zq1 ?zq2; (case zq1 => assumption); (case zq2 => decide)) | (refine' bi_gel ?zq1 ?zq2; (case zq1 => assumption); (case zq2 => decide)) | (refine' nabs ?zq1 ?zq2 ?zq3 ?zq4; (case zq1 => assumption); (case zq2 => assumption); (case zq3 => decide); (case zq4 => decide)) | exact bi_sub | exact Int.natCast_nonneg _ | (refine' Int.toNat_of_nonneg ?zq1; (case zq1 => assumption)) | exact Nat.le_refl _ | (refine' Nat.le_of_lt ?zq1; (case zq1 => assumption)) | (refine' ad2k ?zq1; (case zq1 => decide)) | (refine' ad3k ?zq1; (case zq1 => decide)) | (refine' ad4k ?zq1; (case zq1 => decide)) | (refine' pr1 ?zq1 ?zq2; (case zq1 => assumption); (case zq2 => decide)) | (refine' pr2 ?zq1 ?zq2; (case zq1 => assumption); (case zq2 => decide)) | (refine' mr1 ?zq1 ?zq2; (case zq1 => assumption); (case zq2 => decide)) | (refine' mr2 ?zq1 ?zq2; (case zq1 => assumption); (case zq2 => decide)) | (refine' nzA ?zq1 ?zq2; (case zq1 => assumption); (case zq2 => assumption)) | (refine' nzB ?zq1 ?zq2; (case zq1 => assumption); (case zq2 => decide)) | (refine' cr2 ?zq1; (case zq1 => assumption)) | (refine' cr1 ?zq1; (case zq1 => assumption)) | (refine' wl1 ?zq1; (case zq1 => assumption)) | (refine' it1 ?zq1 ?zq2; (case zq1 => assumption); (case zq2 => assumption)) | (refine' sm1 ?zq1; (case zq1 => assumption)) | exact zi0 | (refine' zi1 ?zq1; (case zq1 => assumption)) | (refine' zx0 ?zq1; (case zq1 => assumption)) | (refine' nabs1 ?zq1 ?zq2 ?zq3; (case zq1 => assumption); (case zq2 => assumption); (case zq3 => decide)) | (refine' nabs2 ?zq1 ?zq2 ?zq3; (case zq1 => assumption); (case zq2 => assumption); (case zq3 => decide)) | (refine' Int.ne_of_gt ?zq1; (case zq1 => assumption)) | (refine' zm0 ?zq1; (case zq1 => assumption)) | (refine' zm1 ?zq1 ?zq2; (case zq1 => assumption); (case zq2 => decide)) | (refine' zm2 ?zq1 ?zq2 ?zq3; (case zq1 => assumption); (case zq2 => assumption); (case zq3 => decide)) | (refine' bt1 ?zq1 ?zq2 ?zq3; (case zq1 => assumption); (case zq2 => assumption); (case zq3 => decide)) | (refine' bt2 ?zq1 ?zq2 ?zq3; (case zq1 => assumption); (case zq2 => assumption); (case zq3 => decide)) | (refine' tnlt ?zq1; (case zq1 => assumption)) | exact tz0 | (refine' tz1 ?zq1; (case zq1 => assumption)) | (refine' tz2 ?zq1 ?zq2 ?zq3; (case zq1 => assumption); (case zq2 => assumption); (case zq3 => decide)) | (refine' ltr1 ?zq1 ?zq2; (case zq1 => assumption); (case zq2 => assumption)) | (refine' ltr2 ?zq1 ?zq2; (case zq1 => assumption); (case zq2 => assumption)) | (refine' ltr3 ?zq1 ?zq2; (case zq1 => assumption); (case zq2 => assumption)) | (refine' lnI ?zq1 ?zq2 ?zq3 ?zq4; (case zq1 => assumption); (case zq2 => assumption); (case zq3 => assumption); (case zq4 => decide)) | (refine' lar1 ?zq1; (case zq1 => assumption)) | (refine' pzL ?zq1 ?zq2; (case zq1 => assumption); (case zq2 => assumption)) | (refine' d8a ?zq1; (case zq1 => assumption)) | exact d8b | (refine' ge1_0 ?zq1; (case zq1 => assumption)) | (refine' imp1 ?zq1 ?zq2; (case zq1 => assumption); (case zq2 => assumption)) | (refine' it2 ?zq1 ?zq2; (case zq1 => assumption); (case zq2 => assumption)) | (refine' sam2 ?zq1 ?zq2 ?zq3; (case zq1 => assumption); (case zq2 => assumption); (case zq3 => assumption)) | (refine' sam3 ?zq1 ?zq2; (case zq1 => assumption); (case zq2 => assumption)) | exact Int.add_sub_cancel_left _ _)) | omega)
  k_with "execs cons" => (k_here; (try (refine gen_tk ?_; intro zt)); refine wpAny_execs_cons ?_; (try dsimp only))
  k_with "z:all" => (first | (with_reducible assumption) | (refine' ltAll_ne ?zka ?zkb; (case zka => first | (with_reducible assumption) | assumption); (case zkb => (show @LE.le Nat _ _ _; first | exact Nat.le_refl _ | (with_reducible (refine' Nat.le_of_lt ?zq1; (case zq1 => k_extra "z:lt"))) | exact Nat.le_add_right _ _ | exact le_s2n | (with_reducible (refine' Nat.le_of_lt (lt_s2n ?zq1); (case zq1 => k_extra "z:lt"))) | omega))) | (refine' allLt_ne ?zka ?zkb; (case zka => ktr_rel); (case zkb => (show @LE.le Nat _ _ _; first | exact Nat.le_refl _ | (with_reducible (refine' Nat.le_of_lt ?zq1; (case zq1 => k_extra "z:lt"))) | exact Nat.le_add_right _ _ | exact le_s2n | (with_reducible (refine' Nat.le_of_lt (lt_s2n ?zq1); (case zq1 => k_extra "z:lt"))) | omega))) | assumption)
  k_with "z:enterz" => (first | (refine' code_z ?k6 ?k7 ?c2 ?c3 ?c4 ?c5 ?kB ?k1 ?k2 ?k3 ?k4 ?k5 ?kA ?kF ?kK ?k8 ?k9 ?_; (case kA => exact rfl); (case kF => exact rfl); (case kK => first | assumption | exact rfl); (case k1 => k_asm); (case k2 => k_asm); (case k3 => k_asm); (case k4 => k_asm); (case k5 => k_asm); (case k6 => k_is); (case k7 => k_is); (case k8 => first | exact Nat.le_of_ble_eq_true rfl | k_room); (case k9 => exact rfl); (case kB => exact rfl); (case c2 => exact rfl); (case c3 => exact rfl); (case c4 => exact rfl); (case c5 => decide); k_whole; intro _ _ _ _ _ _ _ B'; (try k_lift B'); revert B'; intro _; intro qk zE zA ek zt zm _) | fail "z:enterz")
  k_with "z:leave" => (first | ((with_reducible refine' leaveR_z ?zk1 ?zk2 ?_); (case zk1 => k_asm); (case zk2 => k_asm); k_whole; intro _ _; k_end) | ((with_reducible refine' leaveR_y ?zk1 ?zk2 ?zk3 ?zk4 ?_); (case zk1 => k_asm); (case zk2 => k_asm); (case zk3 => k_asm); (case zk4 => k_asm); k_whole; intro _ _ _ _) | fail "z:leave")
  k_with "z:enterzc" => (first | (refine' code_zC1 ?k6 ?k7 ?c2 ?c3 ?c4 ?kB ?kD ?kE ?kc1 ?k1 ?k2 ?k3 ?k4 ?k5 ?kA ?kF ?kK ?k8 ?k9 ?_; (case kA => exact rfl); (case kF => exact rfl); (case kK => first | assumption | exact rfl); (case k1 => k_asm); (case k2 => k_asm); (case k3 => k_asm); (case k4 => k_asm); (case k5 => k_asm); (case k6 => k_is); (case k7 => k_is); (case kE => exact fun _ => rfl); (case kc1 => first | exact (rfl : _ = some _) | exact (rfl : _ = none)); (case k8 => first | exact Nat.le_of_ble_eq_true rfl | k_room); (case k9 => exact rfl); (case kB => exact rfl); (case kD => decide +kernel); (case c2 => exact rfl); (case c3 => exact rfl); (case c4 => exact rfl); k_whole; intro _ _ _ _ _ _ _ _ _ B' l1; (try k_lt l1); (try k_lift B'); revert B' l1; intro _ _ _; intro qk zE zA ek zt zm _) | (refine' code_zC2 ?k6 ?k7 ?c2 ?c3 ?c4 ?kB ?kD ?kE ?kc1 ?kc2 ?k1 ?k2 ?k3 ?k4 ?k5 ?kA ?kF ?kK ?k8 ?k9 ?_; (case kA => exact rfl); (case kF => exact rfl); (case kK => first | assumption | exact rfl); (case k1 => k_asm); (case k2 => k_asm); (case k3 => k_asm); (case k4 => k_asm); (case k5 => k_asm); (case k6 => k_is); (case k7 => k_is); (case kE => exact fun _ => rfl); (case kc1 => first | exact (rfl : _ = some _) | exact (rfl : _ = none)); (case kc2 => first | exact (rfl : _ = some _) | exact (rfl : _ = none)); (case k8 => first | exact Nat.le_of_ble_eq_true rfl | k_room); (case k9 => exact rfl); (case kB => exact rfl); (case kD => decide +kernel); (case c2 => exact rfl); (case c3 => exact rfl); (case c4 => exact rfl); k_whole; intro _ _ _ _ _ _ _ _ _ _ _ B' l1; (try k_lt l1); (try k_lift B'); revert B' l1; intro _ _ _; intro qk zE zA ek zt zm _) | (refine' code_zC3 ?k6 ?k7 ?c2 ?c3 ?c4 ?kB ?kD ?kE ?kc1 ?kc2 ?kc3 ?k1 ?k2 ?k3 ?k4 ?k5 ?kA ?kF ?kK ?k8 ?k9 ?_; (case kA => exact rfl); (case kF => exact rfl); (case kK => first | assumption | exact rfl); (case k1 => k_asm); (case k2 => k_asm); (case k3 => k_asm); (case k4 => k_asm); (case k5 => k_asm); (case k6 => k_is); (case k7 => k_is); (case kE => exact fun _ => rfl); (case kc1 => first | exact (rfl : _ = some _) | exact (rfl : _ = none)); (case kc2 => first | exact (rfl : _ = some _) | exact (rfl : _ = none)); (case kc3 => first | exact (rfl : _ = some _) | exact (rfl : _ = none)); (case k8 => first | exact Nat.le_of_ble_eq_true rfl | k_room); (case k9 => exact rfl); (case kB => exact rfl); (case kD => decide +kernel); (case c2 => exact rfl); (case c3 => exact rfl); (case c4 => exact rfl); k_whole; intro _ _ _ _ _ _ _ _ _ _ _ _ _ B' l1; (try k_lt l1); (try k_lift B'); revert B' l1; intro _ _ _; intro qk zE zA ek zt zm _))
  k_with "z:enter" => (first | k_extra "z:enterz" | k_extra "z:enterzc" | (refine' code_def ?k1 ?k2 ?k3 ?k4 ?k5 ?kA ?kF ?kK ?k6 ?k7 ?k8 ?k9 ?kB ?_ ?c2 ?c3 ?c4 ?c5; (case kA => exact rfl); (case kF => exact rfl); (case kK => first | assumption | exact rfl); (case k1 => k_asm); (case k2 => k_asm); (case k3 => k_asm); (case k4 => k_asm); (case k5 => k_asm); (case k6 => k_is); (case k7 => k_is); (case k8 => first | exact Nat.le_of_ble_eq_true rfl | k_room); (case k9 => first | exact BindsTo.of_eq rfl | exact binds_K (by k_in) rfl (by k_is) rfl rfl rfl); (case c5 => decide); (case kB => exact locs rfl); (case c2 => exact rfl); (case c3 => exact rfl); (case c4 => exact rfl); k_whole; intro _ _ _ _ F' _ B' _ _; (try dsimp only); (try k_lift B'); revert B'; intro _; (try k_fold); (try (refine letE ?_; intro zE)); refine letA ?_; intro zA; (try (refine gen_tk0 ?_; intro zt)); revert F'; refine letF ?_; intro zm zF; revert zF; intro _) | (refine' code_defC ?k1 ?k2 ?k3 ?k4 ?k5 ?kA ?kF ?kK ?k6 ?k7 ?k8 ?k9 ?kB ?kD ?_ ?c2 ?c3 ?c4; (case kA => exact rfl); (case kF => exact rfl); (case kK => first | assumption | exact rfl); (case k1 => k_asm); (case k2 => k_asm); (case k3 => k_asm); (case k4 => k_asm); (case k5 => k_asm); (case k6 => k_is); (case k7 => k_is); (case k8 => first | exact Nat.le_of_ble_eq_true rfl | k_room); (case k9 => first | exact BindsTo.of_eq rfl | exact binds_K (by k_in) rfl (by k_is) rfl rfl rfl); (case kB => exact rfl); (case kD => decide +kernel); (case c2 => exact rfl); (case c3 => exact rfl); (case c4 => exact rfl); k_whole; intro _ _ _ _ _ _ F' N' Y' B' _ _ l1; (try k_lt l1); k_cells Y'; (try simp only [List.cons_append, List.nil_append] at N'); (try dsimp only); (try k_lift B'); revert N' B' l1; intro _ _ _; (try k_fold); (try (refine letE ?_; intro zE)); refine letA ?_; intro zA; (try (refine gen_tk0 ?_; intro zt)); revert F'; refine letF ?_; intro zm zF; revert zF; intro _))
  k_with "z:rel" => (first | (with_reducible (first | assumption | (refine' and1 ?zq1; (case zq1 => assumption)) | (refine' and2 ?zq1; (case zq1 => assumption)) | (refine' and3 ?zq1; (case zq1 => assumption)) | (refine' and4 ?zq1; (case zq1 => assumption)) | (refine' and5 ?zq1; (case zq1 => assumption)) | (refine' and6 ?zq1; (case zq1 => assumption)) | (refine' and7 ?zq1; (case zq1 => assumption)) | (refine' and8 ?zq1; (case zq1 => assumption)) | (refine' and9 ?zq1; (case zq1 => assumption)) | (refine' and10 ?zq1; (case zq1 => assumption)) | (refine' and11 ?zq1; (case zq1 => assumption)) | (refine' and12 ?zq1; (case zq1 => assumption)))) | assumption)
  k_with "z:sub" => (first | (intro p hp; with_reducible (first | exact hp | (refine List.mem_append_left _ ?_; exact hp) | (refine List.mem_append_right _ ?_; exact hp) | (refine mem1 ?_; first | exact hp | (refine List.mem_append_left _ ?_; exact hp) | (refine List.mem_append_right _ ?_; exact hp)) | (refine mem2 ?_; first | exact hp | (refine List.mem_append_left _ ?_; exact hp) | (refine List.mem_append_right _ ?_; exact hp)) | (refine mem3 ?_; first | exact hp | (refine List.mem_append_left _ ?_; exact hp) | (refine List.mem_append_right _ ?_; exact hp)) | (refine mem4 ?_; first | exact hp | (refine List.mem_append_left _ ?_; exact hp) | (refine List.mem_append_right _ ?_; exact hp)) | (refine mem5 ?_; first | exact hp | (refine List.mem_append_left _ ?_; exact hp) | (refine List.mem_append_right _ ?_; exact hp)) | (refine mem6 ?_; first | exact hp | (refine List.mem_append_left _ ?_; exact hp) | (refine List.mem_append_right _ ?_; exact hp)) | (refine mem7 ?_; first | exact hp | (refine List.mem_append_left _ ?_; exact hp) | (refine List.mem_append_right _ ?_; exact hp)) | (refine mem8 ?_; first | exact hp | (refine List.mem_append_left _ ?_; exact hp) | (refine List.mem_append_right _ ?_; exact hp)) | (refine mem9 ?_; first | exact hp | (refine List.mem_append_left _ ?_; exact hp) | (refine List.mem_append_right _ ?_; exact hp)) | (refine mem10 ?_; first | exact hp | (refine List.mem_append_left _ ?_; exact hp) | (refine List.mem_append_right _ ?_; exact hp)) | (refine mem11 ?_; first | exact hp | (refine List.mem_append_left _ ?_; exact hp) | (refine List.mem_append_right _ ?_; exact hp)) | (refine mem12 ?_; first | exact hp | (refine List.mem_append_left _ ?_; exact hp) | (refine List.mem_append_right _ ?_; exact hp)) | (refine mem13 ?_; first | exact hp | (refine List.mem_append_left _ ?_; exact hp) | (refine List.mem_append_right _ ?_; exact hp)) | (refine mem14 ?_; first | exact hp | (refine List.mem_append_left _ ?_; exact hp) | (refine List.mem_append_right _ ?_; exact hp)) | (refine mem15 ?_; first | exact hp | (refine List.mem_append_left _ ?_; exact hp) | (refine List.mem_append_right _ ?_; exact hp)) | (refine mem16 ?_; first | exact hp | (refine List.mem_append_left _ ?_; exact hp) | (refine List.mem_append_right _ ?_; exact hp)))) | (intro p hp; with_reducible (first | (refine List.mem_append_right _ ?_; first | (refine mem1 ?_; exact hp) | (refine mem2 ?_; exact hp) | (refine mem3 ?_; exact hp) | (refine mem4 ?_; exact hp) | (refine mem5 ?_; exact hp) | (refine mem6 ?_; exact hp) | (refine mem7 ?_; exact hp) | (refine mem8 ?_; exact hp) | (refine mem9 ?_; exact hp)) | (refine mem1 ?_; refine List.mem_append_right _ ?_; first | exact hp | (refine mem1 ?_; exact hp) | (refine mem2 ?_; exact hp) | (refine mem3 ?_; exact hp) | (refine mem4 ?_; exact hp) | (refine mem5 ?_; exact hp) | (refine mem6 ?_; exact hp) | (refine mem7 ?_; exact hp) | (refine mem8 ?_; exact hp) | (refine mem9 ?_; exact hp)) | (refine mem2 ?_; refine List.mem_append_right _ ?_; first | exact hp | (refine mem1 ?_; exact hp) | (refine mem2 ?_; exact hp) | (refine mem3 ?_; exact hp) | (refine mem4 ?_; exact hp) | (refine mem5 ?_; exact hp) | (refine mem6 ?_; exact hp) | (refine mem7 ?_; exact hp) | (refine mem8 ?_; exact hp) | (refine mem9 ?_; exact hp)) | (refine mem3 ?_; refine List.mem_append_right _ ?_; first | exact hp | (refine mem1 ?_; exact hp) | (refine mem2 ?_; exact hp) | (refine mem3 ?_; exact hp) | (refine mem4 ?_; exact hp) | (refine mem5 ?_; exact hp) | (refine mem6 ?_; exact hp) | (refine mem7 ?_; exact hp) | (refine mem8 ?_; exact hp) | (refine mem9 ?_; exact hp)))) | (refine' all_cons ?zq1 ?zq2; (case zq1 => k_mem); (case zq2 => k_sub)) | (intro p hp; first | exact hp | (refine List.mem_append_left _ ?_; exact hp) | (refine List.mem_append_right _ ?_; exact hp) | (refine mem1 ?_; first | exact hp | (refine List.mem_append_left _ ?_; exact hp) | (refine List.mem_append_right _ ?_; exact hp)) | (refine mem2 ?_; first | exact hp | (refine List.mem_append_left _ ?_; exact hp) | (refine List.mem_append_right _ ?_; exact hp)) | (refine mem3 ?_; first | exact hp | (refine List.mem_append_left _ ?_; exact hp) | (refine List.mem_append_right _ ?_; exact hp)) | (refine mem4 ?_; first | exact hp | (refine List.mem_append_left _ ?_; exact hp) | (refine List.mem_append_right _ ?_; exact hp)) | (refine mem5 ?_; first | exact hp | (refine List.mem_append_left _ ?_; exact hp) | (refine List.mem_append_right _ ?_; exact hp)) | (refine mem6 ?_; first | exact hp | (refine List.mem_append_left _ ?_; exact hp) | (refine List.mem_append_right _ ?_; exact hp)) | (refine mem7 ?_; first | exact hp | (refine List.mem_append_left _ ?_; exact hp) | (refine List.mem_append_right _ ?_; exact hp)) | (refine mem8 ?_; first | exact hp | (refine List.mem_append_left _ ?_; exact hp) | (refine List.mem_append_right _ ?_; exact hp)) | (refine mem9 ?_; first | exact hp | (refine List.mem_append_left _ ?_; exact hp) | (refine List.mem_append_right _ ?_; exact hp)) | (refine mem10 ?_; first | exact hp | (refine List.mem_append_left _ ?_; exact hp) | (refine List.mem_append_right _ ?_; exact hp)) | (refine mem11 ?_; first | exact hp | (refine List.mem_append_left _ ?_; exact hp) | (refine List.mem_append_right _ ?_; exact hp)) | (refine mem12 ?_; first | exact hp | (refine List.mem_append_left _ ?_; exact hp) | (refine List.mem_append_right _ ?_; exact hp)) | (refine mem13 ?_; first | exact hp | (refine List.mem_append_left _ ?_; exact hp) | (refine List.mem_append_right _ ?_; exact hp)) | (refine mem14 ?_; first | exact hp | (refine List.mem_append_left _ ?_; exact hp) | (refine List.mem_append_right _ ?_; exact hp)) | (refine mem15 ?_; first | exact hp | (refine List.mem_append_left _ ?_; exact hp) | (refine List.mem_append_right _ ?_; exact hp)) | (refine mem16 ?_; first | exact hp | (refine List.mem_append_left _ ?_; exact hp) | (refine List.mem_append_right _ ?_; exact hp))) | (intro p hp; first | (refine List.mem_append_right _ ?_; first | (refine mem1 ?_; exact hp) | (refine mem2 ?_; exact hp) | (refine mem3 ?_; exact hp) | (refine mem4 ?_; exact hp) | (refine mem5 ?_; exact hp) | (refine mem6 ?_; exact hp) | (refine mem7 ?_; exact hp) | (refine mem8 ?_; exact hp) | (refine mem9 ?_; exact hp)) | (refine mem1 ?_; refine List.mem_append_right _ ?_; first | exact hp | (refine mem1 ?_; exact hp) | (refine mem2 ?_; exact hp) | (refine mem3 ?_; exact hp) | (refine mem4 ?_; exact hp) | (refine mem5 ?_; exact hp) | (refine mem6 ?_; exact hp) | (refine mem7 ?_; exact hp) | (refine mem8 ?_; exact hp) | (refine mem9 ?_; exact hp)) | (refine mem2 ?_; refine List.mem_append_right _ ?_; first | exact hp | (refine mem1 ?_; exact hp) | (refine mem2 ?_; exact hp) | (refine mem3 ?_; exact hp) | (refine mem4 ?_; exact hp) | (refine mem5 ?_; exact hp) | (refine mem6 ?_; exact hp) | (refine mem7 ?_; exact hp) | (refine mem8 ?_; exact hp) | (refine mem9 ?_; exact hp)) | (refine mem3 ?_; refine List.mem_append_right _ ?_; first | exact hp | (refine mem1 ?_; exact hp) | (refine mem2 ?_; exact hp) | (refine mem3 ?_; exact hp) | (refine mem4 ?_; exact hp) | (refine mem5 ?_; exact hp) | (refine mem6 ?_; exact hp) | (refine mem7 ?_; exact hp) | (refine mem8 ?_; exact hp) | (refine mem9 ?_; exact hp))))
  k_with "z:in" => (first | (with_reducible assumption) | (refine' Frag.In.keeps ?zq1 (Fr.keep ?zq2); (case zq1 => k_asm); (case zq2 => k_asm)) | assumption)
  k_with "z:mem" => (first | k_extra "z:memr" | k_extra "z:memd" | (k_extra "z:memk"))
  k_with "z:memr" => (first | exact List.Mem.head _ | ((with_reducible refine List.mem_cons_of_mem _ ?_); k_extra "z:memr") | (with_reducible assumption))
  k_with "z:memd" => (first | exact List.Mem.head _ | assumption | (refine List.mem_cons_of_mem _ ?_; k_extra "z:memd"))
  k_with "z:memk" => ((with_reducible refine List.mem_cons_of_mem _ ?_); first | k_extra "z:memk" | ((fail_if_success (with_reducible refine List.mem_cons_of_mem _ ?_)); k_mem))
  k_with "z:kne" => (refine neN ?_; (try dsimp only); k_extra "z:ne")
  k_with "z:flat" => (repeat' (first | k_extra "z:leave" | (k_unfold; (try dsimp only)) | (k_end; kc_close) | (walk1; (try dsimp only)) | (dsimp only; walk1) | (leave1; walk_say "STEP leave1"; (try dsimp only)) | fail "no step"))
  k_with "z:go" => (repeat' (first | k_extra "z:leave" | (k_unfold; (try dsimp only)) | (walk1; (try dsimp only)) | (dsimp only; walk1) | (leave1; walk_say "STEP leave1"; (try dsimp only)) | fail "no step"))
  k_with "eval Name" => (k_here; k_dflt (first | (refine' nameX_K ?F ?X ?T ?e ?_ ?a ?b ?dd; (case b => kernel_rfl!); (case a => kernel_rfl!); (case F => k_asm); (case X => k_asm); (case T => k_asm); (case e => k_is); (case dd => kernel_rfl!); k_whole) | (refine' nameX_B ?F ?X ?T ?e ?v ?n ?_ ?a ?b ?dd; (case b => kernel_rfl!); (case a => kernel_rfl!); (case F => k_asm); (case X => k_asm); (case T => k_asm); (case e => k_is); (case v => boot_fast); (case n => decide); (case dd => kernel_rfl!); k_whole) | (refine' nameX_C ?N ?c ?m ?d ?_ ?a ?b; (case b => kernel_rfl!); (case a => kernel_rfl!); (case N => k_asm); (case c => rfl); (case m => k_mem); (case d => k_asm); k_whole)))
  k_with "eval Name" => (k_here; (with_reducible refine' nameZ ?zo ?zF ?zv ?_); k_dflt ((case zo => kernel_rfl!); (case zF => k_asm); (case zv => rfl); k_whole))
  k_with "eval Attribute Name" => (k_here; (with_reducible refine' attrN ?zo ?zF ?zv ?_); k_dflt ((case zo => kernel_rfl!); (case zF => k_asm); (case zv => rfl); k_whole))
  k_with "exec Assign" => (k_here; (with_reducible refine' asgNN ?zo ?zp ?zF ?zv ?zu ?_ ?zs); k_dflt ((case zo => kernel_rfl!); (case zp => kernel_rfl!); (case zF => k_asm); (case zv => rfl); (case zu => rfl); (case zs => with_unfolding_all rfl); k_whole))
  k_with "isTrue Compare" => (k_here; (with_reducible refine' cmpN ?zo ?zb ?zF ?zv ?_); k_dflt ((case zo => kernel_rfl!); (case zb => rfl); (case zF => k_asm); (case zv => rfl); k_whole))
  k_with "isTrue Compare" => (k_here; (with_reducible refine' cmpNC ?zo ?zb ?zF ?zv ?_); k_dflt ((case zo => kernel_rfl!); (case zb => rfl); (case zF => k_asm); (case zv => rfl); k_whole))
  k_with "eval Subscript" => (k_here; (with_reducible refine' subN ?zo ?zF ?zv ?_); k_dflt ((case zo => kernel_rfl!); (case zF => k_asm); (case zv => rfl); k_whole))
  k_with "eval Subscript" => (k_here; (with_reducible refine' subNC ?zo ?zF ?zv ?_); k_dflt ((case zo => kernel_rfl!); (case zF => k_asm); (case zv => rfl); k_whole))
  k_with "eval BinOp" => (k_here; (with_reducible refine' binN ?zo ?zF ?zv ?_); k_dflt ((case zo => kernel_rfl!); (case zF => k_asm); (case zv => rfl); k_whole))
  k_with "eval BinOp" => (k_here; (with_reducible refine' binNC ?zo ?zF ?zv ?_); k_dflt ((case zo => kernel_rfl!); (case zF => k_asm); (case zv => rfl); k_whole))
  k_with "eval BinOp" => (k_here; (with_reducible refine' binNN ?zo ?zp ?zF ?zv ?zu ?_); k_dflt ((case zo => kernel_rfl!); (case zp => kernel_rfl!); (case zF => k_asm); (case zv => rfl); (case zu => rfl); k_whole))
  k_with "exec Return some" => (k_here; (with_reducible refine' retN ?zo ?zF ?zv ?_); k_dflt ((case zo => kernel_rfl!); (case zF => k_asm); (case zv => rfl); k_whole))
  k_with "binaryOp Add int int" => (k_here; with_reducible refine add_z ?_)
  k_with "binaryOp Sub int int" => (k_here; with_reducible refine sub_z ?_)
  k_with "binaryOp Mult int int" => (k_here; (with_reducible refine' mul_z ?zm ?_); (case zm => first | exact IntMulOk.of_left (intBits_le_64 (by decide) (by decide)) | exact IntMulOk.of_right (intBits_le_64 (by decide) (by decide)) | exact mok_l (by k_extra "z:o") (by k_extra "z:o") | exact mok_r (by k_extra "z:o") (by k_extra "z:o")))
  k_with "eval Constant str" => (k_here; refine cs_str ?_)
  k_with "eval Constant int" => (k_here; refine cz_int ?_)
  k_with "storeName" => (k_here; k_dflt (refine' stZ ?zo ?zF ?zN ?_; (case zo => kernel_rfl!); (case zF => k_asm); (case zN => k_asm); k_whole); intro _ _ _; (try k_sweep))
  k_with "spliced" => (k_here; (with_reducible show wpAny _ _ (spliced (backTo _ (starEach (PySem.Expr.Name _ _ :: _) _))) _ _ _); (with_reducible refine' argsZ ?zo ?zF ?zv ?_); k_dflt ((case zo => kernel_rfl!); (case zF => k_asm); (case zv => rfl); k_whole))
  k_with "spliced" => (k_here; (with_reducible show wpAny _ _ (spliced (backTo _ (starEach [_] _))) _ _ _); first | ((with_reducible refine' argsZ1 ?zo ?zF ?zv ?_); k_dflt ((case zo => kernel_rfl!); (case zF => k_asm); (case zv => rfl); k_whole)) | (refine args_one ?_ rfl))
  trivial
local macro_rules | `(tactic| k_ne) => `(tactic| k_extra "z:kne")
local macro_rules | `(tactic| k_all) => `(tactic| k_extra "z:all")
local macro_rules | `(tactic| k_enter) => `(tactic| k_extra "z:enter")
local macro_rules | `(tactic| ktr_rel) => `(tactic| k_extra "z:rel")
local macro_rules | `(tactic| k_sub) => `(tactic| k_extra "z:sub")
local macro_rules | `(tactic| k_in) => `(tactic| k_extra "z:in")
local macro_rules | `(tactic| k_mem) => `(tactic| k_extra "z:mem")
local macro_rules | `(tactic| walk_at $s:str) => `(tactic| k_extra $s)
section
theorem pop0 {prog : Program} {w : World} {A : Around} {E : Value → Shared → Prop} {s : Shared} {h₀ : Heap} {L D : Addr} {m : Str → Option Value} {news news' : List (Addr × Obj)} {n : Nat} {x : Value} {q : List Value} {u : Tok} {Q : Value → Shared → Prop}
  (F : Fr h₀ L s.heap m) (N : News h₀ L s.heap news) (U : Upd D (listOf (x :: q).toArray n) (listOf q.toArray (n + 1)) news news')
  (hz : q.length + 1 ≤ sizeLine) (h : ∀ h', Fr h₀ L h' m → News h₀ L h' news' → Q x { s with heap := h' }) : wpAny (model prog w) A (call (.builtin "list.pop") [.ref D, .int 0 u]) Q E s :=
  kl_popAt (p := []) (k := 0) F N rfl (by simp [seqIndex?]) rfl U hz h
example : True := by
  k_with "call builtin:list.pop" => ((guard_hyp zg10); (k_here; k_dflt (refine' pop0 ?F ?N ?U ?z ?_; (case F => k_asm); (case N => k_asm); (case U => k_upd); (case z => assumption)); (intro h' F' N'; (try dsimp only [List.nil_append, List.cons_append] at N'))))
  trivial

theorem C_dip0 {wl kl : Addr} {va vb vc mn : Int} {ta tb tc tm : Tok} {kv : List Value} {ks : List Int} {n1 n2 : Nat} {rest : List (Addr × Obj)}
 (B : Below A₀ base outer h₀) (F : Fr h₀ L zh m) (X : (hd.heap_39 w.params).In h₀)
 (N : News h₀ L zh ((wl, listOf #[.ref kl, .int va ta, .int vb tb, .int vc tc] n1) :: (kl, listOf kv.toArray n2) :: rest)) (T : Top p loose mean mg mb h₀) (hk : cs.kind = .function)
 (hi : IntsAre kv ks) (hz : kv.length ≤ 1000) (r1 : ∀ q ∈ rest, q.1 ≠ wl) (r2 : ∀ q ∈ rest, q.1 ≠ kl) (hne : @Ne Nat kl wl)
 (ha : 0 ≤ va) (hb0 : 0 ≤ vb) (hb : vb < 1000000) (hc0 : 0 ≤ vc) (hc : vc < 1009) (hm0 : 0 < mn) (hm : mn < 1000)
 (ret : ∀ r t h' tk' va' kv' ks' ta' tb' n1' n2', 0 ≤ r → r < mn → 0 ≤ va' → IntsAre kv' ks' → kv'.length ≤ 1000 → Fr h₀ L h' m → News h₀ L h' ((wl, listOf #[.ref kl, .int va' ta', .int (vb + 1) tb', .int vc tc] n1') :: (kl, listOf kv'.toArray n2') :: rest) →
   Q (.int r t) ⟨h', zg, zd, tk', zo⟩) :
 CallAt 600 5000 prog w gd cn cs L a ccd cl outer 825 [.ref wl, .int mn tm] Q E ⟨zh, zg, zd, zk, zo⟩ := by
  have zg10 : Gate 10 := trivial
  refine wpAny_call ?_
  k_dflt k_enter
  rename_i g' L' h' FG' N' X' T' B' F'
  refine cut F' (σ := Int × Tok × List Value × List Int × Nat × Nat) (fun m _ => m) (fun c => (wl, listOf #[.ref kl, .int c.1 c.2.1, .int vb tb, .int vc tc] c.2.2.2.2.1) :: (kl, listOf c.2.2.1.toArray c.2.2.2.2.2) :: rest) (fun c => 0 ≤ c.1 ∧ IntsAre c.2.2.1 c.2.2.2.1 ∧ c.2.2.1.length ≤ 1000) ?_ ?_
  · cases hi with
    | nil =>
      k_extra "z:flat"
      all_goals exact CutAt.of (va, ta, [], [], n1, n2) (by k_asm) (by first | k_asm | exact nt1 (by k_asm)) ⟨ha, .nil, Nat.zero_le _⟩
    | @cons n t vs ns hr =>
      have hz1 : vs.length + 1 ≤ sizeLine := by simp only [List.length_cons] at hz; rw [sizeLine_eq]; k_extra "z:o"
      have hz2 : vs.length ≤ 1000 := Nat.le_of_succ_le hz
      k_extra "z:flat"
      all_goals first
        | exact CutAt.of (va, ta, Value.int n t :: vs, n :: ns, n1, n2) (by k_asm) (by first | k_asm | exact nt1 (by k_asm)) ⟨ha, .cons _ _ hr, hz⟩
        | (refine' CutAt.of (?c1, ?c2, vs, ns, ?c3, ?c4) ?F ?N ⟨?f, hr, hz2⟩; (case F => k_asm); (case N => (dsimp only; first | k_asm | exact nt1 (by k_asm))); dsimp only; first | exact abs_if | (split <;> omega))
  · rintro ⟨va', ta', kv', ks', n1', n2'⟩ h1 tk1 F1 N1 ⟨ha', hi', hz'⟩
    dsimp only at F1 N1 ha' hi' hz'
    try k_fold
    k_extra "z:flat"
    all_goals (refine' ret _ _ _ _ _ kv' ks' _ _ _ _ ?h0 ?h1 ?h2 hi' hz' ?hF ?hN; (case hF => k_asm); (case hN => first | k_asm | exact nt1 (by k_asm)); (case h0 => exact Int.fmod_nonneg_of_pos _ hm0); (case h1 => exact Int.fmod_lt_of_pos _ hm0); (case h2 => exact Int.fdiv_nonneg ha' (Int.le_of_lt hm0)))

theorem upd2 {news : List (Addr × Obj)} {g1 : Obj → List (Addr × Obj)} {g2 : Obj → Obj → List (Addr × Obj)} {wl kl : Addr} {W C : Obj} (U1 : UpdF wl W news g1) (U2 : ∀ o, UpdF kl C (g1 o) (g2 o)) (hne : @Ne Nat kl wl) :
    ∃ rest : List (Addr × Obj), (∀ q ∈ rest, q.1 ≠ wl) ∧ (∀ q ∈ rest, q.1 ≠ kl) ∧ (∀ q ∈ (wl, W) :: (kl, C) :: rest, q ∈ news) ∧ ∀ W' C', ∀ q ∈ g2 W' C', q ∈ (wl, W') :: (kl, C') :: rest := by
  obtain ⟨pre, post, rfl, hg, a, b⟩ := U1.split
  have mem : ∀ o q, q ∈ g1 o → q = (wl, o) ∨ (q ∈ pre ++ post ∧ q.1 ≠ wl) := fun o q hq => by
    rw [hg] at hq
    rcases List.mem_append.mp hq with h | h
    · exact .inr ⟨List.mem_append_left _ h, a q h⟩
    · rcases List.mem_cons.mp h with h | h
      · exact .inl h
      · exact .inr ⟨List.mem_append_right _ h, b q h⟩
  have old : ∀ q, q ∈ pre ++ post → q ∈ pre ++ (wl, W) :: post := fun q h => by
    rcases List.mem_append.mp h with h | h
    · exact List.mem_append_left _ h
    · exact List.mem_append_right _ (.tail _ h)
  have hkl : (kl, C) ∈ pre ++ post := by
    obtain ⟨p2, q2, e2, _, _, _⟩ := (U2 W).split
    have : (kl, C) ∈ g1 W := by rw [e2]; exact List.mem_append_right _ (.head _)
    rcases mem W _ this with h | h
    · exact absurd (congrArg Prod.fst h) hne
    · exact h.1
  refine ⟨(pre ++ post).filter fun q => decide (q.1 ≠ kl), fun q hq => ?_, fun q hq => ?_, fun q hq => ?_, fun W' C' q hq => ?_⟩
  · rcases List.mem_append.mp (List.mem_filter.mp hq).1 with h | h
    · exact a q h
    · exact b q h
  · exact of_decide_eq_true (List.mem_filter.mp hq).2
  · rcases List.mem_cons.mp hq with rfl | hq
    · exact List.mem_append_right _ (.head _)
    · rcases List.mem_cons.mp hq with rfl | hq
      · exact old _ hkl
      · exact old _ (List.mem_filter.mp hq).1
  · obtain ⟨p2, q2, e2, g2', a2, b2⟩ := (U2 W').split
    rw [g2' C'] at hq
    have key : ∀ q, q ∈ g1 W' → q.1 ≠ kl → q ∈ (wl, W') :: (kl, C') :: (pre ++ post).filter fun q => decide (q.1 ≠ kl) := fun q hq hn => by
      rcases mem W' q hq with rfl | h
      · exact .head _
      · exact .tail _ (.tail _ (List.mem_filter.mpr ⟨h.1, decide_eq_true hn⟩))
    rcases List.mem_append.mp hq with h | h
    · exact key q (by rw [e2]; exact List.mem_append_left _ h) (a2 q h)
    · rcases List.mem_cons.mp h with rfl | h
      · exact .tail _ (.head _)
      · exact key q (by rw [e2]; exact List.mem_append_right _ (.tail _ h)) (b2 q h)

/-- the well in the ledger -/
noncomputable abbrev wellO (kl : Addr) (va : Int) (ta : Tok) (vb : Int) (tb : Tok) (vc : Int) (tc : Tok) (n : Nat) : Obj := listOf #[.ref kl, .int va ta, .int vb tb, .int vc tc] n
theorem C_dip {wl kl : Addr} {va vb vc mn : Int} {ta tb tc tm : Tok} {kv : List Value} {ks : List Int} {n1 n2 : Nat} {g1 : Obj → List (Addr × Obj)} {g2 : Obj → Obj → List (Addr × Obj)}
 (B : Below A₀ base outer h₀) (F : Fr h₀ L zh m) (X : (hd.heap_39 w.params).In h₀) (T : Top p loose mean mg mb h₀) (hk : cs.kind = .function)
 (N : News h₀ L zh news) (U1 : UpdF wl (wellO kl va ta vb tb vc tc n1) news g1) (U2 : ∀ o, UpdF kl (listOf kv.toArray n2) (g1 o) (g2 o)) (hne : @Ne Nat kl wl)
 (hi : IntsAre kv ks) (hz : kv.length ≤ 1000)
 (ha : 0 ≤ va) (hb0 : 0 ≤ vb) (hb : vb < 1000000) (hc0 : 0 ≤ vc) (hc : vc < 1009) (hm0 : 0 < mn) (hm : mn < 1000)
 (ret : ∀ r t h' tk' va' kv' ks' ta' tb' n1' n2', 0 ≤ r → r < mn → 0 ≤ va' → IntsAre kv' ks' → kv'.length ≤ 1000 → Fr h₀ L h' m → News h₀ L h' (g2 (wellO kl va' ta' (vb + 1) tb' vc tc n1') (listOf kv'.toArray n2')) →
   Q (.int r t) ⟨h', zg, zd, tk', zo⟩) :
 CallAt 600 5000 prog w gd cn cs L a ccd cl outer 825 [.ref wl, .int mn tm] Q E ⟨zh, zg, zd, zk, zo⟩ := by
  have zg10 : Gate 10 := trivial
  obtain ⟨rest, r1, r2, hin, hout⟩ := upd2 U1 U2 hne
  exact C_dip0 B F X (fun q hq => N q (hin q hq)) T hk hi hz r1 r2 hne ha hb0 hb hc0 hc hm0 hm fun r t h' tk' va' kv' ks' ta' tb' n1' n2' e1 e2 e3 e4 e5 e6 e7 =>
    ret r t h' tk' va' kv' ks' ta' tb' n1' n2' e1 e2 e3 e4 e5 e6 fun q hq => e7 q (hout _ _ q hq)
end
example : True := by first | walk1 | trivial
example : True := by
  k_with "call ref" => (k_here; (with_reducible show wpAny _ _ (call (Value.ref 825) _) _ _ _); k_dflt (refine' up (D := 600) (U := 5000) (C_dip ?B ?F ?X ?T ?hk ?N ?U1 ?U2 ?ne ?hi ?hz ?ha ?hb0 ?hb ?hc0 ?hc ?hm0 ?hm ?_) ?d ?u; (case B => k_asm); (case F => k_asm); (case X => k_asm); (case T => k_asm); (case hk => first | assumption | exact rfl); (case N => k_asm); (case U1 => k_updF); (case U2 => (intro o; k_updF)); (case ne => (first | assumption | ((try dsimp only); k_extra "z:ne"))); (case hi => assumption); (case hz => assumption); (case ha => k_extra "z:o"); (case hb0 => k_extra "z:o"); (case hb => k_extra "z:o"); (case hc0 => k_extra "z:o"); (case hc => k_extra "z:o"); (case hm0 => first | assumption | decide); (case hm => first | assumption | decide); (case d => exact Nat.le_of_ble_eq_true rfl); (case u => exact Nat.le_of_ble_eq_true rfl); k_whole); intro _ _ _ _ _ _ _ _ _ _ _ _ _ _ _ _ _ N9; (try dsimp only at N9); revert N9; intro _; (try dsimp only); (try k_fold))
  trivial
section
theorem C_octets0 {wl kl : Addr} {va vb vc ct : Int} {ta tb tc tm : Tok} {kv : List Value} {ks : List Int} {n1 n2 : Nat} {rest : List (Addr × Obj)}
 (B : Below A₀ base outer h₀) (F : Fr h₀ L zh m) (X : (hd.heap_39 w.params).In h₀)
 (N : News h₀ L zh ((wl, wellO kl va ta vb tb vc tc n1) :: (kl, listOf kv.toArray n2) :: rest)) (T : Top p loose mean mg mb h₀) (hk : cs.kind = .function)
 (hi : IntsAre kv ks) (hz : kv.length ≤ 1000) (r1 : ∀ q ∈ rest, q.1 ≠ wl) (r2 : ∀ q ∈ rest, q.1 ≠ kl) (hne : @Ne Nat kl wl)
 (ha : 0 ≤ va) (hb0 : 0 ≤ vb) (hb : vb < 100000) (hc0 : 0 ≤ vc) (hc : vc < 1009) (hm0 : 0 ≤ ct) (hm : ct < 10000)
 (ret : ∀ (r : Array UInt8) t h' tk' va' kv' ks' ta' tb' n1' n2', (r.size : Int) = ct → 0 ≤ va' → IntsAre kv' ks' → kv'.length ≤ 1000 → Fr h₀ L h' m → News h₀ L h' ((wl, wellO kl va' ta' (vb + 1) tb' vc tc n1') :: (kl, listOf kv'.toArray n2') :: rest) →
   Q (.bytes r t) ⟨h', zg, zd, tk', zo⟩) :
 CallAt 590 4900 prog w gd cn cs L a ccd cl outer 844 [.ref wl, .int ct tm] Q E ⟨zh, zg, zd, zk, zo⟩ := by
  refine wpAny_call ?_
  k_dflt k_enter
  rename_i g' L' h' tk' FG' X' T' o' d1' B' l1 N' F'
  have rc1 := allLt_ne l1.2.2 (x := L' + 1) (Nat.le_succ _)
  k_extra "z:flat"
  all_goals (refine' ret _ _ _ _ _ _ _ _ _ _ _ ?hs ?h0 ?hi ?hz ?hF ?hN; (case hF => k_asm); (case hN => refine' cb_drop ?N1 ?S1; (case N1 => k_asm); (case S1 => k_sub)); (case hs => (rw [byteArr_size, List.length_map, rangeKs_length]; first | exact ts0 (by assumption) | omega)); (case h0 => assumption); (case hi => assumption); (case hz => assumption))
theorem C_octets {wl kl : Addr} {va vb vc ct : Int} {ta tb tc tm : Tok} {kv : List Value} {ks : List Int} {n1 n2 : Nat} {g1 : Obj → List (Addr × Obj)} {g2 : Obj → Obj → List (Addr × Obj)}
 (B : Below A₀ base outer h₀) (F : Fr h₀ L zh m) (X : (hd.heap_39 w.params).In h₀) (T : Top p loose mean mg mb h₀) (hk : cs.kind = .function)
 (N : News h₀ L zh news) (U1 : UpdF wl (wellO kl va ta vb tb vc tc n1) news g1) (U2 : ∀ o, UpdF kl (listOf kv.toArray n2) (g1 o) (g2 o)) (hne : @Ne Nat kl wl)
 (hi : IntsAre kv ks) (hz : kv.length ≤ 1000)
 (ha : 0 ≤ va) (hb0 : 0 ≤ vb) (hb : vb < 100000) (hc0 : 0 ≤ vc) (hc : vc < 1009) (hm0 : 0 ≤ ct) (hm : ct < 10000)
 (ret : ∀ (r : Array UInt8) t h' tk' va' kv' ks' ta' tb' n1' n2', (r.size : Int) = ct → 0 ≤ va' → IntsAre kv' ks' → kv'.length ≤ 1000 → Fr h₀ L h' m → News h₀ L h' (g2 (wellO kl va' ta' (vb + 1) tb' vc tc n1') (listOf kv'.toArray n2')) →
   Q (.bytes r t) ⟨h', zg, zd, tk', zo⟩) :
 CallAt 590 4900 prog w gd cn cs L a ccd cl outer 844 [.ref wl, .int ct tm] Q E ⟨zh, zg, zd, zk, zo⟩ := by
  obtain ⟨rest, r1, r2, hin, hout⟩ := upd2 U1 U2 hne
  exact C_octets0 B F X (fun q hq => N q (hin q hq)) T hk hi hz r1 r2 hne ha hb0 hb hc0 hc hm0 hm fun r t h' tk' va' kv' ks' ta' tb' n1' n2' e1 e3 e4 e5 e6 e7 =>
    ret r t h' tk' va' kv' ks' ta' tb' n1' n2' e1 e3 e4 e5 e6 fun q hq => e7 q (hout _ _ q hq)
end
example : True := by first | walk1 | trivial
example : True := by
  k_with "call ref" => (k_here; (with_reducible show wpAny _ _ (call (Value.ref 844) _) _ _ _); k_dflt (refine' up (D := 590) (U := 4900) (C_octets ?B ?F ?X ?T ?hk ?N ?U1 ?U2 ?ne ?hi ?hz ?ha ?hb0 ?hb ?hc0 ?hc ?hm0 ?hm ?_) ?d ?u; (case B => k_asm); (case F => k_asm); (case X => k_asm); (case T => k_asm); (case hk => first | assumption | exact rfl); (case N => k_asm); (case U1 => k_updF); (case U2 => (intro o; k_updF)); (case ne => (first | assumption | ((try dsimp only); k_extra "z:ne"))); (case hi => assumption); (case hz => assumption); (case ha => k_extra "z:o"); (case hb0 => k_extra "z:o"); (case hb => k_extra "z:o"); (case hc0 => k_extra "z:o"); (case hc => k_extra "z:o"); (case hm0 => k_extra "z:o"); (case hm => k_extra "z:o"); (case d => exact Nat.le_of_ble_eq_true rfl); (case u => exact Nat.le_of_ble_eq_true rfl); k_whole); intro _ _ _ _ _ _ _ _ _ _ _ _ _ _ _ _ N9; (try dsimp only at N9); revert N9; intro _; (try dsimp only); (try k_fold))
  trivial
section
example : True := by
  k_with "subscriptTail Tuple cons Call ref int" => ((guard_hyp zg30); (k_here; (with_reducible show wpAny _ _ (subscriptTail _ _ (Value.ref _) (Value.int _ _)) _ _ _); k_dflt (first | (refine' item_tupleT ?za ?zb ?zc ?zd ?ze ?_; (case za => exact News.isTup (by k_asm) (by k_mem)); (case zb => decide); (case zc => decide); (case zd => rfl); (case ze => rfl); k_whole) | refine hold ?_)))
  trivial
/-- a made tuple -/
noncomputable abbrev tupO (xs : List Value) (n : Nat) : Obj := { cls := .type "tuple", data := .seq xs.toArray n }
theorem C_sizes0 {wl kl : Addr} {va vb vc : Int} {g : Bool} {ta tb tc : Tok} {kv : List Value} {ks : List Int} {n1 n2 : Nat} {rest : List (Addr × Obj)}
 (B : Below A₀ base outer h₀) (F : Fr h₀ L zh m) (X : (hd.heap_39 w.params).In h₀)
 (N : News h₀ L zh ((wl, wellO kl va ta vb tb vc tc n1) :: (kl, listOf kv.toArray n2) :: rest)) (T : Top p loose mean mg mb h₀) (hk : cs.kind = .function)
 (hi : IntsAre kv ks) (hz : kv.length ≤ 1000) (r1 : ∀ q ∈ rest, q.1 ≠ wl) (r2 : ∀ q ∈ rest, q.1 ≠ kl) (hne : @Ne Nat kl wl)
 (ha : 0 ≤ va) (hb0 : 0 ≤ vb) (hb : vb < 10000) (hc0 : 0 ≤ vc) (hc : vc < 1009)
 (ret : ∀ x y tx ty n t h' tk' va' vb' kv' ks' ta' tb' n1' n2', 1 ≤ x → 1 ≤ y → (g = true → x ≤ 20000 ∧ 4000 ≤ y ∧ y ≤ 1000000000) → (g = false → x ≤ 5 ∧ y ≤ 4) → vb ≤ vb' → vb' ≤ vb + 3 →
   0 ≤ va' → IntsAre kv' ks' → kv'.length ≤ 1000 → Fr h₀ L h' m → News h₀ L h' ((t, tupO [.int x tx, .int y ty] n) :: (wl, wellO kl va' ta' vb' tb' vc tc n1') :: (kl, listOf kv'.toArray n2') :: rest) → @LT.lt Nat _ wl t → @LT.lt Nat _ kl t → AllLt t rest →
   Q (.ref t) ⟨h', zg, zd, tk', zo⟩) :
 CallAt 590 4900 prog w gd cn cs L a ccd cl outer 851 [.ref wl, .bool g] Q E ⟨zh, zg, zd, zk, zo⟩ := by
  have zg30 : Gate 30 := trivial
  have e6 : (10 : Int) ^ Int.toNat 6 = 1000000 := by decide
  have e9 : (10 : Int) ^ Int.toNat 9 = 1000000000 := by decide
  cases g
  all_goals (
    refine wpAny_call ?_
    k_dflt k_enter
    k_extra "z:flat")
  all_goals (try (rename (_ < (3 : Int)) => h3; rcases split3 h3 (by assumption) with rfl | rfl | rfl))
  all_goals (try refine Hold.go ?_)
  all_goals k_extra "z:flat"
  all_goals (
    refine' ret _ _ _ _ _ _ _ _ _ _ _ _ _ _ _ _ ?x0 ?y0 ?g1 ?g2 ?b0 ?b1 ?h0 ?hi ?hz ?hF ?hN ?l1 ?l2 ?l3
    (case hF => k_asm)
    (case hN => refine' cb_drop ?N1 ?S1; (case N1 => k_asm); (case S1 => k_sub))
    (case h0 => assumption)
    (case hi => assumption)
    (case hz => assumption)
    (case x0 => k_extra "z:o")
    (case y0 => k_extra "z:o")
    (case g1 => (intro hg9; first | exact absurd hg9 (by decide) | exact ⟨by k_extra "z:o", by k_extra "z:o", by k_extra "z:o"⟩))
    (case g2 => (intro hg9; first | exact absurd hg9 (by decide) | exact ⟨by k_extra "z:o", by k_extra "z:o"⟩))
    (case b0 => k_extra "z:o")
    (case b1 => k_extra "z:o")
    (case l1 => (show @LT.lt Nat _ _ _; k_extra "z:l"))
    (case l2 => (show @LT.lt Nat _ _ _; k_extra "z:l"))
    (case l3 => ktr_rel))
theorem C_sizes {wl kl : Addr} {va vb vc : Int} {g : Bool} {ta tb tc : Tok} {kv : List Value} {ks : List Int} {n1 n2 : Nat} {g1 : Obj → List (Addr × Obj)} {g2 : Obj → Obj → List (Addr × Obj)}
 (B : Below A₀ base outer h₀) (F : Fr h₀ L zh m) (X : (hd.heap_39 w.params).In h₀) (T : Top p loose mean mg mb h₀) (hk : cs.kind = .function)
 (N : News h₀ L zh news) (U1 : UpdF wl (wellO kl va ta vb tb vc tc n1) news g1) (U2 : ∀ o, UpdF kl (listOf kv.toArray n2) (g1 o) (g2 o)) (hne : @Ne Nat kl wl)
 (hi : IntsAre kv ks) (hz : kv.length ≤ 1000)
 (ha : 0 ≤ va) (hb0 : 0 ≤ vb) (hb : vb < 10000) (hc0 : 0 ≤ vc) (hc : vc < 1009)
 (ret : ∀ x y tx ty n t h' tk' va' vb' kv' ks' ta' tb' n1' n2', 1 ≤ x → 1 ≤ y → (g = true → x ≤ 20000 ∧ 4000 ≤ y ∧ y ≤ 1000000000) → (g = false → x ≤ 5 ∧ y ≤ 4) → vb ≤ vb' → vb' ≤ vb + 3 →
   0 ≤ va' → IntsAre kv' ks' → kv'.length ≤ 1000 → Fr h₀ L h' m → News h₀ L h' ((t, tupO [.int x tx, .int y ty] n) :: g2 (wellO kl va' ta' vb' tb' vc tc n1') (listOf kv'.toArray n2')) → (∀ q ∈ g2 (wellO kl va' ta' vb' tb' vc tc n1') (listOf kv'.toArray n2'), q.1 < t) →
   Q (.ref t) ⟨h', zg, zd, tk', zo⟩) :
 CallAt 590 4900 prog w gd cn cs L a ccd cl outer 851 [.ref wl, .bool g] Q E ⟨zh, zg, zd, zk, zo⟩ := by
  have zg30 : Gate 30 := trivial
  obtain ⟨rest, r1, r2, hin, hout⟩ := upd2 U1 U2 hne
  exact C_sizes0 B F X (fun q hq => N q (hin q hq)) T hk hi hz r1 r2 hne ha hb0 hb hc0 hc fun x y tx ty n t h' tk' va' vb' kv' ks' ta' tb' n1' n2' e1 e2 e3 e4 e5 e6 e7 e8 e9 e10 e11 e12 e13 e14 =>
    ret x y tx ty n t h' tk' va' vb' kv' ks' ta' tb' n1' n2' e1 e2 e3 e4 e5 e6 e7 e8 e9 e10 (fun q hq => e11 q (by
      rcases List.mem_cons.mp hq with rfl | hq
      · exact .head _
      · exact .tail _ (hout _ _ q hq))) fun q hq => by
      rcases List.mem_cons.mp (hout _ _ q hq) with rfl | hq
      · exact e12
      · rcases List.mem_cons.mp hq with rfl | hq
        · exact e13
        · exact allLt_mem e14 q hq
end
example : True := by first | walk1 | trivial
example : True := by
  k_with "call ref" => (k_here; (with_reducible show wpAny _ _ (call (Value.ref 851) _) _ _ _); k_dflt (refine' up (D := 590) (U := 4900) (C_sizes ?B ?F ?X ?T ?hk ?N ?U1 ?U2 ?ne ?hi ?hz ?ha ?hb0 ?hb ?hc0 ?hc ?_) ?d ?u; (case B => k_asm); (case F => k_asm); (case X => k_asm); (case T => k_asm); (case hk => first | assumption | exact rfl); (case N => k_asm); (case U1 => k_updF); (case U2 => (intro o; k_updF)); (case ne => (first | assumption | ((try dsimp only); k_extra "z:ne"))); (case hi => assumption); (case hz => assumption); (case ha => k_extra "z:o"); (case hb0 => k_extra "z:o"); (case hb => k_extra "z:o"); (case hc0 => k_extra "z:o"); (case hc => k_extra "z:o"); (case d => exact Nat.le_of_ble_eq_true rfl); (case u => exact Nat.le_of_ble_eq_true rfl); k_whole); intro _ _ _ _ _ _ _ _ _ _ _ _ _ _ _ _ _ _ _ _ _ _ _ _ _ _ N9 l9; (try dsimp only at N9); (try dsimp only at l9); (try k_lt l9); revert N9 l9; intro _ _; (try dsimp only); (try k_fold))
  trivial
section
/-- the octets that a picture needs -/
noncomputable def needZ (x y b : Int) : Int := ((x * b - 1) / 8 + 1) * y
theorem one_mul2 {x b : Int} (hx : 1 ≤ x) (hb : 1 ≤ b) : 1 ≤ x * b := Int.mul_le_mul hx hb (by decide) (Int.le_trans (by decide) hx)
theorem ce_pos {n : Int} (h : 1 ≤ n) : 1 ≤ (n - 1) / 8 + 1 := Int.add_le_add_right (Int.ediv_nonneg (Int.sub_nonneg_of_le h) (by decide) : (0 : Int) ≤ (n - 1) / 8) 1
theorem needZ_pos {x y b : Int} (hx : 1 ≤ x) (hy : 1 ≤ y) (hb : 1 ≤ b) : y ≤ needZ x y b := by
  have := Int.mul_le_mul_of_nonneg_right (ce_pos (one_mul2 hx hb)) (Int.le_trans (by decide) hy : 0 ≤ y)
  rwa [Int.one_mul] at this
theorem needZ_le {x y b X Y B : Int} (hx : 1 ≤ x) (hy : 1 ≤ y) (hb : 1 ≤ b) (hX : x ≤ X) (hY : y ≤ Y) (hB : b ≤ B) : needZ x y b ≤ needZ X Y B :=
  have h1 : x * b ≤ X * B := Int.mul_le_mul hX hB (Int.le_trans (by decide) hb) (Int.le_trans (by decide) (Int.le_trans hx hX))
  Int.mul_le_mul (Int.add_le_add_right (Int.ediv_le_ediv (by decide) (Int.sub_le_sub_right h1 1)) 1) hY (Int.le_trans (by decide) hy) (Int.le_trans (by decide) (ce_pos (Int.le_trans (one_mul2 hx hb) h1)))

theorem C_need {wd ht bt : Int} {t1 t2 t3 : Tok}
 (B : Below A₀ base outer h₀) (F : Fr h₀ L zh m) (X : (hd.heap_39 w.params).In h₀) (T : Top p loose mean mg mb h₀) (hk : cs.kind = .function) (N : News h₀ L zh news)
 (h1 : 1 ≤ wd) (h2 : wd ≤ 20000) (h3 : 1 ≤ ht) (h4 : ht ≤ 1000000000) (h5 : 1 ≤ bt) (h6 : bt ≤ 64)
 (ret : ∀ t h' tk', Fr h₀ L h' m → News h₀ L h' news → ht ≤ needZ wd ht bt → (wd ≤ 9 ∧ ht ≤ 4 → needZ wd ht bt ≤ 400) → Q (.int (needZ wd ht bt) t) ⟨h', zg, zd, tk', zo⟩) :
 CallAt 590 4900 prog w gd cn cs L a ccd cl outer 839 [.int wd t1, .int ht t2, .int bt t3] Q E ⟨zh, zg, zd, zk, zo⟩ := by
  have e : needZ wd ht bt = ((wd * bt - 1).fdiv 8 + 1) * ht := by
    unfold needZ
    rw [Int.fdiv_eq_ediv_of_nonneg _ (by decide)]
  have f1 := needZ_pos h1 h3 h5
  have f2 : wd ≤ 9 ∧ ht ≤ 4 → needZ wd ht bt ≤ 400 := fun q => Int.le_trans (needZ_le h1 h3 h5 q.1 q.2 h6) (by decide)
  have ret := fun t h' tk' F N => ret t h' tk' F N f1 f2
  clear f1 f2
  rw [e] at ret
  refine wpAny_call ?_
  k_dflt k_enter
  k_extra "z:flat"
  all_goals exact ret _ _ _ (by k_asm) (by k_asm)
/-- the depths -/
noncomputable def IsDepth (b : Int) : Prop := b = 1 ∨ b = 2 ∨ b = 4 ∨ b = 8 ∨ b = 16
theorem IsDepth.le {b : Int} (h : IsDepth b) : b ≤ 16 := by rcases h with rfl | rfl | rfl | rfl | rfl <;> decide
theorem IsDepth.pos {b : Int} (h : IsDepth b) : 1 ≤ b := by rcases h with rfl | rfl | rfl | rfl | rfl <;> decide
theorem menu5 {r : Int} (h1 : r < 5) (h0 : 0 ≤ r) : IsDepth ([8, 1, 2, 4, 16].getD r.toNat 0) := by
  rcases split5 h1 h0 with rfl | rfl | rfl | rfl | rfl
  · exact .inr (.inr (.inr (.inl rfl)))
  · exact .inl rfl
  · exact .inr (.inl rfl)
  · exact .inr (.inr (.inl rfl))
  · exact .inr (.inr (.inr (.inr rfl)))
/-- a stream's own dict -/
noncomputable abbrev streamD (w : World) (t1 t2 : Tok) (hd : Addr) (bs : Array UInt8) (t3 : Tok) : Obj :=
  dictOf [{ hash := PyData.keyHash w.params (Str.ofString "head"), key := .str (Str.ofString "head") t1, val := .ref hd }, { hash := PyData.keyHash w.params (Str.ofString "octets"), key := .str (Str.ofString "octets") t2, val := .bytes bs t3 }] 2
end
example : True := by first | walk1 | trivial
example : True := by
  k_with "call ref" => (k_here; (with_reducible show wpAny _ _ (call (Value.ref 839) _) _ _ _); k_dflt (refine' up (D := 590) (U := 4900) (C_need ?B ?F ?X ?T ?hk ?N ?h1 ?h2 ?h3 ?h4 ?h5 ?h6 ?_) ?d ?u; (case B => k_asm); (case F => k_asm); (case X => k_asm); (case T => k_asm); (case hk => first | assumption | exact rfl); (case N => k_asm); (case h1 => k_extra "z:o"); (case h2 => k_extra "z:o"); (case h3 => k_extra "z:o"); (case h4 => k_extra "z:o"); (case h5 => first | k_extra "z:o" | decide | exact IsDepth.pos (menu5 (by assumption) (by assumption))); (case h6 => first | k_extra "z:o" | decide | exact Int.le_trans (IsDepth.le (menu5 (by assumption) (by assumption))) (by decide)); (case d => exact Nat.le_of_ble_eq_true rfl); (case u => exact Nat.le_of_ble_eq_true rfl); k_whole); intro _ _ _ _ _ _ hn2; (try (have hn3 := hn2 ⟨by k_extra "z:o", by k_extra "z:o"⟩; revert hn3; intro _)); clear hn2; (try dsimp only); (try k_fold))
  trivial
section
example : True := by
  k_with "execs cons" => ((guard_hyp zg50); (k_here; (rename News _ _ _ ((_, Obj.mk (Value.type "tuple") _ _ _) :: _) => zN); (replace zN := nt1 zN); (try ((rename News _ _ _ ((_, Obj.mk (Value.type "tuple") _ _ _) :: _) => zN); (replace zN := nt1 zN))); (revert zN; intro _); (try (refine gen_tk ?_; intro zt)); refine wpAny_execs_cons ?_; (try dsimp only)))
  trivial
/-- what a mask's head says -/
structure MaskHead (prog : Program) (w : World) (o : Obj) (sf : Bool) (x y b : Int) : Prop where
  says : ∃ kvs t1 t2, o.IsDictOf (strKind prog w) kvs ∧ kvs.length ≤ 10 ∧ valueAt kvs (Str.ofString "Width") = some (.int x t1) ∧ valueAt kvs (Str.ofString "Height") = some (.int y t2) ∧ valueAt kvs (Str.ofString "Decode") = none ∧
    (match sf with
     | true => valueAt kvs (Str.ofString "ImageMask") = none ∧ ∃ t3, valueAt kvs (Str.ofString "BitsPerComponent") = some (.int b t3)
     | false => valueAt kvs (Str.ofString "ImageMask") = some (.bool true) ∧ valueAt kvs (Str.ofString "BitsPerComponent") = none ∧ b = 1)
theorem C_mask0 {wl kl : Addr} {va vb vc : Int} {sf lk : Bool} {ta tb tc : Tok} {kv : List Value} {ks : List Int} {n1 n2 : Nat} {rest : List (Addr × Obj)}
 (B : Below A₀ base outer h₀) (F : Fr h₀ L zh m) (X : (hd.heap_39 w.params).In h₀)
 (N : News h₀ L zh ((wl, wellO kl va ta vb tb vc tc n1) :: (kl, listOf kv.toArray n2) :: rest)) (T : Top p loose mean mg mb h₀) (hk : cs.kind = .function)
 (hi : IntsAre kv ks) (hz : kv.length ≤ 1000) (r1 : ∀ q ∈ rest, q.1 ≠ wl) (r2 : ∀ q ∈ rest, q.1 ≠ kl) (hne : @Ne Nat kl wl)
 (ha : 0 ≤ va) (hb0 : 0 ≤ vb) (hb : vb < 10000) (hc0 : 0 ≤ vc) (hc : vc < 1009)
 (ret : ∀ x y b xa dx ha o t1 t2 bs t3 h' tk' va' vb' kv' ks' ta' tb' n1' n2', 1 ≤ x → x ≤ 9 → 1 ≤ y → y ≤ 4 → IsDepth b → MaskHead prog w o sf x y b → (bs.size : Int) = needZ x y b - (if lk = true then 1 else 0) → vb ≤ vb' → vb' ≤ vb + 5 →
   0 ≤ va' → IntsAre kv' ks' → kv'.length ≤ 1000 → Fr h₀ L h' m → News h₀ L h' ((xa, instObj 280 dx) :: (dx, streamD w t1 t2 ha bs t3) :: (ha, o) :: (wl, wellO kl va' ta' vb' tb' vc tc n1') :: (kl, listOf kv'.toArray n2') :: rest) →
   @LT.lt Nat _ wl ha → @LT.lt Nat _ kl ha → AllLt ha rest → @LT.lt Nat _ ha dx → @LT.lt Nat _ dx xa →
   Q (.ref xa) ⟨h', zg, zd, tk', zo⟩) :
 CallAt 570 4700 prog w gd cn cs L a ccd cl outer 858 [.ref wl, .bool sf, .bool lk] Q E ⟨zh, zg, zd, zk, zo⟩ := by
  have zg50 : Gate 50 := trivial
  cases sf
  all_goals (
    refine wpAny_call ?_
    k_dflt k_enter
    k_extra "z:flat")
  all_goals (
    refine' ret _ _ _ _ _ _ _ _ _ _ _ _ _ _ _ _ _ _ _ _ _ ?x0 ?x1 ?y0 ?y1 ?dd ?mh ?sz ?b0 ?b1 ?h0 ?hi ?hz ?hF ?hN ?l1 ?l2 ?l3 ?l4 ?l5
    (case hF => k_asm)
    (case hN => refine' cb_drop ?N1 ?S1; (case N1 => k_asm); (case S1 => k_sub))
    (case h0 => assumption)
    (case hi => assumption)
    (case hz => assumption)
    (case sz => assumption)
    (case mh => refine ⟨_, _, _, by assumption, by exact Nat.le_of_ble_eq_true rfl, by exact rfl, by exact rfl, by exact rfl, ?_⟩; first | exact ⟨rfl, rfl, rfl⟩ | exact ⟨rfl, _, rfl⟩)
    (case x0 => k_extra "z:o")
    (case x1 => k_extra "z:o")
    (case y0 => k_extra "z:o")
    (case y1 => k_extra "z:o")
    (case dd => first | exact .inl rfl | exact menu5 (by assumption) (by assumption))
    (case b0 => k_extra "z:o")
    (case b1 => k_extra "z:o")
    (case l1 => (show @LT.lt Nat _ _ _; k_extra "z:l"))
    (case l2 => (show @LT.lt Nat _ _ _; k_extra "z:l"))
    (case l3 => ktr_rel)
    (case l4 => (show @LT.lt Nat _ _ _; k_extra "z:l"))
    (case l5 => (show @LT.lt Nat _ _ _; k_extra "z:l")))
theorem C_mask {wl kl : Addr} {va vb vc : Int} {sf lk : Bool} {ta tb tc : Tok} {kv : List Value} {ks : List Int} {n1 n2 : Nat} {g1 : Obj → List (Addr × Obj)} {g2 : Obj → Obj → List (Addr × Obj)}
 (B : Below A₀ base outer h₀) (F : Fr h₀ L zh m) (X : (hd.heap_39 w.params).In h₀) (T : Top p loose mean mg mb h₀) (hk : cs.kind = .function)
 (N : News h₀ L zh news) (U1 : UpdF wl (wellO kl va ta vb tb vc tc n1) news g1) (U2 : ∀ o, UpdF kl (listOf kv.toArray n2) (g1 o) (g2 o)) (hne : @Ne Nat kl wl)
 (hi : IntsAre kv ks) (hz : kv.length ≤ 1000)
 (ha : 0 ≤ va) (hb0 : 0 ≤ vb) (hb : vb < 10000) (hc0 : 0 ≤ vc) (hc : vc < 1009)
 (ret : ∀ x y b xa dx ha o t1 t2 bs t3 h' tk' va' vb' kv' ks' ta' tb' n1' n2', 1 ≤ x → x ≤ 9 → 1 ≤ y → y ≤ 4 → IsDepth b → MaskHead prog w o sf x y b → (bs.size : Int) = needZ x y b - (if lk = true then 1 else 0) → vb ≤ vb' → vb' ≤ vb + 5 →
   0 ≤ va' → IntsAre kv' ks' → kv'.length ≤ 1000 → Fr h₀ L h' m → News h₀ L h' ((xa, instObj 280 dx) :: (dx, streamD w t1 t2 ha bs t3) :: (ha, o) :: g2 (wellO kl va' ta' vb' tb' vc tc n1') (listOf kv'.toArray n2')) →
   (∀ q ∈ g2 (wellO kl va' ta' vb' tb' vc tc n1') (listOf kv'.toArray n2'), q.1 < ha) → @LT.lt Nat _ ha dx → @LT.lt Nat _ dx xa →
   Q (.ref xa) ⟨h', zg, zd, tk', zo⟩) :
 CallAt 570 4700 prog w gd cn cs L a ccd cl outer 858 [.ref wl, .bool sf, .bool lk] Q E ⟨zh, zg, zd, zk, zo⟩ := by
  have zg50 : Gate 50 := trivial
  obtain ⟨rest, r1, r2, hin, hout⟩ := upd2 U1 U2 hne
  exact C_mask0 B F X (fun q hq => N q (hin q hq)) T hk hi hz r1 r2 hne ha hb0 hb hc0 hc fun x y b xa dx ha o t1 t2 bs t3 h' tk' va' vb' kv' ks' ta' tb' n1' n2' e1 e2 e3 e4 e5 e6 e7 e8 e9 e10 e11 e12 e13 N l1 l2 l3 l4 l5 =>
    ret x y b xa dx ha o t1 t2 bs t3 h' tk' va' vb' kv' ks' ta' tb' n1' n2' e1 e2 e3 e4 e5 e6 e7 e8 e9 e10 e11 e12 e13 (fun q hq => N q (by
      rcases List.mem_cons.mp hq with rfl | hq
      · exact .head _
      · rcases List.mem_cons.mp hq with rfl | hq
        · exact .tail _ (.head _)
        · rcases List.mem_cons.mp hq with rfl | hq
          · exact .tail _ (.tail _ (.head _))
          · exact .tail _ (.tail _ (.tail _ (hout _ _ q hq))))) (fun q hq => by
      rcases List.mem_cons.mp (hout _ _ q hq) with rfl | hq
      · exact l1
      · rcases List.mem_cons.mp hq with rfl | hq
        · exact l2
        · exact allLt_mem l3 q hq) l4 l5
end
example : True := by first | walk1 | trivial
example : True := by
  k_with "call ref" => (k_here; (with_reducible show wpAny _ _ (call (Value.ref 858) _) _ _ _); k_dflt (refine' up (D := 570) (U := 4700) (C_mask ?B ?F ?X ?T ?hk ?N ?U1 ?U2 ?ne ?hi ?hz ?ha ?hb0 ?hb ?hc0 ?hc ?_) ?d ?u; (case B => k_asm); (case F => k_asm); (case X => k_asm); (case T => k_asm); (case hk => first | assumption | exact rfl); (case N => k_asm); (case U1 => k_updF); (case U2 => (intro o; k_updF)); (case ne => (first | assumption | ((try dsimp only); k_extra "z:ne"))); (case hi => assumption); (case hz => assumption); (case ha => k_extra "z:o"); (case hb0 => k_extra "z:o"); (case hb => k_extra "z:o"); (case hc0 => k_extra "z:o"); (case hc => k_extra "z:o"); (case d => exact Nat.le_of_ble_eq_true rfl); (case u => exact Nat.le_of_ble_eq_true rfl); k_whole); intro _ _ _ _ _ _ _ _ _ _ _ _ _ _ _ _ _ _ _ _ _ _ _ _ _ _ _ _ _ _ _ _ _ _ N9 l9 l10 l11; (try dsimp only at N9); (try dsimp only at l9); (try k_lt l9); (try k_lt2 l10); (try k_lt2 l11); revert N9 l9 l10 l11; intro _ _ _ _; (try dsimp only); (try k_fold))
  trivial
section
/-! making and raising an own exception whose base has an __init__ -/
noncomputable abbrev excO (C t : Addr) : Obj := { cls := .ref C, data := .fields #[.ref t, .none, .none, .none, .bool false, .none] }
section
variable {M : Model} {A : Around} {E : Value → Shared → Prop} {h : Heap} {g : Array GenState} {d : Drawn} {t : Nat} {os : OsState}
variable {nm q : Str} {C NA : Addr} {bs bm : List Value} {hdct : Bool} {sn : List Str} {sub : List Value} {ab : Bool} {col : Option Bool} {dd : Option Addr} {k0 k1 k2 k3 k5 : Option Value}
theorem x_check_new (hB : bm.contains (.type "Exception") = true) {rest : List Value} {Q : Unit → Shared → Prop} (hC : h.get? C = some (excClassObj nm q C NA bs bm hdct sn sub ab col dd k0 k1 k2 k3 k5 "Exception.__new__"))
    (hq : Q () ⟨h, g, d, t, os⟩) : wpAny M A (checkBuiltinCall "Exception.__new__" ⟨.ref C :: rest, []⟩) Q E ⟨h, g, d, t, os⟩ := by
  have F := PySem.F.excBase_Exception
  have hcont : (Value.ref C :: bm).contains (.type "Exception") = true := by rw [List.contains_cons, hB, Bool.or_true]
  have hstar := F.noStar
  simp only [checkBuiltinCall, F.newKind, F.newSplit, F.newRow]
  repeat (first | refine wpAny_loadPart_at hC ?_ | (refine wpAny_isSubtype_exc hC ?_; rw [hcont]) | refine wpAny_staticBase_exc hC ?_ | refine wpAny_madeBy_exc hC ?_ | simp only [bne_self_eq_false, Bool.false_eq_true, if_false] | wp_step)
  exact hq
theorem x_check_init (hB : bm.contains (.type "Exception") = true) {e : Addr} {oe : Obj} {rest : List Value} {Q : Unit → Shared → Prop}
    (hC : h.get? C = some (excClassObj nm q C NA bs bm hdct sn sub ab col dd k0 k1 k2 k3 k5 "Exception.__new__")) (he : h.get? e = some oe) (hcls : oe.cls = .ref C) (hq : Q () ⟨h, g, d, t, os⟩) :
    wpAny M A (checkBuiltinCall "Exception.__init__" ⟨.ref e :: rest, []⟩) Q E ⟨h, g, d, t, os⟩ := by
  have F := PySem.F.excBase_Exception
  have hcB : (Value.ref C :: bm).contains (.type "Exception") = true := by rw [List.contains_cons, hB, Bool.or_true]
  have hshort := F.noStar
  simp only [checkBuiltinCall, F.initKind, F.initSplit, F.initRow]
  repeat (first | (with_reducible refine wpAny_loadPart_at he ?_; rw [hcls]) | with_reducible refine wpAny_loadPart_at hC ?_ | (with_reducible refine wpAny_isSubtype_exc hC ?_; rw [hcB]) | wp_step)
  refine wpAny_onRaise ?_
  rw [show ∀ (a b : String) (n : Nat), Bind.check ⟨.positional, "*", "Exception", .self, [⟨"args", .varPos, false⟩]⟩ a b n (List.map (fun x => x.fst) ({ pos := Value.ref e :: rest } : Args).kw) = pure () from
    fun a b n => check_star_args _ _ _ _ _ _]
  exact wpAny_pure hq
end
section
variable {prog : Program} {w : World} {A : Around} {R : Result → Shared → Prop} {h : Heap} {g : Array GenState} {d : Drawn} {t : Nat} {os : OsState}
variable {nm q : Str} {C NA : Addr} {bs bm : List Value} {hdct : Bool} {sn : List Str} {sub : List Value} {ab : Bool} {col : Option Bool} {dd : Option Addr} {k0 k1 k2 k3 k5 : Option Value}
theorem x_new (hB : bm.contains (.type "Exception") = true) (hA : bm.contains (.type "AttributeError") = false) (hN : bm.contains (.type "NameError") = false) {rest : List Value}
    (hC : h.get? C = some (excClassObj nm q C NA bs bm hdct sn sub ab col dd k0 k1 k2 k3 k5 "Exception.__new__"))
    (hq : R (.ok (.ret (.ref (h.objs.size + 1)))) ⟨(h.push { cls := .type "tuple", data := .seq rest.toArray }).push (excO C h.objs.size), g, d, t, os⟩) (hrest : rest.length ≤ sizeLine := by size_fits) :
    codeAny (model prog w) A (.builtin "Exception.__new__" ⟨.ref C :: rest, []⟩) R ⟨h, g, d, t, os⟩ := by
  have F := PySem.F.excBase_Exception
  have hends := F.ends
  have hcB : (Value.ref C :: bm).contains (.type "Exception") = true := by rw [List.contains_cons, hB, Bool.or_true]
  have hcA : (Value.ref C :: bm).contains (.type "AttributeError") = false := by rw [List.contains_cons, hA]; rfl
  have hcN : (Value.ref C :: bm).contains (.type "NameError") = false := by rw [List.contains_cons, hN]; rfl
  refine codeAny_builtinAt F.entry ?_
  unfold Builtin.«BaseException.__new__»
  refine PySem.wpAt_bind ?_
  show PySem.wpAt _ _ _ (stack >>= _) _ _ _
  refine PySem.wpAt_bind (PySem.wpAt_stack fun p below => PySem.wpAt_of_wpAny ?_)
  wp_walk
  refine PySem.wpAt_of_wpAny ?_
  rw [F.owner]
  repeat (first | with_reducible refine wpAny_madeHere_exc F.canon hC ?_ | with_reducible refine wpAny_loadPart_at hC ?_ | (with_reducible refine wpAny_isSubtype_exc hC ?_; first | rw [hcB] | rw [hcA] | rw [hcN]) | wp_step)
  show R _ _
  rw [Heap.size_push]
  exact hq
end
section
variable {prog : Program} {w : World} {A : Around} {K : Frag} {R : Result → Shared → Prop} {s : Shared} {h₀ : Heap} {L : Addr} {m : Str → Option Value} {news : List (Addr × Obj)}
variable {nm q : Str} {C NA fI : Addr} {bs bm : List Value} {hdct : Bool} {sn : List Str} {sub : List Value} {ab : Bool} {col : Option Bool} {dd : Option Addr} {k0 k1 k2 k3 k5 : Option Value}
theorem x_make (F : Fr h₀ L s.heap m) (X₀ : K.In h₀) (N : News h₀ L s.heap news) (hB : bm.contains (.type "Exception") = true) (hA : bm.contains (.type "AttributeError") = false) (hN : bm.contains (.type "NameError") = false) {rest : List Value}
    (hK : K.lookup C = some (excClassObj nm q C NA bs bm hdct sn sub ab col dd k0 k1 k2 k3 k5 "Exception.__new__"))
    (hi : findIn K (.ref C) "__init__" = some (some (.ref fI))) (hf : typeIn K (.ref fI) = some (.type "function")) (hrest : rest.length ≤ sizeLine)
    (h : ∀ x t h', Fr h₀ L h' m → News h₀ L h' ((x, excO C t) :: (t, tupO rest 0) :: news) → (∀ p ∈ news, p.1 < t) → @LT.lt Nat _ t x →
      codeAny (model prog w) (A.under (.builtin "type.__call__" ⟨.ref C :: rest, []⟩)) (.call (.ref fI) ⟨.ref x :: rest, []⟩) (InitBack x R) { s with heap := h' }) :
    codeAny (model prog w) A (.call (.ref C) ⟨rest, []⟩) R s := by
  obtain ⟨hp, g, d, tk, os⟩ := s
  have F0 := PySem.F.excBase_Exception
  have hC := F.keep _ _ (X₀ _ _ hK)
  dsimp only at hC
  have f1 := tc_lookup
  have f2 := tc_bind (.ref C)
  have hT : (⟨hp, g, d, tk, os⟩ : Shared).TypeIs (.ref C) "type" := ⟨_, hC, rfl⟩
  refine codeAny_of_tree ?_
  show wpAny _ _ (callAny (.ref C) _) _ _ _
  repeat (any_goals (first | assumption | with_reducible refine wpAny_loadPart_at hC ?_ | wp_step))
  refine ⟨rfl, ?_⟩
  refine codeAny_call_builtin_at (Code.quiet_builtin _ (by decide +kernel)) entry_typeCall (wpAny_check_type_call_sub hC ?_)
  repeat (first | with_reducible refine wpAny_loadPart_at hC ?_ | with_reducible refine wpAny_madeBy_exc hC ?_ | wp_step)
  refine codeAny_call_builtin_code (Code.quiet_builtin _ F0.quiet) (x_check_new hB hC ?_)
  refine x_new hB hA hN hC ?_ hrest
  show wpAny _ _ _ _ _ _
  have N1 := (N.push F { cls := .type "tuple", data := .seq rest.toArray }).push (F.push _) (excO C hp.objs.size)
  rw [Heap.size_push] at N1
  have F1 := (F.push { cls := .type "tuple", data := .seq rest.toArray }).push (excO C hp.objs.size)
  have X1 := X₀.keeps F1.keep
  have hC₁ := F1.keep _ _ (X₀ _ _ hK)
  have hget : ((hp.push { cls := .type "tuple", data := .seq rest.toArray }).push (excO C hp.objs.size)).get? (hp.objs.size + 1) = some (excO C hp.objs.size) := (N1 _ (.head _)).1
  have hcC : (Value.ref C :: bm).contains (.ref C) = true := by simp
  unfold isInstance
  repeat (first | with_reducible refine wpAny_loadPart_at hget ?_ | (with_reducible refine wpAny_isSubtype_exc hC₁ ?_; rw [hcC]) | wp_step)
  have I1 : InstAt ((hp.push { cls := .type "tuple", data := .seq rest.toArray }).push (excO C hp.objs.size)) (hp.objs.size + 1) (excO C hp.objs.size) C none := ⟨hget, rfl, rfl, trivial⟩
  refine wpAny_isSubtype_exc (C := C) hC₁ ?_
  rw [hcC]
  repeat (first | wp_step)
  refine (looks_findIn X1 hi).at ?_
  refine wpAny_holding (wpAny_bind ((bind_fn X1 _ hf).at ?_))
  refine wpAny_bind (wpAny_call ?_)
  refine codeAny_mono (h (hp.objs.size + 1) hp.objs.size _ F1 N1 (fun p hp' => Heap.lt_size (N p hp').1) (Nat.lt_succ_self _)) fun r s' z => ?_
  rcases r with e | (v | _ | _ | _) <;> first | exact z | exact z.elim | skip
  obtain ⟨rfl, z⟩ := z
  exact wpAny_pure (wpAny_pure z)
end
end
example : True := by first | walk1 | trivial
section
section
open PySem.Builtin PySem.Builtin.ObjectAttr
variable {prog : Program} {w : World} {A : Around} {E : Value → Shared → Prop} {K : Frag} {R : Result → Shared → Prop} {s : Shared} {h₀ : Heap} {L x C P : Addr} {m : Str → Option Value} {news : List (Addr × Obj)} {name : Str} {v : Value}
theorem x_store0 {dx : Addr} {tk : Tok} {rest : List (Addr × Obj)} {Q : PySem.Fin → Shared → Prop} (F : Fr h₀ L s.heap m) (N : News h₀ L s.heap ((dx, dictOf [] 0) :: rest)) (h2 : ∀ p ∈ rest, p.1 ≠ dx)
    (h : ∀ h' t, Fr h₀ L h' m → News h₀ L h' ((dx, dictOf [⟨PyData.keyHash w.params name, .str name t, v⟩] 1) :: rest) → Q (.done (.ret .none)) { s with heap := h', toks := s.toks + 1 }) :
    wpAny (model prog w) A (storeInDict dx (.str name tk) name v) Q E s := by
  obtain ⟨U1, U2⟩ := news_upd (pre := []) (o := dictOf [] 0) (o' := dictOf [⟨PyData.keyHash w.params name, .str name s.toks, v⟩] 1) (f := Obj.putName name (PyData.keyHash w.params name) (.str name s.toks) v) F N (fun _ h => nomatch h) h2 (by rw [putName_dict]; rfl) rfl
  have D := (N _ (.head _)).1
  have D' := (U2 _ (.head _)).1
  unfold storeInDict newKeyGuard
  refine wpAny_bind (wpAny_pure (wpAny_bind ?_))
  unfold nsSet
  refine wpAny_bind (wpAny_bind (wpAny_askSetting (wpAny_pure (wpAny_bind (wpAny_mkText (wpAny_bind (wpAny_loadPart D ?_)))))))
  dsimp only
  have c : aRefKeyMayBeTheName name ([] : List DictEntry).toArray = false := by rw [aRefKeyMayBeTheName_at]; simp
  rw [c]
  refine wpAny_updatePart D ?_
  refine wpAny_bind (wpAny_lookBehind D' (pastItsLine_dict (by rw [List.size_toArray, sizeLine_eq, List.length_singleton]; omega)) ?_)
  exact wpAny_pure (h _ _ U1 U2)

/-- object.__setattr__ upon an exception of an own class of depth two, no dict as yet -/
theorem x_osa0 {tk : Tok} {cd : ClassData} {fs : Array Value} {rest : List (Addr × Obj)} (F : Fr h₀ L s.heap m) (X : K.In s.heap) (N : News h₀ L s.heap ((x, ⟨.ref C, none, .fields fs, #[]⟩) :: rest)) (hr : ∀ p ∈ rest, p.1 ≠ x)
    (hc : clsIn K C = some cd) (hm : cd.mro = [.ref C, .ref P, .type "Exception", .type "BaseException", .type "object"]) (hh : cd.hasDict = true) (ha : findIn K (.ref C) name = some none)
    (h : ∀ dx h' t, Fr h₀ L h' m → News h₀ L h' ((dx, dictOf [⟨PyData.keyHash w.params name, .str name t, v⟩] 1) :: (x, ⟨.ref C, some dx, .fields fs, #[]⟩) :: rest) → (∀ p ∈ rest, p.1 < dx) → @LT.lt Nat _ x dx → R (.ok (.ret .none)) { s with heap := h', toks := s.toks + 1 }) :
    codeAny (model prog w) A (.call (.builtin "object.__setattr__") ⟨[.ref x, .str name tk, v], []⟩) R s := by
  have SF := PySem.F.store_Exception
  have hx := (N _ (.head _)).1
  have I : InstAt s.heap x ⟨.ref C, none, .fields fs, #[]⟩ C none := ⟨hx, rfl, rfl, trivial⟩
  have ne : cd.mro.isEmpty = false := by rw [hm]; rfl
  have sub : Looks (model prog w) s.heap (isInstance (.ref x) (.type "object")) true := I.type.andThen (looks_mroIn X (by unfold mroIn; rw [hc, Option.bind_some, if_neg (by rw [ne]; decide), hm]; rfl))
  refine codeAny_call_builtin SF.slot.plain SF.entry (@check_slot (model prog w) _ _ s "object.__setattr__" "object" "__setattr__" (.ref x) [.str name tk, v] [] _ SF.kind SF.split sub (SF.args (.ref x) (.str name tk) v) ?_)
  have hm' : Looks (model prog w) s.heap (mroOf (.ref C)) cd.mro := (looks_clsIn X hc).andThen .now
  rw [osa_eq, refuse_eq]
  refine wpAny_bind (wpAny_bind (I.type.here (wpAny_bind (hm'.here ?_))))
  rw [hm, refuseLoop_ref, refuseLoop_ref, SF.passes]
  refine wpAny_pure (wpAny_bind (I.type.here (wpAny_bind ((looks_findIn X ha).here (wpAny_bind (wpAny_pure ?_))))))
  show wpAny _ _ (storeInOwnDict (.ref x) (.ref C) (.str name tk) name v false) _ _ _
  unfold storeInOwnDict
  refine wpAny_bind (wpAny_pure ?_)
  rw [if_neg (by simp)]
  refine wpAny_bind ?_
  show wpAny _ _ (instanceDict x true) _ _ _
  unfold instanceDict
  refine wpAny_bind (wpAny_loadPart hx ?_)
  have hx' : s.heap.get? x = some ⟨.ref C, none, .fields fs, #[]⟩ := hx
  have hxlt : @LT.lt Nat _ x s.heap.objs.size := Heap.lt_size hx'
  dsimp only
  refine wpAny_bind ((looks_clsIn X hc).here ?_)
  rw [hh, if_neg (by simp), if_neg (by simp [typeHasDict])]
  have N1 := N.push F emptyDict
  have F1 := F.push emptyDict
  have hr1 : ∀ q ∈ rest, q.1 ≠ x := hr
  obtain ⟨U1, U2⟩ := news_upd (pre := [(s.heap.objs.size, emptyDict)]) (post := rest) (o := ⟨.ref C, none, .fields fs, #[]⟩) (o' := ⟨.ref C, some s.heap.objs.size, .fields fs, #[]⟩) (f := fun o => { cls := o.cls, dict := some s.heap.objs.size, data := o.data, slots := o.slots }) F1 N1
    (fun q hq => by rw [List.mem_singleton.mp hq]; exact Ne.symm (Nat.ne_of_lt hxlt)) hr1 rfl rfl
  refine wpAny_bind (wpAny_alloc ?_)
  refine wpAny_bind (wpAny_update (Heap.get?_push_of_some _ hx') ?_)
  refine wpAny_pure ?_
  refine x_store0 U1 U2 (fun q hq => ?_) fun h' t F' N' => ?_
  · rcases List.mem_cons.mp hq with rfl | hq
    · exact Nat.ne_of_lt hxlt
    · exact Nat.ne_of_lt (Heap.lt_size (N _ (.tail _ hq)).1)
  · exact h _ h' t F' N' (fun q hq => Heap.lt_size (N _ (.tail _ hq)).1) hxlt
theorem x_set0 {cd : ClassData} {fs : Array Value} {g : Obj → List (Addr × Obj)} {Q : Unit → Shared → Prop} (F : Fr h₀ L s.heap m) (X₀ : K.In h₀) (N : News h₀ L s.heap news) (U : UpdF x ⟨.ref C, none, .fields fs, #[]⟩ news g)
    (hc : clsIn K C = some cd) (hm : cd.mro = [.ref C, .ref P, .type "Exception", .type "BaseException", .type "object"]) (hh : cd.hasDict = true) (ha : findIn K (.ref C) name = some none) (hs : findIn K (.ref C) "__setattr__" = some (some (.builtin "object.__setattr__")))
    (h : ∀ dx h' t, Fr h₀ L h' m → News h₀ L h' ((dx, dictOf [⟨PyData.keyHash w.params name, .str name t, v⟩] 1) :: g ⟨.ref C, some dx, .fields fs, #[]⟩) → (∀ p ∈ g ⟨.ref C, some dx, .fields fs, #[]⟩, p.1 < dx) → Q () { s with heap := h', toks := s.toks + 2 }) :
    wpAny (model prog w) A (setAttr (.ref x) name v) Q E s := by
  obtain ⟨pre, post, rfl, hg, a, b⟩ := U.split
  have hx := (N _ (List.mem_append_right _ (.head _))).1
  have I : InstAt s.heap x ⟨.ref C, none, .fields fs, #[]⟩ C none := ⟨hx, rfl, rfl, trivial⟩
  have X := X₀.keeps F.keep
  have N1 : News h₀ L s.heap ((x, ⟨.ref C, none, .fields fs, #[]⟩) :: (pre ++ post)) := fun q hq => by
    rcases List.mem_cons.mp hq with rfl | hq
    · exact N _ (List.mem_append_right _ (.head _))
    · rcases List.mem_append.mp hq with hq | hq
      · exact N _ (List.mem_append_left _ hq)
      · exact N _ (List.mem_append_right _ (.tail _ hq))
  have sub : ∀ (dx : Addr) (q : Addr × Obj), q ∈ g ⟨.ref C, some dx, .fields fs, #[]⟩ → q ∈ (x, (⟨.ref C, some dx, .fields fs, #[]⟩ : Obj)) :: (pre ++ post) := fun dx q hq => by
    rw [hg] at hq
    rcases List.mem_append.mp hq with hq | hq
    · exact .tail _ (List.mem_append_left _ hq)
    · rcases List.mem_cons.mp hq with rfl | hq
      · exact .head _
      · exact .tail _ (List.mem_append_right _ hq)
  refine set_plain X I hs (x_osa0 (P := P) (s := { s with toks := s.toks + 1 }) F X N1 (fun q hq => (List.mem_append.mp hq).elim (a q) (b q)) hc hm hh ha fun dx h' t F' N' l1 l2 => ?_)
  refine h dx h' t F' (fun q hq => N' q ?_) (fun q hq => ?_)
  · rcases List.mem_cons.mp hq with rfl | hq
    · exact .head _
    · exact .tail _ (sub dx q hq)
  · rcases List.mem_cons.mp (sub dx q hq) with rfl | hq
    · exact l2
    · exact l1 q hq
theorem x_store1 {dx : Addr} {tk : Tok} {rest : List (Addr × Obj)} {es : List DictEntry} {n : Nat} {Q : PySem.Fin → Shared → Prop} (F : Fr h₀ L s.heap m) (N : News h₀ L s.heap ((dx, dictOf es n) :: rest)) (h2 : ∀ p ∈ rest, p.1 ≠ dx)
    (hk : es.any (·.refKey) = false) (hz : es.length ≤ 1000)
    (h : ∀ h' od, Fr h₀ L h' m → News h₀ L h' ((dx, od) :: rest) → Q (.done (.ret .none)) { s with heap := h', toks := s.toks + 1 }) :
    wpAny (model prog w) A (storeInDict dx (.str name tk) name v) Q E s := by
  obtain ⟨U1, U2⟩ := news_upd (pre := []) (o := dictOf es n) (o' := dictOf (putL name (PyData.keyHash w.params name) (.str name s.toks) v es) (putN name es n)) (f := Obj.putName name (PyData.keyHash w.params name) (.str name s.toks) v) F N (fun _ h => nomatch h) h2 (by rw [putName_dict]) rfl
  have D := (N _ (.head _)).1
  have D' := (U2 _ (.head _)).1
  unfold storeInDict newKeyGuard
  refine wpAny_bind (wpAny_pure (wpAny_bind ?_))
  unfold nsSet
  refine wpAny_bind (wpAny_bind (wpAny_askSetting (wpAny_pure (wpAny_bind (wpAny_mkText (wpAny_bind (wpAny_loadPart D ?_)))))))
  dsimp only
  have c : aRefKeyMayBeTheName name es.toArray = false := by
    rw [aRefKeyMayBeTheName_at, ← Array.any_toList, ← Array.any_toList, hk, Bool.and_false]
  rw [c]
  have hl : ∀ l : List DictEntry, (putL name (PyData.keyHash w.params name) (.str name s.toks) v l).length ≤ l.length + 1 := by
    intro l
    induction l with
    | nil => exact Nat.le_refl _
    | cons e r ih =>
      unfold putL
      split
      · exact Nat.le_succ _
      · exact Nat.succ_le_succ ih
  refine wpAny_updatePart D ?_
  refine wpAny_bind (wpAny_lookBehind D' (pastItsLine_dict (by rw [List.size_toArray, sizeLine_eq]; have := hl es; omega)) ?_)
  exact wpAny_pure (h _ _ U1 U2)
theorem x_set1 {cd : ClassData} {fs : Array Value} {dx : Addr} {es : List DictEntry} {n : Nat} {g : Obj → List (Addr × Obj)} {Q : Unit → Shared → Prop} (F : Fr h₀ L s.heap m) (X₀ : K.In h₀) (N : News h₀ L s.heap news) (U : UpdF dx (dictOf es n) news g) (hx : (x, (⟨.ref C, some dx, .fields fs, #[]⟩ : Obj)) ∈ news)
    (hc : clsIn K C = some cd) (hm : cd.mro = [.ref C, .ref P, .type "Exception", .type "BaseException", .type "object"]) (hh : cd.hasDict = true) (ha : findIn K (.ref C) name = some none) (hs : findIn K (.ref C) "__setattr__" = some (some (.builtin "object.__setattr__")))
    (hk : es.any (·.refKey) = false) (hz : es.length ≤ 1000)
    (h : ∀ h' od, Fr h₀ L h' m → News h₀ L h' (g od) → Q () { s with heap := h', toks := s.toks + 2 }) :
    wpAny (model prog w) A (setAttr (.ref x) name v) Q E s := by
  have hxx := (N _ hx).1
  obtain ⟨pre, post, rfl, hg, a, b⟩ := U.split
  have hdx := (N _ (List.mem_append_right _ (.head _))).1
  have I : InstAt s.heap x ⟨.ref C, some dx, .fields fs, #[]⟩ C (some (dictOf es n)) := ⟨hxx, rfl, rfl, hdx⟩
  have X := X₀.keeps F.keep
  refine set_plain X I hs ?_
  have SF := PySem.F.store_Exception
  have ne : cd.mro.isEmpty = false := by rw [hm]; rfl
  have sub : Looks (model prog w) s.heap (isInstance (.ref x) (.type "object")) true := I.type.andThen (looks_mroIn X (by unfold mroIn; rw [hc, Option.bind_some, if_neg (by rw [ne]; decide), hm]; rfl))
  refine codeAny_call_builtin SF.slot.plain SF.entry (@check_slot (model prog w) _ _ { s with toks := s.toks + 1 } "object.__setattr__" "object" "__setattr__" (.ref x) [.str name s.toks, v] [] _ SF.kind SF.split sub (SF.args (.ref x) (.str name s.toks) v) ?_)
  have hm' : Looks (model prog w) s.heap (mroOf (.ref C)) cd.mro := (looks_clsIn X hc).andThen .now
  rw [osa_eq, refuse_eq]
  refine wpAny_bind (wpAny_bind (I.type.at (wpAny_bind (hm'.at ?_))))
  rw [hm, refuseLoop_ref, refuseLoop_ref, SF.passes]
  refine wpAny_pure (wpAny_bind (I.type.at (wpAny_bind ((looks_findIn X ha).at (wpAny_bind (wpAny_pure ?_))))))
  show wpAny _ _ (storeInOwnDict (.ref x) (.ref C) (.str name s.toks) name v false) _ _ _
  unfold storeInOwnDict
  refine wpAny_bind (wpAny_pure ?_)
  rw [if_neg (by simp)]
  refine wpAny_bind ?_
  show wpAny _ _ (instanceDict x true) _ _ _
  unfold instanceDict
  refine wpAny_bind (wpAny_loadPart hxx ?_)
  dsimp only
  refine wpAny_bind ((looks_clsIn X hc).at ?_)
  rw [hh, if_neg (by simp)]
  refine wpAny_pure ?_
  have N1 : News h₀ L s.heap ((dx, dictOf es n) :: (pre ++ post)) := fun q hq => by
    rcases List.mem_cons.mp hq with rfl | hq
    · exact N _ (List.mem_append_right _ (.head _))
    · rcases List.mem_append.mp hq with hq | hq
      · exact N _ (List.mem_append_left _ hq)
      · exact N _ (List.mem_append_right _ (.tail _ hq))
  refine x_store1 (s := { s with toks := s.toks + 1 }) F N1 (fun q hq => (List.mem_append.mp hq).elim (a q) (b q)) hk hz fun h' od F' N' => h h' od F' fun q hq => N' q ?_
  rw [hg] at hq
  rcases List.mem_append.mp hq with hq | hq
  · exact .tail _ (List.mem_append_left _ hq)
  · rcases List.mem_cons.mp hq with rfl | hq
    · exact .head _
    · exact .tail _ (List.mem_append_right _ hq)
end
end
example : True := by first | walk1 | trivial
section
noncomputable def RaiseEnd (K : Frag) (C : Addr) (E : Value → Shared → Prop) (v : Value) (s : Shared) : Prop := ∃ e dd t, v = .ref e ∧ K.In s.heap ∧ s.heap.get? e = some ⟨.ref C, dd, .fields #[.ref t, .none, .none, .none, .bool false, .none], #[]⟩ ∧ E (.ref e) s
theorem x_raise {prog : Program} {w : World} {A : Around} {E : Value → Shared → Prop} {K : Frag} {s : Shared} {C NA : Addr} {nm q : Str} {bs bm : List Value} {hdct : Bool} {sn : List Str} {sub : List Value} {ab : Bool} {col : Option Bool} {dd : Option Addr} {k0 k1 k2 k3 k5 : Option Value} {newId : String} {env : Env} {exc : Expr} {pos : Pos} {Q : Flow → Shared → Prop}
    {h₀ : Heap} (_X₀ : K.In h₀) (hh : A.handled = none) (hK : K.lookup C = some (excClassObj nm q C NA bs bm hdct sn sub ab col dd k0 k1 k2 k3 k5 newId)) (hb : bm.contains (.type "BaseException") = true)
    (h : wpAny (model prog w) A (eval exc env) (RaiseEnd K C E) E s) : wpAny (model prog w) A (exec (.Raise (some exc) none pos) env) Q E s := by
  have hcB : (Value.ref C :: bm).contains (.type "BaseException") = true := by rw [List.contains_cons, hb, Bool.or_true]
  rw [arm_exec_Raise]
  refine wpAny_bind (wpAny_standAt ?_)
  show wpAny _ _ (raiseStmt env (some (eval exc env >>= fun v => standAt pos >>= fun _ => pure v)) none) _ _ _
  unfold raiseStmt
  refine wpAny_bind (wpAny_bind (wpAny_mono h (fun v s₁ h₁ => wpAny_bind (wpAny_standAt (wpAny_pure ?_))) fun _ _ x => x))
  obtain ⟨e, dd', t, rfl, X, he, hE⟩ := h₁
  have hC := X _ _ hK
  obtain ⟨hp, g, d, tk, os⟩ := s₁
  repeat (first | with_reducible refine wpAny_loadPart_at he ?_ | with_reducible refine wpAny_loadPart_at hC ?_ | (with_reducible refine wpAny_isSubtype_exc hC ?_; rw [hcB]) | wp_step)
  exact wpAny_raiseNew_none hh hE
/-- the first leaving of an exception as it was made -/
theorem x_leave {M : Model} {A : Around} {E : Value → Shared → Prop} {s' : Shared} {base g h : Heap} {outer : List Env} {L a e t : Addr} {m : Str → Option Value} {name : Str} {scope : Scope} {cd : Value} {Q : Unit → Shared → Prop} {news : List (Addr × Obj)} {C : Addr} {dd : Option Addr}
    (K : Below A base outer g) (F : Fr g L h m) (N : News g L h news) (ke : ∀ b o, h.get? b = some o → s'.heap.get? b = some o) (hne : h.get? e = none) (he : s'.heap.get? e = some ⟨.ref C, dd, .fields #[.ref t, .none, .none, .none, .bool false, .none], #[]⟩)
    (hQ : ∀ h', RaisedN base outer e (.ref C) news h' → g.UpToSlots h' → Q () { s' with heap := h' }) (hk : scope.kind = .function := by rfl) :
    wpAny M (A.deeper (envOf name scope L a cd)) (leaving (envOf name scope L a cd) (.ref e)) Q E s' := by
  have K' := K.push (name := name) (a := a) (cd := cd) F hk
  have hin : ∀ env ∈ (envOf name scope L a cd :: outer), ∀ b, env.frame = some b → b ∈ (envOf name scope L a cd :: outer).filterMap (·.frame) := fun env he b hb => List.mem_filterMap.mpr ⟨env, he, hb⟩
  have st : base.StaysIn (hideAll h ((envOf name scope L a cd :: outer).filterMap (·.frame))) := fun b o q => hideAll_get _ (K'.stays b o q) fun hm => by
    rw [(K'.frames.mem hm).1] at q; cases q
  have hl : ∀ q ∈ news, (hideAll h ((envOf name scope L a cd :: outer).filterMap (·.frame))).get? q.1 = some q.2 ∧ base.get? q.1 = none := fun q hq => by
    refine ⟨hideAll_get _ (N q hq).1 fun hm => ?_, fresh_of_stays K.stays (N q hq).2.2⟩
    obtain ⟨env, he, hf⟩ := List.mem_filterMap.mp hm
    rcases List.mem_cons.mp he with rfl | he
    · exact (N q hq).2.1 (Option.some.inj hf).symm
    · obtain ⟨o, ho, _⟩ := (K.frames.mem (List.mem_filterMap.mpr ⟨env, he, hf⟩)).2
      rw [(N q hq).2.2] at ho; cases ho
  have hen : (hideAll h ((envOf name scope L a cd :: outer).filterMap (·.frame))).get? e = none := by
    cases q : (hideAll h ((envOf name scope L a cd :: outer).filterMap (·.frame))).get? e with
    | none => rfl
    | some o => have := of_hideAll _ q; rw [hne] at this; cases this
  refine wpAny_leaving_firstW (a0 := .ref t) K'.stack ((funFrames_hide K'.frames hin).of_keeps fun b o hb _ => ⟨o, ke b o hb, rfl⟩) rfl he (fun b o hb => ke b o (of_hideAll _ hb)) hen rfl rfl rfl fun h' hL => ?_
  obtain ⟨k1, ⟨_, _, k2⟩, k3, k4⟩ := hL
  exact hQ h' ⟨_, .ref t, st, hl, k1, hen, k2, k3⟩ (((Heap.UpToSlots.of_keeps F.keep).trans (Heap.UpToSlots.of_keeps ke)).trans k4)
theorem x_leave' {M : Model} {A : Around} {E : Value → Shared → Prop} {s' : Shared} {base g : Heap} {outer : List Env} {L a e t : Addr} {m : Str → Option Value} {name : Str} {scope : Scope} {cd : Value} {Q : Unit → Shared → Prop} {news : List (Addr × Obj)} {C : Addr} {dd : Option Addr}
    (K : Below A base outer g) (F : Fr g L s'.heap m) (N : News g L s'.heap ((e, ⟨.ref C, dd, .fields #[.ref t, .none, .none, .none, .bool false, .none], #[]⟩) :: news)) (ne : ∀ q ∈ news, q.1 ≠ e)
    (hQ : ∀ h', RaisedN base outer e (.ref C) news h' → g.UpToSlots h' → Q () { s' with heap := h' }) (hk : scope.kind = .function := by rfl) :
    wpAny M (A.deeper (envOf name scope L a cd)) (leaving (envOf name scope L a cd) (.ref e)) Q E s' := by
  have he := N _ (.head _)
  obtain ⟨oL, es, ep, hL, r⟩ := F.ns
  refine x_leave (h := hideAll s'.heap [e]) K ⟨⟨oL, es, ep, hideAll_get _ hL (fun q => he.2.1 (List.mem_singleton.mp q).symm), r⟩, fun b o q => hideAll_get _ (F.keep b o q) (fun z => ?_), F.above⟩ (fun q hq => ⟨hideAll_get _ (N q (.tail _ hq)).1 (fun z => ne q hq (List.mem_singleton.mp z)), (N q (.tail _ hq)).2⟩)
    (fun b o q => of_hideAll _ q) (hideAll_none _ (List.mem_singleton.mpr rfl)) he.1 hQ hk
  rw [List.mem_singleton.mp z, he.2.2] at q
  cases q
theorem meta_Exception : typeOf (.type "Exception") = pure (.type "type") := by kernel_rfl
theorem x_init {prog : Program} {w : World} {A : Around} {E : Value → Shared → Prop} {K : Frag} {s : Shared} {h₀ : Heap} {L x t C NA : Addr} {m : Str → Option Value} {news : List (Addr × Obj)} {g : Obj → List (Addr × Obj)} {nm q : Str} {bs bm : List Value} {hdct : Bool} {sn : List Str} {sub : List Value} {ab : Bool} {col : Option Bool} {dd : Option Addr} {k0 k1 k2 k3 k5 : Option Value} {v : Value} {Q : Value → Shared → Prop}
    (F : Fr h₀ L s.heap m) (X₀ : K.In h₀) (N : News h₀ L s.heap news) (U : UpdF x (excO C t) news g) (hK : K.lookup C = some (excClassObj nm q C NA bs bm hdct sn sub ab col dd k0 k1 k2 k3 k5 "Exception.__new__")) (hB : bm.contains (.type "Exception") = true)
    (h : ∀ t2 h', Fr h₀ L h' m → News h₀ L h' ((t2, tupO [v] 0) :: g (excO C t2)) → (∀ p ∈ g (excO C t2), p.1 < t2) → Q .none { s with heap := h' }) :
    wpAny (model prog w) A (call (.builtin "Exception.__init__") [.ref x, v]) Q E s := by
  obtain ⟨pre, post, rfl, hg, a, b⟩ := U.split
  have hC := F.keep _ _ (X₀ _ _ hK)
  have hx := (N _ (List.mem_append_right _ (.head _))).1
  have F0 := PySem.F.excBase_Exception
  obtain ⟨hp, gg, d, tk, os⟩ := s
  dsimp only at hC hx F N h
  refine wpAny_call (codeAny_call_builtin F0.init.plain F0.initEntry (x_check_init hB hC hx rfl ?_))
  wp_walk
  have N1 := N.push F { cls := .type "tuple", data := .seq [v].toArray }
  have F1 := F.push { cls := .type "tuple", data := .seq [v].toArray }
  have hxs : @LT.lt Nat _ x hp.objs.size := Heap.lt_size hx
  obtain ⟨U1, U2⟩ := news_upd (pre := (hp.objs.size, { cls := .type "tuple", data := .seq [v].toArray }) :: pre) (post := post) (o := excO C t) (o' := excO C hp.objs.size) (f := Obj.mapFields fun y => y.setIfInBounds 0 (Value.ref hp.objs.size)) F1 N1
    (fun q hq => by
      rcases List.mem_cons.mp hq with rfl | hq
      · exact Ne.symm (Nat.ne_of_lt hxs)
      · exact a q hq) b rfl rfl
  refine h hp.objs.size _ U1 (fun q hq => U2 q ?_) fun q hq => ?_
  · rw [hg] at hq
    rcases List.mem_cons.mp hq with rfl | hq
    · exact .head _
    · exact .tail _ hq
  · rw [hg] at hq
    rcases List.mem_append.mp hq with hq | hq
    · exact Heap.lt_size (N q (List.mem_append_left _ hq)).1
    · rcases List.mem_cons.mp hq with rfl | hq
      · exact hxs
      · exact Heap.lt_size (N q (List.mem_append_right _ (.tail _ hq))).1
end
example : True := by first | walk1 | trivial
example : True := by
  k_with "exec Raise some none" => (k_here; k_dflt (refine' x_raise (C := 71) ?X ?hh ?hK ?hb ?_; (case X => k_asm); (case hh => exact rfl); (case hK => k_is); (case hb => exact rfl)))
  trivial
example : True := by
  k_with "call ref" => (k_here; (with_reducible show wpAny _ _ (call (Value.ref 71) _) _ _ _); k_dflt (refine wpAny_call ?_; refine' x_make ?F ?X ?N ?hB ?hA ?hN ?hK ?hi ?hf ?hr ?_; (case F => k_asm); (case X => k_asm); (case N => k_asm); (case hK => k_is); (case hB => exact rfl); (case hA => exact rfl); (case hN => exact rfl); (case hi => k_is); (case hf => k_is); (case hr => exact Nat.le_of_ble_eq_true rfl); k_whole; intro _ _ _ _ _ l1 l2; (try k_lt l1); (try k_lt2 l2); revert l1 l2; intro _ _; (try k_sweep); k_enter))
  trivial
example : True := by
  k_with "setAttr ref" => (k_here; (with_reducible show wpAny _ _ (setAttr _ (Str.ofString "what") _) _ _ _); k_dflt (refine' x_set0 (C := 71) (P := 46) ?F ?X ?N ?U ?hc ?hm ?hh ?ha ?hs ?_; (case F => k_asm); (case X => k_asm); (case N => k_asm); (case U => k_updF); (case hc => k_is); (case hm => exact rfl); (case hh => exact rfl); (case ha => k_is); (case hs => k_is); k_whole; intro _ _ _ _ N' l1; (try dsimp only at N' l1); (try k_lt l1); revert N' l1; intro _ _; (try k_sweep)))
  trivial
example : True := by
  k_with "getMethod type:Exception" => (k_here; refine' method_type ?F ?X ?m (by decide +kernel) ?e ?h ?_; (case F => k_asm); (case X => k_asm); (case m => exact meta_Exception); (case e => k_dflt k_is); (case h => k_handed))
  trivial
example : True := by
  k_with "call builtin:Exception.__init__" => (k_here; k_dflt (refine' x_init (C := 71) ?F ?X ?N ?U ?K ?B ?_; (case F => k_asm); (case X => k_asm); (case N => k_asm); (case U => k_updF); (case K => k_is); (case B => exact rfl); k_whole; intro _ _ _ N' l1; (try dsimp only at N' l1); (try k_lt l1); revert N' l1; intro _ _; (try k_sweep)))
  trivial
example : True := by
  k_with "setAttr ref" => (k_here; (with_reducible show wpAny _ _ (setAttr _ (Str.ofString "at") _) _ _ _); k_dflt (refine' x_set1 (C := 71) (P := 46) ?F ?X ?N ?U ?hx ?hc ?hm ?hh ?ha ?hs ?hk ?hz ?_; (case F => k_asm); (case X => k_asm); (case N => k_asm); (case hx => k_mem); (case U => k_updF); (case hc => k_is); (case hm => exact rfl); (case hh => exact rfl); (case ha => k_is); (case hs => k_is); (case hk => exact rfl); (case hz => exact Nat.le_of_ble_eq_true rfl); k_whole; intro _ _ _ N'; (try dsimp only at N'); revert N'; intro _; (try k_sweep)))
  trivial
section
/-- a Lattice's own dict -/
noncomputable abbrev latO (w : World) (t1 t2 t3 t4 : Tok) (x : Int) (tx : Tok) (y : Int) (ty : Tok) (b : Int) (tb : Tok) (c : Int) (tc : Tok) : Obj :=
  dictOf [{ hash := PyData.keyHash w.params (Str.ofString "width"), key := .str (Str.ofString "width") t1, val := .int x tx }, { hash := PyData.keyHash w.params (Str.ofString "height"), key := .str (Str.ofString "height") t2, val := .int y ty },
    { hash := PyData.keyHash w.params (Str.ofString "bits"), key := .str (Str.ofString "bits") t3, val := .int b tb }, { hash := PyData.keyHash w.params (Str.ofString "count"), key := .str (Str.ofString "count") t4, val := .int c tc }] 4
theorem need_eq {x y b c : Int} : (x * c * b + 7).fdiv 8 * y = needZ x y (b * c) := by
  unfold needZ
  rw [Int.fdiv_eq_ediv_of_nonneg _ (by decide), show x * c * b = x * (b * c) from by rw [Int.mul_assoc, Int.mul_comm c b], ceil8]
theorem C_check {fx fd : Addr} {t1 t2 t3 t4 tx ty tb tc tk : Tok} {x y b c : Int} {bs : Array UInt8}
 (B : Below A₀ base outer h₀) (F : Fr h₀ L zh m) (X : (hd.heap_39 w.params).In h₀) (T : Top p loose mean mg mb h₀) (hk : cs.kind = .function) (N : News h₀ L zh news)
 (hf1 : (fx, instObj 670 fd) ∈ news) (hf2 : (fd, latO w t1 t2 t3 t4 x tx y ty b tb c tc) ∈ news)
 (h1 : 1 ≤ x) (h2 : x ≤ 20000) (h3 : 1 ≤ y) (h4 : y ≤ 1000000000) (h5 : 1 ≤ b) (h6 : b ≤ 16) (h7 : 1 ≤ c) (h8 : c ≤ 4) (hz : bs.size ≤ 100000)
 (ret : ∀ h' tk', Fr h₀ L h' m → News h₀ L h' news → needZ x y (b * c) ≤ bs.size → Q .none ⟨h', zg, zd, tk', zo⟩)
 (err : ∀ e g h' tk', Fr h₀ L g m → g.UpToSlots h' → RaisedN base (envX cn cs L a ccd cl :: outer) e (.ref 71) news h' → (bs.size : Int) < needZ x y (b * c) → E (.ref e) ⟨h', zg, zd, tk', zo⟩) :
 CallAt 590 4900 prog w gd cn cs L a ccd cl outer 686 [.bytes bs tk, .ref fx] Q E ⟨zh, zg, zd, zk, zo⟩ := by
  have er := need_eq (x := x) (y := y) (b := b) (c := c)
  refine wpAny_call ?_
  k_dflt k_enter
  k_extra "z:flat"
  · refine ⟨_, _, _, rfl, by k_in, News.get (by k_asm) (by k_mem), ?_⟩
    k_unfold
    refine' x_leave' (C := 71) (news := news) ?K ?F ?N ?ne ?_
    (case K => assumption)
    (case F => assumption)
    (case N => refine' cb_drop ?N1 ?S1; (case N1 => k_asm); (case S1 => k_sub))
    (case ne => k_all)
    intro h' R U
    exact err _ _ _ _ (by assumption) U R (by rw [← er]; assumption)
  · exact ret _ _ (by k_asm) (by k_asm) (by rw [← er]; omega)
end
example : True := by first | walk1 | trivial
example : True := by
  k_with "call ref" => (k_here; (with_reducible show wpAny _ _ (call (Value.ref 686) _) _ _ _); k_dflt (refine' up (D := 590) (U := 4900) (C_check ?B ?F ?X ?T ?hk ?N ?f1 ?f2 ?h1 ?h2 ?h3 ?h4 ?h5 ?h6 ?h7 ?h8 ?hz ?_ ?_) ?d ?u; (case N => k_asm); (case f1 => k_mem); (case f2 => k_mem); (case h1 => k_extra "z:o"); (case h2 => k_extra "z:o"); (case h3 => k_extra "z:o"); (case h4 => k_extra "z:o"); (case h5 => k_extra "z:o"); (case h6 => k_extra "z:o"); (case h7 => k_extra "z:o"); (case h8 => k_extra "z:o"); (case hz => k_extra "z:o"); (case B => k_asm); (case F => k_asm); (case X => k_asm); (case T => k_asm); (case hk => first | assumption | exact rfl); (case d => exact Nat.le_of_ble_eq_true rfl); (case u => exact Nat.le_of_ble_eq_true rfl); k_whole); intro _ _ _ _ _; (try dsimp only); (try k_fold))
  trivial
section
/-- a value that fetch hands on -/
inductive Plain (news : List (Addr × Obj)) : Value → Prop
  | none : Plain news .none
  | bool (b : Bool) : Plain news (.bool b)
  | int (i : Int) (t : Tok) : Plain news (.int i t)
  | lst {a : Addr} {xs : List Value} {n : Nat} : (a, listOf xs.toArray n) ∈ news → Plain news (.ref a)
  | name {a d : Addr} {es : List DictEntry} {n : Nat} : (a, instObj 237 d) ∈ news → (d, dictOf es n) ∈ news → Plain news (.ref a)
  | strm {a d : Addr} {es : List DictEntry} {n : Nat} : (a, instObj 280 d) ∈ news → (d, dictOf es n) ∈ news → Plain news (.ref a)
  | strg {a d : Addr} {es : List DictEntry} {n : Nat} : (a, instObj 259 d) ∈ news → (d, dictOf es n) ∈ news → Plain news (.ref a)
theorem Plain.mono {l l' : List (Addr × Obj)} {v : Value} (h : Plain l v) (k : ∀ p ∈ l, p ∈ l') : Plain l' v := by
  cases h
  · exact .none
  · exact .bool _
  · exact .int _ _
  · exact .lst (k _ (by assumption))
  · exact .name (k _ (by assumption)) (k _ (by assumption))
  · exact .strm (k _ (by assumption)) (k _ (by assumption))
  · exact .strg (k _ (by assumption)) (k _ (by assumption))
theorem isi_plain {v : Value} {P : Value → Shared → Prop} (F : Fr h₀ L s.heap m) (X : (hd.heap_39 w.params).In h₀) (N : News h₀ L s.heap news) (hv : Plain news v) (hu : A₀.units + 64 < cLine) (hh : A₀.handled = none)
    (hq : ∀ tk', P (.bool false) { s with toks := tk' }) : wpAny (model prog w) A₀ (call (.builtin "isinstance") [v, .ref 308]) P E s := by
  cases hv
  all_goals k_extra "z:flat"
  all_goals exact hq _
example : True := by
  k_with "call builtin:isinstance" => ((guard_hyp zg100); (k_here; (with_reducible show wpAny _ _ (call _ [_, Value.ref 308]) _ _ _); k_dflt (refine' isi_plain ?F ?X ?N ?v ?u ?h ?_; (case F => k_asm); (case X => k_asm); (case N => k_asm); (case v => first | assumption | exact Plain.mono (by assumption) (by k_sub)); (case u => exact Nat.le_of_ble_eq_true rfl); (case h => exact rfl); k_whole); intro _; (try dsimp only); (try k_fold)))
  trivial
local macro_rules | `(tactic| walk_at "pyIter ref") => `(tactic| kf1_first)
theorem C_fetch {sx : Addr} {v : Value}
 (B : Below A₀ base outer h₀) (F : Fr h₀ L zh m) (X : (hd.heap_39 w.params).In h₀) (T : Top p loose mean mg mb h₀) (hk : cs.kind = .function) (N : News h₀ L zh news)
 (hv : Plain news v)
 (ret : ∀ h' tk', Fr h₀ L h' m → News h₀ L h' news → Q v ⟨h', zg, zd, tk', zo⟩) :
 CallAt 700 6000 prog w gd cn cs L a ccd cl outer 360 [.ref sx, v] Q E ⟨zh, zg, zd, zk, zo⟩ := by
  have zg100 : Gate 100 := trivial
  refine wpAny_call ?_
  k_dflt k_enter
  k_extra "z:flat"
  all_goals (refine' ret _ _ ?F ?N; (case F => k_asm); (case N => refine' cb_drop ?N1 ?S1; (case N1 => k_asm); (case S1 => k_sub)))
end
example : True := by first | walk1 | trivial
example : True := by
  k_with "call builtin:isinstance" => (k_here; (with_reducible show wpAny _ _ (call _ [_, Value.ref 308]) _ _ _); k_dflt (refine' isi_plain ?F ?X ?N ?v ?u ?h ?_; (case F => k_asm); (case X => k_asm); (case N => k_asm); (case v => first | assumption | exact Plain.mono (by assumption) (by k_sub)); (case u => exact Nat.le_of_ble_eq_true rfl); (case h => exact rfl); k_whole); intro _; (try dsimp only); (try k_fold))
  trivial
example : True := by
  k_with "call ref" => (k_here; (with_reducible show wpAny _ _ (call (Value.ref 360) _) _ _ _); k_dflt (refine' up (D := 700) (U := 6000) (C_fetch ?B ?F ?X ?T ?hk ?N ?v ?_) ?d ?u; (case B => k_asm); (case F => k_asm); (case X => k_asm); (case T => k_asm); (case hk => first | assumption | exact rfl); (case N => k_asm); (case v => first | assumption | exact Plain.mono (by assumption) (by k_sub)); (case d => exact Nat.le_of_ble_eq_true rfl); (case u => exact Nat.le_of_ble_eq_true rfl); k_whole); intro _ _ _ _; (try dsimp only); (try k_fold))
  trivial
section
/-- a turn's end -/
structure TurnE (h₀ : Heap) (L : Addr) {σ : Type} (fm : σ → Str → Option Value) (led : σ → List (Addr × Obj)) (fact : Nat → σ → Prop) (i : Nat) (own : List (Addr × Obj)) (s₁ s₂ : Shared) : Prop where
  ex : ∃ c h' tk news', s₂ = { s₁ with heap := h', toks := tk } ∧ Fr h₀ L h' (fm c) ∧ News h₀ L h' news' ∧ (∀ p ∈ led c, p ∈ news') ∧ (∀ p ∈ own, p ∈ news') ∧ OwnOff own ((led c).map (·.1)) ∧ fact i c
theorem TurnE.of {h₀ : Heap} {L : Addr} {σ : Type} {fm : σ → Str → Option Value} {led : σ → List (Addr × Obj)} {fact : Nat → σ → Prop} {i : Nat} {own news' : List (Addr × Obj)} {s₁ : Shared} {h' : Heap} {tk : Nat} (c : σ)
    (F : Fr h₀ L h' (fm c)) (N : News h₀ L h' news') (h1 : ∀ p ∈ led c, p ∈ news') (h2 : ∀ p ∈ own, p ∈ news') (h3 : OwnOff own ((led c).map (·.1))) (h4 : fact i c) : TurnE h₀ L fm led fact i own s₁ { s₁ with heap := h', toks := tk } := ⟨c, h', tk, news', rfl, F, N, h1, h2, h3, h4⟩
section
variable {prog : Program} {w : World} {A : Around} {E : Value → Shared → Prop} {s : Shared} {env : Env} {h₀ : Heap} {x : Str} {body : List Stmt} {Q : Flow → Shared → Prop}
theorem rngG {r : Addr} {a₀ b₀ : Int} {t₀ u₀ v₀ : Tok} {n : Nat} {m₀ : Str → Option Value} {news : List (Addr × Obj)} (J : Nat → (Str → Option Value) → List (Addr × Obj) → Prop)
    (hh : A.handled = none) (hr : IsRange s.heap r a₀ b₀ 1 t₀ u₀ v₀) (hsmall : Builtin.Range.small a₀ b₀ 1 = true) (hn : Builtin.Range.rangeSize a₀ b₀ 1 = (n : Int)) (F : Fr h₀ env.locals s.heap m₀) (N : News h₀ env.locals s.heap news) (hj : J 0 m₀ news)
    (turn : ∀ i t m₁ nx h tk own, i < n → OwnOff own (nx.map (·.1)) → J i m₁ nx → Fr h₀ env.locals h (fun y => if y = x then some (.int (a₀ + (i : Int)) t) else m₁ y) → News h₀ env.locals h (nx ++ own) →
      wpAny (model prog w) A (execs body env) (InvPostG h₀ env.locals (J (i + 1)) own { s with heap := h, toks := tk } Q) E { s with heap := h, toks := tk })
    (done : ∀ m₁ nx h tk, J n m₁ nx → Fr h₀ env.locals h m₁ → News h₀ env.locals h nx → Q .next { s with heap := h, toks := tk }) :
    wpAny (model prog w) A (pyIter (.ref r)) (fun it s₂ => LoopAtV prog w A h₀ env x body Q E it s₂) E s := by
  refine wpAny_pyIter_range hr hsmall ?_
  have W : Walks prog w A s.heap.objs.size [s.heap.objs.size] [s.heap.objs.size] n (fun i v => i < n ∧ ∃ t, v = .int (a₀ + i * 1) t)
      (fun i h => IsRangeIter h s.heap.objs.size (a₀ + (i : Nat) * 1) ((n : Int) - (i : Nat)) 1) := (Walks.range hh _ a₀ 1 n).bound
  refine kdr_loop J W (fun _ h => h) (fun _ h => h) (fun i h st b hb => ?_) ?_ ?_ ?_ (by show IsRangeIter _ _ _ _ _; rw [hn]; simpa using Heap.get?_push_size _ rfl) (F.push _) (fun p hp => ⟨Heap.get?_push_of_some _ (N p hp).1, (N p hp).2⟩) hj ?_ ?_
  · rw [List.mem_singleton.mp hb]; exact ⟨_, st⟩
  · intro hm
    exact absurd F.ns.lt ((List.mem_singleton.mp hm) ▸ Nat.lt_irrefl _)
  · intro b hb
    rw [List.mem_singleton.mp hb]
    exact next_is_new F
  · intro p hp hI
    exact absurd (Heap.lt_size (N p hp).1) ((List.mem_singleton.mp hI) ▸ Nat.lt_irrefl _)
  · rintro i v m₁ nx h tk own hi ⟨_, t, rfl⟩ ho hJ F' N'
    simp only [Int.mul_one] at F'
    exact turn i t m₁ nx h tk own hi ho hJ F' N'
  · exact fun m₁ nx h tk hJ F₁ N₁ => done m₁ nx h tk hJ F₁ N₁
theorem rng {r : Addr} {a₀ b₀ : Int} {t₀ u₀ v₀ : Tok} {n : Nat} {m₀ : Str → Option Value} {news : List (Addr × Obj)} {σ : Type} (fm : (Str → Option Value) → σ → Str → Option Value) (led : σ → List (Addr × Obj)) (fact : Nat → σ → Prop) (c₀ : σ)
    (hh : A.handled = none) (hr : IsRange s.heap r a₀ b₀ 1 t₀ u₀ v₀) (hsmall : Builtin.Range.small a₀ b₀ 1 = true) (hn : Builtin.Range.rangeSize a₀ b₀ 1 = (n : Int)) (F : Fr h₀ env.locals s.heap m₀) (N : News h₀ env.locals s.heap news)
    (e0 : fm m₀ c₀ = m₀) (l0 : ∀ p ∈ led c₀, p ∈ news) (f0 : fact 0 c₀)
    (turn : ∀ i c t h tk own, i < n → OwnOff own ((led c).map (·.1)) → fact i c → Fr h₀ env.locals h (fun y => if y = x then some (.int (a₀ + (i : Int)) t) else fm m₀ c y) → News h₀ env.locals h (led c ++ own) →
      wpAny (model prog w) A (execs body env) (fun f s₂ => match f with | .ret v => Q (.ret v) s₂ | .brk => Q .next s₂ | _ => TurnE h₀ env.locals (fm m₀) led fact (i + 1) own { s with heap := h, toks := tk } s₂) E { s with heap := h, toks := tk })
    (done : ∀ c h tk, fact n c → Fr h₀ env.locals h (fm m₀ c) → News h₀ env.locals h (led c) → Q .next { s with heap := h, toks := tk }) :
    wpAny (model prog w) A (pyIter (.ref r)) (fun it s₂ => LoopAtV prog w A h₀ env x body Q E it s₂) E s := by
  refine rngG (fun i m nx => ∃ c, m = fm m₀ c ∧ nx = led c ∧ fact i c) hh hr hsmall hn F (fun p hp => N p (l0 p hp)) ⟨c₀, e0.symm, rfl, f0⟩ ?_ ?_
  · rintro i t m₁ nx h tk own hi ho ⟨c, rfl, rfl, hc⟩ F' N'
    refine wpAny_mono (turn i c t h tk own hi ho hc F' N') (fun f s₂ hq => ?_) fun _ _ z => z
    have fin : TurnE h₀ env.locals (fm m₀) led fact (i + 1) own { s with heap := h, toks := tk } s₂ → InvEndG h₀ env.locals (fun m nx => ∃ c, m = fm m₀ c ∧ nx = led c ∧ fact (i + 1) c) own { s with heap := h, toks := tk } s₂ := by
      rintro ⟨c', h', tk', news', e, F2, N2, a1, a2, a3, a4⟩
      exact ⟨h', tk', _, news', led c', e, F2, N2, a1, a2, a3, c', rfl, rfl, a4⟩
    cases f with
    | ret v => exact hq
    | brk => exact hq
    | next => exact fin hq
    | cont => exact fin hq
  · rintro m₁ nx h tk ⟨c, rfl, rfl, hc⟩ F' N'
    exact done c h tk hc F' N'
end
end
example : True := by first | walk1 | trivial
example : True := by
  k_with "getMethod ref" => (k_here; (with_reducible show wpAny _ _ (getMethod (Value.ref _) (Str.ofString "get") _) _ _ _); k_dflt (first | (refine' kdg_method (knd := PySem.strKind _ _) ?N ?m ?d ?_; (case N => k_asm); (case m => first | assumption | (refine List.mem_append_left _ ?_; assumption) | (refine mem1 ?_; first | assumption | (refine List.mem_append_left _ ?_; assumption)) | (refine mem2 ?_; first | assumption | (refine List.mem_append_left _ ?_; assumption)) | k_mem); (case d => assumption)) | (refine' kdg_method (knd := PySem.intKind _ _) ?N ?m ?d ?_; (case N => k_asm); (case m => first | assumption | (refine List.mem_append_left _ ?_; assumption) | (refine mem1 ?_; first | assumption | (refine List.mem_append_left _ ?_; assumption)) | (refine mem2 ?_; first | assumption | (refine List.mem_append_left _ ?_; assumption)) | k_mem); (case d => assumption))))
  trivial
example : True := by
  k_with "call builtin:dict.get" => (k_here; k_dflt (first | (refine' kdg_get1 (knd := PySem.strKind _ _) ?N ?m ?d ?lo (strKind_is _ _ _ _) _ ?hl ?_; (case N => k_asm); (case m => first | assumption | (refine List.mem_append_left _ ?_; assumption) | (refine mem1 ?_; first | assumption | (refine List.mem_append_left _ ?_; assumption)) | (refine mem2 ?_; first | assumption | (refine List.mem_append_left _ ?_; assumption)) | k_mem); (case d => assumption); (case lo => assumption); (case hl => assumption)) | (refine' kdg_get2 (knd := PySem.intKind _ _) ?N ?m ?d ?lo (intKind_is _ _ _ _) _ ?hl ?_; (case N => k_asm); (case m => first | assumption | (refine List.mem_append_left _ ?_; assumption) | (refine mem1 ?_; first | assumption | (refine List.mem_append_left _ ?_; assumption)) | (refine mem2 ?_; first | assumption | (refine List.mem_append_left _ ?_; assumption)) | k_mem); (case d => assumption); (case lo => assumption); (case hl => assumption))); (try dsimp only [Option.getD]))
  trivial
section
/-- a Reference upon the shelf's one entry -/
inductive RefIn (prog : Program) (w : World) (news : List (Addr × Obj)) (sx ra : Addr) (y : Int) : Prop
  | mk (sd : Addr) (tb : Addr) (tr : Addr) (t1 : Tok) (t2 : Tok) (o : Obj) (n : Nat) (kvs : List (Int × Value)) (rd : Addr) (t3 : Tok) (t4 : Tok) (t5 : Tok) (t6 : Tok) (tp : Addr) (t7 : Tok) (t8 : Tok) (n2 : Nat) : (sx, instObj 424 sd) ∈ news → (sd, dictOf [{ hash := PyData.keyHash w.params (Str.ofString "table"), key := .str (Str.ofString "table") t1, val := .ref tb }, { hash := PyData.keyHash w.params (Str.ofString "trailer"), key := .str (Str.ofString "trailer") t2, val := .ref tr }] n) ∈ news → (tb, o) ∈ news → o.IsDictOf (intKind prog w) kvs → (tb == sysModules) = false → kvs.length ≤ 5 → valueAt kvs (1 : Int) = some (.ref tp) → (tp, tupO [.int 0 t7, .int y t8] n2) ∈ news → (ra, instObj 308 rd) ∈ news → (rd, dictOf [{ hash := PyData.keyHash w.params (Str.ofString "number"), key := .str (Str.ofString "number") t3, val := .int 1 t4 }, { hash := PyData.keyHash w.params (Str.ofString "generation"), key := .str (Str.ofString "generation") t5, val := .int 0 t6 }] 2) ∈ news → RefIn prog w news sx ra y
theorem RefIn.mono {prog : Program} {w : World} {l l' : List (Addr × Obj)} {sx ra : Addr} {y : Int} (h : RefIn prog w l sx ra y) (k : ∀ p ∈ l, p ∈ l') : RefIn prog w l' sx ra y := by
  obtain ⟨sd, tb, tr, t1, t2, o, n, kvs, rd, t3, t4, t5, t6, tp, t7, t8, n2, a1, a2, a3, a4, a5, a6, a7, a8, a9, a10⟩ := h
  exact ⟨sd, tb, tr, t1, t2, o, n, kvs, rd, t3, t4, t5, t6, tp, t7, t8, n2, k _ a1, k _ a2, k _ a3, a4, a5, a6, a7, k _ a8, k _ a9, k _ a10⟩
local macro_rules | `(tactic| walk_at "pyIter ref") => `(tactic| (refine hold ?_))
theorem C_fetchR {sx ra : Addr} {y : Int}
 (B : Below A₀ base outer h₀) (F : Fr h₀ L zh m) (X : (hd.heap_39 w.params).In h₀) (T : Top p loose mean mg mb h₀) (hk : cs.kind = .function) (N : News h₀ L zh news)
 (hR : RefIn prog w news sx ra y)
 (ret : ∀ t h' tk', Fr h₀ L h' m → News h₀ L h' news → Q (.int y t) ⟨h', zg, zd, tk', zo⟩) :
 CallAt 700 6000 prog w gd cn cs L a ccd cl outer 360 [.ref sx, .ref ra] Q E ⟨zh, zg, zd, zk, zo⟩ := by
  obtain ⟨sd, tb, tr, t1, t2, o, n, kvs, rd, t3, t4, t5, t6, tp, t7, t8, n2, a1, a2, a3, a4, a5, a6, a7, a8, a9, a10⟩ := hR
  have N := nadd (nadd (nadd (nadd (nadd (nadd N a1) (.tail _ a2)) (.tail _ (.tail _ a3))) (.tail _ (.tail _ (.tail _ a8)))) (.tail _ (.tail _ (.tail _ (.tail _ a9))))) (.tail _ (.tail _ (.tail _ (.tail _ (.tail _ a10)))))
  clear a1 a2 a3 a8 a9 a10
  refine wpAny_call ?_
  k_dflt k_enter
  k_extra "z:flat"
  rename IsRange _ _ _ _ _ _ _ _ => rgX
  rename Fr _ _ _ _ => lF'
  rename News _ _ _ _ => lN'
  refine Hold.go ?_
  refine rng (σ := Option Tok) (fun m₀ c => c.elim m₀ fun u1 z => if z = (Str.ofString "here") then some (.int y t8) else if z = (Str.ofString "found") then some (.int y t8) else if z = (Str.ofString "generation") then some (.int 0 t7) else if z = (Str.ofString "hop") then some (.int 0 u1) else m₀ z) (fun _ => _) (fun i c => c.elim (i = 0) fun _ => i = 1) none (by rfl) rgX (by decide) (n := 30) (by rfl) lF' lN' rfl (fun _ h => h) rfl ?_ ?_
  · rintro i (_ | u1) t h tk own hi ho hc F1 N1
    · dsimp only [Option.elim] at hc F1 N1
      subst hc
      try k_fold
      k_extra "z:flat"
      all_goals (refine' TurnE.of (some t) ?F ?N ?s1 ?s2 ho rfl; (case F => k_asm); (case N => k_asm); (case s1 => k_sub); (case s2 => k_sub))
    · dsimp only [Option.elim] at hc F1 N1
      subst hc
      try k_fold
      k_extra "z:flat"
      all_goals (refine' ret _ _ _ ?F ?N; (case F => k_asm); (case N => refine' cb_drop ?N1 ?S1; (case N1 => k_asm); (case S1 => k_sub)))
  · rintro (_ | u1) h tk hc F1 N1
    · cases hc
    · cases hc
end
example : True := by first | walk1 | trivial
example : True := by
  k_with "call ref" => (k_here; (with_reducible show wpAny _ _ (call (Value.ref 360) _) _ _ _); k_dflt (refine' up (D := 700) (U := 6000) (C_fetchR ?B ?F ?X ?T ?hk ?N ?v ?_) ?d ?u; (case B => k_asm); (case F => k_asm); (case X => k_asm); (case T => k_asm); (case hk => first | assumption | exact rfl); (case N => k_asm); (case v => first | assumption | exact RefIn.mono (by assumption) (by k_sub)); (case d => exact Nat.le_of_ble_eq_true rfl); (case u => exact Nat.le_of_ble_eq_true rfl); k_whole); intro _ _ _ _ _; (try dsimp only); (try k_fold))
  trivial
section
/-- the shelf's own dict -/
noncomputable abbrev shelfO (w : World) (tb tr : Addr) (t1 t2 : Tok) (n : Nat) : Obj := dictOf [{ hash := PyData.keyHash w.params (Str.ofString "table"), key := .str (Str.ofString "table") t1, val := .ref tb }, { hash := PyData.keyHash w.params (Str.ofString "trailer"), key := .str (Str.ofString "trailer") t2, val := .ref tr }] n
theorem C_get {sx sd ha tb tr : Addr} {t1 t2 kt : Tok} {n : Nat} {key : Str} {o : Obj} {kvs : List (Str × Value)} {r : Option Value}
 (B : Below A₀ base outer h₀) (F : Fr h₀ L zh m) (X : (hd.heap_39 w.params).In h₀) (T : Top p loose mean mg mb h₀) (hk : cs.kind = .function) (N : News h₀ L zh news)
 (m1 : (sx, instObj 424 sd) ∈ news) (m2 : (sd, shelfO w tb tr t1 t2 n) ∈ news) (m3 : (ha, o) ∈ news) (lo : (ha == sysModules) = false) (hd : o.IsDictOf (strKind prog w) kvs) (hl : valueAt kvs key = r) (hv : Plain news (r.getD .none))
 (ret : ∀ h' tk', Fr h₀ L h' m → News h₀ L h' news → Q (r.getD .none) ⟨h', zg, zd, tk', zo⟩) :
 CallAt 690 5900 prog w gd cn cs L a ccd cl outer 367 [.ref sx, .ref ha, .str key kt] Q E ⟨zh, zg, zd, zk, zo⟩ := by
  refine wpAny_call ?_
  k_dflt k_enter
  k_extra "z:flat"
  all_goals exact ret _ _ (by k_asm) (by k_asm)
theorem C_getR {sx sd ha tb tr ra : Addr} {t1 t2 kt : Tok} {n : Nat} {key : Str} {o : Obj} {kvs : List (Str × Value)} {y : Int}
 (B : Below A₀ base outer h₀) (F : Fr h₀ L zh m) (X : (hd.heap_39 w.params).In h₀) (T : Top p loose mean mg mb h₀) (hk : cs.kind = .function) (N : News h₀ L zh news)
 (m1 : (sx, instObj 424 sd) ∈ news) (m2 : (sd, shelfO w tb tr t1 t2 n) ∈ news) (m3 : (ha, o) ∈ news) (lo : (ha == sysModules) = false) (hd : o.IsDictOf (strKind prog w) kvs) (hl : valueAt kvs key = some (.ref ra)) (hv : RefIn prog w news sx ra y)
 (ret : ∀ t h' tk', Fr h₀ L h' m → News h₀ L h' news → Q (.int y t) ⟨h', zg, zd, tk', zo⟩) :
 CallAt 690 5900 prog w gd cn cs L a ccd cl outer 367 [.ref sx, .ref ha, .str key kt] Q E ⟨zh, zg, zd, zk, zo⟩ := by
  refine wpAny_call ?_
  k_dflt k_enter
  k_extra "z:flat"
  all_goals exact ret _ _ _ (by k_asm) (by k_asm)
end
example : True := by first | walk1 | trivial
example : True := by
  k_with "call ref" => (k_here; (with_reducible show wpAny _ _ (call (Value.ref 367) _) _ _ _); k_dflt (refine' up (D := 690) (U := 5900) (C_getR ?B ?F ?X ?T ?hk ?N ?m1 ?m2 ?m3 ?lo ?hd ?hl ?hv ?_) ?d ?u; (case B => k_asm); (case F => k_asm); (case X => k_asm); (case T => k_asm); (case hk => first | assumption | exact rfl); (case N => k_asm); (case hv => first | assumption | exact RefIn.mono (by assumption) (by k_sub)); (case m1 => k_mem); (case m2 => k_mem); (case m3 => first | assumption | k_mem); (case lo => assumption); (case hd => assumption); (case hl => assumption); (case d => exact Nat.le_of_ble_eq_true rfl); (case u => exact Nat.le_of_ble_eq_true rfl); k_whole); intro _ _ _ _ _; (try dsimp only); (try k_fold))
  trivial
example : True := by
  k_with "call ref" => (k_here; (with_reducible show wpAny _ _ (call (Value.ref 367) _) _ _ _); k_dflt (refine' up (D := 690) (U := 5900) (C_get ?B ?F ?X ?T ?hk ?N ?m1 ?m2 ?m3 ?lo ?hd ?hl ?hv ?_) ?d ?u; (case B => k_asm); (case F => k_asm); (case X => k_asm); (case T => k_asm); (case hk => first | assumption | exact rfl); (case N => k_asm); (case m1 => k_mem); (case m2 => k_mem); (case m3 => first | assumption | k_mem); (case lo => assumption); (case hd => assumption); (case hl => assumption); (case hv => first | exact Plain.none | exact Plain.bool _ | exact Plain.int _ _ | assumption | exact Plain.mono (by assumption) (by k_sub)); (case d => exact Nat.le_of_ble_eq_true rfl); (case u => exact Nat.le_of_ble_eq_true rfl); k_whole); intro _ _ _ _; (try dsimp only [Option.getD]); (try k_fold))
  trivial
section

theorem C_stencil {b : Bool}
 (B : Below A₀ base outer h₀) (F : Fr h₀ L zh m) (X : (hd.heap_39 w.params).In h₀) (T : Top p loose mean mg mb h₀) (hk : cs.kind = .function) (N : News h₀ L zh news)
 (m1 : (sx, instObj 424 sd) ∈ news) (m2 : (sd, shelfO w tb tr st1 st2 sn) ∈ news) (m3 : (ha, ho) ∈ news) (lo : (ha == sysModules) = false) (hd : ho.IsDictOf (strKind prog w) kvs)
 (hl : (b = false ∧ valueAt kvs (Str.ofString "ImageMask") = none) ∨ (b = true ∧ valueAt kvs (Str.ofString "ImageMask") = some (.bool true)))
 (ret : ∀ h' tk', Fr h₀ L h' m → News h₀ L h' news → Q (.bool b) ⟨h', zg, zd, tk', zo⟩) :
 CallAt 680 5800 prog w gd cn cs L a ccd cl outer 753 [.ref sx, .ref ha] Q E ⟨zh, zg, zd, zk, zo⟩ := by
  rcases hl with ⟨rfl, hl⟩ | ⟨rfl, hl⟩
  all_goals (
    refine wpAny_call ?_
    k_dflt k_enter
    k_extra "z:flat")
  all_goals exact ret _ _ (by k_asm) (by k_asm)
theorem C_whole {key : Str} {kt : Tok} {i : Int}
 (B : Below A₀ base outer h₀) (F : Fr h₀ L zh m) (X : (hd.heap_39 w.params).In h₀) (T : Top p loose mean mg mb h₀) (hk : cs.kind = .function) (N : News h₀ L zh news)
 (m1 : (sx, instObj 424 sd) ∈ news) (m2 : (sd, shelfO w tb tr st1 st2 sn) ∈ news) (m3 : (ha, ho) ∈ news) (lo : (ha == sysModules) = false) (hd : ho.IsDictOf (strKind prog w) kvs)
 (hl : (∃ t, valueAt kvs key = some (.int i t)) ∨ ∃ ra, valueAt kvs key = some (.ref ra) ∧ RefIn prog w news sx ra i) (hi : 1 ≤ i)
 (ret : ∀ t h' tk', Fr h₀ L h' m → News h₀ L h' news → Q (.int i t) ⟨h', zg, zd, tk', zo⟩) :
 CallAt 680 5800 prog w gd cn cs L a ccd cl outer 746 [.ref sx, .ref ha, .str key kt] Q E ⟨zh, zg, zd, zk, zo⟩ := by
  rcases hl with ⟨t, hl⟩ | ⟨ra, hl, hr⟩
  all_goals (
    refine wpAny_call ?_
    k_dflt k_enter
    k_extra "z:flat")
  all_goals exact ret _ _ _ (by k_asm) (by k_asm)
end
example : True := by first | walk1 | trivial
example : True := by
  k_with "call ref" => (k_here; (with_reducible show wpAny _ _ (call (Value.ref 753) _) _ _ _); k_dflt (refine' up (D := 680) (U := 5800) (C_stencil ?B ?F ?X ?T ?hk ?N ?m1 ?m2 ?m3 ?lo ?hd ?hl ?_) ?d ?u; (case B => k_asm); (case F => k_asm); (case X => k_asm); (case T => k_asm); (case hk => first | assumption | exact rfl); (case N => k_asm); (case m1 => k_mem); (case m2 => k_mem); (case m3 => first | assumption | k_mem); (case lo => assumption); (case hd => assumption); (case hl => first | exact Or.inl ⟨rfl, by assumption⟩ | exact Or.inr ⟨rfl, by assumption⟩); (case d => exact Nat.le_of_ble_eq_true rfl); (case u => exact Nat.le_of_ble_eq_true rfl); k_whole); intro _ _ _ _; (try dsimp only); (try k_fold))
  trivial
example : True := by
  k_with "call ref" => (k_here; (with_reducible show wpAny _ _ (call (Value.ref 746) _) _ _ _); k_dflt (refine' up (D := 680) (U := 5800) (C_whole ?B ?F ?X ?T ?hk ?N ?m1 ?m2 ?m3 ?lo ?hd ?hl ?hi ?_) ?d ?u; (case B => k_asm); (case F => k_asm); (case X => k_asm); (case T => k_asm); (case hk => first | assumption | exact rfl); (case N => k_asm); (case m1 => k_mem); (case m2 => k_mem); (case m3 => first | assumption | k_mem); (case lo => assumption); (case hd => assumption); (case hl => first | assumption | exact Or.inl ⟨_, by assumption⟩); (case hi => k_extra "z:o"); (case d => exact Nat.le_of_ble_eq_true rfl); (case u => exact Nat.le_of_ble_eq_true rfl); k_whole); intro _ _ _ _ _; (try dsimp only); (try k_fold))
  trivial
section
theorem notin_tupI {l : Addr} {vs : List Value} {ns : List Int} {k : Int} {t : Tok} {P : Value → Shared → Prop} (hl : IsTup s.heap l vs.toArray) (hi : IntsAre vs ns)
    (h : P (.bool (!(ns.any (· == k)))) s) : wpAny (model prog w) A₀ (compareOp .NotIn (.int k t) (.ref l)) P E s :=
  SeqAt.notIn_tupleAt (isInt k) hl (fun y hy => (eq_isInt k t hi y (by simpa using hy)).at _ _) (by rw [← Array.any_toList, show vs.toArray.toList = vs from rfl, any_isInt k hi]; exact h)
theorem in_tupI {l : Addr} {vs : List Value} {ns : List Int} {k : Int} {t : Tok} {P : Value → Shared → Prop} (hl : IsTup s.heap l vs.toArray) (hi : IntsAre vs ns)
    (h : P (.bool (ns.any (· == k))) s) : wpAny (model prog w) A₀ (compareOp .In (.int k t) (.ref l)) P E s :=
  SeqAt.in_tupleAt (isInt k) hl (fun y hy => (eq_isInt k t hi y (by simpa using hy)).at _ _) (by rw [← Array.any_toList, show vs.toArray.toList = vs from rfl, any_isInt k hi]; exact h)
theorem notin_depth {b : Int} {t : Tok} {P : Value → Shared → Prop} (F : Fr h₀ L s.heap m) (X : (hd.heap_39 w.params).In h₀) (hb : IsDepth b)
    (hq : P (.bool false) s) : wpAny (model prog w) A₀ (compareOp .NotIn (.int b t) (.ref 639)) P E s := by
  refine notin_tupI (ns := [1, 2, 4, 8, 16]) (tupK (K := hd.heap_39 w.params) (X.keeps F.keep) (by k_dflt k_is)) (.cons _ _ (.cons _ _ (.cons _ _ (.cons _ _ (.cons _ _ .nil))))) ?_
  rcases hb with rfl | rfl | rfl | rfl | rfl <;> exact hq
end
example : True := by first | walk1 | trivial
example : True := by
  k_with "compareOp NotIn int ref" => (k_here; (with_reducible show wpAny _ _ (compareOp CmpOp.NotIn (Value.int _ _) (Value.ref 639)) _ _ _); k_dflt (refine' notin_depth ?F ?X ?b ?_; (case F => k_asm); (case X => k_asm); (case b => assumption)); (try dsimp only); (try k_fold))
  trivial
section
/-- how a head tells its depth -/
noncomputable def DepthSaid (kvs : List (Str × Value)) (b : Int) : Prop :=
  (valueAt kvs (Str.ofString "ImageMask") = some (.bool true) ∧ valueAt kvs (Str.ofString "BitsPerComponent") = none ∧ b = 1) ∨
  (valueAt kvs (Str.ofString "ImageMask") = none ∧ ∃ t, valueAt kvs (Str.ofString "BitsPerComponent") = some (.int b t))
theorem C_depth {b : Int}
 (B : Below A₀ base outer h₀) (F : Fr h₀ L zh m) (X : (hd.heap_39 w.params).In h₀) (T : Top p loose mean mg mb h₀) (hk : cs.kind = .function) (N : News h₀ L zh news)
 (m1 : (sx, instObj 424 sd) ∈ news) (m2 : (sd, shelfO w tb tr st1 st2 sn) ∈ news) (m3 : (ha, ho) ∈ news) (lo : (ha == sysModules) = false) (hd : ho.IsDictOf (strKind prog w) kvs)
 (hb : IsDepth b) (hl : DepthSaid kvs b)
 (ret : ∀ t h' tk', Fr h₀ L h' m → News h₀ L h' news → Q (.int b t) ⟨h', zg, zd, tk', zo⟩) :
 CallAt 670 5700 prog w gd cn cs L a ccd cl outer 760 [.ref sx, .ref ha] Q E ⟨zh, zg, zd, zk, zo⟩ := by
  have hb1 := hb.pos
  rcases hl with ⟨hl1, hl2, rfl⟩ | ⟨hl1, t, hl2⟩
  all_goals (
    refine wpAny_call ?_
    k_dflt k_enter
    k_extra "z:flat")
  all_goals exact ret _ _ _ (by k_asm) (by k_asm)
end
example : True := by first | walk1 | trivial
example : True := by
  k_with "call ref" => (k_here; (with_reducible show wpAny _ _ (call (Value.ref 760) _) _ _ _); k_dflt (refine' up (D := 670) (U := 5700) (C_depth ?B ?F ?X ?T ?hk ?N ?m1 ?m2 ?m3 ?lo ?hd ?hb ?hl ?_) ?d ?u; (case B => k_asm); (case F => k_asm); (case X => k_asm); (case T => k_asm); (case hk => first | assumption | exact rfl); (case N => k_asm); (case m1 => k_mem); (case m2 => k_mem); (case m3 => first | assumption | k_mem); (case lo => assumption); (case hd => assumption); (case hl => assumption); (case hb => assumption); (case d => exact Nat.le_of_ble_eq_true rfl); (case u => exact Nat.le_of_ble_eq_true rfl); k_whole); intro _ _ _ _ _; (try dsimp only); (try k_fold))
  trivial
section
/-- a whole number in a head -/
noncomputable def WholeSaid (prog : Program) (w : World) (news : List (Addr × Obj)) (sx : Addr) (kvs : List (Str × Value)) (key : Str) (i : Int) : Prop :=
  (∃ t, valueAt kvs key = some (.int i t)) ∨ ∃ ra, valueAt kvs key = some (.ref ra) ∧ RefIn prog w news sx ra i
theorem WholeSaid.mono {l l' : List (Addr × Obj)} {key : Str} {i : Int} (h : WholeSaid prog w l sx kvs key i) (hs : ∀ q ∈ l, q ∈ l') : WholeSaid prog w l' sx kvs key i :=
  h.imp id fun ⟨ra, e, r⟩ => ⟨ra, e, r.mono hs⟩
theorem C_frame {x y b c : Int} {tc : Tok}
 (B : Below A₀ base outer h₀) (F : Fr h₀ L zh m) (X : (hd.heap_39 w.params).In h₀) (T : Top p loose mean mg mb h₀) (hk : cs.kind = .function) (N : News h₀ L zh news)
 (m1 : (sx, instObj 424 sd) ∈ news) (m2 : (sd, shelfO w tb tr st1 st2 sn) ∈ news) (m3 : (ha, ho) ∈ news) (lo : (ha == sysModules) = false) (hd : ho.IsDictOf (strKind prog w) kvs)
 (hw : WholeSaid prog w news sx kvs (Str.ofString "Width") x) (hh : WholeSaid prog w news sx kvs (Str.ofString "Height") y) (hx : 1 ≤ x) (hy : 1 ≤ y) (hb : IsDepth b) (hl : DepthSaid kvs b)
 (ret : ∀ fx fd t1 t2 t3 t4 tx ty t' h' tk', Fr h₀ L h' m → News h₀ L h' ((fx, instObj 670 fd) :: (fd, latO w t1 t2 t3 t4 x tx y ty b t' c tc) :: news) → (∀ q ∈ news, q.1 < fd) → @LT.lt Nat _ fd fx → Q (.ref fx) ⟨h', zg, zd, tk', zo⟩) :
 CallAt 660 5600 prog w gd cn cs L a ccd cl outer 767 [.ref sx, .ref ha, .int c tc] Q E ⟨zh, zg, zd, zk, zo⟩ := by
  unfold WholeSaid at hw hh
  refine wpAny_call ?_
  k_dflt k_enter
  k_extra "z:flat"
  all_goals (
    refine' ret _ _ _ _ _ _ _ _ _ _ _ ?F ?N ?l1 ?l2
    (case F => k_asm)
    (case N => refine' cb_drop ?N1 ?S1; (case N1 => k_asm); (case S1 => k_sub))
    (case l1 => assumption)
    (case l2 => (show @LT.lt Nat _ _ _; k_extra "z:l")))
end
example : True := by first | walk1 | trivial
example : True := by
  k_with "call ref" => (k_here; (with_reducible show wpAny _ _ (call (Value.ref 767) _) _ _ _); k_dflt (refine' up (D := 660) (U := 5600) (C_frame ?B ?F ?X ?T ?hk ?N ?m1 ?m2 ?m3 ?lo ?hd ?hw ?hh ?hx ?hy ?hb ?hl ?_) ?d ?u; (case B => k_asm); (case F => k_asm); (case X => k_asm); (case T => k_asm); (case hk => first | assumption | exact rfl); (case N => k_asm); (case m1 => k_mem); (case m2 => k_mem); (case m3 => first | assumption | k_mem); (case lo => assumption); (case hd => assumption); (case hw => first | assumption | exact WholeSaid.mono (by assumption) (by k_sub)); (case hh => first | assumption | exact WholeSaid.mono (by assumption) (by k_sub)); (case hx => k_extra "z:o"); (case hy => k_extra "z:o"); (case hb => assumption); (case hl => assumption); (case d => exact Nat.le_of_ble_eq_true rfl); (case u => exact Nat.le_of_ble_eq_true rfl); k_whole); intro _ _ _ _ _ _ _ _ _ _ _ _ _ l9 l10; (try k_lt l9); (try k_lt2 l10); revert l9 l10; intro _ _; (try dsimp only); (try k_fold))
  trivial
section
noncomputable abbrev entO (w : World) (k : String) (t : Tok) (v : Value) : DictEntry := { hash := PyData.keyHash w.params (Str.ofString k), key := .str (Str.ofString k) t, val := v }
noncomputable abbrev nameO (w : World) (x : Str) (t u : Tok) : Obj := dictOf [entO w "text" t (.str x u)] 1
noncomputable abbrev sourceO (w : World) (t1 t2 t3 : Tok) (sx rs : Addr) (op : Value) : Obj := dictOf [entO w "shelf" t1 (.ref sx), entO w "resources" t2 (.ref rs), entO w "opener" t3 op] 3
/-- a device space's name and its numbers -/
noncomputable def DevName (x : Str) (c : Int) : Prop := (x = Str.ofString "DeviceGray" ∧ c = 1) ∨ (x = Str.ofString "DeviceRGB" ∧ c = 3) ∨ (x = Str.ofString "DeviceCMYK" ∧ c = 4)
noncomputable def devTok (x : Str) (t1 t2 t3 : Tok) : Tok := if x = Str.ofString "DeviceGray" then t1 else if x = Str.ofString "DeviceRGB" then t2 else t3
theorem dev_val {x : Str} {c : Int} {t1 t2 t3 : Tok} (h : DevName x c) : valueAt [(Str.ofString "DeviceGray", Value.int 1 t1), (Str.ofString "DeviceRGB", Value.int 3 t2), (Str.ofString "DeviceCMYK", Value.int 4 t3)] x = some (.int c (devTok x t1 t2 t3)) := by
  rcases h with ⟨rfl, rfl⟩ | ⟨rfl, rfl⟩ | ⟨rfl, rfl⟩ <;> rfl
theorem dev_in {x : Str} {c : Int} {t1 t2 t3 : Tok} (h : DevName x c) : (valueAt [(Str.ofString "DeviceGray", Value.int 1 t1), (Str.ofString "DeviceRGB", Value.int 3 t2), (Str.ofString "DeviceCMYK", Value.int 4 t3)] x).isSome = true := by rw [dev_val h]; rfl
theorem DevName.len {x : Str} {c : Int} (h : DevName x c) : x.length ≤ 10 := by rcases h with ⟨rfl, _⟩ | ⟨rfl, _⟩ | ⟨rfl, _⟩ <;> decide
theorem DevName.ne1 {x : Str} {c : Int} (h : DevName x c) : (x == Str.ofString "Pattern") = false := by rcases h with ⟨rfl, _⟩ | ⟨rfl, _⟩ | ⟨rfl, _⟩ <;> decide
theorem DevName.ne2 {x : Str} {c : Int} (h : DevName x c) : (x == Str.ofString "Indexed") = false := by rcases h with ⟨rfl, _⟩ | ⟨rfl, _⟩ | ⟨rfl, _⟩ <;> decide
noncomputable abbrev spaceO (w : World) (t1 t2 t3 t4 t5 t6 t7 : Tok) (nm : Str) (tn : Tok) (c : Int) (tc : Tok) (v3 v4 v5 v6 v7 : Value) : Obj :=
  dictOf [entO w "name" t1 (.str nm tn), entO w "count" t2 (.int c tc), entO w "base" t3 v3, entO w "table" t4 v4, entO w "most" t5 v5, entO w "tint" t6 v6, entO w "inks" t7 v7] 7
theorem kysD_dev {x : Str} {c : Int} {C : PyData → Prop} {N : Prop} (h : DevName x c) (hC : C (.int c)) : KysD PyData.str x [(.str (Str.ofString "DeviceGray"), .int 1), (.str (Str.ofString "DeviceRGB"), .int 3), (.str (Str.ofString "DeviceCMYK"), .int 4)] C N := by
  rcases h with ⟨rfl, rfl⟩ | ⟨rfl, rfl⟩ | ⟨rfl, rfl⟩ <;> exact hC
theorem eqi_false {x y : Int} {t u : Tok} {P : Value → Shared → Prop} (h : x ≠ y) (hq : P (.bool false) s) : wpAny (model prog w) A₀ (compareOp .Eq (.int x t) (.int y u)) P E s :=
  eq_int (by rw [beq_false_of_ne h]; exact hq)
theorem C_named {so sod rs : Addr} {u1 u2 u3 : Tok} {ro : Obj} {x : Str} {xt : Tok} {op : Value}
 (B : Below A₀ base outer h₀) (F : Fr h₀ L zh m) (X : (hd.heap_39 w.params).In h₀) (T : Top p loose mean mg mb h₀) (hk : cs.kind = .function) (N : News h₀ L zh news)
 (m1 : (sx, instObj 424 sd) ∈ news) (m2 : (sd, shelfO w tb tr st1 st2 sn) ∈ news) (m4 : (rs, ro) ∈ news) (ro1 : (rs == sysModules) = false) (ro2 : ro.IsDictOf (strKind prog w) [])
 (m5 : (so, instObj 509 sod) ∈ news) (m6 : (sod, sourceO w u1 u2 u3 sx rs op) ∈ news)
 (ret : ∀ h' tk', Fr h₀ L h' m → News h₀ L h' news → Q .none ⟨h', zg, zd, tk', zo⟩) :
 CallAt 680 5800 prog w gd cn cs L a ccd cl outer 506 [.ref so, .str x xt] Q E ⟨zh, zg, zd, zk, zo⟩ := by
  have hn0 : valueAt ([] : List (Str × Value)) (Str.ofString "ColorSpace") = none := rfl
  refine wpAny_call ?_
  k_dflt k_enter
  k_extra "z:flat"
  all_goals exact ret _ _ (by k_asm) (by k_asm)
end
example : True := by first | walk1 | trivial
example : True := by
  k_with "call ref" => (k_here; (with_reducible show wpAny _ _ (call (Value.ref 506) _) _ _ _); k_dflt (refine' up (D := 680) (U := 5800) (C_named ?B ?F ?X ?T ?hk ?N ?m1 ?m2 ?m4 ?ro1 ?ro2 ?m5 ?m6 ?_) ?d ?u; (case B => k_asm); (case F => k_asm); (case X => k_asm); (case T => k_asm); (case hk => first | assumption | exact rfl); (case N => k_asm); (case m5 => k_mem); (case m6 => k_mem); (case m1 => k_mem); (case m2 => k_mem); (case m4 => k_mem); (case ro1 => assumption); (case ro2 => assumption); (case d => exact Nat.le_of_ble_eq_true rfl); (case u => exact Nat.le_of_ble_eq_true rfl); k_whole); intro _ _ _ _; (try dsimp only); (try k_fold))
  trivial
example : True := by
  k_with "compareOp In str ref" => (k_here; k_dflt (refine' kda_in (knd := PySem.strKind _ _) ?N ?m ?d ?lo (strKind_is _ _ _ _) true ?hb ?_; (case N => k_asm); (case m => k_mem); (case d => assumption); (case lo => assumption); (case hb => exact dev_in (by assumption))); (try dsimp only); (try k_fold))
  trivial
example : True := by
  k_with "compareOp Eq int int" => (k_here; k_dflt (refine' eqi_false ?h ?_; (case h => assumption)); (try dsimp only); (try k_fold))
  trivial
example : True := by
  k_with "KysD" => (k_here; k_dflt (refine' kysD_dev ?h ?_; (case h => assumption)); (try dsimp only); (try k_fold))
  trivial
section
/-! making names, strings, streams, a shelf, a reference: each once -/
noncomputable abbrev strO (w : World) (t1 t2 t3 : Tok) (bs : Array UInt8) : Obj := dictOf [entO w "octets" t1 (.bytes bs t2), entO w "is_hex" t3 (.bool false)] 2
noncomputable abbrev refO (w : World) (t3 t4 t5 t6 : Tok) (n : Int) : Obj := dictOf [entO w "number" t3 (.int n t4), entO w "generation" t5 (.int 0 t6)] 2
theorem C_name {x : Str} {t : Tok}
 (B : Below A₀ base outer h₀) (F : Fr h₀ L zh m) (X : (hd.heap_39 w.params).In h₀) (T : Top p loose mean mg mb h₀) (hk : cs.kind = .function) (N : News h₀ L zh news)
 (ret : ∀ n d u h' tk', Fr h₀ L h' m → News h₀ L h' ((n, instObj 237 d) :: (d, nameO w x u t) :: news) → (∀ q ∈ news, q.1 < d) → @LT.lt Nat _ d n → Q (.ref n) ⟨h', zg, zd, tk', zo⟩) :
 CallAt 600 5000 prog w gd cn cs L a ccd cl outer 237 [.str x t] Q E ⟨zh, zg, zd, zk, zo⟩ := by
  k_extra "z:flat"
  all_goals exact ret _ _ _ _ _ (by k_asm) (by k_asm) (by assumption) (by assumption)
theorem C_string {bs : Array UInt8} {t : Tok}
 (B : Below A₀ base outer h₀) (F : Fr h₀ L zh m) (X : (hd.heap_39 w.params).In h₀) (T : Top p loose mean mg mb h₀) (hk : cs.kind = .function) (N : News h₀ L zh news)
 (ret : ∀ n d u u2 h' tk', Fr h₀ L h' m → News h₀ L h' ((n, instObj 259 d) :: (d, strO w u t u2 bs) :: news) → (∀ q ∈ news, q.1 < d) → @LT.lt Nat _ d n → Q (.ref n) ⟨h', zg, zd, tk', zo⟩) :
 CallAt 600 5000 prog w gd cn cs L a ccd cl outer 259 [.bytes bs t] Q E ⟨zh, zg, zd, zk, zo⟩ := by
  k_extra "z:flat"
  all_goals exact ret _ _ _ _ _ _ (by k_asm) (by k_asm) (by assumption) (by assumption)
theorem C_stream {bs : Array UInt8} {t : Tok} {hh : Addr}
 (B : Below A₀ base outer h₀) (F : Fr h₀ L zh m) (X : (hd.heap_39 w.params).In h₀) (T : Top p loose mean mg mb h₀) (hk : cs.kind = .function) (N : News h₀ L zh news)
 (ret : ∀ n d u u2 h' tk', Fr h₀ L h' m → News h₀ L h' ((n, instObj 280 d) :: (d, streamD w u u2 hh bs t) :: news) → (∀ q ∈ news, q.1 < d) → @LT.lt Nat _ d n → Q (.ref n) ⟨h', zg, zd, tk', zo⟩) :
 CallAt 600 5000 prog w gd cn cs L a ccd cl outer 280 [.ref hh, .bytes bs t] Q E ⟨zh, zg, zd, zk, zo⟩ := by
  k_extra "z:flat"
  all_goals exact ret _ _ _ _ _ _ (by k_asm) (by k_asm) (by assumption) (by assumption)
theorem C_reference {i : Int} {t t0 : Tok}
 (B : Below A₀ base outer h₀) (F : Fr h₀ L zh m) (X : (hd.heap_39 w.params).In h₀) (T : Top p loose mean mg mb h₀) (hk : cs.kind = .function) (N : News h₀ L zh news)
 (ret : ∀ n d u u2 h' tk', Fr h₀ L h' m → News h₀ L h' ((n, instObj 308 d) :: (d, refO w u t u2 t0 i) :: news) → (∀ q ∈ news, q.1 < d) → @LT.lt Nat _ d n → Q (.ref n) ⟨h', zg, zd, tk', zo⟩) :
 CallAt 600 5000 prog w gd cn cs L a ccd cl outer 308 [.int i t, .int 0 t0] Q E ⟨zh, zg, zd, zk, zo⟩ := by
  k_extra "z:flat"
  all_goals exact ret _ _ _ _ _ _ (by k_asm) (by k_asm) (by assumption) (by assumption)
theorem C_shelf
 (B : Below A₀ base outer h₀) (F : Fr h₀ L zh m) (X : (hd.heap_39 w.params).In h₀) (T : Top p loose mean mg mb h₀) (hk : cs.kind = .function) (N : News h₀ L zh news)
 (ret : ∀ sx sd tb tr t1 t2 o1 o2 h' tk', Fr h₀ L h' m → News h₀ L h' ((tr, o2) :: (tb, o1) :: (sx, instObj 424 sd) :: (sd, shelfO w tb tr t1 t2 2) :: news) → (tb == sysModules) = false → Obj.IsDictOf (PySem.strKind prog w) o1 [] → PyProof.V.FlatPairs PyData.str [] [] → Obj.IsDictOf (intKind prog w) o1 [] → PyProof.V.FlatPairs PyData.int [] [] →
   (∀ q ∈ news, q.1 < sd) → @LT.lt Nat _ sd sx → @LT.lt Nat _ sx tb → @LT.lt Nat _ tb tr → Q (.ref sx) ⟨h', zg, zd, tk', zo⟩) :
 CallAt 600 5000 prog w gd cn cs L a ccd cl outer 424 [] Q E ⟨zh, zg, zd, zk, zo⟩ := by
  k_extra "z:flat"
  refine' ret _ _ _ _ _ _ _ _ _ _ ?zF ?zN ?lo ?hs ?fs ?hi ?fi ?a ?b ?c ?d
  (case zF => k_asm)
  (case zN => k_asm)
  (case lo => assumption)
  (case hs => assumption)
  (case fs => assumption)
  (case hi => assumption)
  (case fi => assumption)
  (case a => assumption)
  (case b => assumption)
  (case c => (rename _ < _ ∧ _ < _ ∧ AllLt _ news => l9; exact l9.1))
  (case d => (rename _ < _ ∧ _ < _ ∧ _ < _ ∧ AllLt _ news => l9; exact l9.1))
end
example : True := by first | walk1 | trivial
example : True := by
  k_with "call ref" => (k_here; (with_reducible show wpAny _ _ (call (Value.ref 237) _) _ _ _); k_dflt (refine' up (D := 600) (U := 5000) (C_name ?B ?F ?X ?T ?hk ?N ?_) ?d ?u; (case N => k_asm); (case B => k_asm); (case F => k_asm); (case X => k_asm); (case T => k_asm); (case hk => first | assumption | exact rfl); (case d => exact Nat.le_of_ble_eq_true rfl); (case u => exact Nat.le_of_ble_eq_true rfl); k_whole); intro _ _ _ _ _ _ _ l9 l8; (try k_lt l9); (try k_lt2 l8); revert l9 l8; intro _ _; (try dsimp only))
  trivial
example : True := by
  k_with "call ref" => (k_here; (with_reducible show wpAny _ _ (call (Value.ref 259) _) _ _ _); k_dflt (refine' up (D := 600) (U := 5000) (C_string ?B ?F ?X ?T ?hk ?N ?_) ?d ?u; (case N => k_asm); (case B => k_asm); (case F => k_asm); (case X => k_asm); (case T => k_asm); (case hk => first | assumption | exact rfl); (case d => exact Nat.le_of_ble_eq_true rfl); (case u => exact Nat.le_of_ble_eq_true rfl); k_whole); intro _ _ _ _ _ _ _ _ l9 l8; (try k_lt l9); (try k_lt2 l8); revert l9 l8; intro _ _; (try dsimp only))
  trivial
example : True := by
  k_with "call ref" => (k_here; (with_reducible show wpAny _ _ (call (Value.ref 280) _) _ _ _); k_dflt (refine' up (D := 600) (U := 5000) (C_stream ?B ?F ?X ?T ?hk ?N ?_) ?d ?u; (case N => k_asm); (case B => k_asm); (case F => k_asm); (case X => k_asm); (case T => k_asm); (case hk => first | assumption | exact rfl); (case d => exact Nat.le_of_ble_eq_true rfl); (case u => exact Nat.le_of_ble_eq_true rfl); k_whole); intro _ _ _ _ _ _ _ _ l9 l8; (try k_lt l9); (try k_lt2 l8); revert l9 l8; intro _ _; (try dsimp only))
  trivial
example : True := by
  k_with "call ref" => (k_here; (with_reducible show wpAny _ _ (call (Value.ref 308) _) _ _ _); k_dflt (refine' up (D := 600) (U := 5000) (C_reference ?B ?F ?X ?T ?hk ?N ?_) ?d ?u; (case N => k_asm); (case B => k_asm); (case F => k_asm); (case X => k_asm); (case T => k_asm); (case hk => first | assumption | exact rfl); (case d => exact Nat.le_of_ble_eq_true rfl); (case u => exact Nat.le_of_ble_eq_true rfl); k_whole); intro _ _ _ _ _ _ _ _ l9 l8; (try k_lt l9); (try k_lt2 l8); revert l9 l8; intro _ _; (try dsimp only))
  trivial
example : True := by
  k_with "call ref" => (k_here; (with_reducible show wpAny _ _ (call (Value.ref 424) _) _ _ _); k_dflt (refine' up (D := 600) (U := 5000) (C_shelf ?B ?F ?X ?T ?hk ?N ?_) ?d ?u; (case N => k_asm); (case B => k_asm); (case F => k_asm); (case X => k_asm); (case T => k_asm); (case hk => first | assumption | exact rfl); (case d => exact Nat.le_of_ble_eq_true rfl); (case u => exact Nat.le_of_ble_eq_true rfl); k_whole); intro _ _ _ _ _ _ _ _ _ _ _ _ _ _ _ _ _ l9 l8 l7 l6; (try k_lt l9); (try k_lt2 l8); (try k_lt2 l7); (try k_lt2 l6); revert l9 l8 l7 l6; intro _ _ _ _; (try dsimp only))
  trivial
section
theorem C_withinN {so sod rs ad dd : Addr} {u1 u2 u3 nt nu xt : Tok} {ro : Obj} {x : Str} {op : Value} {c e : Int}
 (B : Below A₀ base outer h₀) (F : Fr h₀ L zh m) (X : (hd.heap_39 w.params).In h₀) (T : Top p loose mean mg mb h₀) (hk : cs.kind = .function) (N : News h₀ L zh news)
 (m1 : (sx, instObj 424 sd) ∈ news) (m2 : (sd, shelfO w tb tr st1 st2 sn) ∈ news) (m4 : (rs, ro) ∈ news) (ro1 : (rs == sysModules) = false) (ro2 : ro.IsDictOf (strKind prog w) [])
 (m5 : (so, instObj 509 sod) ∈ news) (m6 : (sod, sourceO w u1 u2 u3 sx rs op) ∈ news) (m7 : (ad, instObj 237 dd) ∈ news) (m8 : (dd, nameO w x nt nu) ∈ news) (hx : DevName x c) (he : e ≠ 0)
 (ret : ∀ sp spd t1 t2 t3 t4 t5 t6 t7 tn tc v3 v4 v5 v6 v7 h' tk', Fr h₀ L h' m → News h₀ L h' ((sp, instObj 453 spd) :: (spd, spaceO w t1 t2 t3 t4 t5 t6 t7 x tn c tc v3 v4 v5 v6 v7) :: news) → (∀ q ∈ news, q.1 < spd) → @LT.lt Nat _ spd sp → Q (.ref sp) ⟨h', zg, zd, tk', zo⟩) :
 CallAt 640 5400 prog w gd cn cs L a ccd cl outer 528 [.ref so, .ref ad, .int e xt] Q E ⟨zh, zg, zd, zk, zo⟩ := by
  have hlen := hx.len
  have hp : Plain news (.ref ad) := .name m7 m8
  refine wpAny_call ?_
  k_dflt k_enter
  k_extra "z:flat"
  all_goals (
    refine' ret _ _ _ _ _ _ _ _ _ _ _ _ _ _ _ _ _ _ ?F ?N ?l1 ?l2
    (case F => k_asm)
    (case N => refine' cb_drop ?N1 ?S1; (case N1 => k_asm); (case S1 => k_sub))
    (case l1 => first | assumption | (refine' allLt_mem ?_; ktr_rel))
    (case l2 => (show @LT.lt Nat _ _ _; k_extra "z:l")))
end
example : True := by first | walk1 | trivial
example : True := by
  k_with "call ref" => (k_here; (with_reducible show wpAny _ _ (call (Value.ref 528) _) _ _ _); k_dflt (refine' up (D := 640) (U := 5400) (C_withinN ?B ?F ?X ?T ?hk ?N ?m1 ?m2 ?m4 ?ro1 ?ro2 ?m5 ?m6 ?m7 ?m8 ?hx ?he ?_) ?d ?u; (case N => k_asm); (case m7 => k_mem); (case m8 => k_mem); (case hx => assumption); (case m5 => k_mem); (case m6 => k_mem); (case m1 => k_mem); (case m2 => k_mem); (case m4 => k_mem); (case ro1 => assumption); (case ro2 => assumption); (case he => decide); (case B => k_asm); (case F => k_asm); (case X => k_asm); (case T => k_asm); (case hk => first | assumption | exact rfl); (case d => exact Nat.le_of_ble_eq_true rfl); (case u => exact Nat.le_of_ble_eq_true rfl); k_whole); intro _ _ _ _ _ _ _ _ _ _ _ _ _ _ _ _ _ _ _ _ _ _; (try dsimp only); (try k_fold))
  trivial
section
/-- a while by a state -/
structure WhlE (h₀ : Heap) (L : Addr) (s : Shared) {σ : Type} (fm : σ → Str → Option Value) (led : σ → List (Addr × Obj)) (fact : σ → Prop) (μ : σ → Nat) (c : σ) (s₂ : Shared) : Prop where
  ex : ∃ c' h' tk news', s₂ = { s with heap := h', toks := tk } ∧ Fr h₀ L h' (fm c') ∧ News h₀ L h' news' ∧ (∀ p ∈ led c', p ∈ news') ∧ fact c' ∧ μ c' < μ c
theorem WhlE.of {h₀ : Heap} {L : Addr} {s : Shared} {σ : Type} {fm : σ → Str → Option Value} {led : σ → List (Addr × Obj)} {fact : σ → Prop} {μ : σ → Nat} {c : σ} {h' : Heap} {tk : Nat} {news' : List (Addr × Obj)} (c' : σ)
    (F : Fr h₀ L h' (fm c')) (N : News h₀ L h' news') (h1 : ∀ p ∈ led c', p ∈ news') (h2 : fact c') (h3 : μ c' < μ c) : WhlE h₀ L s fm led fact μ c { s with heap := h', toks := tk } := ⟨c', h', tk, news', rfl, F, N, h1, h2, h3⟩
theorem whl {prog : Program} {w : World} {A : Around} {E : Value → Shared → Prop} {s : Shared} {env : Env} {h₀ : Heap} {L : Addr} {test : Expr} {body : List Stmt} {pos : Pos} {Q : Flow → Shared → Prop} {m₀ : Str → Option Value} {news : List (Addr × Obj)} {σ : Type}
    (fm : (Str → Option Value) → σ → Str → Option Value) (led : σ → List (Addr × Obj)) (fact : σ → Prop) (μ : σ → Nat) (c₀ : σ)
    (F : Fr h₀ L s.heap m₀) (N : News h₀ L s.heap news) (e0 : fm m₀ c₀ = m₀) (l0 : ∀ p ∈ led c₀, p ∈ news) (f0 : fact c₀)
    (turn : ∀ c h tk, fact c → Fr h₀ L h (fm m₀ c) → News h₀ L h (led c) →
      wpAny (model prog w) A (isTrue test env (eval test env)) (fun b s₂ => if b = true then wpAny (model prog w) A (execs body env) (fun f s₃ => match f with | .ret v => Q (.ret v) s₃ | .brk => Q .next s₃ | _ => WhlE h₀ L s (fm m₀) led fact μ c s₃) E s₂ else Q .next s₂) E { s with heap := h, toks := tk })
    (hE : PassesOwn (model prog w) A env E := by passes_own) : wpAny (model prog w) A (exec (.While test body [] pos) env) Q E s := by
  refine While_inv2 (fun n m nx => ∃ c : σ, m = fm m₀ c ∧ nx = led c ∧ μ c = n ∧ fact c) F (fun p hp => N p (l0 p hp)) ⟨c₀, e0.symm, rfl, rfl, f0⟩ ?_ hE
  rintro n m₁ nx h tk F₁ N₁ ⟨c, rfl, rfl, rfl, hf⟩
  refine wpAny_mono (turn c h tk hf F₁ N₁) (fun b s₂ p => ?_) fun _ _ x => x
  cases b with
  | false => simpa using p
  | true =>
    simp only [if_true] at p ⊢
    refine wpAny_mono p (fun f s₃ q => ?_) fun _ _ x => x
    cases f with
    | ret v => exact q
    | brk => exact q
    | next =>
      obtain ⟨c', h', tk', news', rfl, F', N', hn, hf9, hm9⟩ := q
      exact ⟨h', tk', fm m₀ c', led c', μ c', rfl, F', fun p hp => N' p (hn p hp), hm9, c', rfl, rfl, rfl, hf9⟩
    | cont =>
      obtain ⟨c', h', tk', news', rfl, F', N', hn, hf9, hm9⟩ := q
      exact ⟨h', tk', fm m₀ c', led c', μ c', rfl, F', fun p hp => N' p (hn p hp), hm9, c', rfl, rfl, rfl, hf9⟩
/-- a reader of bits -/
noncomputable abbrev readerO (w : World) (t1 : Tok) (bs : Array UInt8) (tb : Tok) (t2 : Tok) (pt : Int) (u2 : Tok) (t3 : Tok) (hl : Int) (u3 : Tok) (t4 : Tok) (ct : Int) (u4 : Tok) : Obj :=
  dictOf [entO w "data" t1 (.bytes bs tb), entO w "at" t2 (.int pt u2), entO w "held" t3 (.int hl u3), entO w "count" t4 (.int ct u4)] 4
structure ReadOk (n : Nat) (pt hl ct : Int) : Prop where
  p0 : 0 ≤ pt
  p1 : pt ≤ n
  h0 : 0 ≤ hl
  h1 : hl < 128
  c0 : 0 ≤ ct
  c1 : ct < 8
theorem band_le {x y : Int} (hx : 0 ≤ x) (hy : 0 ≤ y) : 0 ≤ Builtin.bitAnd x y ∧ Builtin.bitAnd x y ≤ y := by
  unfold Builtin.bitAnd
  rw [decide_eq_true hx, decide_eq_true hy]
  dsimp only
  exact ⟨Int.natCast_nonneg _, Int.le_trans (Int.ofNat_le.mpr (@Nat.and_le_right x.toNat y.toNat)) (Int.le_of_eq (Int.toNat_of_nonneg hy))⟩
theorem bnot2 (z : Int) : Builtin.bitNot (Builtin.bitNot z) = z := by unfold Builtin.bitNot; omega
theorem bnot_neg {x : Int} (hx : 0 ≤ x) : ¬ (0 ≤ Builtin.bitNot x) := by unfold Builtin.bitNot; omega
theorem bor_lt {x y : Int} {k : Nat} (hx : 0 ≤ x) (hy : 0 ≤ y) (h1 : x < 2 ^ k) (h2 : y < 2 ^ k) : 0 ≤ Builtin.bitOr x y ∧ Builtin.bitOr x y < 2 ^ k := by
  have e : Builtin.bitOr x y = ((x.toNat ||| y.toNat : Nat) : Int) := by
    unfold Builtin.bitOr Builtin.bitAnd
    rw [decide_eq_false (bnot_neg hx), decide_eq_false (bnot_neg hy)]
    dsimp only
    rw [bnot2, bnot2, bnot2]
  have p2 : ((2 ^ k : Nat) : Int) = 2 ^ k := by push_cast; rfl
  have := @Nat.or_lt_two_pow x.toNat y.toNat k ((Int.toNat_lt hx).mpr (by rw [p2]; exact h1)) ((Int.toNat_lt hy).mpr (by rw [p2]; exact h2))
  rw [e, ← p2]
  exact ⟨Int.natCast_nonneg _, Int.ofNat_lt.mpr this⟩
theorem item_bs {prog : Program} {w : World} {A : Around} {E : Value → Shared → Prop} {s : Shared} {value slice : PySem.Expr} {bs : Array UInt8} {t ui : Tok} {i : Int} {Q : Value → Shared → Prop} (hfit : bs.size ≤ 100000) (h0 : 0 ≤ i) (h1 : i < bs.size)
    (h : ∀ y t' k, 0 ≤ y → y < 256 → Q (.int y t') { s with toks := k })
    (hs : subscripted slice false (.bytes bs t) (.int i ui) = operate [.bytes bs t, .int i ui] (getItem (.bytes bs t) (.int i ui)) := by with_unfolding_all rfl)
    (ht : ∀ r, letTemporaryGo value (.bytes bs t) r = pure () := by intro _; with_unfolding_all rfl) : wpAny (model prog w) A (subscriptTail value slice (.bytes bs t) (.int i ui)) Q E s := by
  have y := (bs.toList.getD i.toNat 0).toNat_lt
  exact subscriptTail_builtin (typeIs_bytes _ _ _) FB.slot_bytes_getitem.lookup (getItem_bytes (l := bs.toList) (by simpa using Nat.le_trans hfit (by decide)) h0 (by simpa using h1) (h _ _ _ (Int.natCast_nonneg _) (by k_extra "z:o"))) hs ht
example : True := by
  k_with "subscriptTail" => ((guard_hyp zg210); (k_here; (with_reducible show wpAny _ _ (subscriptTail _ _ (Value.bytes _ _) (Value.int _ _)) _ _ _); k_dflt (refine' item_bs ?f ?h0 ?h1 ?_; (case f => assumption); (case h0 => k_extra "z:o"); (case h1 => k_extra "z:o"); k_whole); intro y9 t9 k9 y90 y91; (try dsimp only); (try k_fold)))
  trivial
example : True := by
  k_with "binaryOp LShift int int" => ((guard_hyp zg210); (k_here; k_dflt (refine' lshift_int ?n ?sz ?_; (case sz => assumption); (case n => decide)); (try dsimp only); (try k_fold)))
  trivial
theorem take_turn {k : Nat} {hh y : Int} (hk : k ≤ 1) (h0 : 0 ≤ hh) (h1 : hh < 128 * 256 ^ k) (y0 : 0 ≤ y) (y1 : y < 256) : 0 ≤ Builtin.bitOr (hh * 2 ^ Int.toNat 8) y ∧ Builtin.bitOr (hh * 2 ^ Int.toNat 8) y < 128 * 256 ^ (k + 1) := by
  have zg210 : Gate 210 := trivial
  have e : (2 : Int) ^ Int.toNat 8 = 256 := rfl
  rw [e]
  have hk' : k = 0 ∨ k = 1 := le1c hk
  rcases hk' with rfl | rfl
  · have := bor_lt (k := 15) (x := hh * 256) (y := y) (by k_extra "z:o") y0 (by k_extra "z:o") (by k_extra "z:o")
    exact ⟨this.1, by k_extra "z:o"⟩
  · have := bor_lt (k := 23) (x := hh * 256) (y := y) (by k_extra "z:o") y0 (by k_extra "z:o") (by k_extra "z:o")
    exact ⟨this.1, by k_extra "z:o"⟩
theorem take_val {hh : Int} (h0 : 0 ≤ hh) (n : Nat) : 0 ≤ hh.fdiv (2 ^ n) ∧ hh.fdiv (2 ^ n) ≤ hh := by
  have zg210 : Gate 210 := trivial
  have hp : (0 : Int) ≤ 2 ^ n := Int.pow_nonneg (by decide)
  rw [Int.fdiv_eq_ediv_of_nonneg _ hp]
  exact ⟨Int.ediv_nonneg h0 hp, Int.ediv_le_self _ h0⟩
theorem take_mask {hh n : Int} (h0 : 0 ≤ hh) (n0 : 0 ≤ n) (n1 : n < 8) : 0 ≤ Builtin.bitAnd hh (1 * 2 ^ n.toNat - 1) ∧ Builtin.bitAnd hh (1 * 2 ^ n.toNat - 1) < 128 := by
  have zg210 : Gate 210 := trivial
  obtain ⟨k, rfl⟩ := Int.eq_ofNat_of_zero_le n0
  have h1 := eight (Int.ofNat_lt.mp n1)
  have hb := band_le (x := hh) (y := 1 * 2 ^ k - 1) h0 (by k_extra "z:o")
  show 0 ≤ Builtin.bitAnd hh (1 * 2 ^ k - 1) ∧ Builtin.bitAnd hh (1 * 2 ^ k - 1) < 128
  exact ⟨hb.1, by k_extra "z:o"⟩
theorem C_take0 {rx rd : Addr} {t1 tb t2 u2 t3 u3 t4 u4 tc : Tok} {bs : Array UInt8} {pt hl ct b : Int} {rest : List (Addr × Obj)}
 (B : Below A₀ base outer h₀) (F : Fr h₀ L zh m) (X : (hd.heap_39 w.params).In h₀) (T : Top p loose mean mg mb h₀) (hk : cs.kind = .function)
 (N : News h₀ L zh ((rx, instObj 629 rd) :: (rd, readerO w t1 bs tb t2 pt u2 t3 hl u3 t4 ct u4) :: rest)) (r1 : ∀ q ∈ rest, q.1 ≠ rd) (hne : @Ne Nat rx rd)
 (hb : IsDepth b) (ok : ReadOk bs.size pt hl ct) (hz : bs.size ≤ 100000) (enough : b ≤ ct + 8 * (bs.size - pt))
 (ret : ∀ v t h' tk' pt' hl' ct' u2' u3' u4', 0 ≤ v → v < 16777216 → ReadOk bs.size pt' hl' ct' → ct' + 8 * (bs.size - pt') = ct + 8 * (bs.size - pt) - b → Fr h₀ L h' m → News h₀ L h' ((rx, instObj 629 rd) :: (rd, readerO w t1 bs tb t2 pt' u2' t3 hl' u3' t4 ct' u4') :: rest) →
   Q (.int v t) ⟨h', zg, zd, tk', zo⟩) :
 CallAt 640 5400 prog w gd cn cs L a ccd cl outer 619 [.ref rx, .int b tc] Q E ⟨zh, zg, zd, zk, zo⟩ := by
  have zg210 : Gate 210 := trivial
  obtain ⟨p0, p1, h0, h1, c0, c1⟩ := ok
  have hb1 := hb.pos
  have hb16 : b ≤ 16 := hb.le
  refine wpAny_call ?_
  k_dflt k_enter
  k_with "exec While Compare" => ((guard_hyp gz); refine hold ?_)
  have gz : Gate 1 := trivial
  k_extra "z:flat"
  clear gz
  rename Fr _ _ _ _ => lF'
  rename News _ _ _ _ => lN'
  refine Hold.go ?_
  refine whl (σ := Nat × Int × Tok × Tok × Tok) (fun m₀ _ => m₀) (fun c => (rx, instObj 629 rd) :: (rd, readerO w t1 bs tb t2 (pt + (c.1 : Int)) c.2.2.1 t3 c.2.1 c.2.2.2.1 t4 (ct + 8 * (c.1 : Int)) c.2.2.2.2) :: rest)
    (fun c => c.1 ≤ 2 ∧ 0 ≤ c.2.1 ∧ c.2.1 < 128 * 256 ^ c.1 ∧ (c.1 ≠ 0 → ct + 8 * (c.1 : Int) - b < 8)) (fun c => (b - (ct + 8 * (c.1 : Int))).toNat) (0, hl, u2, u3, u4) lF' lN' rfl ?_ ?_ ?_
  · simp only [Int.natCast_zero, Int.mul_zero, Int.add_zero]
    k_sub
  · exact ⟨Nat.zero_le _, h0, by simpa using h1, fun h => absurd rfl h⟩
  · rintro ⟨k, hh, v2, v3, v4⟩ h tk ⟨f1, f2, f3, f4⟩ F1 N1
    dsimp only at f1 f2 f3 f4 F1 N1
    have f3' : hh < 8388608 := by
      have e3 : k = 0 ∨ k = 1 ∨ k = 2 := le2c f1
      rcases e3 with rfl | rfl | rfl <;> exact Int.lt_of_lt_of_le f3 (by decide)
    have hbits : (Builtin.Int.intBits hh : Int) + 8 ≤ 2 ^ 27 := by
      have := (intBits_le_iff (m := 23) (x := hh)).mpr (by k_extra "z:o")
      exact Int.le_trans (Int.add_le_add_right (Int.ofNat_le.mpr this) 8) (by decide)
    try k_fold
    have e1 : pt + ((k + 1 : Nat) : Int) = pt + (k : Int) + 1 := (Int.add_assoc pt k 1).symm
    have e2 : ct + 8 * ((k + 1 : Nat) : Int) = ct + 8 * (k : Int) + 8 := by (show ct + 8 * ((k : Int) + 1) = _); rw [Int.mul_add, ← Int.add_assoc]; rfl
    k_extra "z:flat"
    · refine' WhlE.of (k + 1, ?_, ?_, ?_, ?_) ?F ?N ?S ?f ?u
      case F => k_asm
      case N => k_asm
      case S => (dsimp only; rw [e1, e2]; k_sub)
      case f =>
        have hk2 : k ≤ 1 := by k_extra "z:o"
        dsimp only
        have hv := take_turn hk2 f2 f3 y90 y91
        exact ⟨by k_extra "z:o", hv.1, hv.2, fun _ => by k_extra "z:o"⟩
      case u => (dsimp only; first | (rw [e2]; exact tnat8 (by assumption)) | k_extra "z:o")
    · refine' ret _ _ _ _ _ _ _ _ _ _ ?v0 ?v1 ?ok ?eq ?F ?N
      case F => k_asm
      case N => k_asm
      case v0 => exact (take_val f2 _).1
      case v1 => (have := (take_val f2 (ct + 8 * (k : Int) - b).toNat).2; omega)
      case ok => (have hm := take_mask f2 (n := ct + 8 * (k : Int) - b) (by k_extra "z:o") (by k_extra "z:o"); exact ⟨by k_extra "z:o", by k_extra "z:o", hm.1, hm.2, by k_extra "z:o", by k_extra "z:o"⟩)
      case eq => omega
end
example : True := by first | walk1 | trivial
section
/-- a comprehension's turn's end -/
structure CompT (h₀ : Heap) (L : Addr) (m : Str → Option Value) (s₁ : Shared) (I : Addr) (oI : Obj) (C : Addr) (oC : Obj) (D : Addr) (oD : Obj) {σ : Type} (led : σ → List (Addr × Obj)) (fact : Value → σ → Prop) (y : Value) (s₂ : Shared) : Prop where
  ex : ∃ c' h' tk news', s₂ = { s₁ with heap := h', toks := tk } ∧ Fr h₀ L h' m ∧ News h₀ L h' news' ∧ (∀ p ∈ (I, oI) :: (C, oC) :: (D, oD) :: led c', p ∈ news') ∧ (∀ p ∈ led c', (@Ne Nat p.1 I) ∧ (@Ne Nat p.1 C) ∧ (@Ne Nat p.1 D)) ∧ fact y c'
theorem CompT.of {h₀ : Heap} {L : Addr} {m : Str → Option Value} {s₁ : Shared} {I C D : Addr} {oI oC oD : Obj} {σ : Type} {led : σ → List (Addr × Obj)} {fact : Value → σ → Prop} {y : Value} {h' : Heap} {tk : Nat} {news' : List (Addr × Obj)} (c' : σ)
    (F : Fr h₀ L h' m) (N : News h₀ L h' news') (h1 : ∀ p ∈ (I, oI) :: (C, oC) :: (D, oD) :: led c', p ∈ news') (h2 : ∀ p ∈ led c', (@Ne Nat p.1 I) ∧ (@Ne Nat p.1 C) ∧ (@Ne Nat p.1 D)) (h3 : fact y c') : CompT h₀ L m s₁ I oI C oC D oD led fact y { s₁ with heap := h', toks := tk } := ⟨c', h', tk, news', rfl, F, N, h1, h2, h3⟩
theorem comp_rest {prog : Program} {w : World} {A : Around} {s : Shared} {h₀ : Heap} {L : Addr} {m : Str → Option Value} {env : Env} {elt : Expr} {x : Str} {scope : Scope} {cl : List (Str × Addr)} {S : List (Addr × Obj) → Prop} {P : Nat → Value → Prop} {Fin : List Value → List (Addr × Obj) → Prop} {n : Nat} {σ : Type}
    (led : σ → List (Addr × Obj)) (fact : Nat → List Value → σ → Prop) (c₀ : σ) (f0 : fact 0 [] c₀) (hS : ∀ c, S (led c))
    (turn : ∀ i c ys v I oI C oC D m₂ h tk (E' : Value → Shared → Prop), i < n → fact i ys c → P i v → LCg.NsObj oC m₂ → m₂ x = some v → Fr h₀ L h m → News h₀ L h ((I, oI) :: (C, oC) :: (D, LCg.lst ys) :: led c) → (∀ p ∈ led c, (@Ne Nat p.1 I) ∧ (@Ne Nat p.1 C) ∧ (@Ne Nat p.1 D)) → ((@Ne Nat I C) ∧ (@Ne Nat I D) ∧ (@Ne Nat C D)) →
      wpAny (model prog w) A (eval elt (compEnvC scope cl C env)) (CompT h₀ L m { s with heap := h, toks := tk } I oI C oC D (LCg.lst ys) led (fun y c' => fact (i + 1) (ys ++ [y]) c')) E' { s with heap := h, toks := tk })
    (fin : ∀ ys c, fact n ys c → Fin ys (led c)) : LCg.CompRest prog w A h₀ L m env elt x scope cl s S P Fin n 0 [] (led c₀) := by
  have main : ∀ k i ys c, i + k = n → fact i ys c → LCg.CompRest prog w A h₀ L m env elt x scope cl s S P Fin k i ys (led c) := by
    intro k
    induction k with
    | zero => exact fun i ys c hi hf => LCg.CompRest.zero (fin ys c (by have e : i = n := hi; exact e ▸ hf))
    | succ k ih =>
      intro i ys c hi hf
      refine LCg.CompRest.succ fun v I oI C oC D m₂ h tk E' hP hC hx F N off ne => ?_
      refine wpAny_mono (turn i c ys v I oI C oC D m₂ h tk E' (by k_extra "z:o") hf hP hC hx F N off.mem ne) (fun y s₂ q => ?_) fun _ _ e => e
      obtain ⟨c', h', tk', news', e, F', N', h1, h2, h3⟩ := q
      exact ⟨h', tk', led c', e, F', fun p hp => N' p (h1 p hp), LCg.Off3.of h2, hS c', ih (i + 1) (ys ++ [y]) c' (by k_extra "z:o") h3⟩
  exact main n 0 [] c₀ (Nat.zero_add n) f0
/-- whole numbers below 2^24 -/
noncomputable def Smalls (ys : List Value) : Prop := ∀ v ∈ ys, ∃ k t, v = Value.int k t ∧ 0 ≤ k ∧ k < 16777216
theorem Smalls.nil : Smalls [] := fun _ h => absurd h List.not_mem_nil
theorem Smalls.snoc {ys : List Value} {k : Int} {t : Tok} (h : Smalls ys) (h0 : 0 ≤ k) (h1 : k < 16777216) : Smalls (ys ++ [.int k t]) := fun v hv => by
  rcases List.mem_append.mp hv with hv | hv
  · exact h v hv
  · rw [List.mem_singleton.mp hv]; exact ⟨k, t, rfl, h0, h1⟩
theorem upd1 {news : List (Addr × Obj)} {g : Obj → List (Addr × Obj)} {a : Addr} {o : Obj} (U : UpdF a o news g) :
    ∃ rest : List (Addr × Obj), (∀ q ∈ rest, q.1 ≠ a) ∧ (∀ q ∈ (a, o) :: rest, q ∈ news) ∧ ∀ o', ∀ q ∈ g o', q ∈ (a, o') :: rest := by
  obtain ⟨pre, post, rfl, hg, ha, hb⟩ := U.split
  refine ⟨pre ++ post, fun q hq => ?_, fun q hq => ?_, fun o' q hq => ?_⟩
  · rcases List.mem_append.mp hq with h | h
    · exact ha q h
    · exact hb q h
  · rcases List.mem_cons.mp hq with rfl | h
    · exact List.mem_append_right _ (.head _)
    · rcases List.mem_append.mp h with h | h
      · exact List.mem_append_left _ h
      · exact List.mem_append_right _ (.tail _ h)
  · rw [hg] at hq
    rcases List.mem_append.mp hq with h | h
    · exact .tail _ (List.mem_append_left _ h)
    · rcases List.mem_cons.mp h with rfl | h
      · exact .head _
      · exact .tail _ (List.mem_append_right _ h)
theorem C_take {rx rd : Addr} {t1 tb t2 u2 t3 u3 t4 u4 tc : Tok} {bs : Array UInt8} {pt hl ct b : Int} {g : Obj → List (Addr × Obj)}
 (B : Below A₀ base outer h₀) (F : Fr h₀ L zh m) (X : (hd.heap_39 w.params).In h₀) (T : Top p loose mean mg mb h₀) (hk : cs.kind = .function)
 (N : News h₀ L zh news) (m1 : (rx, instObj 629 rd) ∈ news) (U : UpdF rd (readerO w t1 bs tb t2 pt u2 t3 hl u3 t4 ct u4) news g) (hne : @Ne Nat rx rd)
 (hb : IsDepth b) (ok : ReadOk bs.size pt hl ct) (hz : bs.size ≤ 100000) (enough : b ≤ ct + 8 * (bs.size - pt))
 (ret : ∀ v t h' tk' pt' hl' ct' u2' u3' u4', 0 ≤ v → v < 16777216 → ReadOk bs.size pt' hl' ct' → ct' + 8 * (bs.size - pt') = ct + 8 * (bs.size - pt) - b → Fr h₀ L h' m → News h₀ L h' (g (readerO w t1 bs tb t2 pt' u2' t3 hl' u3' t4 ct' u4')) →
   Q (.int v t) ⟨h', zg, zd, tk', zo⟩) :
 CallAt 640 5400 prog w gd cn cs L a ccd cl outer 619 [.ref rx, .int b tc] Q E ⟨zh, zg, zd, zk, zo⟩ := by
  obtain ⟨rest, r1, hin, hout⟩ := upd1 U
  refine C_take0 (rest := rest) B F X T hk (List.forall_mem_cons.mpr ⟨N _ m1, fun q hq => N q (hin q hq)⟩) r1 hne hb ok hz enough fun v t h' tk' pt' hl' ct' u2' u3' u4' e1 e2 e3 e4 e5 e6 => ?_
  exact ret v t h' tk' pt' hl' ct' u2' u3' u4' e1 e2 e3 e4 e5 fun q hq => e6 q (.tail _ (hout _ q hq))
end
example : True := by first | walk1 | trivial
example : True := by
  k_with "call ref" => (k_here; (with_reducible show wpAny _ _ (call (Value.ref 619) _) _ _ _); k_dflt (refine' up (D := 640) (U := 5400) (C_take ?B ?F ?X ?T ?hk ?N ?m1 ?U ?ne ?hb ?ok ?hz ?en ?_) ?d ?u; (case N => k_asm); (case m1 => k_mem); (case U => k_updF); (case ne => first | assumption | exact Nat.ne_of_gt (by assumption) | (try dsimp only; omega)); (case hb => assumption); (case ok => assumption); (case hz => assumption); (case en => k_extra "z:o"); (case B => k_asm); (case F => k_asm); (case X => k_asm); (case T => k_asm); (case hk => first | assumption | exact rfl); (case d => exact Nat.le_of_ble_eq_true rfl); (case u => exact Nat.le_of_ble_eq_true rfl); k_whole); intro _ _ _ _ _ _ _ _ _ _ _ _ _ _ _ N9; (try dsimp only at N9); (try simp only [List.cons_append, List.nil_append] at N9); revert N9; intro _; (try dsimp only); (try k_fold))
  trivial
section
example : True := by
  k_with "eval ListComp" => ((guard_hyp zg230); (k_here; lcf_look; k_dflt (refine LCg.ListComp_U (F₀ := by k_asm) (by with_unfolding_all rfl) (by decide) (by rfl) (by decide) (by rfl) ?_)))
  trivial
example : True := by
  k_with "CompSrc" => ((guard_hyp zg230); (refine hold ?_))
  trivial
theorem off1_mem {D : Addr} {l : List (Addr × Obj)} (h : LCg.Off1 D l) : ∀ p ∈ l, @Ne Nat p.1 D := by
  have zg230 : Gate 230 := trivial
  induction l with
  | nil => exact fun q hq => absurd hq List.not_mem_nil
  | cons p r ih => exact List.forall_mem_cons.mpr ⟨h.1, ih h.2⟩
theorem C_samples {tbs tb' tn : Tok} {bs : Array UInt8} {b n : Int}
 (B : Below A₀ base outer h₀) (F : Fr h₀ L zh m) (X : (hd.heap_39 w.params).In h₀) (T : Top p loose mean mg mb h₀) (hk : cs.kind = .function) (N : News h₀ L zh news)
 (hb : IsDepth b) (hz : bs.size ≤ 100000) (hn0 : 0 ≤ n) (hn : n ≤ 1000) (enough : b * n ≤ 8 * bs.size)
 (ret : ∀ D ys k h' tk', Smalls ys → (ys.length : Int) = n → Fr h₀ L h' m → News h₀ L h' ((D, listOf ys.toArray k) :: news) → (∀ q ∈ news, @Ne Nat q.1 D) → Q (.ref D) ⟨h', zg, zd, tk', zo⟩) :
 CallAt 630 5300 prog w gd cn cs L a ccd cl outer 638 [.bytes bs tbs, .int b tb', .int n tn] Q E ⟨zh, zg, zd, zk, zo⟩ := by
  have zg230 : Gate 230 := trivial
  have hb1 := hb.pos
  refine wpAny_call ?_
  k_dflt k_enter
  rename_i g' L' h' tk' FG' X' T' o1' o2' d1' d2' B' l1 N' F'
  refine cut F' (σ := Addr × Addr × Obj × Obj) (fun m _ => m) (fun c => (c.1, instObj 629 c.2.1) :: (c.2.1, c.2.2.2) :: (L' + 1 + 1, c.2.2.1) :: (L' + 1, o2') :: news)
    (fun c => c.2.2.1.data = .cell (some (.ref c.1)) ∧ (∃ t1 t2 u2 t3 u3 t4 u4, c.2.2.2 = readerO w t1 bs tbs t2 0 u2 t3 0 u3 t4 0 u4) ∧ (@LT.lt Nat _ (L' + 1 + 1) c.2.1) ∧ (@LT.lt Nat _ (L' + 1) c.2.1) ∧ AllLt c.2.1 news ∧ @LT.lt Nat _ c.2.1 c.1) ?_ ?_
  · k_extra "z:flat"
    all_goals (
      refine' CutAt.of (?za, ?zb, ?zc, ?zd) ?F ?N ⟨?f1, ⟨_, _, _, _, _, _, _, rfl⟩, ?f3, ?f4, ?f5, ?f6⟩
      (case F => k_asm)
      (case N => k_asm)
      (case f1 => assumption)
      (case f3 => exact And.left (by assumption))
      (case f4 => exact And.left (and1 (by assumption)))
      (case f5 => ktr_rel)
      (case f6 => assumption))
  · rintro ⟨rx, rd, o1, ro⟩ h1 tk1 F1 N1 ⟨f1, ⟨t1, t2, u2, t3, u3, t4, u4, e⟩, f3, f4, f5, f6⟩
    dsimp only at F1 N1 f1 e f3 f4 f5 f6
    subst e
    try k_fold
    k_extra "z:flat"
    refine Hold.go ?_
    rename IsRange _ _ _ _ _ _ _ _ => rgX
    rename Fr _ _ _ _ => lF
    rename News _ _ _ _ => lN
    have e9 : ((n.toNat : Nat) : Int) = n := Int.toNat_of_nonneg hn0
    refine LCg.CompSrc.range (n := n.toNat) (by rfl) lF lN rgX ?_ ?_ ?_ ?_
    · exact small_one (by k_extra "z:o") (by k_extra "z:o") (by k_extra "z:o") (by k_extra "z:o")
    · (rw [rangeSize_nat, Int.sub_zero])
    · (rw [sizeLine_eq]; k_extra "z:o")
    intro g9
    refine comp_rest (σ := Int × Int × Int × Tok × Tok × Tok) (fun c => (rx, instObj 629 rd) :: (rd, readerO w t1 bs tbs t2 c.1 c.2.2.2.1 t3 c.2.1 c.2.2.2.2.1 t4 c.2.2.1 c.2.2.2.2.2) :: (L' + 1 + 1, o1) :: (L' + 1, o2') :: news)
      (fun i ys c => ys.length = i ∧ Smalls ys ∧ ReadOk bs.size c.1 c.2.1 c.2.2.1 ∧ c.2.2.1 + 8 * (bs.size - c.1) = 8 * bs.size - b * i) (0, 0, 0, u2, u3, u4) ⟨rfl, .nil, ⟨Int.le_refl _, Int.natCast_nonneg _, Int.le_refl _, (by show (0 : Int) < 128; decide), Int.le_refl _, (by show (0 : Int) < 8; decide)⟩, by simp⟩ (fun _ => trivial) ?_ ?_
    · rintro i ⟨pt, hl, ct, v2, v3, v4⟩ ys v I oI C oC D m2 h tk E' hi ⟨q1, q2, q3, q4⟩ ⟨t9, rfl⟩ hC hx F2 N2 off ne
      dsimp only at q1 q2 q3 q4 F2 N2
      have a1 := off (rx, instObj 629 rd) (.head _)
      have a2 := off (rd, _) (.tail _ (.head _))
      have a3 := off (L' + 1 + 1, o1) (.tail _ (.tail _ (.head _)))
      have a4 := off (L' + 1, o2') (.tail _ (.tail _ (.tail _ (.head _))))
      dsimp only at a1 a2 a3 a4
      have en : b ≤ ct + 8 * (bs.size - pt) := by
        have z : b * ((i : Int) + 1) ≤ b * n := Int.mul_le_mul_of_nonneg_left (by k_extra "z:o") (by k_extra "z:o")
        rw [Int.mul_add, Int.mul_one] at z
        k_extra "z:o"
      k_extra "z:flat"
      all_goals (
        refine' CompT.of (?c1, ?c2, ?c3, ?c4, ?c5, ?c6) ?zF ?zN ?zS (List.forall_mem_cons.mpr ⟨a1, List.forall_mem_cons.mpr ⟨a2, fun q hq => off q (.tail _ (.tail _ hq))⟩⟩) ⟨?y1, q2.snoc ?y2 ?y3, ?y4, ?y5⟩
        (case zF => k_asm)
        (case zN => k_asm)
        (case zS => k_sub)
        (case y1 => (rw [List.length_append, q1]; rfl))
        (case y2 => assumption)
        (case y3 => assumption)
        (case y4 => assumption)
        (case y5 => (have e7 : b * ((i + 1 : Nat) : Int) = b * (i : Int) + b := by rw [Int.natCast_add, Int.mul_add]; simp); dsimp only; rw [e7]; k_extra "z:o"))
    · rintro ys ⟨pt, hl, ct, v2, v3, v4⟩ ⟨q1, q2, q3, q4⟩
      refine fun D h tk F2 N2 off => ?_
      have off' := off1_mem off
      k_extra "z:flat"
      all_goals (
        refine' ret D ys ys.length _ _ q2 (len_int hn0 q1) ?zF2 ?zN2 ?zO2
        (case zF2 => k_asm)
        (case zN2 => refine' cb_drop ?zN3 ?zS3; (case zN3 => k_asm); (case zS3 => intro q hq; rcases List.mem_cons.mp hq with rfl | hq; exact .head _; exact .tail _ (mem4 hq)))
        (case zO2 => exact fun q hq => off' q (mem4 hq)))
end
example : True := by first | walk1 | trivial
example : True := by
  k_with "call ref" => (k_here; (with_reducible show wpAny _ _ (call (Value.ref 638) _) _ _ _); k_dflt (refine' up (D := 630) (U := 5300) (C_samples ?B ?F ?X ?T ?hk ?N ?hb ?hz ?hn0 ?hn ?en ?_) ?d ?u; (case N => k_asm); (case hb => assumption); (case hz => k_extra "z:o"); (case hn0 => k_extra "z:o"); (case hn => k_extra "z:o"); (case en => k_extra "z:o"); (case B => k_asm); (case F => k_asm); (case X => k_asm); (case T => k_asm); (case hk => first | assumption | exact rfl); (case d => exact Nat.le_of_ble_eq_true rfl); (case u => exact Nat.le_of_ble_eq_true rfl); k_whole); intro _ _ _ _ _ _ _ _ _ _; (try dsimp only); (try k_fold))
  trivial
section
theorem bytes_len {b c : Array UInt8} {d n : Nat} (h : KBw.bInts c = ((KBw.bInts b).drop d).take n) : c.size = min n (b.size - d) := by
  have := congrArg List.length h
  rw [KBw.ints_length, List.length_take, List.length_drop, KBw.ints_length] at this
  exact this
end
example : True := by first | walk1 | trivial
example : True := by
  k_with "subscriptTail" => (k_here; (with_reducible show wpAny _ _ (subscriptTail _ (Expr.Slice _ _ none _) (Value.bytes _ _) (Value.ref _)) _ _ _); k_dflt (refine' KBc.slice_K (s := ⟨_, _, _, _, _⟩) ?F ?N rfl (by constructor) (by constructor) ?z ?_; (case F => k_asm); (case N => k_asm); (case z => (rw [KBw.ints_length]; first | omega | decide)); k_whole); intro _ _ _ _ _ kbcK; (try simp only [Option.elim] at kbcK); revert kbcK; intro _; (try dsimp only); (try k_fold))
  trivial
section
theorem bb_slot : typeLookup (.type "bytes") "__bytes__" = pure (some (.builtin "bytes.__bytes__")) := by rw [typeLookup_type, builtinLookup_eq_fast]; kernel_rfl
theorem bb_if_true {M : Model} {A : Around} {E : Value → Shared → Prop} {s : Shared} {α : Type} {b : Bool} {t e : Sem α} {Q : α → Shared → Prop} (hb : b = true) (h : wpAny M A t Q E s) : wpAny M A (if b = true then t else e) Q E s := by rw [if_pos hb]; exact h
theorem bb_if_false {M : Model} {A : Around} {E : Value → Shared → Prop} {s : Shared} {α : Type} {b : Bool} {t e : Sem α} {Q : α → Shared → Prop} (hb : b = false) (h : wpAny M A e Q E s) : wpAny M A (if b = true then t else e) Q E s := by rw [if_neg (by rw [hb]; decide)]; exact h
theorem bb_new {prog : Program} {w : World} {A : Around} {E : Value → Shared → Prop} {s : Shared} {b : Array UInt8} {t : Tok} {Q : Value → Shared → Prop} (h : Q (.bytes b t) s) :
    codeAny (model prog w) A (.call (.builtin "bytes.__new__") ⟨[.type "bytes", .bytes b t], []⟩) (wants Q E) s := by
  refine codeAny_of_tree ?_
  show wpAny _ A.in1 (do checkBuiltinCall "bytes.__new__" ⟨[.type "bytes", .bytes b t], []⟩; again (.builtin "bytes.__new__" ⟨[.type "bytes", .bytes b t], []⟩)) _ _ s
  refine wpAny_bind (wpAny_of_eq (F.bm_newCall _) (wpAny_pure ⟨plainId_quiet F.bm_plain _, codeAny_builtin F.bm_entry ?_⟩))
  rw [Around.under_plainId F.bm_plain _]
  have hT : s.TypeIs (.bytes b t) "bytes" := typeIs_bytes s b t
  unfold Builtin.«bytes.__new__»
  refine wpAny_bind (wpAny_of_eq (a := true) rfl ?_)
  refine bb_if_false rfl ?_
  refine wpAny_bind (wpAny_of_eq F.bm_sub ?_)
  refine bb_if_false rfl ?_
  refine wpAny_bind (wpAny_of_eq (F.bm_bind _) ?_)
  refine wpAny_bind (wpAny_of_eq (a := ()) rfl ?_)
  refine wpAny_bind (wpAny_of_eq (a := ()) rfl ?_)
  refine bb_if_false rfl ?_
  refine wpAny_bind (wpAny_specialOf hT bb_slot ?_)
  refine wpAny_bind (wpAny_rule ?_)
  refine wpAny_bind (wpAny_typeOf hT ?_)
  refine bb_if_true rfl ?_
  show wpAny _ _ (if (Value.type "bytes" == Value.type "bytes") = true then _ else _) _ _ _
  refine bb_if_true (by decide) ?_
  first
    | exact wpAny_pure h
    | exact wpAny_bind (wpAny_pure (wpAny_pure h))
theorem call_bytes_same {prog : Program} {w : World} {A : Around} {E : Value → Shared → Prop} {s : Shared} {b : Array UInt8} {t : Tok} {Q : Value → Shared → Prop} (h : Q (.bytes b t) s) :
    wpAny (model prog w) A (call (.type "bytes") [.bytes b t]) Q E s := by
  refine callType_codes (Q₁ := fun obj s₁ => s₁.TypeIs obj "bytes" ∧ Q obj s₁) F.bm_called (F.bm_typeCall _) F.entry_object_init
    (bb_new ⟨typeIs_bytes _ _ _, h⟩) fun obj s₁ h₁ => ?_
  exact ⟨h₁.1, F.args_object_init_2 obj _, object_init_meets F.bm_called.init.lookup F.bm_called.made (by decide) prog w A.in1 _ s₁ ⟨h₁.1, rfl, h₁.2⟩⟩
end
example : True := by first | walk1 | trivial
example : True := by
  k_with "call type:bytes" => (k_here; (with_reducible show wpAny _ _ (call (Value.type "bytes") [Value.bytes _ _]) _ _ _); k_dflt (refine call_bytes_same ?_); (try dsimp only); (try k_fold))
  trivial
section
/-- what a stepped range gives a comprehension -/
noncomputable def StepSrc (prog : Program) (w : World) (A : Around) (h₀ : Heap) (L : Addr) (m : Str → Option Value) (env : Env) (elt : Expr) (x : Str) (scope : Scope) (cl : List (Str × Addr)) (Q : Value → Shared → Prop) (xv : Value) (s₁ : Shared) : Prop :=
  ∃ r a b st t u v n news, xv = .ref r ∧ A.handled = none ∧ Fr h₀ L s₁.heap m ∧ News h₀ L s₁.heap news ∧ IsRange s₁.heap r a b st t u v ∧ Builtin.Range.small a b st = true ∧ Builtin.Range.rangeSize a b st = ((n : Nat) : Int) ∧ n ≤ sizeLine ∧
    ∀ g, LCg.CompRest prog w A h₀ L m env elt x scope cl { s₁ with heap := g } (fun _ => True) (fun i v => ∃ t, v = .int (a + (i : Int) * st) t) (LCg.FinE h₀ L m { s₁ with heap := g } Q) n 0 [] news
theorem comp_step {prog : Program} {w : World} {A : Around} {E : Value → Shared → Prop} {s : Shared} {h₀ : Heap} {L : Addr} {m : Str → Option Value} {env : Env} {elt iter : Expr} {x : Str} {px : Pos} {scope : Scope} {cl : List (Str × Addr)} {pos : Pos} {Q : Value → Shared → Prop} (F₀ : Fr h₀ L s.heap m)
    (hclos : closureFor scope env = pure cl) (hcell : ∀ y ∈ scope.names, y.2 ≠ .cell) (hkind : scope.kind = .function)
    (hnames : ∀ y ∈ scope.names, y.2 = .local → scope.names.lookup y.1 = some .local) (hx : scope.names.lookup x = some .local)
    (h : wpAny (model prog w) A (eval iter env) (StepSrc prog w A h₀ L m env elt x scope cl Q) E s)
    (hs : ∀ x, foldedSetIterable iter env x = pure x := by intro _; rfl) :
    wpAny (model prog w) A (eval (.ListComp elt [⟨.Name x px, iter, [], 0⟩] scope pos) env) Q E s := by
  rw [eval_ListComp]
  refine wpAny_comprehension_free (use := none) rfl hs hclos hkind hnames (wpAny_mono h ?_ fun _ _ e => e)
  rintro xv s₁ ⟨r, a, b, st, t, u, v, n, news, rfl, hh, F, N, hr, hsm, hn, hsz, R⟩
  refine wpAny_pyIter_range hr hsm ?_
  refine LCg.block_U (Walks.range hh s₁.heap.objs.size a st n) hsz (fun i g q => ⟨_, q⟩) (fun i g g' o nw q e e' _ _ _ => ?_) hcell hkind hx (by show IsRangeIter _ _ _ _ _; rw [hn]; simpa using Heap.get?_push_size _ rfl) (fun c hc => ?_)
    (F.keeps fun _ _ e => Heap.get?_push_of_some _ e) (N.grown fun _ _ e => Heap.get?_push_of_some _ e) (Nat.ne_of_lt F.ns.lt) (next_is_new F) (fun p hp => Nat.ne_of_lt (Heap.lt_size (N p hp).1)) trivial (R _) ?_
  · have q' : g.get? s₁.heap.objs.size = some _ := q
    show g'.get? s₁.heap.objs.size = some _
    rw [e', ← e]; exact q'
  · rw [List.mem_singleton.mp hc]
    show s₁.heap.objs.size < (s₁.heap.push _).objs.size
    rw [Heap.size_push]; exact Nat.lt_succ_self _
  · intro D C g tk m' ys news' F' N' o1 hn' hC₀ hD₀ hCL hDL hCD offC fin
    refine ⟨m', hn', fun g' hg => fin D g' tk (F'.change hg hCL hC₀) (fun p hp => ⟨hg.extBut _ _ ?_ (N' p hp).1, (N' p hp).2⟩) o1⟩
    rcases List.mem_cons.mp hp with rfl | hp
    · exact Ne.symm hCD
    · exact offC p hp
end
example : True := by first | walk1 | trivial
section
theorem Smalls.ints {ys : List Value} (h : Smalls ys) : ∃ ks, IntsAre ys ks ∧ ∀ k ∈ ks, 0 ≤ k ∧ k < 16777216 := by
  induction ys with
  | nil => exact ⟨[], .nil, fun _ h => absurd h List.not_mem_nil⟩
  | cons v r ih =>
    obtain ⟨k, t, rfl, h0, h1⟩ := h v (.head _)
    obtain ⟨ks, a, b⟩ := ih fun x hx => h x (.tail _ hx)
    exact ⟨k :: ks, .cons k t a, List.forall_mem_cons.mpr ⟨⟨h0, h1⟩, b⟩⟩
theorem Smalls.of {ys : List Value} {ks : List Int} (h : IntsAre ys ks) (hb : ∀ k ∈ ks, 0 ≤ k ∧ k < 16777216) : Smalls ys := by
  induction h with
  | nil => exact .nil
  | cons n t hr ih =>
    have a := hb _ (.head _)
    exact List.forall_mem_cons.mpr ⟨⟨_, _, rfl, a.1, a.2⟩, ih fun k hk => hb k (.tail _ hk)⟩
/-- a cut of whole numbers -/
theorem cut_ok {ys : List Value} {x y : Int} (h : Smalls ys) (x0 : 0 ≤ x) (xy : x < y) (hx : x < ys.length) : Smalls (slicePick ys.toArray (some x) (some y) none).toList ∧ (slicePick ys.toArray (some x) (some y) none).toList ≠ [] := by
  obtain ⟨ks, a, b⟩ := h.ints
  have r := kmk_run a x0 (show 0 ≤ y by k_extra "z:o")
  refine ⟨.of r fun k hk => b k (List.mem_of_mem_drop (List.mem_of_mem_take hk)), fun e => ?_⟩
  have hl := r.length
  rw [e, List.length_nil, List.length_take, List.length_drop, ← a.length] at hl
  exact cut_pos x0 xy hx hl
end
example : True := by first | walk1 | trivial
section
theorem frEq {h₀ h : Heap} {L : Addr} {m m' : Str → Option Value} (F : Fr h₀ L h m) (e : m = m') : Fr h₀ L h m' := e ▸ F
theorem two_map (x y : Str) (a b c d : Option Value) (m : Str → Option Value) : (fun z => if z = x then a else if z = y then b else if z = x then c else if z = y then d else m z) = fun z => if z = x then a else if z = y then b else m z := by
  funext z
  by_cases e1 : z = x
  · simp [e1]
  · by_cases e2 : z = y
    · simp [e1, e2]
    · simp [e1, e2]
end
example : True := by first | walk1 | trivial
section
theorem len_led {prog : Program} {w : World} {A : Around} {E : Value → Shared → Prop} {s : Shared} {h₀ : Heap} {L l : Addr} {news : List (Addr × Obj)} {ys : List Value} {k : Nat} {Q : Value → Shared → Prop} (N : News h₀ L s.heap news) (hm : (l, listOf ys.toArray k) ∈ news) (hz : ys.length ≤ 1000)
    (h : Q (.int ys.length (s.toks + 1)) { s with toks := s.toks + 1 + 1 }) : wpAny (model prog w) A (call (.builtin "len") [.ref l]) Q E s :=
  PySem.Calls.call_len_list (items := ys.toArray) ⟨_, N.get hm, rfl, k, rfl⟩ (by rw [List.size_toArray]; omega) (by rw [List.size_toArray]; exact h)
/-- objects made later -/
noncomputable def Fresh (e l : List (Addr × Obj)) : Prop := ∀ q ∈ e, ∀ r ∈ l, @Ne Nat r.1 q.1
theorem Fresh.nil {l : List (Addr × Obj)} : Fresh [] l := fun _ h => absurd h List.not_mem_nil
theorem Fresh.cons {p : Addr × Obj} {e l : List (Addr × Obj)} (h : Fresh e l) (k : ∀ r ∈ l, @Ne Nat r.1 p.1) : Fresh (p :: e) l := List.forall_mem_cons.mpr ⟨k, h⟩
theorem Fresh.append {e e' l : List (Addr × Obj)} (h : Fresh e l) (h' : Fresh e' l) : Fresh (e ++ e') l := fun q hq => by
  rcases List.mem_append.mp hq with hq | hq
  · exact h q hq
  · exact h' q hq
theorem Fresh.mono {e l l' : List (Addr × Obj)} (h : Fresh e l) (k : ∀ q ∈ l', q ∈ l) : Fresh e l' := fun q hq r hr => h q hq r (k r hr)
theorem Fresh.append4 {D : Addr} {o : Obj} {pe e l l' : List (Addr × Obj)} (h : Fresh pe l) (h' : Fresh e l') (k : ∀ r ∈ l', @Ne Nat r.1 D) (s : ∀ r ∈ l', r ∈ l) : Fresh ((D, o) :: (pe ++ e)) l' := ((h.mono s).append h').cons k
theorem appendW {A : Around} {l : Addr} {zs : List Value} {k : Nat} {x : Value} {nw rest : List (Addr × Obj)} {Q : Value → Shared → Prop} (F : Fr h₀ L s.heap m) (N : News h₀ L s.heap nw) (hm : (l, listOf zs.toArray k) ∈ nw) (hs : ∀ q ∈ rest, q ∈ nw) (hne : ∀ q ∈ rest, @Ne Nat q.1 l) (hz : zs.length ≤ 1000)
    (h : ∀ h', Fr h₀ L h' m → News h₀ L h' ((l, listOf (zs ++ [x]).toArray (k + 1)) :: rest) → Q .none { s with heap := h' }) : wpAny (model prog w) A (call (.builtin "list.append") [.ref l, x]) Q E s := by
  have z := N _ hm
  refine append_at (hsz := by rw [sizeLine_eq, List.size_toArray]; omega) z.1 fun h' hs' ho' => h h' (F.change hs' z.2.1 z.2.2) ?_
  intro q hq
  rcases List.mem_cons.mp hq with rfl | hq
  · refine ⟨ho'.trans ?_, z.2⟩
    rw [List.push_toArray]
  · exact ⟨hs'.extBut _ _ (hne q hq) (N q (hs q hq)).1, (N q (hs q hq)).2⟩
theorem Hold.out {P : Prop} (h : Hold P) : P := h
theorem rng1 {A : Around} {env : Env} {x : Str} {body : List Stmt} {Q : Flow → Shared → Prop} {r l : Addr} {o0 : Obj} {a₀ b₀ : Int} {t₀ u₀ v₀ : Tok} {n : Nat} {m₀ : Str → Option Value} {news : List (Addr × Obj)} {σ : Type} (fm : (Str → Option Value) → σ → Str → Option Value) (led : Addr → σ → List (Addr × Obj)) (fact : Addr → Nat → σ → Prop) (c₀ : (Str → Option Value) → σ)
    (hh : A.handled = none) (hr : IsRange s.heap r a₀ b₀ 1 t₀ u₀ v₀) (hsmall : Builtin.Range.small a₀ b₀ 1 = true) (hn : Builtin.Range.rangeSize a₀ b₀ 1 = (n : Int)) (F : Fr h₀ env.locals s.heap m₀) (N : News h₀ env.locals s.heap ((l, o0) :: news))
    (e0 : fm m₀ (c₀ m₀) = m₀) (l0 : ∀ p ∈ led l (c₀ m₀), p ∈ (l, o0) :: news) (f0 : fact l 0 (c₀ m₀))
    (turn : ∀ i c t h tk own, i < n → OwnOff own ((led l c).map (·.1)) → fact l i c → Fr h₀ env.locals h (fun y => if y = x then some (.int (a₀ + (i : Int)) t) else fm m₀ c y) → News h₀ env.locals h (led l c ++ own) →
      wpAny (model prog w) A (execs body env) (fun f s₂ => match f with | .ret v => Q (.ret v) s₂ | .brk => Q .next s₂ | _ => TurnE h₀ env.locals (fm m₀) (led l) (fact l) (i + 1) own { s with heap := h, toks := tk } s₂) E { s with heap := h, toks := tk })
    (done : ∀ c h tk, fact l n c → Fr h₀ env.locals h (fm m₀ c) → News h₀ env.locals h (led l c) → Q .next { s with heap := h, toks := tk }) :
    wpAny (model prog w) A (pyIter (.ref r)) (fun it s₂ => LoopAtV prog w A h₀ env x body Q E it s₂) E s := rng fm (led l) (fact l) (c₀ m₀) hh hr hsmall hn F N e0 l0 f0 turn done
end
example : True := by first | walk1 | trivial
section
open PySem.Calls PySem.Spec
theorem item_tupN {A : Around} {value slice : PySem.Expr} {t : Addr} {xs : List Value} {n : Nat} {k : Int} {u : Tok} {x : Value} {Q : Value → Shared → Prop} (N : News h₀ L s.heap news) (hm : (t, ({ cls := .type "tuple", data := .seq xs.toArray n } : Obj)) ∈ news) (h0 : 0 ≤ k) (hk : k < 1000) (hx : xs[k.toNat]? = some x) (h : Q x s)
    (hs : subscripted slice false (.ref t) (.int k u) = operate [.ref t, .int k u] (getItem (.ref t) (.int k u)) := by with_unfolding_all rfl) :
    wpAny (model prog w) A (subscriptTail value slice (.ref t) (.int k u)) Q E s := by
  have hl : k.toNat < xs.length := by
    rcases Nat.lt_or_ge k.toNat xs.length with h | h
    · exact h
    · rw [List.getElem?_eq_none h] at hx; cases hx
  have ht : IsTup s.heap t xs.toArray := ⟨_, (N _ hm).1, rfl, n, rfl⟩
  refine tail_any ht.typeIs slot_tuple_getitem.lookup (PyProof.Rows.getItem_tuple (j := k.toNat) ht (by k_extra "z:o") (by k_extra "z:o") ?_ (by simpa using hx) h) hs
  rw [List.size_toArray]
  exact seqIndex_of h0 (by k_extra "z:o")
theorem item_lstN {A : Around} {value slice : PySem.Expr} {t : Addr} {xs : List Value} {n : Nat} {k : Int} {u : Tok} {x : Value} {Q : Value → Shared → Prop} (N : News h₀ L s.heap news) (hm : (t, listOf xs.toArray n) ∈ news) (h0 : 0 ≤ k) (hk : k < 1000) (hx : xs[k.toNat]? = some x) (h : Q x s)
    (hs : subscripted slice false (.ref t) (.int k u) = operate [.ref t, .int k u] (getItem (.ref t) (.int k u)) := by with_unfolding_all rfl) :
    wpAny (model prog w) A (subscriptTail value slice (.ref t) (.int k u)) Q E s := by
  have ht : s.heap.IsList t xs.toArray := ⟨_, (N _ hm).1, rfl, n, rfl⟩
  exact tail_any ht.typeIs slot_list_getitem.lookup (wpAny_getItem_list ht h0 (by k_extra "z:o") (by simpa using hx) h) hs
end
example : True := by first | walk1 | trivial
example : True := by
  k_with "subscriptTail" => (k_here; (with_reducible show wpAny _ _ (subscriptTail _ _ (Value.ref _) (Value.int _ _)) _ _ _); k_dflt (refine' item_lstN ?N ?m ?h0 ?hk ?hx ?_; (case N => k_asm); (case m => k_mem); (case h0 => decide); (case hk => decide); (case hx => exact rfl); k_whole); (try dsimp only); (try k_fold))
  trivial
example : True := by
  k_with "subscriptTail Name Constant ref int" => (k_here; (with_reducible show wpAny _ _ (subscriptTail _ _ (Value.ref _) (Value.int _ _)) _ _ _); k_dflt (refine' item_lstN ?N ?m ?h0 ?hk ?hx ?_; (case N => k_asm); (case m => k_mem); (case h0 => decide); (case hk => decide); (case hx => exact rfl); k_whole); (try dsimp only); (try k_fold))
  trivial
example : True := by
  k_with "subscriptTail Call Name cons nil Constant ref int" => (k_here; (with_reducible show wpAny _ _ (subscriptTail _ _ (Value.ref _) (Value.int _ _)) _ _ _); k_dflt (refine' item_lstN ?N ?m ?h0 ?hk ?hx ?_; (case N => k_asm); (case m => k_mem); (case h0 => decide); (case hk => decide); (case hx => exact rfl); k_whole); (try dsimp only); (try k_fold))
  trivial
example : True := by
  k_with "subscriptTail Name Name ref int" => (k_here; (with_reducible show wpAny _ _ (subscriptTail _ _ (Value.ref _) (Value.int _ _)) _ _ _); k_dflt (refine' item_lstN ?N ?m ?h0 ?hk ?hx ?_; (case N => k_asm); (case m => k_mem); (case h0 => decide); (case hk => decide); (case hx => exact rfl); k_whole); (try dsimp only); (try k_fold))
  trivial
example : True := by
  k_with "subscriptTail" => (k_here; (with_reducible show wpAny _ _ (subscriptTail _ _ (Value.ref _) (Value.int _ _)) _ _ _); k_dflt (refine' item_tupN ?N ?m ?h0 ?hk ?hx ?_; (case N => k_asm); (case m => k_mem); (case h0 => decide); (case hk => decide); (case hx => exact rfl); k_whole); (try dsimp only); (try k_fold))
  trivial
example : True := by
  k_with "subscriptTail Name Constant ref int" => (k_here; (with_reducible show wpAny _ _ (subscriptTail _ _ (Value.ref _) (Value.int _ _)) _ _ _); k_dflt (refine' item_tupN ?N ?m ?h0 ?hk ?hx ?_; (case N => k_asm); (case m => k_mem); (case h0 => decide); (case hk => decide); (case hx => exact rfl); k_whole); (try dsimp only); (try k_fold))
  trivial
example : True := by
  k_with "subscriptTail Call Name cons nil Constant ref int" => (k_here; (with_reducible show wpAny _ _ (subscriptTail _ _ (Value.ref _) (Value.int _ _)) _ _ _); k_dflt (refine' item_tupN ?N ?m ?h0 ?hk ?hx ?_; (case N => k_asm); (case m => k_mem); (case h0 => decide); (case hk => decide); (case hx => exact rfl); k_whole); (try dsimp only); (try k_fold))
  trivial
example : True := by
  k_with "subscriptTail Name Name ref int" => (k_here; (with_reducible show wpAny _ _ (subscriptTail _ _ (Value.ref _) (Value.int _ _)) _ _ _); k_dflt (refine' item_tupN ?N ?m ?h0 ?hk ?hx ?_; (case N => k_asm); (case m => k_mem); (case h0 => decide); (case hk => decide); (case hx => exact rfl); k_whole); (try dsimp only); (try k_fold))
  trivial
section
theorem ltAll_sub {d : Nat} {l l' : List (Addr × Obj)} (h : ∀ q ∈ l', @LT.lt Nat _ q.1 d) (hs : ∀ q ∈ l, q ∈ l') : ∀ q ∈ l, @LT.lt Nat _ q.1 d := fun q hq => h q (hs q hq)
example : True := by
  k_with "subscriptTail Name Constant ref int" => ((guard_hyp zg310); (k_here; (with_reducible show wpAny _ _ (subscriptTail _ _ (Value.ref _) (Value.int _ _)) _ _ _); k_dflt (refine' item_lstN ?N ?m ?h0 ?hk ?hx ?_; (case N => k_asm); (case m => k_mem); (case h0 => decide); (case hk => decide); (case hx => exact rfl); k_whole); (try dsimp only); (try k_fold)))
  trivial
theorem C_indexed {so sod rs pl a' d' g gx : Addr} {u1 u2 u3 t' u' t0 g1 g2 g3 xt : Tok} {ro : Obj} {op : Value} {k : Nat}
 (B : Below A₀ base outer h₀) (F : Fr h₀ L zh m) (X : (hd.heap_39 w.params).In h₀) (T : Top p loose mean mg mb h₀) (hk : cs.kind = .function) (N : News h₀ L zh news)
 (m1 : (sx, instObj 424 sd) ∈ news) (m2 : (sd, shelfO w tb tr st1 st2 sn) ∈ news) (m4 : (rs, ro) ∈ news) (ro1 : (rs == sysModules) = false) (ro2 : ro.IsDictOf (strKind prog w) [])
 (m5 : (so, instObj 509 sod) ∈ news) (m6 : (sod, sourceO w u1 u2 u3 sx rs op) ∈ news)
 (b1 : (pl, listOf [.ref a', .int 0 t0, .ref g].toArray k) ∈ news) (b4 : (a', instObj 237 d') ∈ news) (b5 : (d', nameO w (Str.ofString "DeviceGray") t' u') ∈ news)
 (b6 : (g, instObj 259 gx) ∈ news) (b7 : (gx, dictOf [entO w "octets" g1 (.bytes #[103] g2), entO w "is_hex" g3 (.bool false)] 2) ∈ news)
 (ret : ∀ sp spd t1 t2 t3 t4 t5 t6 t7 tn tc v3 v4 v5 v6 v7 h' tk', Fr h₀ L h' m → News h₀ L h' ((sp, instObj 453 spd) :: (spd, spaceO w t1 t2 t3 t4 t5 t6 t7 (Str.ofString "Indexed") tn 1 tc v3 v4 v5 v6 v7) :: news) → (∀ q ∈ news, q.1 < spd) → @LT.lt Nat _ spd sp → Q (.ref sp) ⟨h', zg, zd, tk', zo⟩) :
 CallAt 632 5320 prog w gd cn cs L a ccd cl outer 570 [.ref so, .ref pl, .int 8 xt] Q E ⟨zh, zg, zd, zk, zo⟩ := by
  have zg310 : Gate 310 := trivial
  have hg : DevName (Str.ofString "DeviceGray") 1 := .inl ⟨rfl, rfl⟩
  have hp3 : Plain news (.ref a') := .name b4 b5
  have hp4 : Plain news (.int 0 t0) := .int _ _
  have hp5 : Plain news (.ref g) := .strg b6 b7
  have N := nadd (nadd (nadd N b1) (.tail _ b6)) (.tail _ (.tail _ b7))
  clear b1 b6 b7
  refine wpAny_call ?_
  k_dflt k_enter
  k_extra "z:flat"
  all_goals (
    refine' ret _ _ _ _ _ _ _ _ _ _ _ _ _ _ _ _ _ _ ?F ?N ?l1 ?l2
    (case F => k_asm)
    (case N => refine' cb_drop ?N1 ?S1; (case N1 => k_asm); (case S1 => k_sub))
    (case l1 => first | assumption | (refine' allLt_mem ?_; ktr_rel) | (refine' ltAll_sub (by assumption) ?_; k_sub))
    (case l2 => (show @LT.lt Nat _ _ _; k_extra "z:l")))
end
example : True := by first | walk1 | trivial
example : True := by
  k_with "call ref" => (k_here; (with_reducible show wpAny _ _ (call (Value.ref 570) _) _ _ _); k_dflt (refine' up (D := 632) (U := 5320) (C_indexed ?B ?F ?X ?T ?hk ?N ?m1 ?m2 ?m4 ?ro1 ?ro2 ?m5 ?m6 ?b1 ?b4 ?b5 ?b6 ?b7 ?_) ?d ?u; (case N => k_asm); (case b1 => k_mem); (case b4 => k_mem); (case b5 => k_mem); (case b6 => k_mem); (case b7 => k_mem); (case m5 => k_mem); (case m6 => k_mem); (case m1 => k_mem); (case m2 => k_mem); (case m4 => k_mem); (case ro1 => assumption); (case ro2 => assumption); (case B => k_asm); (case F => k_asm); (case X => k_asm); (case T => k_asm); (case hk => first | assumption | exact rfl); (case d => exact Nat.le_of_ble_eq_true rfl); (case u => exact Nat.le_of_ble_eq_true rfl); k_whole); intro _ _ _ _ _ _ _ _ _ _ _ _ _ _ _ _ _ _ _ _ _ _; (try dsimp only); (try k_fold))
  trivial
section
/-- a colour space's value -/
inductive SpaceSaid (w : World) (news : List (Addr × Obj)) : Value → Int → Bool → Prop
  | dev {a d : Addr} {x : Str} {c : Int} {t u : Tok} : (a, instObj 237 d) ∈ news → (d, nameO w x t u) ∈ news → DevName x c → SpaceSaid w news (.ref a) c false
  | indexed {l a d a' d' g gd : Addr} {t u t' u' t0 g1 g2 g3 : Tok} {k : Nat} : (l, listOf [.ref a, .ref a', .int 0 t0, .ref g].toArray k) ∈ news → (a, instObj 237 d) ∈ news → (d, nameO w (Str.ofString "Indexed") t u) ∈ news → (a', instObj 237 d') ∈ news → (d', nameO w (Str.ofString "DeviceGray") t' u') ∈ news →
      (g, instObj 259 gd) ∈ news → (gd, dictOf [entO w "octets" g1 (.bytes #[103] g2), entO w "is_hex" g3 (.bool false)] 2) ∈ news → SpaceSaid w news (.ref l) 1 true
theorem SpaceSaid.mono {news news' : List (Addr × Obj)} {v : Value} {c : Int} {ix : Bool} (h : SpaceSaid w news v c ix) (hs : ∀ q ∈ news, q ∈ news') : SpaceSaid w news' v c ix := by
  cases h with
  | dev a b e => exact .dev (hs _ a) (hs _ b) e
  | indexed a b c d e f g => exact .indexed (hs _ a) (hs _ b) (hs _ c) (hs _ d) (hs _ e) (hs _ f) (hs _ g)
example : True := by
  k_with "call builtin:len" => ((guard_hyp zg320); (k_here; (with_reducible show wpAny _ _ (call (Value.builtin "len") [Value.ref _]) _ _ _); k_dflt (refine' kun_lenL ?la ?lb ?lc ?_; (case la => exact News.isList (by k_asm) (by k_mem)); (case lb => kun_count); (case lc => decide); k_whole)))
  trivial
example : True := by
  k_with "subscriptTail Name Constant ref int" => ((guard_hyp zg320); (k_here; (with_reducible show wpAny _ _ (subscriptTail _ _ (Value.ref _) (Value.int _ _)) _ _ _); k_dflt (refine' item_lstN ?N ?m ?h0 ?hk ?hx ?_; (case N => k_asm); (case m => k_mem); (case h0 => decide); (case hk => decide); (case hx => exact rfl); k_whole); (try dsimp only); (try k_fold)))
  trivial
theorem C_space {rs : Addr} {ro : Obj} {v : Value} {c : Int} {ix : Bool}
 (B : Below A₀ base outer h₀) (F : Fr h₀ L zh m) (X : (hd.heap_39 w.params).In h₀) (T : Top p loose mean mg mb h₀) (hk : cs.kind = .function) (N : News h₀ L zh news)
 (m1 : (sx, instObj 424 sd) ∈ news) (m2 : (sd, shelfO w tb tr st1 st2 sn) ∈ news) (m4 : (rs, ro) ∈ news) (ro1 : (rs == sysModules) = false) (ro2 : ro.IsDictOf (strKind prog w) []) (hv : SpaceSaid w news v c ix)
 (ret : ∀ sp spd t1 t2 t3 t4 t5 t6 t7 nm tn tc v3 v4 v5 v6 v7 h' tk', (nm == Str.ofString "Pattern") = false → (nm == Str.ofString "Indexed") = ix → Fr h₀ L h' m → News h₀ L h' ((sp, instObj 453 spd) :: (spd, spaceO w t1 t2 t3 t4 t5 t6 t7 nm tn c tc v3 v4 v5 v6 v7) :: news) → (∀ q ∈ news, q.1 < spd) → @LT.lt Nat _ spd sp → Q (.ref sp) ⟨h', zg, zd, tk', zo⟩) :
 CallAt 620 5200 prog w gd cn cs L a ccd cl outer 521 [.ref sx, .ref rs, v, .ref 832] Q E ⟨zh, zg, zd, zk, zo⟩ := by
  have zg320 : Gate 320 := trivial
  have hn0 : valueAt ([] : List (Str × Value)) (Str.ofString "ColorSpace") = none := rfl
  cases hv
  case dev a d x t u b1 b2 b3 =>
    have q1 := b3.ne1
    have q2 := b3.ne2
    refine wpAny_call ?_
    k_dflt k_enter
    k_steps
    all_goals (
      refine' ret _ _ _ _ _ _ _ _ _ _ _ _ _ _ _ _ _ _ _ q1 q2 ?F ?N ?l1 ?l2
      (case F => k_asm)
      (case N => refine' cb_drop ?N1 ?S1; (case N1 => k_asm); (case S1 => k_sub))
      (case l1 => first | assumption | (refine' allLt_mem ?_; ktr_rel) | (refine' ltAll_sub (by assumption) ?_; k_sub))
      (case l2 => (show @LT.lt Nat _ _ _; k_extra "z:l")))
  case indexed l a d a' d' g gd t u t' u' t0 g1 g2 g3 k b1 b2 b3 b4 b5 b6 b7 =>
    have hg : DevName (Str.ofString "DeviceGray") 1 := .inl ⟨rfl, rfl⟩
    have hp1 : Plain news (.ref l) := .lst b1
    have hp2 : Plain news (.ref a) := .name b2 b3
    have hp3 : Plain news (.ref a') := .name b4 b5
    have hp4 : Plain news (.int 0 t0) := .int _ _
    have hp5 : Plain news (.ref g) := .strg b6 b7
    have N := nadd (nadd (nadd (nadd (nadd N b1) (.tail _ b2)) (.tail _ (.tail _ b3))) (.tail _ (.tail _ (.tail _ b6)))) (.tail _ (.tail _ (.tail _ (.tail _ b7))))
    clear b1 b2 b3 b6 b7
    refine wpAny_call ?_
    k_dflt k_enter
    k_steps
    all_goals (
      refine' ret _ _ _ _ _ _ _ _ _ _ _ _ _ _ _ _ _ _ _ ?q1 ?q2 ?F ?N ?l1 ?l2
      (case F => k_asm)
      (case N => refine' cb_drop ?N1 ?S1; (case N1 => k_asm); (case S1 => k_sub))
      (case q1 => decide)
      (case q2 => decide)
      (case l1 => first | assumption | (refine' allLt_mem ?_; ktr_rel) | (refine' ltAll_sub (by assumption) ?_; k_sub))
      (case l2 => (show @LT.lt Nat _ _ _; k_extra "z:l")))
end
example : True := by first | walk1 | trivial
example : True := by
  k_with "call ref" => (k_here; (with_reducible show wpAny _ _ (call (Value.ref 521) _) _ _ _); k_dflt (refine' up (D := 620) (U := 5200) (C_space ?B ?F ?X ?T ?hk ?N ?m1 ?m2 ?m4 ?ro1 ?ro2 ?hv ?_) ?d ?u; (case N => k_asm); (case m1 => k_mem); (case m2 => k_mem); (case m4 => k_mem); (case ro1 => assumption); (case ro2 => assumption); (case hv => first | assumption | exact SpaceSaid.mono (by assumption) (by k_sub)); (case B => k_asm); (case F => k_asm); (case X => k_asm); (case T => k_asm); (case hk => first | assumption | exact rfl); (case d => exact Nat.le_of_ble_eq_true rfl); (case u => exact Nat.le_of_ble_eq_true rfl); k_whole); intro _ _ _ _ _ _ _ _ _ _ _ _ _ _ _ _ _ _ _ _ _ _ _ l9 l8; (try k_lt l9); (try k_lt2 l8); revert l9 l8; intro _ _; (try dsimp only); (try k_fold))
  trivial
section
open PySem.Calls PySem.Spec
theorem rev_size (b : Array UInt8) : (Builtin.Bytes.sliced b ((b.size : Int) - 1) (-1) (-1)).size = b.size := by
  unfold Builtin.Bytes.sliced
  rw [krv_sliceRange, krv_range, List.filterMap_reverse, krv_all]
  simp
theorem meets_revB (b : Array UInt8) (t u : Tok) (x : Addr) :
    Meets (Builtin.«bytes.__getitem__» ⟨[.bytes b t, .ref x], []⟩) (fun _ R s => s.heap.IsSliceOf x .none .none (.int (-1) u) ∧ b.size ≤ sizeLine ∧ ∀ r t' k, Array.size r = b.size → R (.ok (.ret (.bytes r t'))) { s with toks := k }) := by
  refine .of_wp fun prog w A R s hS => ?_
  obtain ⟨⟨o, ho, hc, hd⟩, hsz, h⟩ := hS
  have hT : s.TypeIs (.ref x) "slice" := ⟨o, ho, hc⟩
  show wpAny _ _ (Builtin.Bytes.payload (.bytes b t) >>= fun r => _) _ _ s
  refine wpAny_bind (wpAny_of_eq (a := b) rfl ?_)
  show wpAny _ _ (Builtin.Bytes.subscript? (.ref x) >>= fun r => _) _ _ s
  refine wpAny_bind ?_
  unfold Builtin.Bytes.subscript?
  refine wpAny_bind (wpAny_specialOf hT slice_no_index (wpAny_pure ?_))
  refine wpAny_bind (wpAny_typeOf hT ?_)
  show wpAny _ _ (Builtin.Bytes.sliceParts (.ref x) >>= fun r => _) _ _ s
  refine wpAny_bind ?_
  unfold Builtin.Bytes.sliceParts
  refine wpAny_bind (wpAny_field (x := .int (-1) u) ho hd rfl ?_)
  kby_int
  refine wpAny_ite (KBy.ite_no (show ¬ ((rawInt (-1) == rawInt 0) = true) from by decide) ?_)
  refine wpAny_bind (wpAny_field (x := .none) ho hd rfl ?_)
  kby_none
  refine wpAny_bind (wpAny_field (x := .none) ho hd rfl ?_)
  kby_none
  refine wpAny_pure ?_
  have go : wpAny (model prog w) A.in1 (sliceIndices (rawPart none) (rawPart none) (rawPart (some (-1))) b.size) (fun r s' => r = sliceBounds none none (some (-1)) b.size ∧ s' = s) (fun _ _ => False) s :=
    wpAny_of_eq (sliceIndices_raw none none (some (-1)) b.size (fun e => nomatch e)) ⟨rfl, rfl⟩
  refine wpAny_bind (wpAny_mono go (fun r s' hr => ?_) fun _ _ e => e.elim)
  obtain ⟨hr1, hr2⟩ := hr
  subst hr1 hr2
  rw [krv_bounds]
  refine wpAny_ite (KBy.ite_no (by simp) ?_)
  exact wpAny_bind (wpAny_mkBytes (wpAny_pure ⟨_, rfl, h _ _ _ (rev_size b)⟩) (by rw [rev_size]; exact hsz))
theorem slice_revB {prog : Program} {w : World} {A : Around} {E : Value → Shared → Prop} {s : Shared} {value slice : PySem.Expr} {b : Array UInt8} {t u : Tok} {h₀ : Heap} {L : Addr} {m : PySem.Str → Option Value} {news : List (Addr × Obj)} {Q : Value → Shared → Prop}
    (hF : Fr h₀ L s.heap m) (hN : News h₀ L s.heap news) (hz : b.size ≤ 100000)
    (h : ∀ r h' t' k, Fr h₀ L h' m → News h₀ L h' news → Array.size r = b.size → Q (.bytes r t') { s with heap := h', toks := k })
    (hs : subscripted slice false (.bytes b t) (.ref s.heap.objs.size) = operate [.ref s.heap.objs.size, .bytes b t] (getItem (.bytes b t) (.ref s.heap.objs.size)) := by with_unfolding_all rfl)
    (ht : ∀ r, letTemporaryGo value (.bytes b t) r = pure () := by intro _; with_unfolding_all rfl) :
    wpAny (model prog w) A (subscriptTail value slice (.bytes b t) (.ref s.heap.objs.size)) Q E { s with heap := s.heap.push { cls := .type "slice", data := .fields #[.none, .none, .int (-1) u] } } :=
  tail_of_ItemOn ⟨"bytes", _, FB.slot_bytes_getitem.lookup, typeIs_bytes _ _ _, getItem_meets (typeIs_bytes _ _ _) (by decide) FB.slot_bytes_getitem FB.entry_bytes_getitem (FB.args_bytes_getitem_2 _ _) (meets_revB b t u _)
    ⟨Heap.IsSliceOf.new _ _ _ _, by rw [sizeLine_eq]; k_extra "z:o", fun r t' k e => h r _ _ _ (hF.push _) (News.pushKeep hN _) e⟩⟩ hs ht
end
example : True := by first | walk1 | trivial
section
open PySem.Calls PySem.Spec PyProof.V
section
variable {prog : Program} {w : World} {A : Around} {E : Value → Shared → Prop} {s : Shared}
theorem nextT_item {it t : Addr} {i : Nat} {items : Array Value} {x : Value} {Q : Value → Shared → Prop} (hit : IsTupIter s.heap it t i)
    (ht : IsTup s.heap t items) (hx : items[i]? = some x)
    (hQ : ∀ h', IsTupIter h' it t (i + 1) → Heap.SameBut it s.heap h' → Q x { s with heap := h' }) :
    wpAny (model prog w) A (Builtin.SmallTypes.nextOf (.ref it)) Q E s := by
  obtain ⟨o, ho, hc, hd⟩ := id hit
  obtain ⟨ol, hol, _, nl, hdl⟩ := ht
  unfold Builtin.SmallTypes.nextOf
  refine wpAny_bind (wpAny_callSpecial?_slot (name := Str.ofString "__next__") hit.typeIs slot_tupleiter_next
    (wpAny_call_entry slot_tupleiter_next hit.typeIs entry_tupleiter_next ?_ (args_tupleiter_next _)))
  show wpAny _ _ (field (.ref it) 0 >>= _) _ _ s
  refine wpAny_bind (wpAny_field ho hd (x := .ref t) rfl ?_)
  show wpAny _ _ (if (Value.ref t == Value.none) = true then _ else _) _ _ s
  rw [if_neg (show ¬ ((Value.ref t == Value.none) = true) from Bool.false_ne_true)]
  show wpAny _ _ (field (.ref it) 1 >>= _) _ _ s
  refine wpAny_bind (wpAny_field ho hd (x := .int i 0) rfl ?_)
  show wpAny _ _ (seqItems? (.ref t) >>= _) _ _ s
  refine wpAny_bind (wpAny_seqItems hol hdl ?_)
  simp only [Int.toNat_natCast, hx]
  refine wpAny_bind (wpAny_setField ho hd (by simp) (wpAny_pure ⟨x, rfl, wpAny_pure (hQ _ ?_ (Heap.SameBut.update ..))⟩))
  exact ⟨_, Heap.get?_update_self _ ho (Obj.isFreed_of_fields (Obj.data_mapFields hd _)), (Obj.cls_mapFields ..).trans hc, by
    rw [Obj.data_mapFields hd]; simp [rawInt]⟩
theorem nextT_end {it t : Addr} {i : Nat} {items : Array Value} {Q : Value → Shared → Prop} (hh : A.handled = none)
    (hit : IsTupIter s.heap it t i) (ht : IsTup s.heap t items) (hx : items[i]? = none)
    (hE : ∀ h' e, Heap.ExtBut it s.heap h' → (∃ o, h'.get? e = some o ∧ o.cls = .type "StopIteration") → E (.ref e) { s with heap := h' }) :
    wpAny (model prog w) A (Builtin.SmallTypes.nextOf (.ref it)) Q E s := by
  obtain ⟨o, ho, hc, hd⟩ := id hit
  obtain ⟨ol, hol, _, nl, hdl⟩ := ht
  unfold Builtin.SmallTypes.nextOf
  refine wpAny_bind (wpAny_callSpecial?_slot (name := Str.ofString "__next__") hit.typeIs slot_tupleiter_next
    (wpAny_call_entry slot_tupleiter_next hit.typeIs entry_tupleiter_next ?_ (args_tupleiter_next _)))
  show wpAny _ _ (field (.ref it) 0 >>= _) _ _ s
  refine wpAny_bind (wpAny_field ho hd (x := .ref t) rfl ?_)
  show wpAny _ _ (if (Value.ref t == Value.none) = true then _ else _) _ _ s
  rw [if_neg (show ¬ ((Value.ref t == Value.none) = true) from Bool.false_ne_true)]
  show wpAny _ _ (field (.ref it) 1 >>= _) _ _ s
  refine wpAny_bind (wpAny_field ho hd (x := .int i 0) rfl ?_)
  show wpAny _ _ (seqItems? (.ref t) >>= _) _ _ s
  refine wpAny_bind (wpAny_seqItems hol hdl ?_)
  simp only [Int.toNat_natCast, hx]
  refine wpAny_bind (wpAny_rule (wpAny_bind (wpAny_setField ho hd (by simp) ?_)))
  show wpAny _ _ (newExc (.type "StopIteration") [] >>= _) _ _ _
  refine wpAny_bind ?_
  simp only [newExc, newTuple]
  refine wpAny_bind (wpAny_newObj_type ?_ (by size_fits))
  refine wpAny_bind (m := firstArgMember _ _) (wpAny_of_eq (a := Value.none) (by first | rfl | (simp only [firstArgMember]; rfl)) ?_)
  refine wpAny_newObj_type ?_ (by size_fits)
  simp only [raiseNew]
  refine wpAny_bind (wpAny_handled ?_)
  first | rw [show A.in1.handled = none from hh] | rw [hh]
  refine wpAny_bind (wpAny_pure (wpAny_throw ?_))
  exact hE _ _ (((Heap.SameBut.update ..).extBut.push _).push _) ⟨_, Heap.get?_push_size _ rfl, rfl⟩
theorem tupIter_at {h h' : Heap} {i1 l1 : Addr} {k : Nat} (x : IsTupIter h i1 l1 k) (e : ∀ o, h.get? i1 = some o → h'.get? i1 = some o) : IsTupIter h' i1 l1 k := let ⟨o, ho, r⟩ := x; ⟨o, e o ho, r⟩
theorem tup_at {h h' : Heap} {l1 : Addr} {xs : Array Value} (x : IsTup h l1 xs) (e : ∀ o, h.get? l1 = some o → h'.get? l1 = some o) : IsTup h' l1 xs := let ⟨o, ho, r⟩ := x; ⟨o, e o ho, r⟩
theorem zipT_item {z TI TO i1 i2 l1 l2 : Addr} {k1 k2 : Nat} {xs ys : Array Value} {x y a b : Value} {Q : Value → Shared → Prop} (D : ZipApart z TI TO i1 i2 l1 l2)
    (hz : IsZip s.heap z TI TO .none) (hTI : IsPair s.heap TI (.ref i1) (.ref i2)) (hTO : IsPair s.heap TO a b)
    (h1 : IsTupIter s.heap i1 l1 k1) (h2 : s.heap.IsListIter i2 l2 k2) (hl1 : IsTup s.heap l1 xs) (hl2 : s.heap.IsList l2 ys) (hx : xs[k1]? = some x) (hy : ys[k2]? = some y)
    (hQ : ∀ h', IsZip h' z TI TO (rawInt s.heap.objs.size) → IsPair h' TO x y → IsTupIter h' i1 l1 (k1 + 1) → h'.IsListIter i2 l2 (k2 + 1) → IsPair h' s.heap.objs.size x y → h'.objs.size = s.heap.objs.size + 1 →
      (∀ c o, c ≠ z → c ≠ TO → c ≠ i1 → c ≠ i2 → s.heap.get? c = some o → h'.get? c = some o) → Q (.ref s.heap.objs.size) { s with heap := h' }) :
    wpAny (model prog w) A (Builtin.«zip.__next__» ⟨[.ref z], []⟩) (fun fin s' => ∃ v, fin = .done (.ret v) ∧ Q v s') E s := by
  show wpAny _ _ (field (.ref z) 2 >>= _) _ _ _
  refine wpAny_bind (wpAny_field hz rfl (x := .bool false) rfl ?_)
  show wpAny _ _ (field (.ref z) 3 >>= _) _ _ _
  refine wpAny_bind (wpAny_field hz rfl (x := .ref TI) rfl ?_)
  refine wpAny_bind (wpAny_seqItems hTI rfl ?_)
  show wpAny _ _ (Builtin.SmallTypes.ownedTupleIsFree (.ref z) >>= _) _ _ _
  refine wpAny_bind ?_
  unfold Builtin.SmallTypes.ownedTupleIsFree
  refine wpAny_bind (wpAny_field hz rfl (x := .none) rfl (wpAny_pure ?_))
  simp only [if_true]
  refine wpAny_bind (wpAny_rule ?_)
  refine wpAny_bind (wpAny_field hz rfl (x := .ref TO) rfl ?_)
  refine wpAny_bind (wpAny_setField_rec hz (by simp) fun h₁ hz₁ hs₁ => ?_)
  replace hz₁ : IsZip h₁ z TI TO .ellipsis := hz₁
  refine wpAny_bind ?_
  simp only [List.zipIdx_cons, List.zipIdx_nil, List.forIn_cons, List.forIn_nil]
  refine wpAny_bind (wpAny_bind (wpAny_onRaise ?_))
  show wpAny _ _ (Builtin.SmallTypes.nextOf (.ref i1) >>= _) _ _ _
  refine wpAny_bind (nextT_item (h1.extBut hs₁.extBut D.i1z) (hl1.extBut hs₁.extBut D.l1z) hx fun h₂ h1₂ hs₂ => wpAny_pure ?_)
  have hTO₂ : IsPair h₂ TO a b := hs₂.extBut _ _ D.TOi1 (hs₁.extBut _ _ D.TOz hTO)
  refine wpAny_bind (wpAny_seqItems hTO₂ rfl ?_)
  refine wpAny_bind (wpAny_updateSeq_pair hTO₂ fun h₃ hTO₃ hs₃ => ?_)
  replace hTO₃ : IsPair h₃ TO x b := hTO₃
  refine wpAny_bind (wpAny_letGo (wpAny_pure ?_))
  refine wpAny_bind (wpAny_bind (wpAny_onRaise ?_))
  show wpAny _ _ (Builtin.SmallTypes.nextOf (.ref i2) >>= _) _ _ _
  refine wpAny_bind (wpAny_nextOf_list_item (((h2.extBut hs₁.extBut D.i2z).extBut hs₂.extBut D.i12.symm).extBut hs₃.extBut D.TOi2.symm)
    (((hl2.extBut hs₁.extBut D.l2z).extBut hs₂.extBut D.l2i1).extBut hs₃.extBut D.l2TO) hy fun h₄ h2₄ hs₄ => wpAny_pure ?_)
  have hTO₄ : IsPair h₄ TO x b := hs₄.extBut _ _ D.TOi2 hTO₃
  refine wpAny_bind (wpAny_seqItems hTO₄ rfl ?_)
  refine wpAny_bind (wpAny_updateSeq_pair hTO₄ fun h₅ hTO₅ hs₅ => ?_)
  replace hTO₅ : IsPair h₅ TO x y := hTO₅
  refine wpAny_bind (wpAny_letGo (wpAny_pure (wpAny_pure ?_)))
  refine wpAny_bind (wpAny_seqItems hTO₅ rfl ?_)
  refine wpAny_bind (wpAny_newTuple ?_)
  have hsz : h₅.objs.size = s.heap.objs.size := by rw [hs₅.1, hs₄.1, hs₃.1, hs₂.1, hs₁.1]
  have hz₅ : IsZip h₅ z TI TO .ellipsis := hs₅.extBut _ _ D.TOz.symm (hs₄.extBut _ _ D.i2z.symm (hs₃.extBut _ _ D.TOz.symm (hs₂.extBut _ _ D.i1z.symm hz₁)))
  have hk₅ : ∀ c o, c ≠ z → c ≠ TO → c ≠ i1 → c ≠ i2 → s.heap.get? c = some o → h₅.get? c = some o := fun c o c1 c2 c3 c4 e =>
    hs₅.extBut _ _ c2 (hs₄.extBut _ _ c4 (hs₃.extBut _ _ c2 (hs₂.extBut _ _ c3 (hs₁.extBut _ _ c1 e))))
  have h1₅ : IsTupIter h₅ i1 l1 (k1 + 1) := ((h1₂.extBut hs₃.extBut D.TOi1.symm).extBut hs₄.extBut D.i12).extBut hs₅.extBut D.TOi1.symm
  have h2₅ : h₅.IsListIter i2 l2 (k2 + 1) := h2₄.extBut hs₅.extBut D.TOi2.symm
  have hzlt : z < h₅.objs.size := Heap.lt_size hz₅
  show wpAny _ _ (Builtin.SmallTypes.ownedTupleHandOut (.ref z) (.ref h₅.objs.size) >>= _) _ _ _
  refine wpAny_bind ?_
  unfold Builtin.SmallTypes.ownedTupleHandOut
  have hz₆ : IsZip (h₅.push { cls := .type "tuple", data := .seq #[x, y] }) z TI TO .ellipsis := Heap.get?_push_of_some _ hz₅
  refine wpAny_bind (wpAny_setField_rec hz₆ (by simp) fun h₇ hz₇ hs₇ => ?_)
  replace hz₇ : IsZip h₇ z TI TO (rawInt h₅.objs.size) := hz₇
  refine wpAny_setField_rec hz₇ (by simp) fun h₈ hz₈ hs₈ => ?_
  replace hz₈ : IsZip h₈ z TI TO (rawInt h₅.objs.size) := hz₈
  have up : ∀ c o, c ≠ z → h₅.get? c = some o → h₈.get? c = some o := fun c o c1 e => hs₈.extBut _ _ c1 (hs₇.extBut _ _ c1 (Heap.get?_push_of_some _ e))
  have hT₈ : IsPair h₈ h₅.objs.size x y := hs₈.extBut _ _ (Nat.ne_of_gt hzlt) (hs₇.extBut _ _ (Nat.ne_of_gt hzlt) (Heap.get?_push_size _ rfl))
  have hz8 : h₈.objs.size = h₅.objs.size + 1 := by rw [hs₈.1, hs₇.1, Heap.size_push]
  rw [hsz] at hz₈ hT₈ hz8
  refine wpAny_pure ⟨_, rfl, ?_⟩
  show Q (.ref h₅.objs.size) _
  rw [hsz]
  exact hQ h₈ hz₈ (up _ _ D.TOz hTO₅) (tupIter_at h1₅ fun o e => up _ o D.i1z e) (h2₅.at fun o e => up _ o D.i2z e) hT₈ hz8 fun c o c1 c2 c3 c4 e => up c o c1 (hk₅ c o c1 c2 c3 c4 e)
theorem zipT_end {z TI TO i1 i2 l1 l2 : Addr} {k1 : Nat} {xs : Array Value} {a b : Value} {Q : Fin → Shared → Prop} (hh : A.handled = none) (D : ZipApart z TI TO i1 i2 l1 l2)
    (hz : IsZip s.heap z TI TO .none) (hTI : IsPair s.heap TI (.ref i1) (.ref i2)) (hTO : IsPair s.heap TO a b)
    (h1 : IsTupIter s.heap i1 l1 k1) (hl1 : IsTup s.heap l1 xs) (hx : xs[k1]? = none)
    (hE : ∀ h' e, (∀ c o, c ≠ z → c ≠ TO → c ≠ i1 → c ≠ i2 → s.heap.get? c = some o → h'.get? c = some o) → (∃ o, h'.get? e = some o ∧ o.cls = .type "StopIteration") → E (.ref e) { s with heap := h' }) :
    wpAny (model prog w) A (Builtin.«zip.__next__» ⟨[.ref z], []⟩) Q E s := by
  show wpAny _ _ (field (.ref z) 2 >>= _) _ _ _
  refine wpAny_bind (wpAny_field hz rfl (x := .bool false) rfl ?_)
  show wpAny _ _ (field (.ref z) 3 >>= _) _ _ _
  refine wpAny_bind (wpAny_field hz rfl (x := .ref TI) rfl ?_)
  refine wpAny_bind (wpAny_seqItems hTI rfl ?_)
  show wpAny _ _ (Builtin.SmallTypes.ownedTupleIsFree (.ref z) >>= _) _ _ _
  refine wpAny_bind ?_
  unfold Builtin.SmallTypes.ownedTupleIsFree
  refine wpAny_bind (wpAny_field hz rfl (x := .none) rfl (wpAny_pure ?_))
  simp only [if_true]
  refine wpAny_bind (wpAny_rule ?_)
  refine wpAny_bind (wpAny_field hz rfl (x := .ref TO) rfl ?_)
  refine wpAny_bind (wpAny_setField_rec hz (by simp) fun h₁ hz₁ hs₁ => ?_)
  replace hz₁ : IsZip h₁ z TI TO .ellipsis := hz₁
  refine wpAny_bind ?_
  simp only [List.zipIdx_cons, List.zipIdx_nil, List.forIn_cons, List.forIn_nil]
  refine wpAny_bind (wpAny_bind (wpAny_onRaise ?_))
  show wpAny _ _ (Builtin.SmallTypes.nextOf (.ref i1) >>= _) _ _ _
  refine wpAny_bind (nextT_end hh (h1.extBut hs₁.extBut D.i1z) (hl1.extBut hs₁.extBut D.l1z) hx fun h₂ e hs₂ he => ?_)
  obtain ⟨oe, hoe, hce⟩ := he
  have hz₂ : IsZip h₂ z TI TO .ellipsis := hs₂ _ _ D.i1z.symm hz₁
  have hez : e ≠ z := fun x => by subst x; rw [hz₂] at hoe; cases hoe; simp at hce
  refine wpAny_setField_rec hz₂ (by simp) fun h₃ _ hs₃ => hE h₃ e (fun c o c1 _ c3 _ x => hs₃.extBut _ _ c1 (hs₂ _ _ c3 (hs₁.extBut _ _ c1 x))) ⟨oe, hs₃.extBut _ _ hez hoe, hce⟩
theorem pyNextT_item {z TI TO i1 i2 l1 l2 : Addr} {k1 k2 : Nat} {xs ys : Array Value} {x y a b : Value} {Q : Option Value → Shared → Prop} (D : ZipApart z TI TO i1 i2 l1 l2)
    (hz : IsZip s.heap z TI TO .none) (hTI : IsPair s.heap TI (.ref i1) (.ref i2)) (hTO : IsPair s.heap TO a b)
    (h1 : IsTupIter s.heap i1 l1 k1) (h2 : s.heap.IsListIter i2 l2 k2) (hl1 : IsTup s.heap l1 xs) (hl2 : s.heap.IsList l2 ys) (hx : xs[k1]? = some x) (hy : ys[k2]? = some y)
    (hQ : ∀ h', IsZip h' z TI TO (rawInt s.heap.objs.size) → IsPair h' TO x y → IsTupIter h' i1 l1 (k1 + 1) → h'.IsListIter i2 l2 (k2 + 1) → IsPair h' s.heap.objs.size x y → h'.objs.size = s.heap.objs.size + 1 →
      (∀ c o, c ≠ z → c ≠ TO → c ≠ i1 → c ≠ i2 → s.heap.get? c = some o → h'.get? c = some o) → Q (some (.ref s.heap.objs.size)) { s with heap := h' }) :
    wpAny (model prog w) A (pyNext (.ref z)) Q E s := by
  have hT : s.TypeIs (.ref z) "zip" := ⟨_, hz, rfl⟩
  unfold pyNext
  exact wpAny_bind (wpAny_attempt (wpAny_callSpecial?_slot (name := Str.ofString "__next__") hT F.slot_zip_next
    (wpAny_call_entry F.slot_zip_next hT F.entry_zip_next
      (zipT_item D hz hTI hTO h1 h2 hl1 hl2 hx hy fun h' a1 a2 a3 a4 a5 a6 a7 => wpAny_pure (hQ h' a1 a2 a3 a4 a5 a6 a7)) (F.args_zip_next_1 _))))
theorem pyNextT_end {z TI TO i1 i2 l1 l2 : Addr} {k1 : Nat} {xs : Array Value} {a b : Value} {Q : Option Value → Shared → Prop} (hh : A.handled = none) (D : ZipApart z TI TO i1 i2 l1 l2)
    (hz : IsZip s.heap z TI TO .none) (hTI : IsPair s.heap TI (.ref i1) (.ref i2)) (hTO : IsPair s.heap TO a b)
    (h1 : IsTupIter s.heap i1 l1 k1) (hl1 : IsTup s.heap l1 xs) (hx : xs[k1]? = none)
    (hQ : ∀ h', (∀ c o, c ≠ z → c ≠ TO → c ≠ i1 → c ≠ i2 → s.heap.get? c = some o → h'.get? c = some o) → Q none { s with heap := h' }) : wpAny (model prog w) A (pyNext (.ref z)) Q E s := by
  have hT : s.TypeIs (.ref z) "zip" := ⟨_, hz, rfl⟩
  unfold pyNext
  refine wpAny_bind (wpAny_attempt (wpAny_callSpecial?_slot (name := Str.ofString "__next__") hT F.slot_zip_next
    (wpAny_call_entry F.slot_zip_next hT F.entry_zip_next (zipT_end hh D hz hTI hTO h1 hl1 hx fun h' e hk he => ?_) (F.args_zip_next_1 _))))
  obtain ⟨o, ho, hc⟩ := he
  refine wpAny_bind (wpAny_isInstance (T := "StopIteration") (b := true) ⟨o, ho, hc⟩ isSubtype_stop ?_)
  exact wpAny_pure (hQ _ hk)
noncomputable abbrev zH1 (h : Heap) (l1 : Addr) : Heap := h.push { cls := .type "tuple_iterator", data := .fields #[.ref l1, .int 0 0] }
noncomputable abbrev zH2 (h : Heap) (l1 l2 : Addr) : Heap := (zH1 h l1).push { cls := .type "list_iterator", data := .fields #[.ref l2, .int 0 0] }
noncomputable abbrev zH3 (h : Heap) (l1 l2 : Addr) : Heap := (zH2 h l1 l2).push { cls := .type "tuple", data := .seq #[.ref h.objs.size, .ref (zH1 h l1).objs.size] }
noncomputable abbrev zH4 (h : Heap) (l1 l2 : Addr) : Heap := (zH3 h l1 l2).push { cls := .type "tuple", data := .seq #[.none, .none] }
noncomputable abbrev zH5 (h : Heap) (l1 l2 : Addr) : Heap := (zH4 h l1 l2).push { cls := .type "zip", data := .fields #[.none, .bool false, .bool false, .ref (zH2 h l1 l2).objs.size, .ref (zH3 h l1 l2).objs.size] }
theorem meetsT_new (l1 l2 : Addr) (xs ys : Array Value) :
    Meets (Builtin.«zip.__new__» ⟨[.type "zip", .ref l1, .ref l2], []⟩) (fun _ R s => IsTup s.heap l1 xs ∧ s.heap.IsList l2 ys ∧
      R (.ok (.ret (.ref (zH4 s.heap l1 l2).objs.size))) { s with heap := zH5 s.heap l1 l2 }) :=
  .of_wp fun prog w A R s h => by
    obtain ⟨hp, g, d, tk, os⟩ := s; obtain ⟨hl1, hl2, h⟩ := h
    have hsub := sub_zip
    have hL1 : IsTup (Shared.heap ⟨hp, g, d, tk, os⟩) l1 xs := hl1
    have hL2 : Heap.IsList (Shared.heap ⟨hp.push { cls := .type "tuple_iterator", data := .fields #[.ref l1, .int 0 0] }, g, d, tk, os⟩) l2 ys := Heap.IsList.push hl2 _
    wp_walk using iter_tuple hL1, wpAny_pyIter_list hL2
    exact ⟨_, rfl, h⟩
theorem call_zipT {l1 l2 : Addr} {xs ys : Array Value} {Q : Value → Shared → Prop} (hl1 : IsTup s.heap l1 xs) (hl2 : s.heap.IsList l2 ys)
    (h : ∀ h', IsZip h' (s.heap.objs.size + 4) (s.heap.objs.size + 2) (s.heap.objs.size + 3) .none → IsPair h' (s.heap.objs.size + 2) (.ref s.heap.objs.size) (.ref (s.heap.objs.size + 1)) →
      IsPair h' (s.heap.objs.size + 3) .none .none → IsTupIter h' s.heap.objs.size l1 0 → h'.IsListIter (s.heap.objs.size + 1) l2 0 → h'.objs.size = s.heap.objs.size + 5 →
      (∀ c o, s.heap.get? c = some o → h'.get? c = some o) → Q (.ref (s.heap.objs.size + 4)) { s with heap := h' }) :
    wpAny (model prog w) A (call (.type "zip") [.ref l1, .ref l2]) Q E s := by
  refine callType_new F.called_zip (by decide) (F.typeCall_zip_2 _ _) (F.newCall_zip_2 _ _) (fun obj => F.args_object_init_3 obj _ _) F.entry_zip_new
    (meetsT_new l1 l2 xs ys) ⟨hl1, hl2, ?_⟩
  have z1 : (zH1 s.heap l1).objs.size = s.heap.objs.size + 1 := Heap.size_push ..
  have z2 : (zH2 s.heap l1 l2).objs.size = s.heap.objs.size + 2 := by rw [Heap.size_push, z1]
  have z3 : (zH3 s.heap l1 l2).objs.size = s.heap.objs.size + 3 := by rw [Heap.size_push, z2]
  have z4 : (zH4 s.heap l1 l2).objs.size = s.heap.objs.size + 4 := by rw [Heap.size_push, z3]
  have z5 : (zH5 s.heap l1 l2).objs.size = s.heap.objs.size + 5 := by rw [Heap.size_push, z4]
  have g5 : (zH5 s.heap l1 l2).get? (zH4 s.heap l1 l2).objs.size = some _ := Heap.get?_push_size _ rfl
  have g4 : (zH5 s.heap l1 l2).get? (zH3 s.heap l1 l2).objs.size = some _ := Heap.get?_push_of_some _ (Heap.get?_push_size _ rfl)
  have g3 : (zH5 s.heap l1 l2).get? (zH2 s.heap l1 l2).objs.size = some _ := Heap.get?_push_of_some _ (Heap.get?_push_of_some _ (Heap.get?_push_size _ rfl))
  have g2 : (zH5 s.heap l1 l2).get? (zH1 s.heap l1).objs.size = some _ := Heap.get?_push_of_some _ (Heap.get?_push_of_some _ (Heap.get?_push_of_some _ (Heap.get?_push_size _ rfl)))
  have g1 : (zH5 s.heap l1 l2).get? s.heap.objs.size = some _ := Heap.get?_push_of_some _ (Heap.get?_push_of_some _ (Heap.get?_push_of_some _ (Heap.get?_push_of_some _ (Heap.get?_push_size _ rfl))))
  show _ ∧ _
  rw [z2, z3, z4] at g5
  rw [z1, z2] at g3
  rw [z3] at g4
  rw [z1] at g2
  rw [z4]
  exact ⟨⟨_, g5, rfl⟩, h _ g5 g3 g4 ⟨_, g1, rfl, rfl⟩ ⟨_, g2, rfl, rfl⟩ z5 fun c o x =>
    Heap.get?_push_of_some _ (Heap.get?_push_of_some _ (Heap.get?_push_of_some _ (Heap.get?_push_of_some _ (Heap.get?_push_of_some _ x))))⟩
theorem walksZipT (hh : A.handled = none) (z TI TO i1 i2 l1 l2 : Addr) (D : ZipApart z TI TO i1 i2 l1 l2) (xs ys : Array Value) (hsz : xs.size ≤ ys.size) :
    WalksT prog w A z [z, TI, TO, i1, i2, l1, l2] [z, TO, i1, i2] xs.size
      (fun i vals => ∃ x y, xs[i]? = some x ∧ ys[i]? = some y ∧ vals = #[x, y])
      (fun i h => IsZip h z TI TO .none ∧ IsPair h TI (.ref i1) (.ref i2) ∧ (∃ a b, IsPair h TO a b) ∧ IsTupIter h i1 l1 i ∧ h.IsListIter i2 l2 i ∧ IsTup h l1 xs ∧ h.IsList l2 ys)
      (fun i T h => IsZip h z TI TO (rawInt T) ∧ IsPair h TI (.ref i1) (.ref i2) ∧ (∃ a b, IsPair h TO a b) ∧ IsTupIter h i1 l1 (i + 1) ∧ h.IsListIter i2 l2 (i + 1) ∧ IsTup h l1 xs ∧ h.IsList l2 ys ∧
        T ≠ z ∧ T ≠ TO ∧ T ≠ i1 ∧ T ≠ i2) where
  sub := fun c hc => by simp at hc ⊢; rcases hc with rfl | rfl | rfl | rfl <;> simp
  frame := fun i h h' hst hk => by
    obtain ⟨hz, hTI, ⟨a, b, hTO⟩, h1, h2, hl1, hl2⟩ := hst
    exact ⟨hk z (by simp) _ hz, hk TI (by simp) _ hTI, ⟨a, b, hk TO (by simp) _ hTO⟩, tupIter_at h1 fun o e => hk i1 (by simp) o e, h2.at fun o e => hk i2 (by simp) o e,
      tup_at hl1 fun o e => hk l1 (by simp) o e, hl2.at fun o e => hk l2 (by simp) o e⟩
  item := fun i s Q E hi hst hQ => by
    obtain ⟨hz, hTI, ⟨a, b, hTO⟩, h1, h2, hl1, hl2⟩ := hst
    have hix : i < xs.size := hi
    have hiy : i < ys.size := Nat.lt_of_lt_of_le hi hsz
    refine pyNextT_item D hz hTI hTO h1 h2 hl1 hl2 (Array.getElem?_eq_getElem hix) (Array.getElem?_eq_getElem hiy) fun h' a1 a2 a3 a4 a5 a6 hk => ?_
    have lt : ∀ {c o}, s.heap.get? c = some o → s.heap.objs.size ≠ c := fun e => Nat.ne_of_gt (Heap.lt_size e)
    exact hQ s.heap.objs.size #[xs[i], ys[i]] h' s.toks ⟨_, _, Array.getElem?_eq_getElem hix, Array.getElem?_eq_getElem hiy, rfl⟩ (Nat.le_refl _) ⟨_, a5, rfl, _, rfl⟩
      ⟨a1, hk _ _ D.TIz D.TITO D.TIi1 D.TIi2 hTI, ⟨_, _, a2⟩, a3, a4, tup_at hl1 fun o e => hk _ o D.l1z D.l1TO D.l1i1 D.l1i2 e, hl2.at fun o e => hk _ o D.l2z D.l2TO D.l2i1 D.l2i2 e,
        lt hz, lt hTO, (by obtain ⟨_, e, _⟩ := h1; exact lt e), (by obtain ⟨_, e, _⟩ := h2; exact lt e)⟩
      fun c o hc e => hk c o (fun x => hc (by simp [x])) (fun x => hc (by simp [x])) (fun x => hc (by simp [x])) (fun x => hc (by simp [x])) e
  go := fun elts k pos i T s Q E hm hQ => by
    obtain ⟨hz, hTI, ⟨a, b, hTO⟩, h1, h2, hl1, hl2, _⟩ := hm
    refine wpAny_letOwnedTupleGo_zip hz fun h' hz' hs' => hQ h' ⟨hz', hs'.extBut _ _ D.TIz hTI, ⟨a, b, hs'.extBut _ _ D.TOz hTO⟩, h1.extBut hs'.extBut D.i1z, h2.extBut hs'.extBut D.i2z,
      hl1.extBut hs'.extBut D.l1z, hl2.extBut hs'.extBut D.l2z⟩ fun c o hc e => hs'.extBut _ _ (fun x => hc (by simp [x])) e
  apart := fun i T h hm hT => by
    obtain ⟨_, _, _, _, _, _, _, t1, t2, t3, t4⟩ := hm
    simp at hT
    rcases hT with rfl | rfl | rfl | rfl
    · exact t1 rfl
    · exact t2 rfl
    · exact t3 rfl
    · exact t4 rfl
  done := fun s Q E hst hQ => by
    obtain ⟨hz, hTI, ⟨a, b, hTO⟩, h1, h2, hl1, hl2⟩ := hst
    exact pyNextT_end hh D hz hTI hTO h1 hl1 (Array.getElem?_eq_none (Nat.le_refl _)) fun h' hk => hQ h' s.toks fun c o hc e =>
      hk c o (fun x => hc (by simp [x])) (fun x => hc (by simp [x])) (fun x => hc (by simp [x])) (fun x => hc (by simp [x])) e
  self := fun i s Q E hst hQ => wpAny_pyIter_zip hst.1 hQ
end
end
example : True := by first | walk1 | trivial
section
open PySem.Calls PySem.Spec PyProof.V PyProof.Rows.LCg
/-- a turn's end that keeps the ledger -/
noncomputable def ZipE (h₀ : Heap) (L : Addr) (m : Str → Option Value) (news : List (Addr × Obj)) (s₁ s₂ : Shared) : Prop := ∃ h' tk, s₂ = { s₁ with heap := h', toks := tk } ∧ Fr h₀ L h' m ∧ News h₀ L h' news
theorem off4 {n b : Nat} (h : b < n) : b ∉ [n + 4, n + 3, n, n + 1] := fun hb => (List.forall_mem_cons.mpr ⟨Nat.ne_of_lt (Nat.lt_add_right 4 h), List.forall_mem_cons.mpr ⟨Nat.ne_of_lt (Nat.lt_add_right 3 h), List.forall_mem_cons.mpr ⟨Nat.ne_of_lt h, List.forall_mem_cons.mpr ⟨Nat.ne_of_lt (Nat.lt_add_right 1 h), fun _ q => absurd q List.not_mem_nil⟩⟩⟩⟩ : ∀ x ∈ [n + 4, n + 3, n, n + 1], b ≠ x) b hb rfl
theorem lt5 {n : Nat} : ∀ x ∈ [n + 4, n + 3, n, n + 1], x < n + 5 := List.forall_mem_cons.mpr ⟨Nat.add_lt_add_left (by decide) n, List.forall_mem_cons.mpr ⟨Nat.add_lt_add_left (by decide) n, List.forall_mem_cons.mpr ⟨Nat.lt_add_of_pos_right (by decide), List.forall_mem_cons.mpr ⟨Nat.add_lt_add_left (by decide) n, fun _ q => absurd q List.not_mem_nil⟩⟩⟩⟩
theorem off4' {n b : Nat} (h : n + 5 ≤ b) : b ∉ [n + 4, n + 3, n, n + 1] := fun hb => Nat.lt_irrefl b (Nat.lt_of_lt_of_le (lt5 b hb) h)
theorem all7 {n l1 l2 b c : Nat} (h1 : l1 < n) (h2 : l2 < n) (hb : b ∈ [n + 4, n + 2, n + 3, n, n + 1, l1, l2]) (h : n + 5 ≤ c) : b ≠ c := Nat.ne_of_lt (Nat.lt_of_lt_of_le ((List.forall_mem_cons.mpr ⟨Nat.add_lt_add_left (by decide) n, List.forall_mem_cons.mpr ⟨Nat.add_lt_add_left (by decide) n, List.forall_mem_cons.mpr ⟨Nat.add_lt_add_left (by decide) n, List.forall_mem_cons.mpr ⟨Nat.lt_add_of_pos_right (by decide), List.forall_mem_cons.mpr ⟨Nat.add_lt_add_left (by decide) n, List.forall_mem_cons.mpr ⟨Nat.lt_add_right 5 h1, List.forall_mem_cons.mpr ⟨Nat.lt_add_right 5 h2, fun _ q => absurd q List.not_mem_nil⟩⟩⟩⟩⟩⟩⟩ : ∀ x ∈ [n + 4, n + 2, n + 3, n, n + 1, l1, l2], x < n + 5) b hb) h)
theorem ge4 {n b : Nat} (hb : b ∈ [n + 4, n + 3, n, n + 1]) : n ≤ b := (List.forall_mem_cons.mpr ⟨Nat.le_add_right n _, List.forall_mem_cons.mpr ⟨Nat.le_add_right n _, List.forall_mem_cons.mpr ⟨Nat.le_refl n, List.forall_mem_cons.mpr ⟨Nat.le_add_right n _, fun _ q => absurd q List.not_mem_nil⟩⟩⟩⟩ : ∀ x ∈ [n + 4, n + 3, n, n + 1], n ≤ x) b hb
theorem not7 {n l1 l2 b : Nat} (h : b < n) (n1 : b ≠ l1) (n2 : b ≠ l2) : b ∉ [n + 4, n + 2, n + 3, n, n + 1, l1, l2] := fun hb => (List.forall_mem_cons.mpr ⟨Nat.ne_of_lt (Nat.lt_add_right 4 h), List.forall_mem_cons.mpr ⟨Nat.ne_of_lt (Nat.lt_add_right 2 h), List.forall_mem_cons.mpr ⟨Nat.ne_of_lt (Nat.lt_add_right 3 h), List.forall_mem_cons.mpr ⟨Nat.ne_of_lt h, List.forall_mem_cons.mpr ⟨Nat.ne_of_lt (Nat.lt_add_right 1 h), List.forall_mem_cons.mpr ⟨n1, List.forall_mem_cons.mpr ⟨n2, fun _ q => absurd q List.not_mem_nil⟩⟩⟩⟩⟩⟩⟩ : ∀ x ∈ [n + 4, n + 2, n + 3, n, n + 1, l1, l2], b ≠ x) b hb rfl
theorem two_twice {x y : Str} {a b u v : Value} {m₀ : Str → Option Value} : (fun z => if z = y then some b else if z = x then some a else if z = y then some v else if z = x then some u else m₀ z) = fun z => if z = y then some b else if z = x then some a else m₀ z := by
  funext z
  by_cases e1 : z = y
  · simp only [e1, if_true]
  · by_cases e2 : z = x
    · simp only [e2, if_true]
    · simp only [e1, e2, if_false]
section
variable {prog : Program} {w : World} {A : Around} {E : Value → Shared → Prop} {s : Shared}
theorem zipFor {env : Env} {h₀ : Heap} {body : List Stmt} {Q : Flow → Shared → Prop} {x y : Str} {px py pos : Pos} {kk : Nat} {l1 l2 : Addr} {xs ys : List Value} {n1 n2 : Nat} {m₀ : Str → Option Value} {news : List (Addr × Obj)}
    (hh : A.handled = none) (F : Fr h₀ env.locals s.heap m₀) (N : News h₀ env.locals s.heap news) (hm1 : (l1, ({ cls := .type "tuple", data := .seq xs.toArray n1 } : Obj)) ∈ news) (hm2 : (l2, listOf ys.toArray n2) ∈ news) (hsz : xs.length ≤ ys.length)
    (hx : env.kindOf x = some .local) (hy : env.kindOf y = some .local) (hp : (env.scope.kind == .class || (env.scope.kind == .module && env.locals != env.globals)) = false)
    (turn : ∀ (i : Nat) u v h tk own, xs[i]? = some u → ys[i]? = some v → Fr h₀ env.locals h (fun z => if z = y then some v else if z = x then some u else m₀ z) → News h₀ env.locals h (own ++ news) →
      wpAny (model prog w) A (execs body env) (fun f s₂ => match f with | .ret v => Q (.ret v) s₂ | .brk => Q .next s₂ | _ => ZipE h₀ env.locals (fun z => if z = y then some v else if z = x then some u else m₀ z) (own ++ news) { s with heap := h, toks := tk } s₂) E { s with heap := h, toks := tk })
    (done : ∀ m₁ h tk, Fr h₀ env.locals h m₁ → News h₀ env.locals h news → Q .next { s with heap := h, toks := tk }) :
    wpAny (model prog w) A (call (.type "zip") [.ref l1, .ref l2]) (fun xv s₁ => wpAny (model prog w) A (pyIter xv) (fun it s₂ => TurnsAt prog w A h₀ env (.Tuple [.Name x px, .Name y py] kk pos) body Q E it s₂) E s₁) E s := by
  have hax1 := N _ hm1
  have hax2 := N _ hm2
  have hl1 : IsTup s.heap l1 xs.toArray := ⟨_, hax1.1, rfl, n1, rfl⟩
  have hl2 : s.heap.IsList l2 ys.toArray := ⟨_, hax2.1, rfl, n2, rfl⟩
  have hlt1 : l1 < s.heap.objs.size := Heap.lt_size hax1.1
  have hlt2 : l2 < s.heap.objs.size := Heap.lt_size hax2.1
  have hLs : env.locals < s.heap.objs.size := F.ns.lt
  have D : ZipApart (s.heap.objs.size + 4) (s.heap.objs.size + 2) (s.heap.objs.size + 3) s.heap.objs.size (s.heap.objs.size + 1) l1 l2 := ktu_apart _ _ _ hlt1 hlt2
  refine call_zipT hl1 hl2 fun h' hz hTI hTO hi1 hi2 hsz' hk => ?_
  refine wpAny_pyIter_zip hz ?_
  have W := walksZipT (prog := prog) (w := w) hh _ _ _ _ _ _ _ D xs.toArray ys.toArray (by simpa using hsz)
  refine ⟨_, _, _, _, _, _, _, m₀, news, fun i m₁ nx => nx = news ∧ (m₁ = m₀ ∨ ∃ u v, m₁ = fun z => if z = y then some v else if z = x then some u else m₀ z), rfl, KTurns.ofWalksU W.toU, ?_, ?_, ?_, ?_, F.keeps hk, N.grown hk, ⟨rfl, .inl rfl⟩, ?_, ?_⟩
  · exact not7 hLs (Ne.symm hax1.2.1) (Ne.symm hax2.2.1)
  · exact fun b hb => ktu_new F (ge4 hb)
  · exact fun p hp => off4 (Heap.lt_size (N p hp).1)
  · exact ⟨hz, hTI, ⟨_, _, hTO⟩, hi1, hi2, hl1.keeps hk, hl2.at fun o e => hk _ _ e⟩
  · rintro i v m₁ news₁ h₁ tk₁ own hi ⟨T, vals, rfl, ⟨a, b, ha, hb, rfl⟩, hT⟩ ⟨rfl, hm⟩ hoff hown hget hall hst₁ F₁ N₁
    refine kcp_assign hh hT hx hy hp F₁.ns fun h₂ tk₂ hn₂ hs₂ => ?_
    have hL₀ : h₀.get? env.locals = none := Heap.get?_none_of_le F₁.above
    have F₂ : Fr h₀ env.locals h₂ (fun z => if z = y then some b else if z = x then some a else m₀ z) := by
      refine ⟨?_, fun c o e => hs₂ c o (fun q => by rw [q, hL₀] at e; cases e) (F₁.keep c o e), F₁.above⟩
      rcases hm with rfl | ⟨u', v', rfl⟩
      · exact hn₂
      · rw [← two_twice (u := u') (v := v')]; exact hn₂
    have N₂ : News h₀ env.locals h₂ (own ++ news₁) := fun p hp => ⟨hs₂ _ _ (N₁ p hp).2.1 (N₁ p hp).1, (N₁ p hp).2⟩
    refine wpAny_mono (turn i a b h₂ tk₂ own (by simpa using ha) (by simpa using hb) F₂ N₂) (fun f s₂ q => ?_) fun _ _ e => e
    have fin : ZipE h₀ env.locals (fun z => if z = y then some b else if z = x then some a else m₀ z) (own ++ news₁) { s with heap := h₂, toks := tk₂ } s₂ → LoopStepU h₀ env.locals [s.heap.objs.size + 4, s.heap.objs.size + 3, s.heap.objs.size, s.heap.objs.size + 1] own (fun m₁ nx => nx = news₁ ∧ (m₁ = m₀ ∨ ∃ u v, m₁ = fun z => if z = y then some v else if z = x then some u else m₀ z)) { s with heap := h₁, toks := tk₁ } .next s₂ := by
      rintro ⟨h3, tk3, rfl, F3, N3⟩
      exact ⟨rfl, h3, tk3, _, news₁, rfl, F3, N3, hoff, rfl, .inr ⟨_, _, rfl⟩⟩
    cases f with
    | ret v => exact q
    | brk => exact q
    | next => exact fin q
    | cont => exact fin q
  · rintro h₁ tk m₁ news₁ F₁ N₁ _ ⟨rfl, _⟩
    exact done m₁ h₁ tk F₁ N₁
structure ZipTurn (h₀ : Heap) (L : Addr) (m : Str → Option Value) (s₁ : Shared) (nw : List (Addr × Obj)) (s₃ : Shared) : Prop where
  ex : ∃ h' tk', s₃ = { s₁ with heap := h', toks := tk' } ∧ Fr h₀ L h' m ∧ News h₀ L h' nw
theorem ZipTurn.of {h₀ : Heap} {L : Addr} {m : Str → Option Value} {s₁ : Shared} {nw : List (Addr × Obj)} {h' : Heap} {tk' : Nat} (F : Fr h₀ L h' m) (N : News h₀ L h' nw) : ZipTurn h₀ L m s₁ nw { s₁ with heap := h', toks := tk' } := ⟨h', tk', rfl, F, N⟩
/-- the loop's states: so many turns are left -/
inductive ZInv (s₁ : Shared) (n : Nat) (St : Nat → Heap → Prop) (h₀ : Heap) (L : Addr) (m : Str → Option Value) (C D : Addr) (news : List (Addr × Obj)) : Nat → Shared → Prop
  | mk {h' : Heap} {tk i : Nat} {zs : List Value} {m' : Str → Option Value} : i ≤ n → zs.length = i → St i h' → Fr h₀ L h' m → h'.Ns C m' → News h₀ L h' ((D, lst zs) :: news) → ZInv s₁ n St h₀ L m C D news (n + 1 - i) { s₁ with heap := h', toks := tk }
theorem off_step {h₀ : Heap} {L : Addr} {m : Str → Option Value} {wr : List Addr} {nw : List (Addr × Obj)} {h h' : Heap} (offL : L ∉ wr) (new : ∀ b ∈ wr, h₀.get? b = none) (hk : ∀ b o, b ∉ wr → h.get? b = some o → h'.get? b = some o) (hw : ∀ p ∈ nw, p.1 ∉ wr) (F : Fr h₀ L h m) (N : News h₀ L h nw) : Fr h₀ L h' m ∧ News h₀ L h' nw :=
  ⟨⟨F.ns.at' fun o e => hk _ o offL e, fun b o e => hk b o (fun hb => by rw [new b hb] at e; cases e) (F.keep b o e), F.above⟩, fun p hp => ⟨hk _ _ (hw p hp) (N p hp).1, (N p hp).2⟩⟩
theorem cons_off {D : Addr} {o : Obj} {news : List (Addr × Obj)} {P : Addr → Prop} (hD : P D) (hn : ∀ p ∈ news, P p.1) : ∀ p ∈ (D, o) :: news, P p.1 := fun p hp => by
  rcases List.mem_cons.mp hp with rfl | hp
  · exact hD
  · exact hn p hp
theorem walk_loop {elt iter : Expr} {x y : Str} {px py tp : Pos} {kk : Nat} {scope : Scope} {cl : List (Str × Addr)} {pos : Pos} {h₀ : Heap} {L C D I : Addr} {m m₁ : Str → Option Value} {env : Env} {Q : Value → Shared → Prop} {news : List (Addr × Obj)} {s₁ : Shared} {h₁ : Heap} {tk₁ : Nat}
    {fp wr : List Addr} {n : Nat} {Pt : Nat → Array Value → Prop} {St : Nat → Heap → Prop} {Mid : Nat → Addr → Heap → Prop} {Px : Nat → Value → Value → Prop}
    (hh : A.handled = none) (W : WalksT prog w A I fp wr n Pt St Mid) (hkind : scope.kind = .function) (hx : scope.names.lookup x = some .local) (hy : scope.names.lookup y = some .local) (hxy : x ≠ y)
    (pt : ∀ i vals, Pt i vals → ∃ u v, vals = #[u, v] ∧ Px i u v) (hn : n ≤ sizeLine)
    (hLC : L ≠ C) (hLD : L ≠ D) (hDC : D ≠ C) (hC₀ : h₀.get? C = none) (hD₀ : h₀.get? D = none) (newC : ∀ p ∈ news, p.1 ≠ C) (newD : ∀ p ∈ news, p.1 ≠ D)
    (offC : C ∉ wr) (offD : D ∉ wr) (offL : L ∉ wr) (offn : ∀ p ∈ news, p.1 ∉ wr) (new : ∀ b ∈ wr, h₀.get? b = none) (fC : ∀ b ∈ fp, b ≠ C) (fD : ∀ b ∈ fp, b ≠ D)
    (cover : ∀ i h, St i h → ∃ own : List (Addr × Obj), (∀ q ∈ own, h.get? q.1 = some q.2 ∧ q.1 ≠ L ∧ h₀.get? q.1 = none) ∧ ∀ b ∈ fp, ∃ o, (b, o) ∈ own ++ news)
    (turn : ∀ (i : Nat) zs u v own oC m₂ h tk (E' : Value → Shared → Prop), Px i u v → NsObj oC m₂ → m₂ x = some u → m₂ y = some v → Fr h₀ L h m → News h₀ L h ((C, oC) :: (D, lst zs) :: (own ++ news)) →
      wpAny (model prog w) A (eval elt (compEnvC scope cl C env)) (fun r s₃ => ZipTurn h₀ L m s₁ ((C, oC) :: (D, lst zs) :: (own ++ news)) s₃) E' { s₁ with heap := h, toks := tk })
    (fin : ∀ zs h tk, zs.length = n → Fr h₀ L h m → News h₀ L h ((D, lst zs) :: news) → Q (.ref D) { s₁ with heap := h, toks := tk })
    (F₁ : Fr h₀ L h₁ m) (hns₁ : h₁.Ns C m₁) (N₁ : News h₀ L h₁ ((D, lst []) :: news)) (hst₁ : St 0 h₁) :
    codeAny (model prog w) A (.compLoop (.ListComp elt [⟨.Tuple [.Name x px, .Name y py] kk tp, iter, [], 0⟩] scope pos) 0 (.ref I) (.ref D) (compEnvC scope cl C env)) (compPost (model prog w) A E none Q (.ref D) C) { s₁ with heap := h₁, toks := tk₁ } := by
  refine LCp.codeAny_compLoop_pair (ZInv s₁ n St h₀ L m C D news) ?_ (n + 1) (ZInv.mk (Nat.zero_le _) rfl hst₁ F₁ hns₁ N₁)
  rintro k s' ⟨hi, hzl, hst', F', hn', N'⟩
  rename_i h' tk i zs m'
  by_cases hlt : i < n
  · refine W.item i _ _ _ hlt hst' fun T vals h₂ tk₂ hPt _ hT hm hk₂ => ?_
    obtain ⟨u, v, rfl, hp⟩ := pt _ _ hPt
    refine W.go _ _ _ i T _ _ _ hm fun h₃ hst₃ hk₃ => ?_
    have k3 : ∀ b o, b ∉ wr → h'.get? b = some o → h₃.get? b = some o := fun b o hb e => hk₃ b o hb (hk₂ b o hb e)
    obtain ⟨F₃, N₃⟩ := off_step offL new k3 (cons_off (P := fun b => b ∉ wr) offD offn) F' N'
    refine kcp_assign (env := compEnvC scope cl C env) hh (hT.at fun o e => hk₃ T o (W.apart i T _ hm) e) (lookup_relabel_local hx) (lookup_relabel_local hy) (by simp [compEnvC, relabel, hkind]) (hn'.at' fun o e => k3 _ o offC e) fun h₄ tk₄ hn₄ hs₄ => ?_
    have hs4 : ∀ c o, c ≠ C → h₃.get? c = some o → h₄.get? c = some o := hs₄
    obtain ⟨oC, heC, hoC⟩ := ns_obj hn₄
    have hst₄ := W.frame (i + 1) _ h₄ hst₃ fun b hb o e => hs4 b o (fC b hb) e
    obtain ⟨own, ho, hf⟩ := cover _ _ hst₄
    have N₅ : News h₀ L h₄ ((C, oC) :: (D, lst zs) :: (own ++ news)) := List.forall_mem_cons.mpr ⟨⟨heC, Ne.symm hLC, hC₀⟩, List.forall_mem_cons.mpr ⟨⟨hs4 _ _ hDC (N₃ _ (.head _)).1, (N₃ _ (.head _)).2⟩, fun p hp => by
      rcases List.mem_append.mp hp with hp | hp
      · exact ho p hp
      · exact ⟨hs4 _ _ (newC p hp) (N₃ p (.tail _ hp)).1, (N₃ p (.tail _ hp)).2⟩⟩⟩
    refine wpAny_mono (turn i zs u v own oC _ h₄ tk₄ _ hp hoC (by simp [hxy]) (by simp) ⟨F₃.ns.at' fun o e => hs4 _ o hLC e, fun b o e => hs4 b o (fun q => by rw [q, hC₀] at e; cases e) (F₃.keep b o e), F₃.above⟩ N₅) (fun r s₅ q => ?_) fun _ _ e => e
    obtain ⟨h₅, tk₅, rfl, F₅, N₆⟩ := q.ex
    have zn : News h₀ L h₅ news := fun p hp => N₆ p (.tail _ (.tail _ (List.mem_append_right _ hp)))
    have hst₅ := W.frame (i + 1) _ h₅ hst₄ fun b hb o e => by
      obtain ⟨o', hm'⟩ := hf b hb
      have e1 := (N₅ _ (.tail _ (.tail _ hm'))).1
      rw [e1] at e
      rw [← e]
      exact (N₆ _ (.tail _ (.tail _ hm'))).1
    refine append_at (hsz := by show zs.toArray.size ≤ sizeLine; rw [List.size_toArray, hzl]; exact Nat.le_trans hi hn) (N₆ (D, lst zs) (.tail _ (.head _))).1 fun h₆ hs₆ hD₆ => ?_
    refine ⟨n + 1 - (i + 1), by k_extra "z:o", ZInv.mk (zs := zs ++ [r]) hlt (by rw [List.length_append, List.length_singleton, hzl]) (W.frame _ _ _ hst₅ fun b hb o e => hs₆.extBut b o (fD b hb) e) (F₅.change hs₆ (Ne.symm hLD) hD₀) ((hoC.ns (N₆ (C, oC) (.head _)).1).sameBut hs₆ (Ne.symm hDC)) ?_⟩
    exact List.forall_mem_cons.mpr ⟨⟨hD₆.trans (congrArg some (lst_snoc zs r)), Ne.symm hLD, hD₀⟩, fun p hp => ⟨hs₆.extBut _ _ (newD p hp) (zn p hp).1, (zn p hp).2⟩⟩
  · obtain rfl : i = n := Nat.le_antisymm hi (Nat.not_lt.mp hlt)
    refine W.done _ _ _ hst' fun h₂ tk₂ hk₂ => ?_
    obtain ⟨F₃, N₃⟩ := off_step offL new hk₂ (cons_off (P := fun b => b ∉ wr) offD offn) F' N'
    exact ⟨m', hn'.at' fun o e => hk₂ _ o offC e, fun h'' hs'' => fin zs h'' tk₂ hzl (F₃.change hs'' (Ne.symm hLC) hC₀) fun p hp => ⟨hs''.extBut _ _ (cons_off (P := fun b => b ≠ C) hDC newC p hp) (N₃ p hp).1, (N₃ p hp).2⟩⟩
/-- what zip gives a comprehension -/
structure ZipIn (prog : Program) (w : World) (A : Around) (h₀ : Heap) (L : Addr) (m : Str → Option Value) (env : Env) (elt : Expr) (x y : Str) (scope : Scope) (cl : List (Str × Addr)) (Q : Value → Shared → Prop) (s₁ : Shared) (n0 l1 l2 : Addr) (xs ys : List Value) (n1 n2 : Nat) (news : List (Addr × Obj)) : Prop where
  hh : A.handled = none
  F : Fr h₀ L s₁.heap m
  N : News h₀ L s₁.heap news
  hlt : ∀ p ∈ news, @LT.lt Nat _ p.1 n0
  hLn : @LT.lt Nat _ L n0
  hnew : ∀ b, @LE.le Nat _ n0 b → h₀.get? b = none
  hsz : s₁.heap.objs.size = n0 + 5
  hm1 : (l1, ({ cls := .type "tuple", data := .seq (List.toArray xs) n1 } : Obj)) ∈ news
  hm2 : (l2, listOf (List.toArray ys) n2) ∈ news
  hle : xs.length ≤ ys.length
  hsl : xs.length ≤ sizeLine
  hz : IsZip s₁.heap (n0 + 4) (n0 + 2) (n0 + 3) .none
  hTI : IsPair s₁.heap (n0 + 2) (.ref n0) (.ref (n0 + 1))
  hTO : IsPair s₁.heap (n0 + 3) .none .none
  hi1 : IsTupIter s₁.heap n0 l1 0
  hi2 : s₁.heap.IsListIter (n0 + 1) l2 0
  turn : ∀ (i : Nat) zs u v (own : List (Addr × Obj)) oC C D m₂ h tk (E' : Value → Shared → Prop), xs[i]? = some u ∧ ys[i]? = some v → NsObj oC m₂ → m₂ x = some u → m₂ y = some v → Fr h₀ L h m →
      News h₀ L h ((C, oC) :: (D, lst zs) :: (own ++ news)) →
      wpAny (model prog w) A (eval elt (compEnvC scope cl C env)) (fun r s₃ => ZipTurn h₀ L m s₁ ((C, oC) :: (D, lst zs) :: (own ++ news)) s₃) E' { s₁ with heap := h, toks := tk }
  fin : ∀ D zs h tk, zs.length = xs.length → Fr h₀ L h m → News h₀ L h ((D, lst zs) :: news) → (∀ p ∈ news, @Ne Nat p.1 D) → Q (.ref D) { s₁ with heap := h, toks := tk }
noncomputable def ZipSrc (prog : Program) (w : World) (A : Around) (h₀ : Heap) (L : Addr) (m : Str → Option Value) (env : Env) (elt : Expr) (x y : Str) (scope : Scope) (cl : List (Str × Addr)) (Q : Value → Shared → Prop) (xv : Value) (s₁ : Shared) : Prop :=
  ∃ n0 l1 l2 xs ys n1 n2 news, xv = .ref (n0 + 4) ∧ ZipIn prog w A h₀ L m env elt x y scope cl Q s₁ n0 l1 l2 xs ys n1 n2 news
theorem z_cover {h : Heap} {z TI TO i1 i2 l1 l2 : Addr} {o1 o2 : Obj} {k1 k2 : Nat} {xs ys : Array Value} {P : Addr → Prop} {news : List (Addr × Obj)} (hm1 : (l1, o1) ∈ news) (hm2 : (l2, o2) ∈ news) (q1 : P z) (q2 : P TI) (q3 : P TO) (q4 : P i1) (q5 : P i2)
    (st : IsZip h z TI TO .none ∧ IsPair h TI (.ref i1) (.ref i2) ∧ (∃ a b, IsPair h TO a b) ∧ IsTupIter h i1 l1 k1 ∧ h.IsListIter i2 l2 k2 ∧ IsTup h l1 xs ∧ h.IsList l2 ys) :
    ∃ own : List (Addr × Obj), (∀ q ∈ own, h.get? q.1 = some q.2 ∧ P q.1) ∧ ∀ b ∈ [z, TI, TO, i1, i2, l1, l2], ∃ o, (b, o) ∈ own ++ news := by
  obtain ⟨gz, gI, ⟨_, _, gO⟩, ⟨j1, g1, _⟩, ⟨j2, g2, _⟩, _⟩ := st
  refine ⟨[(z, _), (TI, _), (TO, _), (i1, j1), (i2, j2)], List.forall_mem_cons.mpr ⟨⟨gz, q1⟩, List.forall_mem_cons.mpr ⟨⟨gI, q2⟩, List.forall_mem_cons.mpr ⟨⟨gO, q3⟩, List.forall_mem_cons.mpr ⟨⟨g1, q4⟩, List.forall_mem_cons.mpr ⟨⟨g2, q5⟩, fun _ h => absurd h List.not_mem_nil⟩⟩⟩⟩⟩, ?_⟩
  exact List.forall_mem_cons.mpr ⟨⟨_, .head _⟩, List.forall_mem_cons.mpr ⟨⟨_, .tail _ (.head _)⟩, List.forall_mem_cons.mpr ⟨⟨_, .tail _ (.tail _ (.head _))⟩, List.forall_mem_cons.mpr ⟨⟨_, .tail _ (.tail _ (.tail _ (.head _)))⟩, List.forall_mem_cons.mpr ⟨⟨_, .tail _ (.tail _ (.tail _ (.tail _ (.head _))))⟩, List.forall_mem_cons.mpr ⟨⟨_, List.mem_append_right _ hm1⟩, List.forall_mem_cons.mpr ⟨⟨_, List.mem_append_right _ hm2⟩, fun _ h => absurd h List.not_mem_nil⟩⟩⟩⟩⟩⟩⟩
theorem zip_comp {elt iter : Expr} {x y : Str} {px py tp : Pos} {kk : Nat} {scope : Scope} {cl : List (Str × Addr)} {pos : Pos} {h₀ : Heap} {L : Addr} {m : Str → Option Value} {env : Env} {Q : Value → Shared → Prop} (F₀ : Fr h₀ L s.heap m)
    (hclos : closureFor scope env = pure cl) (hcell : ∀ y ∈ scope.names, y.2 ≠ .cell) (hkind : scope.kind = .function)
    (hnames : ∀ y ∈ scope.names, y.2 = .local → scope.names.lookup y.1 = some .local) (hx : scope.names.lookup x = some .local) (hy : scope.names.lookup y = some .local) (hxy : x ≠ y)
    (h : wpAny (model prog w) A (eval iter env) (ZipSrc prog w A h₀ L m env elt x y scope cl Q) E s)
    (hs : ∀ x, foldedSetIterable iter env x = pure x := by intro _; rfl) :
    wpAny (model prog w) A (eval (.ListComp elt [⟨.Tuple [.Name x px, .Name y py] kk tp, iter, [], 0⟩] scope pos) env) Q E s := by
  rw [eval_ListComp]
  refine wpAny_comprehension_free (use := none) rfl hs hclos hkind hnames (wpAny_mono h ?_ fun _ _ e => e)
  rintro xv s₁ ⟨n0, l1, l2, xs, ys, n1, n2, news, rfl, Z⟩
  refine wpAny_pyIter_zip Z.hz ?_
  have Dz : ZipApart (n0 + 4) (n0 + 2) (n0 + 3) n0 (n0 + 1) l1 l2 := ktu_apart _ _ _ (Z.hlt _ Z.hm1) (Z.hlt _ Z.hm2)
  have W := walksZipT (prog := prog) (w := w) Z.hh _ _ _ _ _ _ _ Dz xs.toArray ys.toArray (by simpa using Z.hle)
  have hst := And.intro Z.hz (And.intro Z.hTI (And.intro (⟨_, _, Z.hTO⟩ : ∃ a b, IsPair s₁.heap (n0 + 3) a b) (And.intro Z.hi1 (And.intro Z.hi2 (And.intro (⟨_, (Z.N _ Z.hm1).1, rfl, n1, rfl⟩ : IsTup s₁.heap l1 xs.toArray) (⟨_, (Z.N _ Z.hm2).1, rfl, n2, rfl⟩ : s₁.heap.IsList l2 ys.toArray))))))
  refine wpAny_newObj_type (wpAny_newFunctionEnv hcell (by intro y hy; simp at hy) (fun h₁ hns₁ hsb₁ => ?_) hkind)
  dsimp only at hns₁ hsb₁ ⊢
  have hsz := Z.hsz
  generalize hH2 : s₁.heap.push { cls := .type "list", dict := none, data := .seq ([] : List Value).toArray } = H2 at hns₁ hsb₁ ⊢
  have hC : H2.objs.size = n0 + 5 + 1 := by rw [← hH2, Heap.size_push, hsz]
  rw [hsz]
  have old : ∀ b o, s₁.heap.get? b = some o → h₁.get? b = some o := fun b o e => hsb₁.extBut b o (by rw [hC]; exact Nat.ne_of_lt (Nat.lt_succ_of_lt (hsz ▸ Heap.lt_size e))) (Heap.get?_push_of_some _ (hH2 ▸ Heap.get?_push_of_some _ e))
  have hacc : h₁.get? (n0 + 5) = some (lst []) := hsb₁.extBut _ _ (by rw [hC]; exact Nat.ne_of_lt (Nat.lt_succ_self _)) (Heap.get?_push_of_some _ (by rw [← hH2, ← hsz]; exact Heap.get?_push_size _ rfl))
  rw [hC] at hns₁ hsb₁ ⊢
  have lt5 : ∀ k, @LT.lt Nat _ L (n0 + k) := fun k => Nat.lt_of_lt_of_le Z.hLn (Nat.le_add_right _ _)
  have loop := fun tk₁ => walk_loop (iter := iter) (px := px) (py := py) (tp := tp) (kk := kk) (pos := pos) (E := E) (Q := Q) (tk₁ := tk₁) (s₁ := s₁) (C := n0 + 5 + 1) (D := n0 + 5) (Px := fun i u v => xs[i]? = some u ∧ ys[i]? = some v) (news := news) (cl := cl) (env := env)
    Z.hh W hkind hx hy hxy (fun i vals ⟨u, v, a, b, e⟩ => ⟨u, v, e, by simpa using a, by simpa using b⟩) (by simpa using Z.hsl)
    (Nat.ne_of_lt (lt5 6)) (Nat.ne_of_lt (lt5 5)) (Nat.ne_of_lt (Nat.lt_succ_self _)) (Z.hnew _ (Nat.le_add_right _ 6)) (Z.hnew _ (Nat.le_add_right _ 5)) (fun p hp => ktu_ne 6 (Z.hlt p hp)) (fun p hp => ktu_ne 5 (Z.hlt p hp))
    (off4' (Nat.le_succ _)) (off4' (Nat.le_refl _)) (off4 Z.hLn) (fun p hp => off4 (Z.hlt p hp)) (fun b hb => Z.hnew b (ge4 hb)) (fun b hb => all7 (Z.hlt _ Z.hm1) (Z.hlt _ Z.hm2) hb (Nat.le_succ _)) (fun b hb => all7 (Z.hlt _ Z.hm1) (Z.hlt _ Z.hm2) hb (Nat.le_refl _))
    (fun i h st => z_cover (P := fun b => b ≠ L ∧ h₀.get? b = none) Z.hm1 Z.hm2 ⟨Nat.ne_of_gt (lt5 4), Z.hnew _ (Nat.le_add_right _ _)⟩ ⟨Nat.ne_of_gt (lt5 2), Z.hnew _ (Nat.le_add_right _ _)⟩ ⟨Nat.ne_of_gt (lt5 3), Z.hnew _ (Nat.le_add_right _ _)⟩ ⟨Nat.ne_of_gt Z.hLn, Z.hnew _ (Nat.le_refl _)⟩ ⟨Nat.ne_of_gt (lt5 1), Z.hnew _ (Nat.le_add_right _ _)⟩ st)
    (fun i zs u v own oC m₂ h tk E' => Z.turn i zs u v own oC _ _ m₂ h tk E') (fun zs h tk hl F N => Z.fin _ zs h tk (by simpa using hl) F N fun p hp => ktu_ne 5 (Z.hlt p hp))
    (Z.F.keeps old) hns₁ (List.forall_mem_cons.mpr ⟨⟨hacc, Nat.ne_of_gt (lt5 5), Z.hnew _ (Nat.le_add_right _ 5)⟩, fun p hp => ⟨old _ _ (Z.N p hp).1, (Z.N p hp).2⟩⟩) (W.frame 0 _ h₁ hst fun b _ o e => old b o e)
  exact codeAny_compStart_list (loop _) (W.self 0 _ _ _ (W.frame 0 _ h₁ hst fun b _ o e => old b o e) (loop _))
end
end
example : True := by first | walk1 | trivial
section
example : True := by
  k_with "call builtin:len" => ((guard_hyp zg360); (k_here; (with_reducible show wpAny _ _ (call (Value.builtin _) [Value.ref _]) _ _ _); k_dflt (refine' len_led ?N ?m ?z ?_; (case N => k_asm); (case m => k_mem); (case z => k_extra "z:o")); (try dsimp only); (try k_fold)))
  trivial
example : True := by
  k_with "eval ListComp" => ((guard_hyp zg360); (k_here; lcf_look; k_dflt (refine comp_step (F₀ := by k_asm) (by with_unfolding_all rfl) (by decide) (by rfl) (by decide) (by rfl) ?_)))
  trivial
example : True := by
  k_with "StepSrc" => ((guard_hyp zg360); (refine hold ?_))
  trivial
example : True := by
  k_with "call type:tuple" => ((guard_hyp zg360); (k_here; (with_reducible show wpAny _ _ (call (Value.type _) [Value.ref _]) _ _ _); k_dflt (refine' kde_tupleOf ?F ?N ?hl ?z rfl ?_; (case F => k_asm); (case N => k_asm); (case hl => exact ⟨_, News.get (by k_asm) (by k_mem), rfl, _, rfl⟩); (case z => assumption); k_whole); intro tD9 h9 F9 N9 tl9; have tl8 := tl9; (try k_lt tl9); (try dsimp only); (try k_fold)))
  trivial
/-- a pixel of c whole numbers -/
noncomputable def Pix (c : Int) (news : List (Addr × Obj)) (v : Value) : Prop := ∃ a vs, v = .ref a ∧ (a, ({ cls := .type "tuple", data := .seq (List.toArray vs) } : Obj)) ∈ news ∧ (vs.length : Int) = c ∧ Smalls vs
theorem Pix.mono {c : Int} {l l' : List (Addr × Obj)} {v : Value} (h : Pix c l v) (hs : ∀ q ∈ l, q ∈ l') : Pix c l' v := by
  have zg360 : Gate 360 := trivial
  obtain ⟨a, vs, e, hm, r⟩ := h
  exact ⟨a, vs, e, hs _ hm, r⟩
/-- a cut of whole numbers -/
theorem pix_cut {ys : List Value} {x y : Int} (h : Smalls ys) (x0 : 0 ≤ x) (xy : x ≤ y) (hx : y ≤ ys.length) : Smalls (slicePick ys.toArray (some x) (some y) none).toList ∧ ((slicePick ys.toArray (some x) (some y) none).toList.length : Int) = y - x := by
  have zg360 : Gate 360 := trivial
  obtain ⟨ks, a, b⟩ := h.ints
  have r := kmk_run a x0 (show 0 ≤ y by k_extra "z:o")
  refine ⟨.of r fun k hk => b k (List.mem_of_mem_drop (List.mem_of_mem_take hk)), ?_⟩
  have hl := r.length
  rw [List.length_take, List.length_drop, ← a.length] at hl
  exact cut_len x0 xy hx hl
theorem pix_snoc {c : Int} {e : List (Addr × Obj)} {zs : List Value} {a : Addr} {vs : List Value} (h : ∀ v ∈ zs, Pix c e v) (hl : (vs.length : Int) = c) (hs : Smalls vs) : ∀ v ∈ zs ++ [.ref a], Pix c ((a, ({ cls := .type "tuple", data := .seq (List.toArray vs) } : Obj)) :: e) v := fun v hv => by
  rcases List.mem_append.mp hv with hv | hv
  · exact (h v hv).mono fun q hq => .tail _ hq
  · rw [List.mem_singleton.mp hv]; exact ⟨_, _, rfl, .head _, hl, hs⟩
theorem prod_step {x c i : Int} (h : i < x) (hc : 1 ≤ c) : i * c + c ≤ x * c := by
  have zg360 : Gate 360 := trivial
  have := Int.mul_le_mul_of_nonneg_right (show i + 1 ≤ x by k_extra "z:o") (show 0 ≤ c by k_extra "z:o")
  rw [Int.add_mul, Int.one_mul] at this
  exact this
theorem fit63 {z : Int} (h0 : 0 ≤ z) (h1 : z ≤ 2000) : -2 ^ 63 ≤ z ∧ z < 2 ^ 63 := ⟨Int.le_trans (by decide) h0, Int.lt_of_le_of_lt h1 (by decide)⟩
theorem small_step {n c : Int} (h0 : 0 ≤ n) (h1 : n ≤ 1000) (c0 : 1 ≤ c) (c1 : c ≤ 4) : Builtin.Range.small 0 n c = true := by
  have zg360 : Gate 360 := trivial
  have a0 : 0 ≤ n + c - 1 := by k_extra "z:o"
  have a1 : n + c - 1 ≤ 2000 := by k_extra "z:o"
  have q0 := Int.ediv_nonneg a0 (Int.le_trans (by decide) c0)
  have q1 := Int.le_trans (Int.ediv_le_self c a0) a1
  unfold Builtin.Range.small
  rw [rangeSize_pos c0 h0]
  simp only [Builtin.Range.rangeFitsLong, Bool.and_eq_true, Bool.or_eq_true, decide_eq_true_eq, beq_iff_eq]
  rw [if_pos (show c > 0 from c0), Bool.and_eq_true, decide_eq_true_eq, decide_eq_true_eq, ← Int.add_sub_assoc]
  exact ⟨⟨⟨⟨by decide, fit63 h0 (Int.le_trans h1 (by decide))⟩, fit63 (Int.le_trans (by decide) c0) (Int.le_trans c1 (by decide))⟩, fit63 q0 q1⟩, .inr (fit63 a0 a1)⟩
theorem C_pixels {la : Addr} {ys : List Value} {k : Nat} {c x : Int} {tc : Tok}
 (B : Below A₀ base outer h₀) (F : Fr h₀ L zh m) (X : (hd.heap_39 w.params).In h₀) (T : Top p loose mean mg mb h₀) (hk : cs.kind = .function) (N : News h₀ L zh news)
 (b1 : (la, listOf ys.toArray k) ∈ news) (hs : Smalls ys) (hl : ys.length ≤ 1000) (hc0 : 1 ≤ c) (hc : c ≤ 4) (hx0 : 0 ≤ x) (hx : (ys.length : Int) = x * c)
 (ret : ∀ D zs e h' tk', (∀ v ∈ zs, Pix c e v) → (zs.length : Int) = x → Fresh e news → Fr h₀ L h' m → News h₀ L h' ((D, LCg.lst zs) :: (e ++ news)) → (∀ q ∈ e ++ news, @Ne Nat q.1 D) → Q (.ref D) ⟨h', zg, zd, tk', zo⟩) :
 CallAt 630 5300 prog w gd cn cs L a ccd cl outer 679 [.ref la, .int c tc] Q E ⟨zh, zg, zd, zk, zo⟩ := by
  have zg360 : Gate 360 := trivial
  refine wpAny_call ?_
  k_dflt k_enter
  rename_i g' L' h' tk' FG' X' T' o1' o2' d1' d2' B' l1 N' F'
  have N' := nadd N' (mem2 b1)
  k_steps
  refine Hold.go ?_
  rename IsRange _ _ _ _ _ _ _ _ => rgX
  rename Fr _ _ _ _ => lF
  rename News _ _ _ _ => lN
  have hxl : x ≤ 1000 := by
    have := Int.mul_le_mul_of_nonneg_left hc0 hx0
    rw [Int.mul_one] at this
    k_extra "z:o"
  have hn : Builtin.Range.rangeSize 0 ys.length c = (x.toNat : Int) := by
    rw [rangeSize_pos hc0 (Int.natCast_nonneg _), hx, div_ceil hc0, Int.toNat_of_nonneg hx0]
  refine ⟨_, _, _, _, _, _, _, x.toNat, _, rfl, rfl, lF, lN, rgX, ?_, hn, ?_, fun g9 => ?_⟩
  · exact small_step (Int.natCast_nonneg _) (by k_extra "z:o") hc0 hc
  · rw [sizeLine_eq]; k_extra "z:o"
  dsimp only
  refine comp_rest (σ := List (Addr × Obj)) (fun e => (la, listOf ys.toArray k) :: (L' + 1 + 1, o1') :: (L' + 1, o2') :: (e ++ news)) (fun i zs e => zs.length = i ∧ (∀ v ∈ zs, Pix c e v) ∧ Fresh e news) [] ⟨rfl, fun _ h => absurd h List.not_mem_nil, .nil⟩ (fun _ => trivial) ?_ ?_
  · rintro i e zs v I oI C oC D m2 h tk E' hi ⟨q1, q2, q3⟩ ⟨t9, rfl⟩ hC hx2 F2 N2 off ne
    try dsimp only at F2 N2
    have a1 := off (la, listOf ys.toArray k) (.head _)
    have a2 := off (L' + 1 + 1, o1') (.tail _ (.head _))
    have a3 := off (L' + 1, o2') (.tail _ (.tail _ (.head _)))
    dsimp only at a1 a2 a3
    have hi' : (i : Int) < x := lt_int hi
    have z1 := prod_step hi' hc0
    have z0 : 0 ≤ (i : Int) * c := Int.mul_nonneg (Int.natCast_nonneg _) (by k_extra "z:o")
    have z2 := pix_cut (x := 0 + (i : Int) * c) (y := 0 + (i : Int) * c + c) hs (by k_extra "z:o") (by k_extra "z:o") (by k_extra "z:o")
    have z3 : (slicePick ys.toArray (some (0 + (i : Int) * c)) (some (0 + (i : Int) * c + c)) none).size ≤ 16384 := by
      have e1 := z2.2
      have e2 : (slicePick ys.toArray (some (0 + (i : Int) * c)) (some (0 + (i : Int) * c + c)) none).toList.length = (slicePick ys.toArray (some (0 + (i : Int) * c)) (some (0 + (i : Int) * c + c)) none).size := Array.length_toList
      k_extra "z:o"
    dsimp only
    k_steps
    all_goals (
      refine' CompT.of ((tD9, _) :: e) ?zF ?zN ?zS ?zO ⟨?y1, ?y2, ?y3⟩
      (case zF => k_asm)
      (case zN => k_asm)
      (case zS => k_sub)
      (case zO => refine List.forall_mem_cons.mpr ⟨a1, List.forall_mem_cons.mpr ⟨a2, List.forall_mem_cons.mpr ⟨a3, List.forall_mem_cons.mpr ⟨⟨by k_ne, by k_ne, by k_ne⟩, fun q hq => off q (.tail _ (.tail _ (.tail _ hq)))⟩⟩⟩⟩)
      (case y1 => (rw [List.length_append, q1]; rfl))
      (case y2 => exact pix_snoc q2 (by rw [z2.2]; k_extra "z:o") z2.1)
      (case y3 => exact q3.cons fun r hr => Nat.ne_of_lt <| tl8 r (mem7 (List.mem_append_right _ hr))))
  · rintro zs e ⟨q1, q2, q3⟩
    refine fun D h tk F2 N2 off => ?_
    have off' := off1_mem off
    k_steps
    all_goals (
      refine' ret D zs e _ _ q2 (len_int hx0 q1) q3 ?zF2 ?zN2 ?zO2
      (case zF2 => k_asm)
      (case zN2 => refine' cb_drop ?zN3 ?zS3; (case zN3 => k_asm); (case zS3 => intro q hq; rcases List.mem_cons.mp hq with rfl | hq; exact .head _; exact .tail _ (mem3 hq)))
      (case zO2 => exact fun q hq => off' q (mem3 hq)))
end
example : True := by first | walk1 | trivial
example : True := by
  k_with "call ref" => (k_here; (with_reducible show wpAny _ _ (call (Value.ref 679) _) _ _ _); k_dflt (refine' up (D := 630) (U := 5300) (C_pixels ?B ?F ?X ?T ?hk ?N ?b1 ?hs ?hl ?hc0 ?hc ?hx0 ?hx ?_) ?d ?u; (case N => k_asm); (case b1 => k_mem); (case hs => assumption); (case hx => assumption); (case hl => k_extra "z:o"); (case hc0 => k_extra "z:o"); (case hc => k_extra "z:o"); (case hx0 => k_extra "z:o"); (case B => k_asm); (case F => k_asm); (case X => k_asm); (case T => k_asm); (case hk => first | assumption | exact rfl); (case d => exact Nat.le_of_ble_eq_true rfl); (case u => exact Nat.le_of_ble_eq_true rfl); k_whole); intro _ _ _ _ _ _ _ _ _ _ _; (try dsimp only); (try k_fold))
  trivial
section
example : True := by
  k_with "subscriptTail" => ((guard_hyp zg370); (k_here; (with_reducible show wpAny _ _ (subscriptTail _ (Expr.Slice none none (some _) _) (Value.bytes _ _) (Value.ref _)) _ _ _); k_dflt (refine' slice_revB (s := ⟨_, _, _, _, _⟩) ?F ?N ?z ?_; (case F => k_asm); (case N => k_asm); (case z => assumption); k_whole); intro _ _ _ _ _ _ _; (try dsimp only); (try k_fold)))
  trivial
theorem C_open {xa dx hh : Addr} {t1 t2 t3 : Tok} {bs : Array UInt8} {v : Value}
 (B : Below A₀ base outer h₀) (F : Fr h₀ L zh m) (X : (hd.heap_39 w.params).In h₀) (T : Top p loose mean mg mb h₀) (hk : cs.kind = .function) (N : News h₀ L zh news)
 (m5 : (xa, instObj 280 dx) ∈ news) (m6 : (dx, streamD w t1 t2 hh bs t3) ∈ news) (hz : bs.size ≤ 100000)
 (ret : ∀ (r : Array UInt8) t h' tk', r.size = bs.size → Fr h₀ L h' m → News h₀ L h' news → Q (.bytes r t) ⟨h', zg, zd, tk', zo⟩) :
 CallAt 610 5100 prog w gd cn cs L a ccd cl outer 832 [v, .ref xa] Q E ⟨zh, zg, zd, zk, zo⟩ := by
  have zg370 : Gate 370 := trivial
  refine wpAny_call ?_
  k_dflt k_enter
  k_extra "z:flat"
  all_goals exact ret _ _ _ _ (by assumption) (by k_asm) (by k_asm)
end
example : True := by first | walk1 | trivial
example : True := by
  k_with "call ref" => (k_here; (with_reducible show wpAny _ _ (call (Value.ref 832) _) _ _ _); k_dflt (refine' up (D := 610) (U := 5100) (C_open ?B ?F ?X ?T ?hk ?N ?m5 ?m6 ?hz ?_) ?d ?u; (case N => k_asm); (case m5 => k_mem); (case m6 => k_mem); (case hz => k_extra "z:o"); (case B => k_asm); (case F => k_asm); (case X => k_asm); (case T => k_asm); (case hk => first | assumption | exact rfl); (case d => exact Nat.le_of_ble_eq_true rfl); (case u => exact Nat.le_of_ble_eq_true rfl); k_whole); intro _ _ _ _ _ _ _; (try dsimp only); (try k_fold))
  trivial
section
theorem RaisedN.sub {base : Heap} {l : List Env} {e : Addr} {cls : Value} {news news' : List (Addr × Obj)} {h : Heap} (R : RaisedN base l e cls news h) (k : ∀ q ∈ news', q ∈ news) : RaisedN base l e cls news' h := by
  obtain ⟨B, a0, h1, h2, h3⟩ := R
  exact ⟨B, a0, h1, fun q hq => h2 q (k q hq), h3⟩
/-- a row of pixels -/
noncomputable def PixRow (c x : Int) (news : List (Addr × Obj)) (v : Value) : Prop := ∃ a zs, v = .ref a ∧ (a, LCg.lst zs) ∈ news ∧ (zs.length : Int) = x ∧ ∀ u ∈ zs, Pix c news u
theorem PixRow.mono {c x : Int} {l l' : List (Addr × Obj)} {v : Value} (h : PixRow c x l v) (hs : ∀ q ∈ l, q ∈ l') : PixRow c x l' v := by
  obtain ⟨a, zs, e, hm, r, k⟩ := h
  exact ⟨a, zs, e, hs _ hm, r, fun u hu => (k u hu).mono hs⟩
theorem row_slice {A : Around} {value slice : PySem.Expr} {bs : Array UInt8} {t t1 t2 : Tok} {lo hi : Int} {Q : Value → Shared → Prop} (F : Fr h₀ L s.heap m) (N : News h₀ L s.heap news) (h0 : 0 ≤ lo) (h1 : lo ≤ hi) (h2 : hi ≤ bs.size) (hz : bs.size ≤ 100000)
    (h : ∀ (r : Array UInt8) h' t' k, Fr h₀ L h' m → News h₀ L h' news → (r.size : Int) = hi - lo → r.size ≤ 100000 → Q (.bytes r t') { s with heap := h', toks := k })
    (hs : subscripted slice false (.bytes bs t) (.ref s.heap.objs.size) = operate [.ref s.heap.objs.size, .bytes bs t] (getItem (.bytes bs t) (.ref s.heap.objs.size)) := by with_unfolding_all rfl)
    (ht : ∀ r, letTemporaryGo value (.bytes bs t) r = pure () := by intro _; with_unfolding_all rfl) :
    wpAny (model prog w) A (subscriptTail value slice (.bytes bs t) (.ref s.heap.objs.size)) Q E { s with heap := s.heap.push { cls := .type "slice", data := .fields #[.int lo t1, .int hi t2, .none] } } := by
  refine KBc.slice_K F N rfl (.int _ _) (.int _ _) (by rw [KBw.ints_length]; omega) (fun h' t' k F' N' e => ?_) hs ht
  simp only [Option.elim] at e
  rw [KBw.ints_length, clipAt_in h0 (by k_extra "z:o"), clipAt_in (show 0 ≤ hi by k_extra "z:o") h2] at e
  have e2 := bytes_len e
  exact h _ h' t' k F' N' (cut_len2 h0 h1 h2 e2) (by rw [e2]; exact Nat.le_trans (Nat.min_le_right _ _) (Nat.le_trans (Nat.sub_le _ _) hz))
example : True := by
  k_with "subscriptTail" => ((guard_hyp zg380); (k_here; (with_reducible show wpAny _ _ (subscriptTail _ (Expr.Slice _ _ none _) (Value.bytes _ _) (Value.ref _)) _ _ _); k_dflt (refine' row_slice (s := ⟨_, _, _, _, _⟩) ?F ?N ?h0 ?h1 ?h2 ?z ?_; (case F => k_asm); (case N => k_asm); (case h0 => assumption); (case h1 => k_extra "z:o"); (case h2 => k_extra "z:o"); (case z => assumption); k_whole); intro _ _ _ _ _ _ _ _; (try dsimp only); (try k_fold)))
  trivial
theorem appendR {A : Around} {l D lD : Addr} {oD oL : Obj} {zs : List Value} {k : Nat} {pe e own : List (Addr × Obj)} {Q : Value → Shared → Prop} (F : Fr h₀ L s.heap m)
    (N : News h₀ L s.heap ((D, oD) :: (pe ++ (lD, oL) :: ((l, listOf zs.toArray k) :: (e ++ news) ++ own))))
    (hp : Fresh pe ((lD, oL) :: ((l, listOf zs.toArray k) :: (e ++ news) ++ own))) (hD : ∀ q ∈ pe ++ (lD, oL) :: ((l, listOf zs.toArray k) :: (e ++ news) ++ own), @Ne Nat q.1 D)
    (he : ∀ q ∈ e, @Ne Nat q.1 l) (hn : ∀ q ∈ news, @LT.lt Nat _ q.1 l) (ho : OwnOff own (((l, listOf zs.toArray k) :: (e ++ news)).map (·.1))) (hz : zs.length ≤ 1000)
    (h : ∀ h', Fr h₀ L h' m → News h₀ L h' (((l, listOf (zs ++ [Value.ref D]).toArray (k + 1)) :: ((((D, oD) :: (pe ++ e)) ++ news))) ++ own) → OwnOff own (((l, listOf (zs ++ [Value.ref D]).toArray (k + 1)) :: (((D, oD) :: (pe ++ e)) ++ news)).map (·.1)) →
      (∀ q ∈ (D, oD) :: (pe ++ e), @Ne Nat q.1 l) → Q .none { s with heap := h' }) : wpAny (model prog w) A (call (.builtin "list.append") [.ref l, .ref D]) Q E s := by
  have inl : (l, listOf zs.toArray k) ∈ (lD, oL) :: ((l, listOf zs.toArray k) :: (e ++ news) ++ own) := .tail _ (.head _)
  have ine : ∀ q ∈ e, q ∈ (lD, oL) :: ((l, listOf zs.toArray k) :: (e ++ news) ++ own) := fun q hq => .tail _ (.tail _ (List.mem_append_left _ (List.mem_append_left _ hq)))
  have inn : ∀ q ∈ news, q ∈ (lD, oL) :: ((l, listOf zs.toArray k) :: (e ++ news) ++ own) := fun q hq => .tail _ (.tail _ (List.mem_append_left _ (List.mem_append_right _ hq)))
  have ino : ∀ q ∈ own, q ∈ (lD, oL) :: ((l, listOf zs.toArray k) :: (e ++ news) ++ own) := fun q hq => .tail _ (.tail _ (List.mem_append_right _ hq))
  have lo : ∀ q ∈ own, @Ne Nat q.1 l := fun q hq => ho.ne (.head _) q hq
  have split : ∀ q ∈ ((D, oD) :: (pe ++ e)) ++ news, q = (D, oD) ∨ q ∈ pe ∨ q ∈ e ∨ q ∈ news := fun q hq => by
    rcases List.mem_append.mp hq with hq | hq
    · rcases List.mem_cons.mp hq with hq | hq
      · exact .inl hq
      · rcases List.mem_append.mp hq with hq | hq
        · exact .inr (.inl hq)
        · exact .inr (.inr (.inl hq))
    · exact .inr (.inr (.inr hq))
  refine appendW (rest := (((D, oD) :: (pe ++ e)) ++ news) ++ own) F N (.tail _ (List.mem_append_right _ inl)) ?_ ?_ hz fun h' F' N' => h h' F' N' ?_ ?_
  · intro q hq
    rcases List.mem_append.mp hq with hq | hq
    · rcases split q hq with rfl | hq | hq | hq
      · exact .head _
      · exact .tail _ (List.mem_append_left _ hq)
      · exact .tail _ (List.mem_append_right _ (ine q hq))
      · exact .tail _ (List.mem_append_right _ (inn q hq))
    · exact .tail _ (List.mem_append_right _ (ino q hq))
  · intro q hq
    rcases List.mem_append.mp hq with hq | hq
    · rcases split q hq with rfl | hq | hq | hq
      · exact Ne.symm (hD _ (List.mem_append_right _ inl))
      · exact Ne.symm (hp q hq _ inl)
      · exact he q hq
      · exact Nat.ne_of_lt (hn q hq)
    · exact lo q hq
  · intro q hq b hb
    obtain ⟨r, hr, rfl⟩ := List.mem_map.mp hb
    rcases List.mem_cons.mp hr with rfl | hr
    · exact lo q hq
    · rcases split r hr with rfl | hr | hr | hr
      · exact hD q (List.mem_append_right _ (ino q hq))
      · exact hp r hr q (ino q hq)
      · exact ho q hq _ (List.mem_map_of_mem (.tail _ (List.mem_append_left _ hr)))
      · exact ho q hq _ (List.mem_map_of_mem (.tail _ (List.mem_append_right _ hr)))
  · intro q hq
    rcases List.mem_cons.mp hq with rfl | hq
    · exact Ne.symm (hD _ (List.mem_append_right _ inl))
    · rcases List.mem_append.mp hq with hq | hq
      · exact Ne.symm (hp q hq _ inl)
      · exact he q hq
example : True := by
  k_with "call builtin:list.append" => ((guard_hyp zg381); (refine hold ?_))
  trivial
theorem row_snoc {c x : Int} {e pe : List (Addr × Obj)} {zs pz : List Value} {D : Addr} (h : ∀ v ∈ zs, PixRow c x e v) (hl : (pz.length : Int) = x) (hp : ∀ v ∈ pz, Pix c pe v) : ∀ v ∈ zs ++ [.ref D], PixRow c x ((D, LCg.lst pz) :: (pe ++ e)) v := fun v hv => by
  rcases List.mem_append.mp hv with hv | hv
  · exact (h v hv).mono fun q hq => .tail _ (List.mem_append_right _ hq)
  · rw [List.mem_singleton.mp hv]; exact ⟨_, _, rfl, .head _, hl, fun u hu => (hp u hu).mono fun q hq => .tail _ (List.mem_append_left _ hq)⟩
theorem led_fresh {D : Addr} {o : Obj} {pe e l own : List (Addr × Obj)} {p q : Addr × Obj} (h : Fresh pe (p :: (q :: (e ++ l) ++ own))) (h' : Fresh e l) (k : ∀ r ∈ pe ++ p :: (q :: (e ++ l) ++ own), @Ne Nat r.1 D) : Fresh ((D, o) :: (pe ++ e)) l := by
  have zg380 : Gate 380 := trivial
  have zg381 : Gate 381 := trivial
  have s : ∀ r ∈ l, r ∈ p :: (q :: (e ++ l) ++ own) := fun r hr => .tail _ (.tail _ (List.mem_append_left _ (List.mem_append_right _ hr)))
  exact h.append4 h' (fun r hr => k r (List.mem_append_right _ (s r hr))) s
local macro_rules | `(tactic| walk_at "pyIter ref") => `(tactic| (refine hold ?_))
theorem C_srows {fx fd : Addr} {t1 t2 t3 t4 tx ty tb tc tk : Tok} {x y b c : Int} {bs : Array UInt8}
 (B : Below A₀ base outer h₀) (F : Fr h₀ L zh m) (X : (hd.heap_39 w.params).In h₀) (T : Top p loose mean mg mb h₀) (hk : cs.kind = .function) (N : News h₀ L zh news)
 (hf1 : (fx, instObj 670 fd) ∈ news) (hf2 : (fd, latO w t1 t2 t3 t4 x tx y ty b tb c tc) ∈ news)
 (h1 : 1 ≤ x) (h2 : x ≤ 20000) (h3 : 1 ≤ y) (h4 : y ≤ 1000000000) (hb : IsDepth b) (h7 : 1 ≤ c) (h8 : c ≤ 4) (hz : bs.size ≤ 100000)
 (hsm : needZ x y (b * c) ≤ bs.size → x ≤ 9 ∧ y ≤ 4)
 (ret : ∀ D zs e k h' tk', (∀ v ∈ zs, PixRow c x e v) → (zs.length : Int) = y → needZ x y (b * c) ≤ bs.size → x ≤ 9 → y ≤ 4 → Fresh e news → Fr h₀ L h' m → News h₀ L h' ((D, listOf (List.toArray zs) k) :: (e ++ news)) → (∀ q ∈ e ++ news, @Ne Nat q.1 D) → Q (.ref D) ⟨h', zg, zd, tk', zo⟩)
 (err : ∀ e g h' tk', Fr h₀ L g m → g.UpToSlots h' → RaisedN base (envX cn cs L a ccd cl :: outer) e (.ref 71) news h' → (bs.size : Int) < needZ x y (b * c) → E (.ref e) ⟨h', zg, zd, tk', zo⟩) :
 CallAt 580 4800 prog w gd cn cs L a ccd cl outer 693 [.bytes bs tk, .ref fx] Q E ⟨zh, zg, zd, zk, zo⟩ := by
  have zg380 : Gate 380 := trivial
  have zg381 : Gate 381 := trivial
  have hb1 := hb.pos
  have hb16 := hb.le
  replace hsm : Hold (needZ x y (b * c) ≤ bs.size → x ≤ 9 ∧ y ≤ 4) := hsm
  refine wpAny_call ?_
  k_dflt k_enter
  k_extra "z:flat"
  rotate_left
  · exact err _ _ _ _ (by assumption) (by assumption) (RaisedN.sub (by assumption) (by k_sub)) (by assumption)
  rename IsRange _ _ _ _ _ _ _ _ => rgX
  rename Fr _ _ _ _ => lF'
  rename News _ _ _ _ => lN'
  refine Hold.go ?_
  rename ∀ p, p ∈ news → _ => l1
  rename needZ _ _ _ ≤ _ => en9
  obtain ⟨hx9, hy4⟩ := hsm en9
  clear hsm
  have er := need_eq (x := x) (y := y) (b := b) (c := c)
  have hxc0 : 0 ≤ x * c := Int.mul_nonneg (by k_extra "z:o") (by k_extra "z:o")
  have hxc : x * c ≤ 36 := by
    have := Int.mul_le_mul hx9 h8 (by k_extra "z:o") (by decide)
    exact this
  have hS : b * (x * c) ≤ 8 * (x * c * b + 7).fdiv 8 := by
    rw [Int.fdiv_eq_ediv_of_nonneg _ (by decide), Int.mul_comm b]
    exact d8b
  have hS0 : 0 ≤ (x * c * b + 7).fdiv 8 := by
    rw [Int.fdiv_eq_ediv_of_nonneg _ (by decide)]
    have : 0 ≤ x * c * b := Int.mul_nonneg hxc0 (by k_extra "z:o")
    exact d8a this
  refine rng1 (σ := Option Value × Option Value × List (Addr × Obj) × List Value × Nat) (fun m₀ u z => if z = (Str.ofString "row") then u.1 else if z = (Str.ofString "number") then u.2.1 else m₀ z) (fun l u => (l, listOf u.2.2.2.1.toArray u.2.2.2.2) :: (u.2.2.1 ++ news))
    (fun l i u => u.2.2.2.1.length = i ∧ (∀ v ∈ u.2.2.2.1, PixRow c x u.2.2.1 v) ∧ (∀ q ∈ u.2.2.1, @Ne Nat q.1 l) ∧ Fresh u.2.2.1 news) (fun m => (m (Str.ofString "row"), m (Str.ofString "number"), [], [], 0)) (by rfl) rgX (by exact small_one (by k_extra "z:o") (by k_extra "z:o") (by k_extra "z:o") (by k_extra "z:o")) (n := y.toNat) (by rw [rangeSize_nat, Int.sub_zero]) lF' lN' ?_ (fun _ h => h) ⟨rfl, fun _ h => absurd h List.not_mem_nil, fun _ h => absurd h List.not_mem_nil, .nil⟩ ?_ ?_
  · funext z
    by_cases e1 : z = (Str.ofString "row")
    · simp only [e1, if_true]
    · by_cases e2 : z = (Str.ofString "number")
      · simp only [e2, if_true]; split <;> rfl
      · simp only [e1, e2, if_false]
  · rintro i ⟨rv, nv, e, zs, k⟩ t h tk own hi ho ⟨q1, q2, q3, q4⟩ F1 N1
    dsimp only at ho q1 q2 q3 q4 F1 N1
    have hi' : (i : Int) < y := lt_int hi
    have z1 : 0 ≤ (x * c * b + 7).fdiv 8 * (0 + (i : Int)) := Int.mul_nonneg hS0 (by k_extra "z:o")
    have z2 : (x * c * b + 7).fdiv 8 * (0 + (i : Int) + 1) = (x * c * b + 7).fdiv 8 * (0 + (i : Int)) + (x * c * b + 7).fdiv 8 := by rw [Int.mul_add, Int.mul_one]
    have z3 : (x * c * b + 7).fdiv 8 * (0 + (i : Int) + 1) ≤ bs.size := by
      refine Int.le_trans (Int.mul_le_mul_of_nonneg_left (show 0 + (i : Int) + 1 ≤ y by k_extra "z:o") hS0) ?_
      rw [er]; exact en9
    try k_fold
    k_extra "z:flat"
    refine Hold.go ?_
    rename_i pD pz pe hh9 tk9 rp pl rf lF lN rn
    refine appendR lF lN rf rn q3 l1 ho (by k_extra "z:o") ?_
    intro h3 F3 N3 ho3 q3'
    k_extra "z:flat"
    all_goals (
      refine' TurnE.of (_, _, (pD, LCg.lst pz) :: (pe ++ e), zs ++ [.ref pD], k + 1) (frEq (by k_asm) (two_map _ _ _ _ _ _ _)) ?zN ?zS1 ?zS2 ho3 ⟨?y1, ?y2, q3', ?y4⟩
      (case zN => k_asm)
      (case zS1 => exact fun q hq => List.mem_append_left _ hq)
      (case zS2 => exact fun q hq => List.mem_append_right _ hq)
      (case y1 => (rw [List.length_append, q1]; rfl))
      (case y2 => exact row_snoc q2 pl rp)
      (case y4 => exact led_fresh rf q4 rn))
  · rintro ⟨rv, nv, e, zs, k⟩ h tk ⟨q1, q2, q3, q4⟩ F1 N1
    dsimp only at q1 q2 q3 q4 F1 N1
    try k_fold
    k_extra "z:flat"
    all_goals (
      refine' ret _ zs e _ _ _ q2 (by k_extra "z:o") en9 hx9 hy4 q4 ?zF2 ?zN2 ?zO2
      (case zF2 => k_asm)
      (case zN2 => k_asm)
      (case zO2 => exact fun q hq => by first | exact (List.mem_append.mp hq).elim (fun z => q3 q z) (fun z => Nat.ne_of_lt (l1 q z))))
theorem hold_size {z : Int} {q : Prop} {r bs : Array UInt8} (h : Hold (z ≤ bs.size → q)) (e : r.size = bs.size) : z ≤ r.size → q := by rw [e]; exact h
end
example : True := by first | walk1 | trivial
example : True := by
  k_with "call ref" => (k_here; (with_reducible show wpAny _ _ (call (Value.ref 693) _) _ _ _); k_dflt (refine' up (D := 580) (U := 4800) (C_srows ?B ?F ?X ?T ?hk ?N ?f1 ?f2 ?h1 ?h2 ?h3 ?h4 ?hb ?h7 ?h8 ?hz ?hsm ?_ ?_) ?d ?u; (case N => k_asm); (case f1 => k_mem); (case f2 => k_mem); (case h1 => k_extra "z:o"); (case h2 => k_extra "z:o"); (case h3 => k_extra "z:o"); (case h4 => k_extra "z:o"); (case hb => assumption); (case h7 => k_extra "z:o"); (case h8 => k_extra "z:o"); (case hz => k_extra "z:o"); (case hsm => first | assumption | exact Hold.out (by assumption) | exact hold_size (by assumption) (by assumption)); (case B => k_asm); (case F => k_asm); (case X => k_asm); (case T => k_asm); (case hk => first | assumption | exact rfl); (case d => exact Nat.le_of_ble_eq_true rfl); (case u => exact Nat.le_of_ble_eq_true rfl); k_whole); intro _ _ _ _ _ _ _ _ _ _ _ _ _ _ _; (try dsimp only); (try k_fold))
  trivial
section
theorem SpaceSaid.plain {news : List (Addr × Obj)} {v : Value} {c : Int} {ix : Bool} (h : SpaceSaid w news v c ix) : Plain news v := by
  cases h with
  | dev a b e => exact .name a b
  | indexed a b c d e f g => exact .lst a
/-- what an image's head says -/
structure HeadOk (prog : Program) (w : World) (news : List (Addr × Obj)) (sx : Addr) (kvs : List (Str × Value)) (x y b : Int) (va : Addr) (c : Int) (ix : Bool) : Prop where
  hw : WholeSaid prog w news sx kvs (Str.ofString "Width") x
  hh : WholeSaid prog w news sx kvs (Str.ofString "Height") y
  x0 : 1 ≤ x
  x1 : x ≤ 20000
  y0 : 1 ≤ y
  y1 : y ≤ 1000000000
  hb : IsDepth b
  hl : DepthSaid kvs b
  hi : valueAt kvs (Str.ofString "ImageMask") = none
  hc : valueAt kvs (Str.ofString "ColorSpace") = some (.ref va)
  hv : SpaceSaid w news (.ref va) c ix
theorem HeadOk.mono {news news' : List (Addr × Obj)} {x y b : Int} {va : Addr} {c : Int} {ix : Bool} (H : HeadOk prog w news sx kvs x y b va c ix) (hs : ∀ q ∈ news, q ∈ news') : HeadOk prog w news' sx kvs x y b va c ix :=
  ⟨H.hw.mono hs, H.hh.mono hs, H.x0, H.x1, H.y0, H.y1, H.hb, H.hl, H.hi, H.hc, H.hv.mono hs⟩
theorem C_ispace {rs va : Addr} {ro : Obj} {c : Int} {ix : Bool}
 (B : Below A₀ base outer h₀) (F : Fr h₀ L zh m) (X : (hd.heap_39 w.params).In h₀) (T : Top p loose mean mg mb h₀) (hk : cs.kind = .function) (N : News h₀ L zh news)
 (m1 : (sx, instObj 424 sd) ∈ news) (m2 : (sd, shelfO w tb tr st1 st2 sn) ∈ news) (m3 : (ha, ho) ∈ news) (lo : (ha == sysModules) = false) (hd1 : ho.IsDictOf (strKind prog w) kvs)
 (m4 : (rs, ro) ∈ news) (ro1 : (rs == sysModules) = false) (ro2 : ro.IsDictOf (strKind prog w) [])
 (hi : valueAt kvs (Str.ofString "ImageMask") = none) (hc : valueAt kvs (Str.ofString "ColorSpace") = some (.ref va)) (hv : SpaceSaid w news (.ref va) c ix)
 (ret : ∀ sp spd t1 t2 t3 t4 t5 t6 t7 nm tn tc v3 v4 v5 v6 v7 h' tk', (nm == Str.ofString "Pattern") = false → (nm == Str.ofString "Indexed") = ix → Fr h₀ L h' m → News h₀ L h' ((sp, instObj 453 spd) :: (spd, spaceO w t1 t2 t3 t4 t5 t6 t7 nm tn c tc v3 v4 v5 v6 v7) :: news) → (∀ q ∈ news, q.1 < spd) → @LT.lt Nat _ spd sp → Q (.ref sp) ⟨h', zg, zd, tk', zo⟩) :
 CallAt 612 5150 prog w gd cn cs L a ccd cl outer 779 [.ref sx, .ref rs, .ref ha, .ref 832] Q E ⟨zh, zg, zd, zk, zo⟩ := by
  have hp := hv.plain
  refine wpAny_call ?_
  k_dflt k_enter
  k_extra "z:flat"
  all_goals (
    refine' ret _ _ _ _ _ _ _ _ _ _ _ _ _ _ _ _ _ _ _ ?q1 ?q2 ?F ?N ?l1 ?l2
    (case F => k_asm)
    (case N => refine' cb_drop ?N1 ?S1; (case N1 => k_asm); (case S1 => k_sub))
    (case q1 => assumption)
    (case q2 => assumption)
    (case l1 => first | assumption | (refine' allLt_mem ?_; ktr_rel))
    (case l2 => first | assumption | (show @LT.lt Nat _ _ _; k_extra "z:l")))
end
example : True := by first | walk1 | trivial
example : True := by
  k_with "call ref" => (k_here; (with_reducible show wpAny _ _ (call (Value.ref 779) _) _ _ _); k_dflt (refine' up (D := 612) (U := 5150) (C_ispace ?B ?F ?X ?T ?hk ?N ?m1 ?m2 ?m3 ?lo ?hd1 ?m4 ?ro1 ?ro2 ?hi ?hc ?hv ?_) ?d ?u; (case N => k_asm); (case m1 => k_mem); (case m2 => k_mem); (case m3 => k_mem); (case lo => assumption); (case hd1 => assumption); (case m4 => k_mem); (case ro1 => assumption); (case ro2 => assumption); (case hi => assumption); (case hc => assumption); (case hv => first | assumption | exact SpaceSaid.mono (by assumption) (by k_sub)); (case B => k_asm); (case F => k_asm); (case X => k_asm); (case T => k_asm); (case hk => first | assumption | exact rfl); (case d => exact Nat.le_of_ble_eq_true rfl); (case u => exact Nat.le_of_ble_eq_true rfl); k_whole); intro _ _ _ _ _ _ _ _ _ _ _ _ _ _ _ _ _ _ _ _ _ _ _ l9 l8; (try k_lt l9); (try k_lt2 l8); revert l9 l8; intro _ _; (try dsimp only); (try k_fold))
  trivial
section
theorem C_iframe {rs va : Addr} {ro : Obj} {x y b c : Int} {ix : Bool}
 (B : Below A₀ base outer h₀) (F : Fr h₀ L zh m) (X : (hd.heap_39 w.params).In h₀) (T : Top p loose mean mg mb h₀) (hk : cs.kind = .function) (N : News h₀ L zh news)
 (m1 : (sx, instObj 424 sd) ∈ news) (m2 : (sd, shelfO w tb tr st1 st2 sn) ∈ news) (m3 : (ha, ho) ∈ news) (lo : (ha == sysModules) = false) (hd1 : ho.IsDictOf (strKind prog w) kvs)
 (m4 : (rs, ro) ∈ news) (ro1 : (rs == sysModules) = false) (ro2 : ro.IsDictOf (strKind prog w) [])
 (H : HeadOk prog w news sx kvs x y b va c ix)
 (ret : ∀ tp fx fd t1 t2 t3 t4 tx ty t' tc n h' tk', Fr h₀ L h' m → News h₀ L h' ((tp, tupO [.ref fx, .bool ix] n) :: (fx, instObj 670 fd) :: (fd, latO w t1 t2 t3 t4 x tx y ty b t' c tc) :: news) → (∀ q ∈ news, q.1 < fd) → @LT.lt Nat _ fd fx → @LT.lt Nat _ fx tp → Q (.ref tp) ⟨h', zg, zd, tk', zo⟩) :
 CallAt 604 5050 prog w gd cn cs L a ccd cl outer 786 [.ref sx, .ref rs, .ref ha, .ref 832] Q E ⟨zh, zg, zd, zk, zo⟩ := by
  obtain ⟨hw, hh, x0, x1, y0, y1, hb, hl, hi, hc, hv⟩ := H
  refine wpAny_call ?_
  k_dflt k_enter
  k_extra "z:flat"
  all_goals (
    rename (_ == Str.ofString "Indexed") = ix => ni
    subst ni
    refine' ret _ _ _ _ _ _ _ _ _ _ _ _ _ _ ?F ?N ?l1 ?l2 ?l3
    (case F => k_asm)
    (case N => refine' cb_drop ?N1 ?S1; (case N1 => k_asm); (case S1 => k_sub))
    (case l1 => (refine' allLt_mem ?_; ktr_rel))
    (case l2 => first | assumption | (show @LT.lt Nat _ _ _; k_extra "z:l"))
    (case l3 => (show @LT.lt Nat _ _ _; k_extra "z:l")))
end
example : True := by first | walk1 | trivial
example : True := by
  k_with "call ref" => (k_here; (with_reducible show wpAny _ _ (call (Value.ref 786) _) _ _ _); k_dflt (refine' up (D := 604) (U := 5050) (C_iframe ?B ?F ?X ?T ?hk ?N ?m1 ?m2 ?m3 ?lo ?hd1 ?m4 ?ro1 ?ro2 ?H ?_) ?d ?u; (case N => k_asm); (case m1 => k_mem); (case m2 => k_mem); (case m3 => k_mem); (case lo => assumption); (case hd1 => assumption); (case m4 => k_mem); (case ro1 => assumption); (case ro2 => assumption); (case H => first | assumption | exact HeadOk.mono (by assumption) (by k_sub)); (case B => k_asm); (case F => k_asm); (case X => k_asm); (case T => k_asm); (case hk => first | assumption | exact rfl); (case d => exact Nat.le_of_ble_eq_true rfl); (case u => exact Nat.le_of_ble_eq_true rfl); k_whole); intro _ _ _ _ _ _ _ _ _ _ _ _ _ _ _ _ l9 l8 l7; (try k_lt l9); (try k_lt2 l8); (try k_lt2 l7); revert l9 l8 l7; intro _ _ _; (try dsimp only); (try k_fold))
  trivial
section
theorem mid_drop {p a1 a2 a3 : Addr × Obj} {e l : List (Addr × Obj)} : ∀ q ∈ p :: (e ++ l), q ∈ p :: (e ++ a1 :: a2 :: a3 :: l) := fun q hq => by
  rcases List.mem_cons.mp hq with rfl | hq
  · exact .head _
  · rcases List.mem_append.mp hq with hq | hq
    · exact .tail _ (List.mem_append_left _ hq)
    · exact .tail _ (List.mem_append_right _ (.tail _ (.tail _ (.tail _ hq))))
theorem mid_mem {a1 a2 a3 : Addr × Obj} {e l : List (Addr × Obj)} : ∀ q ∈ e ++ l, q ∈ e ++ a1 :: a2 :: a3 :: l := fun q hq => by
  rcases List.mem_append.mp hq with hq | hq
  · exact List.mem_append_left _ hq
  · exact List.mem_append_right _ (.tail _ (.tail _ (.tail _ hq)))
theorem mem3' (a1 a2 a3 : Addr × Obj) {l : List (Addr × Obj)} : ∀ q ∈ l, q ∈ a1 :: a2 :: a3 :: l := fun q hq => .tail _ (.tail _ (.tail _ hq))
theorem C_irows {rs va xa dx : Addr} {ro : Obj} {x y b c : Int} {ix : Bool} {t1 t2 t3 : Tok} {bs : Array UInt8}
 (B : Below A₀ base outer h₀) (F : Fr h₀ L zh m) (X : (hd.heap_39 w.params).In h₀) (T : Top p loose mean mg mb h₀) (hk : cs.kind = .function) (N : News h₀ L zh news)
 (m1 : (sx, instObj 424 sd) ∈ news) (m2 : (sd, shelfO w tb tr st1 st2 sn) ∈ news) (m3 : (ha, ho) ∈ news) (lo : (ha == sysModules) = false) (hd1 : ho.IsDictOf (strKind prog w) kvs)
 (m4 : (rs, ro) ∈ news) (ro1 : (rs == sysModules) = false) (ro2 : ro.IsDictOf (strKind prog w) [])
 (m5 : (xa, instObj 280 dx) ∈ news) (m6 : (dx, streamD w t1 t2 ha bs t3) ∈ news) (hz : bs.size ≤ 100000)
 (H : HeadOk prog w news sx kvs x y b va c ix) (hc0 : 1 ≤ c) (hc1 : c ≤ 4) (hsm : needZ x y (b * c) ≤ bs.size → x ≤ 9 ∧ y ≤ 4)
 (ret : ∀ D zs e k h' tk', (∀ v ∈ zs, PixRow c x e v) → (zs.length : Int) = y → needZ x y (b * c) ≤ bs.size → x ≤ 9 → y ≤ 4 → Fr h₀ L h' m → News h₀ L h' ((D, listOf (List.toArray zs) k) :: (e ++ news)) → (∀ q ∈ e ++ news, @Ne Nat q.1 D) → Fresh e news → Q (.ref D) ⟨h', zg, zd, tk', zo⟩)
 (err : ∀ e g h' tk', Fr h₀ L g m → g.UpToSlots h' → RaisedN base (envX cn cs L a ccd cl :: outer) e (.ref 71) news h' → (bs.size : Int) < needZ x y (b * c) → E (.ref e) ⟨h', zg, zd, tk', zo⟩) :
 CallAt 570 4700 prog w gd cn cs L a ccd cl outer 793 [.ref sx, .ref rs, .ref xa, .ref 832] Q E ⟨zh, zg, zd, zk, zo⟩ := by
  have hx0 := H.x0
  have hx1 := H.x1
  have hy0 := H.y0
  have hy1 := H.y1
  have hb := H.hb
  replace hsm : Hold (needZ x y (b * c) ≤ bs.size → x ≤ 9 ∧ y ≤ 4) := hsm
  refine wpAny_call ?_
  k_dflt k_enter
  k_extra "z:flat"
  · refine' ret _ _ _ _ _ _ ?zp ?zl ?zn ?zx ?zy ?zF ?zN ?zo ?zf
    (case zF => k_asm)
    (case zN => refine' cb_drop ?zN1 ?zS1; (case zN1 => k_asm); (case zS1 => exact mid_drop))
    (case zp => assumption)
    (case zl => assumption)
    (case zn => (rename needZ _ _ _ ≤ _ => en9; rename Array.size _ = Array.size bs => oz9; rw [← oz9]; exact en9))
    (case zx => k_extra "z:o")
    (case zy => k_extra "z:o")
    (case zo => (rename ∀ q, q ∈ _ ++ _ → _ => rn9; exact fun q hq => rn9 q (mid_mem q hq)))
    (case zf => (rename Fresh _ _ => rf9; exact rf9.mono (mem3' _ _ _)))
  · refine' err _ _ _ _ ?eF ?eU ?eR ?eL
    (case eF => assumption)
    (case eU => assumption)
    (case eR => exact RaisedN.sub (by assumption) (by k_sub))
    (case eL => k_extra "z:o")
end
example : True := by first | walk1 | trivial
example : True := by
  k_with "call ref" => (k_here; (with_reducible show wpAny _ _ (call (Value.ref 793) _) _ _ _); k_dflt (refine' up (D := 570) (U := 4700) (C_irows ?B ?F ?X ?T ?hk ?N ?m1 ?m2 ?m3 ?lo ?hd1 ?m4 ?ro1 ?ro2 ?m5 ?m6 ?hz ?H ?hc0 ?hc1 ?hsm ?_ ?_) ?d ?u; (case N => k_asm); (case m1 => k_mem); (case m2 => k_mem); (case m4 => k_mem); (case ro1 => assumption); (case ro2 => assumption); (case m5 => k_mem); (case m6 => k_mem); (case m3 => k_mem); (case lo => assumption); (case hd1 => assumption); (case hz => assumption); (case H => first | assumption | exact HeadOk.mono (by assumption) (by k_sub)); (case hc0 => assumption); (case hc1 => assumption); (case hsm => first | assumption | exact Hold.out (by assumption)); (case B => k_asm); (case F => k_asm); (case X => k_asm); (case T => k_asm); (case hk => first | assumption | exact rfl); (case d => exact Nat.le_of_ble_eq_true rfl); (case u => exact Nat.le_of_ble_eq_true rfl); k_whole); intro _ _ _ _ _ _ _ _ _ _ _ _ _ _ _; (try dsimp only); (try k_fold))
  trivial
section
theorem leave_onC {M : Model} {A : Around} {s' : Shared} {base g g₂ : Heap} {L a e : Addr} {m : Str → Option Value} {name : Str} {scope : Scope} {cd : Value} {cells : List (Str × Addr)} {Q : Unit → Shared → Prop} {news : List (Addr × Obj)} {cls : Value} (K : Below A base outer g) (F : Fr g L g₂ m) (R : RaisedN base (envX name scope L a cd cells :: outer) e cls news s'.heap) (hsm : g₂.UpToSlots s'.heap)
    (hQ : ∀ h', RaisedN base outer e cls news h' → g.UpToSlots h' → Q () { s' with heap := h' }) :
    wpAny M (A.deeper (envX name scope L a cd cells)) (leaving (envX name scope L a cd cells) (.ref e)) Q E s' := by
  obtain ⟨B, a0, hB, hl, hfl⟩ := R
  exact wpAny_leaves_onW (Around.frames_deeper K.stack) rfl hfl fun h' x1 x2 => hQ h' ⟨B, a0, hB, hl, x1⟩ ((Heap.UpToSlots.of_keeps F.keep).trans (hsm.trans x2))
end
example : True := by first | walk1 | trivial
section
section
example : True := by
  k_with "eval ListComp" => ((guard_hyp zg430); (k_here; k_dflt (refine LCg.ListComp_U (F₀ := by k_asm) (by with_unfolding_all rfl) (by decide) (by rfl) (by decide) (by rfl) ?_)))
  trivial
example : True := by
  k_with "CompSrc" => ((guard_hyp zg430); (refine hold ?_))
  trivial
theorem dd_drop {p c d r : Addr × Obj} {l : List (Addr × Obj)} : ∀ q ∈ p :: r :: l, q ∈ p :: c :: d :: ([r] ++ l) := fun q hq => by
  rcases List.mem_cons.mp hq with rfl | hq
  · exact .head _
  · exact .tail _ (.tail _ (.tail _ hq))
theorem C_defdec {fx fd : Addr} {t1 t2 t3 t4 tx ty tb' tc : Tok} {x y b : Int}
 (B : Below A₀ base outer h₀) (F : Fr h₀ L zh m) (X : (hd.heap_39 w.params).In h₀) (T : Top p loose mean mg mb h₀) (hk : cs.kind = .function) (N : News h₀ L zh news)
 (f1 : (fx, instObj 670 fd) ∈ news) (f2 : (fd, latO w t1 t2 t3 t4 x tx y ty b tb' 1 tc) ∈ news)
 (ret : ∀ D r t0 t1 h' tk', Fr h₀ L h' m → News h₀ L h' ((D, LCg.lst [.ref r]) :: (r, tupO [.int 0 t0, .int 1 t1] 0) :: news) → (∀ q ∈ news, @Ne Nat q.1 r) → @Ne Nat r D → (∀ q ∈ news, @Ne Nat q.1 D) → Q (.ref D) ⟨h', zg, zd, tk', zo⟩) :
 CallAt 660 5600 prog w gd cn cs L a ccd cl outer 717 [.ref fx, .bool false] Q E ⟨zh, zg, zd, zk, zo⟩ := by
  have zg430 : Gate 430 := trivial
  refine wpAny_call ?_
  k_dflt k_enter
  rename_i g' L' h' tk' FG' X' T' o1' o2' d1' d2' B' l1 N' F'
  k_extra "z:flat"
  refine Hold.go ?_
  rename IsRange _ _ _ _ _ _ _ _ => rgX
  rename Fr _ _ _ _ => lF
  rename News _ _ _ _ => lN
  refine LCg.CompSrc.range (n := 1) (by rfl) lF lN rgX (by decide) (by decide) (Nat.le_of_ble_eq_true rfl) ?_
  intro g9
  refine comp_rest (σ := List (Addr × Obj)) (fun e => (L' + 1 + 1, o1') :: (L' + 1, o2') :: (e ++ news)) (fun i ys e => (i = 0 → ys = [] ∧ e = []) ∧ (i = 1 → ∃ r t0 t1, ys = [Value.ref r] ∧ e = [(r, tupO [.int 0 t0, .int 1 t1] 0)] ∧ ∀ q ∈ news, @Ne Nat q.1 r)) [] ⟨fun _ => ⟨rfl, rfl⟩, fun h => absurd h (by decide)⟩ (fun _ => trivial) ?_ ?_
  · rintro i e ys v I oI C oC D m2 h tk E' hi ⟨q1, q2⟩ ⟨t9, rfl⟩ hC hx F2 N2 off ne
    obtain rfl : i = 0 := by k_extra "z:o"
    obtain ⟨rfl, rfl⟩ := q1 rfl
    have a1 := off (L' + 1 + 1, o1') (.head _)
    have a2 := off (L' + 1, o2') (.tail _ (.head _))
    dsimp only at a1 a2
    simp only [List.nil_append] at N2 off
    dsimp only
    k_extra "z:flat"
    rename Addr => rT
    rename Fr _ _ _ _ => lF3
    rename News _ _ _ _ => lN3
    have al : AllLt rT news := by ktr_rel
    refine CompT.of [(rT, _)] lF3 lN3 (by k_sub) ?_ ⟨fun h => absurd h (by k_extra "z:o"), fun _ => ⟨rT, _, _, rfl, rfl, fun q hq => Nat.ne_of_lt (allLt_mem al q hq)⟩⟩
    refine List.forall_mem_cons.mpr ⟨a1, List.forall_mem_cons.mpr ⟨a2, List.forall_mem_cons.mpr ⟨⟨by k_ne, by k_ne, by k_ne⟩, fun q hq => off q (.tail _ (.tail _ hq))⟩⟩⟩
  · rintro ys e ⟨q1, q2⟩
    obtain ⟨r, t0, t1, rfl, rfl, hr⟩ := q2 rfl
    refine fun D h tk F2 N2 off => ?_
    have off' := off1_mem off
    k_extra "z:flat"
    exact ret D r t0 t1 _ _ (by k_asm) (cb_drop (by k_asm) dd_drop) hr (off' _ (.tail _ (.tail _ (.head _)))) fun q hq => off' q (.tail _ (.tail _ (.tail _ hq)))
end
example : True := by
  k_with "call ref" => ((guard_hyp zg431); (k_here; (with_reducible show wpAny _ _ (call (Value.ref 717) _) _ _ _); k_dflt (refine' up (D := 660) (U := 5600) (C_defdec ?B ?F ?X ?T ?hk ?N ?f1 ?f2 ?_) ?d ?u; (case N => k_asm); (case f1 => k_mem); (case f2 => k_mem); (case B => k_asm); (case F => k_asm); (case X => k_asm); (case T => k_asm); (case hk => first | assumption | exact rfl); (case d => exact Nat.le_of_ble_eq_true rfl); (case u => exact Nat.le_of_ble_eq_true rfl); k_whole); intro ddD9 ddr9 ddt9 ddu9 h9 tk9 F9 N9 dd1 dd2 dd3; (try dsimp only); (try k_fold)))
  trivial
theorem C_decode {fx fd : Addr} {t1 t2 t3 t4 tx ty tb' tc : Tok} {x y b : Int}
 (B : Below A₀ base outer h₀) (F : Fr h₀ L zh m) (X : (hd.heap_39 w.params).In h₀) (T : Top p loose mean mg mb h₀) (hk : cs.kind = .function) (N : News h₀ L zh news)
 (m1 : (sx, instObj 424 sd) ∈ news) (m2 : (sd, shelfO w tb tr st1 st2 sn) ∈ news) (m3 : (ha, ho) ∈ news) (lo : (ha == sysModules) = false) (hd1 : ho.IsDictOf (strKind prog w) kvs) (hl : valueAt kvs (Str.ofString "Decode") = none)
 (f1 : (fx, instObj 670 fd) ∈ news) (f2 : (fd, latO w t1 t2 t3 t4 x tx y ty b tb' 1 tc) ∈ news)
 (ret : ∀ D r t0 t1 k n h' tk', Fr h₀ L h' m → News h₀ L h' ((D, listOf [.ref r].toArray k) :: (r, tupO [.int 0 t0, .int 1 t1] n) :: news) → (∀ q ∈ news, @Ne Nat q.1 r) → @Ne Nat r D → (∀ q ∈ news, @Ne Nat q.1 D) → Q (.ref D) ⟨h', zg, zd, tk', zo⟩) :
 CallAt 650 5500 prog w gd cn cs L a ccd cl outer 772 [.ref sx, .ref ha, .ref fx, .bool false] Q E ⟨zh, zg, zd, zk, zo⟩ := by
  have zg430 : Gate 430 := trivial
  have zg431 : Gate 431 := trivial
  refine wpAny_call ?_
  k_dflt k_enter
  k_extra "z:flat"
  all_goals (
    refine' ret _ _ _ _ _ _ _ _ ?F ?N ?l1 ?l2 ?l3
    (case F => k_asm)
    (case N => refine' cb_drop ?N1 ?S1; (case N1 => k_asm); (case S1 => k_sub))
    (case l1 => exact fun q hq => dd1 q (.tail _ (.tail _ hq)))
    (case l2 => assumption)
    (case l3 => exact fun q hq => dd3 q (.tail _ (.tail _ hq))))
end
example : True := by first | walk1 | trivial
example : True := by
  k_with "call ref" => (k_here; (with_reducible show wpAny _ _ (call (Value.ref 772) _) _ _ _); k_dflt (refine' up (D := 650) (U := 5500) (C_decode ?B ?F ?X ?T ?hk ?N ?m1 ?m2 ?m3 ?lo ?hd1 ?hl ?f1 ?f2 ?_) ?d ?u; (case N => k_asm); (case m1 => k_mem); (case m2 => k_mem); (case m3 => k_mem); (case lo => assumption); (case hd1 => assumption); (case hl => assumption); (case f1 => k_mem); (case f2 => k_mem); (case B => k_asm); (case F => k_asm); (case X => k_asm); (case T => k_asm); (case hk => first | assumption | exact rfl); (case d => exact Nat.le_of_ble_eq_true rfl); (case u => exact Nat.le_of_ble_eq_true rfl); k_whole); intro _ _ _ _ _ _ _ _ _ _ dl1 dl2 dl3; (try simp only [List.forall_mem_cons] at dl1 dl3); (try dsimp only at dl1 dl2 dl3); revert dl1 dl2 dl3; intro _ _ _; (try dsimp only); (try k_fold))
  trivial
section
theorem whl1 {A : Around} {env : Env} {test : Expr} {body : List Stmt} {pos : Pos} {Q : Flow → Shared → Prop} {m₀ : Str → Option Value} {σ : Type}
    (fm : (Str → Option Value) → σ → Str → Option Value) (fact : σ → Prop) (μ : σ → Nat) (c₀ : (Str → Option Value) → σ)
    (F : Fr h₀ L s.heap m₀) (N : News h₀ L s.heap news) (e0 : fm m₀ (c₀ m₀) = m₀) (f0 : fact (c₀ m₀))
    (turn : ∀ c h tk, fact c → Fr h₀ L h (fm m₀ c) → News h₀ L h news →
      wpAny (model prog w) A (isTrue test env (eval test env)) (fun b s₂ => if b = true then wpAny (model prog w) A (execs body env) (fun f s₃ => match f with | .ret v => Q (.ret v) s₃ | .brk => Q .next s₃ | _ => WhlE h₀ L s (fm m₀) (fun _ => news) fact μ c s₃) E s₂ else Q .next s₂) E { s with heap := h, toks := tk })
    (hE : PassesOwn (model prog w) A env E := by passes_own) : wpAny (model prog w) A (exec (.While test body [] pos) env) Q E s :=
  whl fm (fun _ => news) fact μ (c₀ m₀) F N e0 (fun _ h => h) f0 turn hE
/-- the two numbers of the divisor's loop -/
structure GcdOk (vb : Int) (c : Option Value × Option Value) (f sd : Int) : Prop where
  f1 : ∃ t, c.1 = some (.int f t)
  s1 : ∃ t, c.2 = some (.int sd t)
  f0 : 0 ≤ f
  f2 : f < 16777216
  s0 : 0 ≤ sd
  s2 : sd ≤ vb
  e : sd = 0 → 0 < f ∧ f ≤ vb
noncomputable def gcdM (c : Option Value × Option Value) : Nat := match c.2 with | some (.int sd _) => sd.toNat | _ => 0
theorem gcd_turn {f sd : Int} (h0 : 0 ≤ f) (s0 : 0 < sd) : 0 ≤ f.fmod sd ∧ f.fmod sd < sd := ⟨Int.fmod_nonneg_of_pos _ s0, Int.fmod_lt_of_pos _ s0⟩
theorem two_map0 (x y : Str) (m : Str → Option Value) : (fun z => if z = x then m x else if z = y then m y else m z) = m := by
  funext z
  split
  · rename_i e; rw [e]
  · split
    · rename_i e; rw [e]
    · rfl

example : True := by
  k_with "exec While Compare" => ((guard_hyp zg440); (refine hold ?_))
  trivial
theorem C_gcd {va vb : Int} {ta tb : Tok}
 (B : Below A₀ base outer h₀) (F : Fr h₀ L zh m) (X : (hd.heap_39 w.params).In h₀) (T : Top p loose mean mg mb h₀) (hk : cs.kind = .function) (N : News h₀ L zh news)
 (ha : 0 ≤ va) (ha1 : va < 16777216) (hb : 0 < vb) (hb1 : vb < 16777216)
 (ret : ∀ g t h' tk', 0 < g → g ≤ vb → Fr h₀ L h' m → News h₀ L h' news → Q (.int g t) ⟨h', zg, zd, tk', zo⟩) :
 CallAt 640 5400 prog w gd cn cs L a ccd cl outer 220 [.int va ta, .int vb tb] Q E ⟨zh, zg, zd, zk, zo⟩ := by
  have zg440 : Gate 440 := trivial
  refine wpAny_call ?_
  k_dflt k_enter
  k_extra "z:flat"
  rename Fr _ _ _ _ => lF'
  rename News _ _ _ _ => lN'
  refine Hold.go ?_
  refine whl1 (σ := Option Value × Option Value) (fun m₀ c z => if z = (Str.ofString "first") then c.1 else if z = (Str.ofString "second") then c.2 else m₀ z) (fun c => ∃ f sd, GcdOk vb c f sd) gcdM (fun m => (m (Str.ofString "first"), m (Str.ofString "second"))) lF' lN' (two_map0 _ _ _) ?_ ?_
  · have ea : (if va < 0 then -va else va) = va := if_neg (Int.not_lt.mpr ha)
    have eb : (if vb < 0 then -vb else vb) = vb := if_neg (Int.not_lt.mpr (Int.le_of_lt hb))
    refine ⟨_, _, ⟨⟨_, rfl⟩, ⟨_, rfl⟩, ?_, ?_, ?_, ?_, ?_⟩⟩ <;> (try rw [ea]) <;> (try rw [eb]) <;> first | assumption | exact Int.le_of_lt hb | exact Int.le_refl _ | exact fun e => absurd e (Int.ne_of_gt hb) | omega
  · rintro ⟨c1, c2⟩ h tk ⟨f, sd, ⟨tf, q1⟩, ⟨ts, q2⟩, q3, q4, q5, q6, q7⟩ F1 N1
    dsimp only at q1 q2
    subst q1 q2
    dsimp only at F1 N1
    try k_fold
    k_extra "z:flat"
    · refine' WhlE.of (some (.int sd _), some (.int (f.fmod sd) _)) (frEq (by k_asm) (two_map _ _ _ _ _ _ _)) (by k_asm) (fun q hq => .tail _ hq) ?g1 ?g2
      case g1 =>
        have z := gcd_turn (sd := sd) q3 (by k_extra "z:o")
        exact ⟨_, _, ⟨⟨_, rfl⟩, ⟨_, rfl⟩, q5, by k_extra "z:o", z.1, by k_extra "z:o", fun _ => ⟨by k_extra "z:o", q6⟩⟩⟩
      case g2 =>
        have z := gcd_turn (sd := sd) q3 (by k_extra "z:o")
        show (f.fmod sd).toNat < sd.toNat
        exact tnlt z
    · have z := q7 (by k_extra "z:o")
      exact ret _ _ _ _ z.1 z.2 (by k_asm) (by k_asm)
end
example : True := by first | walk1 | trivial
example : True := by
  k_with "call ref" => (k_here; (with_reducible show wpAny _ _ (call (Value.ref 220) _) _ _ _); k_dflt (refine' up (D := 640) (U := 5400) (C_gcd ?B ?F ?X ?T ?hk ?N ?ha ?ha1 ?hb ?hb1 ?_) ?d ?u; (case N => k_asm); (case ha => k_extra "z:o"); (case ha1 => k_extra "z:o"); (case hb => k_extra "z:o"); (case hb1 => k_extra "z:o"); (case B => k_asm); (case F => k_asm); (case X => k_asm); (case T => k_asm); (case hk => first | assumption | exact rfl); (case d => exact Nat.le_of_ble_eq_true rfl); (case u => exact Nat.le_of_ble_eq_true rfl); k_whole); intro _ _ _ _ _ _ _ _; (try dsimp only); (try k_fold))
  trivial
section
/-- a Decimal's own dict -/
noncomputable abbrev decO (w : World) (t1 t2 : Tok) (top : Int) (tt : Tok) (pl : Int) (tp : Tok) : Obj := dictOf [entO w "top" t1 (.int top tt), entO w "places" t2 (.int pl tp)] 2
theorem C_decimal {vt : Int} {tt : Tok}
 (B : Below A₀ base outer h₀) (F : Fr h₀ L zh m) (X : (hd.heap_39 w.params).In h₀) (T : Top p loose mean mg mb h₀) (hk : cs.kind = .function) (N : News h₀ L zh news)
 (ret : ∀ da dd t1 t2 t3 t4 h' tk', Fr h₀ L h' m → News h₀ L h' ((da, instObj 167 dd) :: (dd, decO w t1 t2 vt t3 0 t4) :: news) → (∀ q ∈ news, q.1 < dd) → @LT.lt Nat _ dd da → Q (.ref da) ⟨h', zg, zd, tk', zo⟩) :
 CallAt 670 5700 prog w gd cn cs L a ccd cl outer 199 [.int vt tt] Q E ⟨zh, zg, zd, zk, zo⟩ := by
  refine wpAny_call ?_
  k_dflt k_enter
  k_extra "z:flat"
  all_goals (
    rename _ ≤ (0 : Int) => ka
    rename min 0 0 ≤ _ => kb
    obtain rfl := Int.le_antisymm ka kb
    simp only [accDown_start] at *
    refine' ret _ _ _ _ _ _ _ _ ?F ?N ?l1 ?l2
    (case F => k_asm)
    (case N => k_asm)
    (case l1 => assumption)
    (case l2 => (show @LT.lt Nat _ _ _; k_extra "z:l")))
theorem C_dec2 {vt : Int} {tt tp : Tok}
 (B : Below A₀ base outer h₀) (F : Fr h₀ L zh m) (X : (hd.heap_39 w.params).In h₀) (T : Top p loose mean mg mb h₀) (hk : cs.kind = .function) (N : News h₀ L zh news)
 (ret : ∀ da h' tk', Fr h₀ L h' m → News h₀ L h' news → Q (.ref da) ⟨h', zg, zd, tk', zo⟩) :
 CallAt 670 5700 prog w gd cn cs L a ccd cl outer 167 [.int vt tt, .int 2 tp] Q E ⟨zh, zg, zd, zk, zo⟩ := by
  unfold CallAt
  k_extra "z:flat"
  all_goals exact ret _ _ _ (by k_asm) (by refine' cb_drop ?N1 ?S1; (case N1 => k_asm); (case S1 => k_sub))
end
example : True := by first | walk1 | trivial
example : True := by
  k_with "call ref" => (k_here; (with_reducible show wpAny _ _ (call (Value.ref 199) _) _ _ _); k_dflt (refine' up (D := 670) (U := 5700) (C_decimal ?B ?F ?X ?T ?hk ?N  ?_) ?d ?u; (case N => k_asm); (case B => k_asm); (case F => k_asm); (case X => k_asm); (case T => k_asm); (case hk => first | assumption | exact rfl); (case d => exact Nat.le_of_ble_eq_true rfl); (case u => exact Nat.le_of_ble_eq_true rfl); k_whole); intro _ _ _ _ _ _ _ _ _ _ l9 l8; (try k_lt l9); (try k_lt2 l8); revert l9 l8; intro _ _; (try dsimp only); (try k_fold))
  trivial
example : True := by
  k_with "call ref" => (k_here; (with_reducible show wpAny _ _ (call (Value.ref 167) _) _ _ _); k_dflt (refine' up (D := 670) (U := 5700) (C_dec2 ?B ?F ?X ?T ?hk ?N  ?_) ?d ?u; (case N => k_asm); (case B => k_asm); (case F => k_asm); (case X => k_asm); (case T => k_asm); (case hk => first | assumption | exact rfl); (case d => exact Nat.le_of_ble_eq_true rfl); (case u => exact Nat.le_of_ble_eq_true rfl); k_whole); intro _ _ _ _ _; (try dsimp only); (try k_fold))
  trivial
section
theorem C_dec0 {vt : Int} {tt tp : Tok}
 (B : Below A₀ base outer h₀) (F : Fr h₀ L zh m) (X : (hd.heap_39 w.params).In h₀) (T : Top p loose mean mg mb h₀) (hk : cs.kind = .function) (N : News h₀ L zh news)
 (ret : ∀ da h' tk', Fr h₀ L h' m → News h₀ L h' news → Q (.ref da) ⟨h', zg, zd, tk', zo⟩) :
 CallAt 670 5700 prog w gd cn cs L a ccd cl outer 167 [.int vt tt, .int 0 tp] Q E ⟨zh, zg, zd, zk, zo⟩ := by
  unfold CallAt
  k_extra "z:flat"
  all_goals exact ret _ _ _ (by k_asm) (by refine' cb_drop ?N1 ?S1; (case N1 => k_asm); (case S1 => k_sub))
end
example : True := by first | walk1 | trivial
example : True := by
  k_with "call ref" => (k_here; (with_reducible show wpAny _ _ (call (Value.ref 167) _) _ _ _); k_dflt (refine' up (D := 670) (U := 5700) (C_dec0 ?B ?F ?X ?T ?hk ?N  ?_) ?d ?u; (case N => k_asm); (case B => k_asm); (case F => k_asm); (case X => k_asm); (case T => k_asm); (case hk => first | assumption | exact rfl); (case d => exact Nat.le_of_ble_eq_true rfl); (case u => exact Nat.le_of_ble_eq_true rfl); k_whole); intro _ _ _ _ _; (try dsimp only); (try k_fold))
  trivial
section
section
variable {A : Around} {x y n : Int} {t u : Tok}
theorem abs_nn {Q : Value → Shared → Prop} (h0 : 0 ≤ x) (h : ∀ u tk, Q (.int x u) { s with toks := tk }) : wpAny (model prog w) A (call (.builtin "abs") [.int x t]) Q E s :=
  call_abs_int fun u tk => by rw [if_neg (by k_extra "z:o")]; exact h u tk
theorem fdiv_nn {Q : Value → Shared → Prop} (h0 : 0 ≤ x) (h1 : 0 < y) (h2 : y < 1000000000) (h : ∀ r u tk, 0 ≤ r → r ≤ x → (y ≤ x → 1 ≤ r) → Q (.int r u) { s with toks := tk }) : wpAny (model prog w) A (binaryOp .FloorDiv (.int x t) (.int y u)) Q E s := by
  refine floordiv_int (by k_extra "z:o") (h _ _ _ (Int.fdiv_nonneg h0 (by k_extra "z:o")) ?_ ?_) (.inl (PyProof.noPylong_small (by k_extra "z:o")))
  · rw [Int.fdiv_eq_ediv_of_nonneg _ (by k_extra "z:o")]; exact Int.ediv_le_self _ h0
  · intro hyx
    rw [Int.fdiv_eq_ediv_of_nonneg _ (by k_extra "z:o")]
    exact (Int.le_ediv_iff_mul_le h1).mpr (by k_extra "z:o")
theorem pow_0 {Q : Value → Shared → Prop} (h0 : n.toNat = 0) (hn : 0 ≤ n) (ha : x.natAbs < 2 ^ 64) (h : ∀ u tk, Q (.int 1 u) { s with toks := tk }) : wpAny (model prog w) A (binaryOp .Pow (.int x t) (.int n u)) Q E s := by
  refine pow_int_small hn (by k_extra "z:o") ha ?_
  rw [h0, Int.pow_zero]; exact h _ _
theorem pow_2 {Q : Value → Shared → Prop} (h : ∀ u tk, Q (.int 100 u) { s with toks := tk }) : wpAny (model prog w) A (binaryOp .Pow (.int 10 t) (.int 2 u)) Q E s := pow_int_small (by decide) (by decide) (by decide) (h _ _)
theorem mul_1 {Q : Value → Shared → Prop} (h : ∀ u tk, Q (.int x u) { s with toks := tk }) : wpAny (model prog w) A (binaryOp .Mult (.int x t) (.int 1 u)) Q E s :=
  mul_int (by rw [Int.mul_one]; exact h _ _) (.of_right (by decide))
end
end
example : True := by first | walk1 | trivial
example : True := by
  k_with "call builtin:abs" => (k_here; (with_reducible show wpAny _ _ (call (Value.builtin _) [Value.int _ _]) _ _ _); (refine abs_nn ?h0 ?_; (case h0 => k_extra "z:o")); intro _ _; (try dsimp only); (try k_fold))
  trivial
example : True := by
  k_with "binaryOp FloorDiv int int" => (k_here; (refine fdiv_nn ?h0 ?h1 ?h2 ?_; (case h0 => k_extra "z:o"); (case h1 => k_extra "z:o"); (case h2 => k_extra "z:o")); intro _ _ _ _ _ _; (try dsimp only); (try k_fold))
  trivial
example : True := by
  k_with "binaryOp Pow int int" => (k_here; k_dflt (first | (with_reducible refine pow_2 ?_) | ((with_reducible refine pow_0 ?h0 ?h1 ?h2 ?_); (case h0 => rfl); (case h1 => first | decide | omega); (case h2 => decide))); intro _ _; (try dsimp only); (try k_fold))
  trivial
example : True := by
  k_with "binaryOp Mult int int" => (k_here; (with_reducible refine mul_1 ?_); intro _ _; (try dsimp only); (try k_fold))
  trivial
section
theorem C_scale {va vb : Int} {ta tb : Tok}
 (B : Below A₀ base outer h₀) (F : Fr h₀ L zh m) (X : (hd.heap_39 w.params).In h₀) (T : Top p loose mean mg mb h₀) (hk : cs.kind = .function) (N : News h₀ L zh news)
 (a0 : 0 ≤ va) (a1 : va < 16777216) (b0 : 0 ≤ vb) (b1 : vb < 16777216)
 (ret : ∀ t n t1 t2 t3 h' tk', Fr h₀ L h' m → News h₀ L h' ((t, tupO [.int va t1, .int vb t2, .int 0 t3] n) :: news) → (∀ q ∈ news, q.1 < t) → Q (.ref t) ⟨h', zg, zd, tk', zo⟩) :
 CallAt 660 5600 prog w gd cn cs L a ccd cl outer 206 [.int va ta, .int vb tb] Q E ⟨zh, zg, zd, zk, zo⟩ := by
  refine wpAny_call ?_
  k_dflt k_enter
  k_extra "z:flat"
  all_goals (
    simp only [gt_iff_lt, Int.lt_irrefl, if_false, Int.sub_zero, Int.toNat_zero, Int.pow_zero, Int.mul_one] at *
    refine' ret _ _ _ _ _ _ _ ?F ?N ?l1
    (case F => k_asm)
    (case N => refine' cb_drop ?N1 ?S1; (case N1 => k_asm); (case S1 => k_sub))
    (case l1 => (refine' allLt_mem ?_; ktr_rel)))
end
example : True := by first | walk1 | trivial
example : True := by
  k_with "call ref" => (k_here; (with_reducible show wpAny _ _ (call (Value.ref 206) _) _ _ _); k_dflt (refine' up (D := 660) (U := 5600) (C_scale ?B ?F ?X ?T ?hk ?N ?a0 ?a1 ?b0 ?b1 ?_) ?d ?u; (case N => k_asm); (case a0 => k_extra "z:o"); (case a1 => k_extra "z:o"); (case b0 => k_extra "z:o"); (case b1 => k_extra "z:o"); (case B => k_asm); (case F => k_asm); (case X => k_asm); (case T => k_asm); (case hk => first | assumption | exact rfl); (case d => exact Nat.le_of_ble_eq_true rfl); (case u => exact Nat.le_of_ble_eq_true rfl); k_whole); intro _ _ _ _ _ _ _ _ _ l9; (try k_lt l9); revert l9; intro _; (try dsimp only); (try k_fold))
  trivial
section
theorem C_rq {va vb : Int} {ta tb : Tok}
 (B : Below A₀ base outer h₀) (F : Fr h₀ L zh m) (X : (hd.heap_39 w.params).In h₀) (T : Top p loose mean mg mb h₀) (hk : cs.kind = .function) (N : News h₀ L zh news)
 (a0 : 0 ≤ va) (a1 : va < 16777216000) (b0 : 0 < vb) (b1 : vb < 16777216)
 (ret : ∀ r t h' tk', Fr h₀ L h' m → News h₀ L h' news → 0 ≤ r → r < 100000000000 → Q (.int r t) ⟨h', zg, zd, tk', zo⟩) :
 CallAt 660 5600 prog w gd cn cs L a ccd cl outer 192 [.int va ta, .int vb tb] Q E ⟨zh, zg, zd, zk, zo⟩ := by
  have hb0 : vb ≠ 0 := by k_extra "z:o"
  refine wpAny_call ?_
  k_dflt k_enter
  k_extra "z:flat"
  all_goals exact ret _ _ _ _ (by k_asm) (by k_asm) (by k_extra "z:o") (by k_extra "z:o")
end
example : True := by first | walk1 | trivial
example : True := by
  k_with "call ref" => (k_here; (with_reducible show wpAny _ _ (call (Value.ref 192) _) _ _ _); k_dflt (refine' up (D := 660) (U := 5600) (C_rq ?B ?F ?X ?T ?hk ?N ?a0 ?a1 ?b0 ?b1 ?_) ?d ?u; (case N => k_asm); (case a0 => k_extra "z:o"); (case a1 => k_extra "z:o"); (case b0 => k_extra "z:o"); (case b1 => k_extra "z:o"); (case B => k_asm); (case F => k_asm); (case X => k_asm); (case T => k_asm); (case hk => first | assumption | exact rfl); (case d => exact Nat.le_of_ble_eq_true rfl); (case u => exact Nat.le_of_ble_eq_true rfl); k_whole); intro _ _ _ _ _ _ _ _; (try dsimp only); (try k_fold))
  trivial
section
theorem C_over {va vb : Int} {ta tb tc : Tok}
 (B : Below A₀ base outer h₀) (F : Fr h₀ L zh m) (X : (hd.heap_39 w.params).In h₀) (T : Top p loose mean mg mb h₀) (hk : cs.kind = .function) (N : News h₀ L zh news)
 (a0 : 0 ≤ va) (a1 : va < 16777216) (b0 : 0 < vb) (b1 : vb < 16777216)
 (ret : ∀ da h' tk', Fr h₀ L h' m → News h₀ L h' news → Q (.ref da) ⟨h', zg, zd, tk', zo⟩) :
 CallAt 650 5500 prog w gd cn cs L a ccd cl outer 213 [.int va ta, .int vb tb, .int 2 tc] Q E ⟨zh, zg, zd, zk, zo⟩ := by
  have hb0 : vb ≠ 0 := by k_extra "z:o"
  refine wpAny_call ?_
  k_dflt k_enter
  k_extra "z:flat"
  all_goals (
    refine' ret _ _ _ ?F ?N
    (case F => k_asm)
    (case N => refine' cb_drop ?N1 ?S1; (case N1 => k_asm); (case S1 => k_sub)))
end
example : True := by first | walk1 | trivial
example : True := by
  k_with "call ref" => (k_here; (with_reducible show wpAny _ _ (call (Value.ref 213) _) _ _ _); k_dflt (refine' up (D := 650) (U := 5500) (C_over ?B ?F ?X ?T ?hk ?N ?a0 ?a1 ?b0 ?b1 ?_) ?d ?u; (case N => k_asm); (case a0 => k_extra "z:o"); (case a1 => k_extra "z:o"); (case b0 => k_extra "z:o"); (case b1 => k_extra "z:o"); (case B => k_asm); (case F => k_asm); (case X => k_asm); (case T => k_asm); (case hk => first | assumption | exact rfl); (case d => exact Nat.le_of_ble_eq_true rfl); (case u => exact Nat.le_of_ble_eq_true rfl); k_whole); intro _ _ _ _ _; (try dsimp only); (try k_fold))
  trivial
section
theorem depth_pow {b : Int} (h : IsDepth b) : 1 ≤ (1 : Int) * 2 ^ b.toNat - 1 ∧ (1 : Int) * 2 ^ b.toNat - 1 < 65536 := by
  rcases h with rfl | rfl | rfl | rfl | rfl <;> decide
theorem C_dval {va b : Int} {ta tb tc td : Tok}
 (B : Below A₀ base outer h₀) (F : Fr h₀ L zh m) (X : (hd.heap_39 w.params).In h₀) (T : Top p loose mean mg mb h₀) (hk : cs.kind = .function) (N : News h₀ L zh news)
 (a0 : 0 ≤ va) (a1 : va < 16777216) (hb : IsDepth b)
 (ret : ∀ t n p q tp tq h' tk', 0 ≤ p → p < 16777216 → 0 < q → q < 16777216 → Fr h₀ L h' m → News h₀ L h' ((t, tupO [.int p tp, .int q tq] n) :: news) → (∀ q ∈ news, q.1 < t) → Q (.ref t) ⟨h', zg, zd, tk', zo⟩) :
 CallAt 632 5320 prog w gd cn cs L a ccd cl outer 705 [.int va ta, .int b tb, .int 0 tc, .int 1 td] Q E ⟨zh, zg, zd, zk, zo⟩ := by
  have hb1 := hb.pos
  have hb16 := hb.le
  obtain ⟨p1, p2⟩ := depth_pow hb
  refine wpAny_call ?_
  k_dflt k_enter
  k_extra "z:flat"
  all_goals (
    refine' ret _ _ _ _ _ _ _ _ ?p0 ?p1 ?q0 ?q1 ?F ?N ?l1
    (case F => k_asm)
    (case N => refine' cb_drop ?N1 ?S1; (case N1 => k_asm); (case S1 => k_sub))
    (case l1 => (refine' allLt_mem ?_; ktr_rel))
    (case p0 => k_extra "z:o")
    (case p1 => k_extra "z:o")
    (case q0 => k_extra "z:o")
    (case q1 => k_extra "z:o"))
end
example : True := by first | walk1 | trivial
example : True := by
  k_with "call ref" => (k_here; (with_reducible show wpAny _ _ (call (Value.ref 705) _) _ _ _); k_dflt (refine' up (D := 632) (U := 5320) (C_dval ?B ?F ?X ?T ?hk ?N ?a0 ?a1 ?hb ?_) ?d ?u; (case N => k_asm); (case a0 => k_extra "z:o"); (case a1 => k_extra "z:o"); (case hb => assumption); (case B => k_asm); (case F => k_asm); (case X => k_asm); (case T => k_asm); (case hk => first | assumption | exact rfl); (case d => exact Nat.le_of_ble_eq_true rfl); (case u => exact Nat.le_of_ble_eq_true rfl); k_whole); intro _ _ _ _ _ _ _ _ _ _ _ _ _ _ l9; (try k_lt l9); revert l9; intro _; (try dsimp only); (try k_fold))
  trivial
section
theorem C_dnum {va b : Int} {ta tb tc td te : Tok}
 (B : Below A₀ base outer h₀) (F : Fr h₀ L zh m) (X : (hd.heap_39 w.params).In h₀) (T : Top p loose mean mg mb h₀) (hk : cs.kind = .function) (N : News h₀ L zh news)
 (a0 : 0 ≤ va) (a1 : va < 16777216) (hb : IsDepth b)
 (ret : ∀ da h' tk', Fr h₀ L h' m → News h₀ L h' news → Q (.ref da) ⟨h', zg, zd, tk', zo⟩) :
 CallAt 625 5250 prog w gd cn cs L a ccd cl outer 712 [.int va ta, .int b tb, .int 0 tc, .int 1 td, .int 2 te] Q E ⟨zh, zg, zd, zk, zo⟩ := by
  refine wpAny_call ?_
  k_dflt k_enter
  k_extra "z:flat"
  all_goals (
    refine' ret _ _ _ ?F ?N
    (case F => k_asm)
    (case N => refine' cb_drop ?N1 ?S1; (case N1 => k_asm); (case S1 => k_sub)))
end
example : True := by first | walk1 | trivial
example : True := by
  k_with "call ref" => (k_here; (with_reducible show wpAny _ _ (call (Value.ref 712) _) _ _ _); k_dflt (refine' up (D := 625) (U := 5250) (C_dnum ?B ?F ?X ?T ?hk ?N ?a0 ?a1 ?hb ?_) ?d ?u; (case N => k_asm); (case a0 => k_extra "z:o"); (case a1 => k_extra "z:o"); (case hb => assumption); (case B => k_asm); (case F => k_asm); (case X => k_asm); (case T => k_asm); (case hk => first | assumption | exact rfl); (case d => exact Nat.le_of_ble_eq_true rfl); (case u => exact Nat.le_of_ble_eq_true rfl); k_whole); intro _ _ _ _ _; (try dsimp only); (try k_fold))
  trivial
section
example : True := by
  k_with "eval ListComp" => ((guard_hyp zg530); (k_here; lcp_look; k_dflt (refine zip_comp (F₀ := by k_asm) (by with_unfolding_all rfl) (by decide) (by rfl) (by decide) (by rfl) (by rfl) (by decide) ?_)))
  trivial
theorem zip_src {A : Around} {env : Env} {elt : Expr} {x y : Str} {scope : Scope} {cl : List (Str × Addr)} {Q : Value → Shared → Prop} {l1 l2 : Addr} {xs ys : List Value} {n1 n2 : Nat} (hh : A.handled = none) (F : Fr h₀ L s.heap m) (N : News h₀ L s.heap news)
    (m1 : (l1, ({ cls := .type "tuple", data := .seq xs.toArray n1 } : Obj)) ∈ news) (m2 : (l2, listOf ys.toArray n2) ∈ news) (hle : xs.length ≤ ys.length) (hsz : xs.length ≤ 1000)
    (turn : ∀ (i : Nat) zs u v (own : List (Addr × Obj)) oC C D m₂ h tk (E' : Value → Shared → Prop), xs[i]? = some u ∧ ys[i]? = some v → LCg.NsObj oC m₂ → m₂ x = some u → m₂ y = some v → Fr h₀ L h m →
      News h₀ L h ((C, oC) :: (D, LCg.lst zs) :: (own ++ news)) →
      wpAny (model prog w) A (eval elt (compEnvC scope cl C env)) (fun r s₃ => ZipTurn h₀ L m s ((C, oC) :: (D, LCg.lst zs) :: (own ++ news)) s₃) E' { s with heap := h, toks := tk })
    (fin : ∀ D zs h tk, zs.length = xs.length → Fr h₀ L h m → News h₀ L h ((D, LCg.lst zs) :: news) → (∀ p ∈ news, @Ne Nat p.1 D) → Q (.ref D) { s with heap := h, toks := tk }) :
    wpAny (model prog w) A (call (.type "zip") [.ref l1, .ref l2]) (ZipSrc prog w A h₀ L m env elt x y scope cl Q) E s := by
  have a1 := N _ m1
  have a2 := N _ m2
  refine call_zipT (xs := xs.toArray) (ys := ys.toArray) ⟨_, a1.1, rfl, n1, rfl⟩ ⟨_, a2.1, rfl, n2, rfl⟩ fun h' hz hTI hTO hi1 hi2 hs hk => ?_
  exact ⟨s.heap.objs.size, l1, l2, xs, ys, n1, n2, news, rfl, { hh := hh, F := F.keeps hk, N := N.grown hk, hlt := fun p hp => Heap.lt_size (N p hp).1, hLn := F.ns.lt, hnew := fun b hb => ktu_new F hb, hsz := hs, hm1 := m1, hm2 := m2, hle := hle, hsl := Nat.le_trans hsz (by rw [sizeLine_eq]; decide), hz := hz, hTI := hTI, hTO := hTO, hi1 := hi1, hi2 := hi2, turn := fun i zs u v own oC C D m₂ h tk E' a3 a5 a6 a7 a8 a9 => wpAny_mono (turn i zs u v own oC C D m₂ h tk E' a3 a5 a6 a7 a8 a9) (fun r s₃ q => ⟨q.ex⟩) fun _ _ e => e, fin := fin }⟩
example : True := by
  k_with "call type:zip" => ((guard_hyp zg531); (refine hold ?_))
  trivial
theorem C_pnum {px pl r : Addr} {k b : Int} {kt tb tp t0 t1 : Tok} {n n2 : Nat}
 (B : Below A₀ base outer h₀) (F : Fr h₀ L zh m) (X : (hd.heap_39 w.params).In h₀) (T : Top p loose mean mg mb h₀) (hk : cs.kind = .function) (N : News h₀ L zh news)
 (m1 : (px, tupO [.int k kt] 0) ∈ news) (m2 : (pl, listOf [.ref r].toArray n) ∈ news) (m3 : (r, tupO [.int 0 t0, .int 1 t1] n2) ∈ news) (k0 : 0 ≤ k) (k1 : k < 16777216) (hb : IsDepth b)
 (ret : ∀ D z h' tk', Fr h₀ L h' m → News h₀ L h' ((D, LCg.lst [z]) :: news) → (∀ p ∈ news, @Ne Nat p.1 D) → Q (.ref D) ⟨h', zg, zd, tk', zo⟩) :
 CallAt 615 5170 prog w gd cn cs L a ccd cl outer 722 [.ref px, .int b tb, .ref pl, .int 2 tp] Q E ⟨zh, zg, zd, zk, zo⟩ := by
  have zg530 : Gate 530 := trivial
  have zg531 : Gate 531 := trivial
  refine wpAny_call ?_
  k_dflt k_enter
  rename_i g' L' h' tk' FG' X' T' o1' o2' d1' d2' B' l1 N' F'
  have N' := nadd (nadd (nadd N' (mem2 m1)) (mem3 m2)) (mem4 m3)
  k_extra "z:flat"
  refine Hold.go ?_
  rename Fr _ _ _ _ => lF
  rename News _ _ _ _ => lN
  refine zip_src (xs := [.int k kt]) (ys := [.ref r]) (by rfl) lF lN (.tail _ (.tail _ (.head _))) (.tail _ (.head _)) (Nat.le_refl _) (Nat.le_of_ble_eq_true rfl) ?_ ?_
  · rintro (_ | i) zs u v own oC C D m2 h tk E' ⟨hu, hv⟩ hC hx hy F2 N2
    · obtain rfl := Option.some.inj hu
      obtain rfl := Option.some.inj hv
      try dsimp only at N2
      k_extra "z:flat"
      all_goals (
        refine' ZipTurn.of ?zF ?zN
        (case zF => k_asm)
        (case zN => k_asm))
    · cases hu
  · rintro D zs h tk hl F2 N2 off
    obtain ⟨z, rfl⟩ := List.length_eq_one_iff.mp (show zs.length = 1 from hl)
    k_extra "z:flat"
    all_goals (
      refine' ret D z _ _ ?zF2 ?zN2 ?zO2
      (case zF2 => k_asm)
      (case zN2 => refine' cb_drop ?zN3 ?zS3; (case zN3 => k_asm); (case zS3 => intro q hq; rcases List.mem_cons.mp hq with rfl | hq; exact .head _; exact .tail _ (mem5 hq)))
      (case zO2 => exact fun q hq => off q (mem5 hq)))
end
example : True := by first | walk1 | trivial
example : True := by
  k_with "call ref" => (k_here; (with_reducible show wpAny _ _ (call (Value.ref 722) _) _ _ _); k_dflt (refine' up (D := 615) (U := 5170) (C_pnum ?B ?F ?X ?T ?hk ?N ?m1 ?m2 ?m3 ?k0 ?k1 ?hb ?_) ?d ?u; (case N => k_asm); (case m1 => k_mem); (case m2 => k_mem); (case m3 => k_mem); (case k0 => assumption); (case k1 => assumption); (case hb => assumption); (case B => k_asm); (case F => k_asm); (case X => k_asm); (case T => k_asm); (case hk => first | assumption | exact rfl); (case d => exact Nat.le_of_ble_eq_true rfl); (case u => exact Nat.le_of_ble_eq_true rfl); k_whole); intro _ _ _ _ _ _ _; (try dsimp only); (try k_fold))
  trivial
section
open PySem.Calls PySem.Spec
/-- a row of n values -/
noncomputable def Rowf (P : Value → Prop) (n : Int) (news : List (Addr × Obj)) (v : Value) : Prop := ∃ a us, v = .ref a ∧ (a, LCg.lst us) ∈ news ∧ (us.length : Int) = n ∧ ∀ u ∈ us, P u
theorem Rowf.mono {P : Value → Prop} {n : Int} {l l' : List (Addr × Obj)} {v : Value} (h : Rowf P n l v) (hs : ∀ q ∈ l, q ∈ l') : Rowf P n l' v := by
  obtain ⟨a, us, e, hm, r⟩ := h
  exact ⟨a, us, e, hs _ hm, r⟩
theorem item_lstM {A : Around} {value slice : PySem.Expr} {t : Addr} {xs : List Value} {n : Nat} {k : Int} {u : Tok} {nw : List (Addr × Obj)} {Q : Value → Shared → Prop} (N : News h₀ L s.heap nw) (hm : (t, listOf xs.toArray n) ∈ nw) (h0 : 0 ≤ k) (hk : k < xs.length) (hz : xs.length ≤ 1000) (h : ∀ x, x ∈ xs → Q x s)
    (hs : subscripted slice false (.ref t) (.int k u) = operate [.ref t, .int k u] (getItem (.ref t) (.int k u)) := by with_unfolding_all rfl) :
    wpAny (model prog w) A (subscriptTail value slice (.ref t) (.int k u)) Q E s := by
  have ht : s.heap.IsList t xs.toArray := ⟨_, (N _ hm).1, rfl, n, rfl⟩
  have hl : k.toNat < xs.length := by k_extra "z:o"
  exact tail_any ht.typeIs slot_list_getitem.lookup (wpAny_getItem_list (x := xs[k.toNat]) ht h0 (by k_extra "z:o") (by simp [hl]) (h _ (List.getElem_mem hl))) hs
theorem mul_nn {A : Around} {x y : Int} {t u : Tok} {Q : Value → Shared → Prop} (x0 : 0 ≤ x) (x1 : x < 1000000000) (h : ∀ u tk, Q (.int (x * y) u) { s with toks := tk }) : wpAny (model prog w) A (binaryOp .Mult (.int x t) (.int y u)) Q E s :=
  mul_int (h _ _) (.of_left (by have := (intBits_le_iff (m := 64) (x := x)).mpr (by k_extra "z:o"); omega))
theorem fdiv_in {A : Around} {x n y : Int} {t u : Tok} {Q : Value → Shared → Prop} (x0 : 0 ≤ x) (x1 : x < y) (n0 : 0 < n) (y1 : y < 1000000000) (h : ∀ r u tk, 0 ≤ r → r < n → Q (.int r u) { s with toks := tk }) : wpAny (model prog w) A (binaryOp .FloorDiv (.int (x * n) t) (.int y u)) Q E s := by
  have hxn : 0 ≤ x * n := Int.mul_nonneg x0 (by k_extra "z:o")
  refine floordiv_int (by k_extra "z:o") (h _ _ _ (Int.fdiv_nonneg hxn (by k_extra "z:o")) ?_) (.inl (PyProof.noPylong_small (by k_extra "z:o")))
  rw [Int.fdiv_eq_ediv_of_nonneg _ (by k_extra "z:o")]
  refine Int.ediv_lt_of_lt_mul (by k_extra "z:o") ?_
  have h1 := Int.mul_le_mul_of_nonneg_right (show x + 1 ≤ y by k_extra "z:o") (show 0 ≤ n by k_extra "z:o")
  rw [Int.add_mul, Int.one_mul, Int.mul_comm y n] at h1
  omega
example : True := by
  k_with "z:mem" => ((guard_hyp zg540); (first | exact List.Mem.head _ | assumption | (refine List.mem_cons_of_mem _ ?_; k_mem) | (refine List.mem_append_left _ ?_; k_mem) | (refine List.mem_append_right _ ?_; k_mem)))
  trivial
example : True := by
  k_with "call type:range" => ((guard_hyp zg540); (k_here; (with_unfolding_all refine' range1_rows ?zF ?zN ?_); (case zF => k_asm); (case zN => k_asm); intro _ _ _ _ _ _ _ _ _))
  trivial
example : True := by
  k_with "binaryOp Mult int int" => ((guard_hyp zg540); (k_here; (with_reducible refine mul_nn ?x0 ?x1 ?_); (case x0 => k_extra "z:o"); (case x1 => k_extra "z:o"); intro _ _; (try dsimp only); (try k_fold)))
  trivial
example : True := by
  k_with "binaryOp FloorDiv int int" => ((guard_hyp zg540); (k_here; (with_reducible refine fdiv_in ?x0 ?x1 ?x2 ?x3 ?_); (case x0 => k_extra "z:o"); (case x1 => k_extra "z:o"); (case x2 => k_extra "z:o"); (case x3 => k_extra "z:o"); intro _ _ _ _ _; (try dsimp only); (try k_fold)))
  trivial
example : True := by
  k_with "subscriptTail Name BinOp ref int" => ((guard_hyp zg540); (k_here; (with_reducible show wpAny _ _ (subscriptTail _ _ (Value.ref _) (Value.int _ _)) _ _ _); k_dflt (refine' item_lstM ?iN ?im ?ih0 ?ihk ?ihz ?_; (case iN => k_asm); (case im => k_mem); (case ih0 => assumption); (case ihk => assumption); (case ihz => k_extra "z:o")); intro ix9 ihx9; (try (k_dflt (obtain ⟨ra9, rus9, rfl, rm9, rl9, rp9⟩ := hrows _ ihx9))); (try dsimp only); (try k_fold)))
  trivial
example : True := by
  k_with "call builtin:len" => ((guard_hyp zg540); (k_here; (with_reducible show wpAny _ _ (call (Value.builtin _) [Value.ref _]) _ _ _); k_dflt (refine' len_led ?N ?m ?z ?_; (case N => k_asm); (case m => k_mem); (case z => k_extra "z:o")); (try dsimp only); (try k_fold)))
  trivial
example : True := by
  k_with "eval ListComp" => ((guard_hyp zg540); (k_here; lcf_look; k_dflt (refine LCg.ListComp_U (F₀ := by k_asm) (by with_unfolding_all rfl) (by decide) (by rfl) (by decide) (by rfl) ?_)))
  trivial
example : True := by
  k_with "CompSrc" => ((guard_hyp zg540); (refine hold ?_))
  trivial
theorem one_map0 (x : Str) (m : Str → Option Value) : (fun z => if z = x then m x else m z) = m := by
  have zg540 : Gate 540 := trivial
  funext z
  split
  · rename_i e; rw [e]
  · rfl
theorem one_map (x : Str) (a b : Option Value) (m : Str → Option Value) : (fun z => if z = x then a else if z = x then b else m z) = fun z => if z = x then a else m z := by
  have zg540 : Gate 540 := trivial
  funext z
  split <;> rfl
theorem turn_led {h : Heap} {l c1 c2 : Addr} {ol oc oc0 o2 : Obj} {e own : List (Addr × Obj)} (N : News h₀ L h (((l, ol) :: (c1, oc) :: (c2, o2) :: (e ++ news)) ++ own))
    (ho : OwnOff own (((l, ol) :: (c1, oc) :: (c2, o2) :: (e ++ news)).map (·.1))) (q3 : ∀ q ∈ e, @Ne Nat q.1 l) (q4 : Fresh e ((c1, oc0) :: (c2, o2) :: news)) (nl : ∀ q ∈ news, @Ne Nat q.1 l) (n1 : ∀ q ∈ news, @Ne Nat q.1 c1) (n2 : ∀ q ∈ news, @Ne Nat q.1 c2) :
    ∃ R, R = (e ++ news) ++ own ∧ News h₀ L h ((l, ol) :: (c1, oc) :: (c2, o2) :: R) ∧ (∀ q ∈ R, q.1 ≠ l) ∧ (∀ q ∈ R, q.1 ≠ c1) ∧ (∀ q ∈ R, q.1 ≠ c2) ∧ (∀ q ∈ news, q ∈ R) := by
  have split : ∀ {x : Addr}, (∀ q ∈ e, @Ne Nat q.1 x) → (∀ q ∈ news, @Ne Nat q.1 x) → (∀ q ∈ own, @Ne Nat q.1 x) → ∀ q ∈ (e ++ news) ++ own, q.1 ≠ x := fun a b c q hq => by
    rcases List.mem_append.mp hq with hq | hq
    · rcases List.mem_append.mp hq with hq | hq
      · exact a q hq
      · exact b q hq
    · exact c q hq
  refine ⟨_, rfl, N, split q3 nl (fun q hq => ho.ne (.head _) q hq), split (fun q hq => Ne.symm (q4 q hq _ (.head _))) n1 (fun q hq => ho.ne (.tail _ (.head _)) q hq), split (fun q hq => Ne.symm (q4 q hq _ (.tail _ (.head _)))) n2 (fun q hq => ho.ne (.tail _ (.tail _ (.head _))) q hq), fun q hq => List.mem_append_left _ (List.mem_append_right _ hq)⟩
theorem forall_snoc {P : Value → Prop} {ys : List Value} {y : Value} (h : ∀ u ∈ ys, P u) (hy : P y) : ∀ u ∈ ys ++ [y], P u := fun u hu => by
  rcases List.mem_append.mp hu with hu | hu
  · exact h u hu
  · rw [List.mem_singleton.mp hu]; exact hy
theorem rowf_snoc {P : Value → Prop} {n : Int} {e : List (Addr × Obj)} {zs ys : List Value} {D : Addr} (h : ∀ v ∈ zs, Rowf P n e v) (hl : (ys.length : Int) = n) (hp : ∀ u ∈ ys, P u) : ∀ v ∈ zs ++ [.ref D], Rowf P n ((D, LCg.lst ys) :: e) v := fun v hv => by
  rcases List.mem_append.mp hv with hv | hv
  · exact (h v hv).mono fun q hq => .tail _ hq
  · rw [List.mem_singleton.mp hv]; exact ⟨_, _, rfl, .head _, hl, hp⟩
structure TurnEnd (R own e : List (Addr × Obj)) (news : List (Addr × Obj)) (l c1 c2 D : Addr) (oD oc0 o2 : Obj) : Prop where
  sub : ∀ {ol oc : Obj}, ∀ p ∈ (l, ol) :: (c1, oc) :: (c2, o2) :: (((D, oD) :: e) ++ news), p ∈ (D, oD) :: (l, ol) :: (c1, oc) :: (c2, o2) :: R
  sown : ∀ {ol oc : Obj}, ∀ p ∈ own, p ∈ (D, oD) :: (l, ol) :: (c1, oc) :: (c2, o2) :: R
  off : ∀ {ol oc : Obj}, OwnOff own (((l, ol) :: (c1, oc) :: (c2, o2) :: (((D, oD) :: e) ++ news)).map (·.1))
  nel : ∀ q ∈ (D, oD) :: e, @Ne Nat q.1 l
  fr : Fresh ((D, oD) :: e) ((c1, oc0) :: (c2, o2) :: news)
theorem turn_end {R own e : List (Addr × Obj)} {l c1 c2 D : Addr} {ol oD oc oc0 o2 : Obj} (hR : R = (e ++ news) ++ own) (ho : OwnOff own (((l, ol) :: (c1, oc) :: (c2, o2) :: (e ++ news)).map (·.1))) (q3 : ∀ q ∈ e, @Ne Nat q.1 l) (q4 : Fresh e ((c1, oc0) :: (c2, o2) :: news))
    (off : ∀ q ∈ R, @Ne Nat q.1 D) (d1 : @Ne Nat l D) (d2 : @Ne Nat c1 D) (d3 : @Ne Nat c2 D) : TurnEnd R own e news l c1 c2 D oD oc0 o2 := by
  subst hR
  have sp : ∀ q ∈ ((D, oD) :: e) ++ news, q = (D, oD) ∨ q ∈ e ∨ q ∈ news := fun q hq => by
    rcases List.mem_append.mp hq with hq | hq
    · rcases List.mem_cons.mp hq with hq | hq
      · exact .inl hq
      · exact .inr (.inl hq)
    · exact .inr (.inr hq)
  refine ⟨?_, ?_, ?_, ?_, ?_⟩
  · intro ol oc q hq
    rcases List.mem_cons.mp hq with rfl | hq
    · exact .tail _ (.head _)
    rcases List.mem_cons.mp hq with rfl | hq
    · exact .tail _ (.tail _ (.head _))
    rcases List.mem_cons.mp hq with rfl | hq
    · exact .tail _ (.tail _ (.tail _ (.head _)))
    rcases sp q hq with rfl | hq | hq
    · exact .head _
    · exact .tail _ (.tail _ (.tail _ (.tail _ (List.mem_append_left _ (List.mem_append_left _ hq)))))
    · exact .tail _ (.tail _ (.tail _ (.tail _ (List.mem_append_left _ (List.mem_append_right _ hq)))))
  · intro ol oc q hq
    exact .tail _ (.tail _ (.tail _ (.tail _ (List.mem_append_right _ hq))))
  · intro ol oc q hq b hb
    obtain ⟨r, hr, rfl⟩ := List.mem_map.mp hb
    rcases List.mem_cons.mp hr with rfl | hr
    · exact ho.ne (.head _) q hq
    rcases List.mem_cons.mp hr with rfl | hr
    · exact ho.ne (.tail _ (.head _)) q hq
    rcases List.mem_cons.mp hr with rfl | hr
    · exact ho.ne (.tail _ (.tail _ (.head _))) q hq
    rcases sp r hr with rfl | hr | hr
    · exact off q (List.mem_append_right _ hq)
    · exact ho q hq _ (List.mem_map_of_mem (.tail _ (.tail _ (.tail _ (List.mem_append_left _ hr)))))
    · exact ho q hq _ (List.mem_map_of_mem (.tail _ (.tail _ (.tail _ (List.mem_append_right _ hr)))))
  · intro q hq
    rcases List.mem_cons.mp hq with rfl | hq
    · exact Ne.symm d1
    · exact q3 q hq
  · refine q4.cons fun r hr => ?_
    rcases List.mem_cons.mp hr with rfl | hr
    · exact d2
    rcases List.mem_cons.mp hr with rfl | hr
    · exact d3
    exact off r (List.mem_append_left _ (List.mem_append_right _ hr))
theorem cell_drop {p c d : Addr × Obj} {e l : List (Addr × Obj)} : ∀ q ∈ p :: (e ++ l), q ∈ p :: c :: d :: (e ++ l) := fun q hq => by
  rcases List.mem_cons.mp hq with rfl | hq
  · exact .head _
  · exact .tail _ (.tail _ (.tail _ hq))
local macro_rules | `(tactic| walk_at "pyIter ref") => `(tactic| (refine hold ?_))
theorem C_scaled {rw : Addr} {zs0 : List Value} {k0 : Nat} {P : Value → Prop} {n x y : Int} {tx ty : Tok}
 (B : Below A₀ base outer h₀) (F : Fr h₀ L zh m) (X : (hd.heap_39 w.params).In h₀) (T : Top p loose mean mg mb h₀) (hk : cs.kind = .function) (N : News h₀ L zh news)
 (m1 : (rw, listOf zs0.toArray k0) ∈ news) (hrows : ∀ v ∈ zs0, Rowf P n news v) (z1 : 1 ≤ (zs0.length : Int)) (z9 : (zs0.length : Int) ≤ 1000) (n1 : 1 ≤ n) (n9 : n ≤ 1000) (x1 : 1 ≤ x) (x9 : x ≤ 9) (y1 : 1 ≤ y) (y9 : y ≤ 9)
 (ret : ∀ D zs e k h' tk', (∀ v ∈ zs, Rowf P x e v) → (zs.length : Int) = y → Fresh e news → Fr h₀ L h' m → News h₀ L h' ((D, listOf (List.toArray zs) k) :: (e ++ news)) → (∀ q ∈ e ++ news, @Ne Nat q.1 D) → Q (.ref D) ⟨h', zg, zd, tk', zo⟩) :
 CallAt 580 4800 prog w gd cn cs L a ccd cl outer 698 [.ref rw, .int x tx, .int y ty] Q E ⟨zh, zg, zd, zk, zo⟩ := by
  have zg540 : Gate 540 := trivial
  refine wpAny_call ?_
  k_dflt k_enter
  rename_i g' L' h' tk' FG' X' T' o1' o2' d1' d2' B' l1 N' F'
  k_extra "z:flat"
  refine Hold.go ?_
  rename IsRange _ _ _ _ _ _ _ _ => rgX
  rename _ ∧ _ ∧ AllLt _ news => l2
  have lla := l2.2.2
  rename Fr _ _ _ _ => lF'
  rename News _ _ _ _ => lN'
  refine rng1 (σ := Option Value × Obj × List (Addr × Obj) × List Value × Nat) (fun m₀ u z => if z = (Str.ofString "down") then u.1 else m₀ z) (fun l u => (l, listOf u.2.2.2.1.toArray u.2.2.2.2) :: (L' + 1 + 1, u.2.1) :: (L' + 1, o2') :: (u.2.2.1 ++ news))
    (fun l i u => (∃ v₀, u.2.1.data = .cell v₀) ∧ u.2.2.2.1.length = i ∧ (∀ v ∈ u.2.2.2.1, Rowf P x u.2.2.1 v) ∧ (∀ q ∈ u.2.2.1, @Ne Nat q.1 l) ∧ Fresh u.2.2.1 ((L' + 1 + 1, o1') :: (L' + 1, o2') :: news)) (fun m => (m (Str.ofString "down"), o1', [], [], 0)) (by rfl) rgX (by exact small_one (by k_extra "z:o") (by k_extra "z:o") (by k_extra "z:o") (by k_extra "z:o")) (n := y.toNat) (by rw [rangeSize_nat, Int.sub_zero]) lF' lN' (one_map0 _ _) (fun _ h => h) ⟨⟨_, d1'⟩, rfl, fun _ h => absurd h List.not_mem_nil, fun _ h => absurd h List.not_mem_nil, .nil⟩ ?_ ?_
  · rintro i ⟨nv, oc, e, zs, k⟩ t h tk own hi ho ⟨⟨v₀, q0⟩, q1, q2, q3, q4⟩ F1 N1
    dsimp only at ho q0 q1 q2 q3 q4 F1 N1
    have hi' : (i : Int) < y := lt_int hi
    obtain ⟨R, hR, N2, r1, r2, r3, r4⟩ := turn_led N1 ho q3 q4 (fun q hq => Nat.ne_of_lt (allLt_mem lla q hq)) (fun q hq => Nat.ne_of_lt (Nat.lt_trans (l1 q hq) (by k_extra "z:o"))) (fun q hq => Nat.ne_of_lt (Nat.lt_trans (l1 q hq) (by k_extra "z:o")))
    have m1R := r4 _ m1
    have hrows := fun v hv => (hrows v hv).mono r4
    clear N1
    try k_fold
    k_extra "z:flat"
    refine Hold.go ?_
    rename Obj => oc9
    rename _ = Data.cell (some (Value.ref _)) => dc9
    rename IsRange _ _ _ _ _ _ _ _ => rgY
    rename Fr _ _ _ _ => lF
    rename News _ _ _ _ => lN
    refine LCg.CompSrc.range (n := x.toNat) (by rfl) lF lN rgY ?_ ?_ ?_ ?_
    · exact small_one (by k_extra "z:o") (by k_extra "z:o") (by k_extra "z:o") (by k_extra "z:o")
    · (rw [rangeSize_nat, Int.sub_zero])
    · (rw [sizeLine_eq]; k_extra "z:o")
    intro g9
    refine comp_rest (σ := Unit) (fun _ => _) (fun i ys _ => ys.length = i ∧ ∀ u ∈ ys, P u) () ⟨rfl, fun _ h => absurd h List.not_mem_nil⟩ (fun _ => trivial) ?_ ?_
    · rintro i2 ⟨⟩ ys v I oI C oC D m2 h2 tk2 E' hi2 ⟨p1, p2⟩ ⟨t9, rfl⟩ hC hx2 F2 N2 off ne
      try dsimp only at p1 p2 F2 N2
      have hi3 : (i2 : Int) < x := lt_int hi2
      dsimp only
      k_extra "z:flat"
      all_goals (
        refine' CompT.of () ?zF ?zN ?zS off ⟨?y1, ?y2⟩
        (case zF => k_asm)
        (case zN => k_asm)
        (case zS => k_sub)
        (case y1 => (rw [List.length_append, p1]; rfl))
        (case y2 => exact forall_snoc p2 (rp9 _ ihx9)))
    · rintro ys ⟨⟩ ⟨p1, p2⟩
      refine fun D h3 tk3 F3 N3 off3 => ?_
      show wpAny _ _ (call _ [Value.ref _, Value.ref _]) _ _ _
      have off' := off1_mem off3
      have d1 := off' _ (.head _)
      have d2 := off' _ (.tail _ (.head _))
      have d3 := off' _ (.tail _ (.tail _ (.head _)))
      try dsimp only at d1 d2 d3
      k_extra "z:flat"
      rename News _ _ _ _ => lZ
      try simp only [List.push_toArray] at lZ
      have ends := turn_end (D := D) (oD := LCg.lst ys) hR ho q3 q4 (fun q hq => off' q (.tail _ (.tail _ (.tail _ hq)))) d1 d2 d3
      refine TurnE.of (some (.int _ _), oc9, (D, LCg.lst ys) :: e, zs ++ [.ref D], k + 1) (frEq (by k_asm) (one_map _ _ _ _)) lZ ?_ ?_ ?_ ⟨⟨_, dc9⟩, ?_, ?_, ?_, ?_⟩
      · exact ends.sub
      · exact ends.sown
      · exact ends.off
      · show (zs ++ [Value.ref D]).length = i + 1
        rw [List.length_append, q1]; rfl
      · exact rowf_snoc q2 (by k_extra "z:o") p2
      · exact ends.nel
      · exact ends.fr
  · rintro ⟨nv, oc, e, zs, k⟩ h tk ⟨⟨v₀, q0⟩, q1, q2, q3, q4⟩ F1 N1
    dsimp only at q0 q1 q2 q3 q4 F1 N1
    try k_fold
    k_extra "z:flat"
    all_goals (
      refine' ret _ zs e k _ _ q2 (by k_extra "z:o") (q4.mono fun q hq => .tail _ (.tail _ hq)) ?zF2 ?zN2 ?zO2
      (case zF2 => k_asm)
      (case zN2 => refine' cb_drop ?zN3 ?zS3; (case zN3 => k_asm); (case zS3 => exact cell_drop))
      (case zO2 => exact fun q hq => (List.mem_append.mp hq).elim (fun z => q3 q z) (fun z => Nat.ne_of_lt (allLt_mem lla q z))))
theorem Rowf.all {P : Value → Prop} {n : Int} {e l : List (Addr × Obj)} {zs : List Value} (h : ∀ v ∈ zs, Rowf P n e v) (hs : ∀ q ∈ e, q ∈ l) : ∀ v ∈ zs, Rowf P n l v := fun v hv => (h v hv).mono hs
end
example : True := by first | walk1 | trivial
example : True := by
  k_with "call ref" => (k_here; (with_reducible show wpAny _ _ (call (Value.ref 698) _) _ _ _); k_dflt (refine' up (D := 580) (U := 4800) (C_scaled ?B ?F ?X ?T ?hk ?N ?m1 ?hrows ?z1 ?z9 ?n1 ?n9 ?x1 ?x9 ?y1 ?y9 ?_) ?d ?u; (case N => k_asm); (case m1 => k_mem); (case hrows => first | assumption | exact Rowf.all (by assumption) (by k_sub)); (case z1 => k_extra "z:o"); (case z9 => k_extra "z:o"); (case n1 => k_extra "z:o"); (case n9 => k_extra "z:o"); (case x1 => k_extra "z:o"); (case x9 => k_extra "z:o"); (case y1 => k_extra "z:o"); (case y9 => k_extra "z:o"); (case B => k_asm); (case F => k_asm); (case X => k_asm); (case T => k_asm); (case hk => first | assumption | exact rfl); (case d => exact Nat.le_of_ble_eq_true rfl); (case u => exact Nat.le_of_ble_eq_true rfl); k_whole); intro _ _ _ _ _ _ _ _ _ _ _ _; (try dsimp only); (try k_fold))
  trivial
section
example : True := by
  k_with "eval ListComp" => ((guard_hyp zg550); (k_here; k_dflt (refine LCg.ListComp_U (F₀ := by k_asm) (by with_unfolding_all rfl) (by decide) (by rfl) (by decide) (by rfl) ?_)))
  trivial
example : True := by
  k_with "CompSrc" => ((guard_hyp zg550); (refine hold ?_))
  trivial
theorem mem_its {xs : List Value} {i : Nat} {v : Value} (h : xs.toArray[i]? = some v) : v ∈ xs := by
  have zg550 : Gate 550 := trivial
  rw [List.getElem?_toArray] at h
  exact List.mem_of_getElem? h
theorem comp_restL {A : Around} {env : Env} {elt : Expr} {x : Str} {scope : Scope} {cl : List (Str × Addr)} {S : List (Addr × Obj) → Prop} {P : Nat → Value → Prop} {Fin : List Value → List (Addr × Obj) → Prop} {n : Nat} {σ : Type}
    (led : σ → List (Addr × Obj)) (fact : Nat → List Value → σ → Prop) (c₀ : σ) (f0 : fact 0 [] c₀) (hS : ∀ c, S (led c))
    (turn : ∀ i c ys v I oI C oC D m₂ h tk (E' : Value → Shared → Prop), i < n → fact i ys c → P i v → LCg.NsObj oC m₂ → m₂ x = some v → Fr h₀ L h m → News h₀ L h ((I, oI) :: (C, oC) :: (D, LCg.lst ys) :: led c) → (∀ p ∈ led c, (@Ne Nat p.1 I) ∧ (@Ne Nat p.1 C) ∧ (@Ne Nat p.1 D)) → ((@Ne Nat I C) ∧ (@Ne Nat I D) ∧ (@Ne Nat C D)) →
      wpAny (model prog w) A (eval elt (compEnvC scope cl C env)) (CompT h₀ L m { s with heap := h, toks := tk } I oI C oC D (LCg.lst ys) led (fun y c' => fact (i + 1) (ys ++ [y]) c')) E' { s with heap := h, toks := tk })
    (fin : ∀ ys c, fact n ys c → Fin ys (led c)) : LCg.CompRest prog w A h₀ L m env elt x scope cl s S P Fin n 0 [] (led c₀) := comp_rest led fact c₀ f0 hS turn fin
section
variable {pre e : List (Addr × Obj)} {I C D D2 : Addr} {oI oC oD o2 : Obj} {Y : Addr × Obj}
theorem nest_split {q : Addr × Obj} (h : q ∈ pre ++ (((D2, o2) :: e) ++ news)) : q = (D2, o2) ∨ q ∈ pre ++ (e ++ news) := by
  have zg550 : Gate 550 := trivial
  rcases List.mem_append.mp h with h | h
  · exact .inr (List.mem_append_left _ h)
  · rcases List.mem_append.mp h with h | h
    · rcases List.mem_cons.mp h with h | h
      · exact .inl h
      · exact .inr (List.mem_append_right _ (List.mem_append_left _ h))
    · exact .inr (List.mem_append_right _ (List.mem_append_right _ h))
theorem nest_sub : ∀ p ∈ (I, oI) :: (C, oC) :: (D, oD) :: (pre ++ (((D2, o2) :: e) ++ news)), p ∈ (D2, o2) :: Y :: (I, oI) :: (C, oC) :: (D, oD) :: (pre ++ (e ++ news)) := fun p hp => by
  rcases List.mem_cons.mp hp with rfl | hp
  · exact .tail _ (.tail _ (.head _))
  rcases List.mem_cons.mp hp with rfl | hp
  · exact .tail _ (.tail _ (.tail _ (.head _)))
  rcases List.mem_cons.mp hp with rfl | hp
  · exact .tail _ (.tail _ (.tail _ (.tail _ (.head _))))
  rcases nest_split hp with rfl | hp
  · exact .head _
  · exact .tail _ (.tail _ (.tail _ (.tail _ (.tail _ hp))))
theorem nest_off (off : ∀ p ∈ pre ++ (e ++ news), (@Ne Nat p.1 I) ∧ (@Ne Nat p.1 C) ∧ (@Ne Nat p.1 D)) (off4 : ∀ p ∈ Y :: (I, oI) :: (C, oC) :: (D, oD) :: (pre ++ (e ++ news)), @Ne Nat p.1 D2) :
    ∀ p ∈ pre ++ (((D2, o2) :: e) ++ news), (@Ne Nat p.1 I) ∧ (@Ne Nat p.1 C) ∧ (@Ne Nat p.1 D) := fun p hp => by
  rcases nest_split hp with rfl | hp
  · exact ⟨Ne.symm (off4 (I, oI) (.tail _ (.head _))), Ne.symm (off4 (C, oC) (.tail _ (.tail _ (.head _)))), Ne.symm (off4 (D, oD) (.tail _ (.tail _ (.tail _ (.head _)))))⟩
  · exact off p hp
theorem nest_fresh (h : Fresh e news) (off4 : ∀ p ∈ Y :: (I, oI) :: (C, oC) :: (D, oD) :: (pre ++ (e ++ news)), @Ne Nat p.1 D2) : Fresh ((D2, o2) :: e) news :=
  h.cons fun r hr => off4 r (.tail _ (.tail _ (.tail _ (.tail _ (List.mem_append_right _ (List.mem_append_right _ hr))))))
theorem nest_mem : ∀ q ∈ e ++ news, q ∈ pre ++ (e ++ news) := fun q hq => List.mem_append_right _ hq
theorem nest_drop : ∀ q ∈ Y :: (e ++ news), q ∈ Y :: (pre ++ (e ++ news)) := fun q hq => by
  rcases List.mem_cons.mp hq with rfl | hq
  · exact .head _
  · exact .tail _ (List.mem_append_right _ hq)
end
theorem C_truth {rw : Addr} {zs0 : List Value} {k0 : Nat} {n : Int}
 (B : Below A₀ base outer h₀) (F : Fr h₀ L zh m) (X : (hd.heap_39 w.params).In h₀) (T : Top p loose mean mg mb h₀) (hk : cs.kind = .function) (N : News h₀ L zh news)
 (m1 : (rw, listOf zs0.toArray k0) ∈ news) (hrows : ∀ v ∈ zs0, Rowf (fun v => ∃ b, v = .bool b) n news v) (z9 : zs0.length ≤ 1000) (n9 : n ≤ 1000)
 (ret : ∀ D zs e h' tk', (∀ v ∈ zs, Rowf (fun _ => True) n e v) → zs.length = zs0.length → Fresh e news → Fr h₀ L h' m → News h₀ L h' ((D, LCg.lst zs) :: (e ++ news)) → (∀ q ∈ e ++ news, @Ne Nat q.1 D) → Q (.ref D) ⟨h', zg, zd, tk', zo⟩) :
 CallAt 580 4800 prog w gd cn cs L a ccd cl outer 739 [.ref rw] Q E ⟨zh, zg, zd, zk, zo⟩ := by
  have zg550 : Gate 550 := trivial
  refine wpAny_call ?_
  k_dflt k_enter
  k_extra "z:flat"
  refine Hold.go ?_
  rename Fr _ _ _ _ => lF
  rename News _ _ _ _ => lN
  refine LCg.CompSrc.ledger (its := zs0.toArray) (k := k0) (by rfl) lF (nadd lN m1) (.head _) (by rw [sizeLine_eq, List.size_toArray]; omega) ?_
  intro g9
  refine comp_restL (σ := List (Addr × Obj)) (fun e => (rw, listOf zs0.toArray k0) :: (e ++ news)) (fun i ys e => ys.length = i ∧ (∀ v ∈ ys, Rowf (fun _ => True) n e v) ∧ Fresh e news) [] ⟨rfl, fun _ h => absurd h List.not_mem_nil, .nil⟩ (fun _ => .inr ⟨_, .head _, rfl, _, rfl⟩) ?_ ?_
  · rintro i e ys v I oI C oC D m2 h tk E' hi ⟨q1, q2, q3⟩ hv hC hx F2 N2 off ne
    obtain ⟨ra, us, rfl, hm, hl, hp⟩ := hrows v (mem_its hv)
    try dsimp only at F2 N2
    dsimp only
    k_extra "z:flat"
    refine Hold.go ?_
    rename Fr _ _ _ _ => lF2
    rename News _ _ _ _ => lN2
    refine LCg.CompSrc.ledger (its := us.toArray) (k := us.length) (by rfl) lF2 (nadd lN2 (.tail _ (.tail _ (.tail _ (.tail _ (List.mem_append_right _ hm)))))) (.head _) (by rw [sizeLine_eq, List.size_toArray]; omega) ?_
    intro g8
    refine comp_restL (σ := Unit) (fun _ => _) (fun i ys _ => ys.length = i) () rfl (fun _ => .inr ⟨_, .head _, rfl, _, rfl⟩) ?_ ?_
    · rintro i2 ⟨⟩ ys2 v2 I2 oI2 C2 oC2 D2 m3 h2 tk2 E2 hi2 p1 hv2 hC2 hx2 F4 N4 off2 ne2
      obtain ⟨b, rfl⟩ := hp v2 (mem_its hv2)
      try dsimp only at F4 N4
      dsimp only
      k_extra "z:flat"
      all_goals (
        refine' CompT.of () ?zF ?zN ?zS off2 ?y1
        (case zF => k_asm)
        (case zN => k_asm)
        (case zS => k_sub)
        (case y1 => (rw [List.length_append, p1]; rfl)))
    · rintro ys2 ⟨⟩ p1
      refine fun D2 h3 tk3 F3 N3 off3 => ?_
      have off4 := off1_mem off3
      k_extra "z:flat"
      exact CompT.of ((D2, LCg.lst ys2) :: e) F3 N3 (nest_sub (pre := [_])) (nest_off (pre := [_]) off off4) ⟨by rw [List.length_append, q1]; rfl, rowf_snoc q2 (by rw [p1, List.size_toArray]; exact hl) (fun _ _ => trivial), nest_fresh (pre := [_]) q3 off4⟩
  · rintro ys e ⟨q1, q2, q3⟩
    refine fun D h3 tk3 F3 N3 off3 => ?_
    have off' := off1_mem off3
    k_extra "z:flat"
    refine ret D ys e _ _ q2 (by rw [q1, List.size_toArray]) q3 (by k_asm) (cb_drop (by k_asm) (nest_drop (pre := [_]))) ?_
    exact fun q hq => off' q (nest_mem (pre := [_]) q hq)
end
example : True := by first | walk1 | trivial
example : True := by
  k_with "call ref" => (k_here; (with_reducible show wpAny _ _ (call (Value.ref 739) _) _ _ _); k_dflt (refine' up (D := 580) (U := 4800) (C_truth ?B ?F ?X ?T ?hk ?N ?m1 ?hrows ?z9 ?n9 ?_) ?d ?u; (case N => k_asm); (case m1 => k_mem); (case hrows => first | assumption | exact Rowf.all (by assumption) (by k_sub)); (case z9 => k_extra "z:o"); (case n9 => k_extra "z:o"); (case B => k_asm); (case F => k_asm); (case X => k_asm); (case T => k_asm); (case hk => first | assumption | exact rfl); (case d => exact Nat.le_of_ble_eq_true rfl); (case u => exact Nat.le_of_ble_eq_true rfl); k_whole); intro _ _ _ _ _ _ _ _ _ _ _; (try dsimp only); (try k_fold))
  trivial
section

end
example : True := by first | walk1 | trivial
example : True := by
  k_with "call type:range" => (k_here; (with_unfolding_all refine' range1_rows ?zF ?zN ?_); (case zF => k_asm); (case zN => k_asm); intro _ _ _ _ _ _ _ _ _)
  trivial
example : True := by
  k_with "call builtin:len" => (k_here; (with_reducible show wpAny _ _ (call (Value.builtin _) [Value.ref _]) _ _ _); k_dflt (refine' len_led ?N ?m ?z ?_; (case N => k_asm); (case m => k_mem); (case z => k_extra "z:o")); (try dsimp only); (try k_fold))
  trivial
section
example : True := by
  k_with "eval ListComp" => ((guard_hyp zg570); (k_here; k_dflt (refine LCg.ListComp_U (F₀ := by k_asm) (by with_unfolding_all rfl) (by decide) (by rfl) (by decide) (by rfl) ?_)))
  trivial
example : True := by
  k_with "CompSrc" => ((guard_hyp zg570); (refine hold ?_))
  trivial
theorem Pix.one {l : List (Addr × Obj)} {v : Value} (h : Pix 1 l v) : ∃ a k t, v = .ref a ∧ (a, ({ cls := .type "tuple", data := .seq (List.toArray [Value.int k t]) } : Obj)) ∈ l ∧ 0 ≤ k ∧ k < 16777216 := by
  have zg570 : Gate 570 := trivial
  obtain ⟨a, vs, rfl, hm, hl, hs⟩ := h
  obtain ⟨z, rfl⟩ := List.length_eq_one_iff.mp (show vs.length = 1 by k_extra "z:o")
  obtain ⟨k, t, rfl, h0, h1⟩ := hs z (.head _)
  exact ⟨a, k, t, rfl, hm, h0, h1⟩
theorem C_strows {rw : Addr} {zs0 : List Value} {k0 : Nat} {n : Int} {tl : Tok}
 (B : Below A₀ base outer h₀) (F : Fr h₀ L zh m) (X : (hd.heap_39 w.params).In h₀) (T : Top p loose mean mg mb h₀) (hk : cs.kind = .function) (N : News h₀ L zh news)
 (m1 : (rw, listOf zs0.toArray k0) ∈ news) (hrows : ∀ v ∈ zs0, PixRow 1 n news v) (z9 : zs0.length ≤ 1000) (n9 : n ≤ 1000)
 (ret : ∀ D zs e h' tk', (∀ v ∈ zs, Rowf (fun v => ∃ b, v = .bool b) n e v) → zs.length = zs0.length → Fresh e news → Fr h₀ L h' m → News h₀ L h' ((D, LCg.lst zs) :: (e ++ news)) → (∀ q ∈ e ++ news, @Ne Nat q.1 D) → Q (.ref D) ⟨h', zg, zd, tk', zo⟩) :
 CallAt 570 4700 prog w gd cn cs L a ccd cl outer 734 [.ref rw, .int 0 tl] Q E ⟨zh, zg, zd, zk, zo⟩ := by
  have zg570 : Gate 570 := trivial
  refine wpAny_call ?_
  k_dflt k_enter
  rename_i g' L' h' tk' FG' X' T' o1' d1' B' l1 N' F'
  k_extra "z:flat"
  rename Obj => oc
  refine Hold.go ?_
  rename Fr _ _ _ _ => lF
  rename News _ _ _ _ => lN
  refine LCg.CompSrc.ledger (its := zs0.toArray) (k := k0) (by rfl) lF (nadd lN (.tail _ m1)) (.head _) (by rw [sizeLine_eq, List.size_toArray]; omega) ?_
  intro g9
  refine comp_restL (σ := List (Addr × Obj)) (fun e => (rw, listOf zs0.toArray k0) :: (L' + 1, oc) :: (e ++ news)) (fun i ys e => ys.length = i ∧ (∀ v ∈ ys, Rowf (fun v => ∃ b, v = .bool b) n e v) ∧ Fresh e news) [] ⟨rfl, fun _ h => absurd h List.not_mem_nil, .nil⟩ (fun _ => .inr ⟨_, .head _, rfl, _, rfl⟩) ?_ ?_
  · rintro i e ys v I oI C oC D m2 h tk E' hi ⟨q1, q2, q3⟩ hv hC hx F2 N2 off ne
    obtain ⟨ra, us, rfl, hm, hl, hp⟩ := hrows v (mem_its hv)
    try dsimp only at F2 N2
    dsimp only
    k_extra "z:flat"
    refine Hold.go ?_
    rename Fr _ _ _ _ => lF2
    rename News _ _ _ _ => lN2
    refine LCg.CompSrc.ledger (its := us.toArray) (k := us.length) (by rfl) lF2 (nadd lN2 (.tail _ (.tail _ (.tail _ (.tail _ (.tail _ (List.mem_append_right _ hm))))))) (.head _) (by rw [sizeLine_eq, List.size_toArray]; omega) ?_
    intro g8
    refine comp_restL (σ := Unit) (fun _ => _) (fun i ys _ => ys.length = i ∧ ∀ u ∈ ys, (fun v => ∃ b, v = .bool b) u) () ⟨rfl, fun _ h => absurd h List.not_mem_nil⟩ (fun _ => .inr ⟨_, .head _, rfl, _, rfl⟩) ?_ ?_
    · rintro i2 ⟨⟩ ys2 v2 I2 oI2 C2 oC2 D2 m3 h2 tk2 E2 hi2 ⟨p1, p2⟩ hv2 hC2 hx2 F4 N4 off2 ne2
      obtain ⟨pa, k, t, rfl, hpm, hk0, hk1⟩ := (hp v2 (mem_its hv2)).one
      try dsimp only at F4 N4
      have N4 := nadd N4 (.tail _ (.tail _ (.tail _ (.tail _ (.tail _ (.tail _ (.tail _ (.tail _ (.tail _ (List.mem_append_right _ hpm))))))))))
      dsimp only
      k_extra "z:flat"
      
      all_goals (
        refine' CompT.of () ?zF ?zN ?zS off2 ⟨?y1, ?y2⟩
        (case zF => k_asm)
        (case zN => k_asm)
        (case zS => k_sub)
        (case y1 => (rw [List.length_append, p1]; rfl))
        (case y2 => exact forall_snoc p2 ⟨_, rfl⟩))
    · rintro ys2 ⟨⟩ ⟨p1, p2⟩
      refine fun D2 h3 tk3 F3 N3 off3 => ?_
      have off4 := off1_mem off3
      k_extra "z:flat"
      exact CompT.of ((D2, LCg.lst ys2) :: e) F3 N3 (nest_sub (pre := [_, _])) (nest_off (pre := [_, _]) off off4) ⟨by rw [List.length_append, q1]; rfl, rowf_snoc q2 (by rw [p1, List.size_toArray]; exact hl) p2, nest_fresh (pre := [_, _]) q3 off4⟩
  · rintro ys e ⟨q1, q2, q3⟩
    refine fun D h3 tk3 F3 N3 off3 => ?_
    have off' := off1_mem off3
    k_extra "z:flat"
    refine ret D ys e _ _ q2 (by rw [q1, List.size_toArray]) q3 (by k_asm) (cb_drop (by k_asm) (nest_drop (pre := [_, _]))) ?_
    exact fun q hq => off' q (nest_mem (pre := [_, _]) q hq)
end
example : True := by first | walk1 | trivial
example : True := by
  k_with "call ref" => (k_here; (with_reducible show wpAny _ _ (call (Value.ref 734) _) _ _ _); k_dflt (refine' up (D := 570) (U := 4700) (C_strows ?B ?F ?X ?T ?hk ?N ?m1 ?hrows ?z9 ?n9 ?_) ?d ?u; (case N => k_asm); (case m1 => k_mem); (case hrows => first | assumption | (exact fun v hv => PixRow.mono ((by assumption : ∀ v ∈ _, PixRow _ _ _ v) v hv) (by k_sub))); (case z9 => k_extra "z:o"); (case n9 => k_extra "z:o"); (case B => k_asm); (case F => k_asm); (case X => k_asm); (case T => k_asm); (case hk => first | assumption | exact rfl); (case d => exact Nat.le_of_ble_eq_true rfl); (case u => exact Nat.le_of_ble_eq_true rfl); k_whole); intro _ _ _ _ _ _ _ _ _ _ _; (try dsimp only); (try k_fold))
  trivial
section
theorem led_abs {h : Heap} {l : List (Addr × Obj)} (N : News h₀ L h l) : ∃ R, R = l ∧ News h₀ L h R := ⟨l, rfl, N⟩
theorem led_mem {R l : List (Addr × Obj)} {q : Addr × Obj} (h : R = l) (hq : q ∈ l) : q ∈ R := h ▸ hq
example : True := by
  k_with "eval ListComp" => ((guard_hyp zg580); (k_here; k_dflt (refine LCg.ListComp_U (F₀ := by k_asm) (by with_unfolding_all rfl) (by decide) (by rfl) (by decide) (by rfl) ?_)))
  trivial
example : True := by
  k_with "CompSrc" => ((guard_hyp zg580); (refine hold ?_))
  trivial
theorem soft_drop {D : Addr × Obj} {pre e l R : List (Addr × Obj)} (hs : ∀ q ∈ l, q ∈ R) : ∀ q ∈ D :: (e ++ l), q ∈ D :: (pre ++ (e ++ R)) := fun q hq => by
  rcases List.mem_cons.mp hq with rfl | hq
  · exact .head _
  · rcases List.mem_append.mp hq with hq | hq
    · exact .tail _ (List.mem_append_right _ (List.mem_append_left _ hq))
    · exact .tail _ (List.mem_append_right _ (List.mem_append_right _ (hs q hq)))
theorem soft_sub {e l R : List (Addr × Obj)} (hs : ∀ q ∈ l, q ∈ R) : ∀ q ∈ e ++ l, q ∈ e ++ R := fun q hq => by
  rcases List.mem_append.mp hq with hq | hq
  · exact List.mem_append_left _ hq
  · exact List.mem_append_right _ (hs q hq)
example : True := by
  k_with "subscriptTail Call Name cons nil Constant ref int" => ((guard_hyp zg581); (refine hold ?_))
  trivial
example : True := by
  k_with "call ref" => ((guard_hyp zg581); (k_here; (with_reducible show wpAny _ _ (call (Value.ref 693) _) _ _ _); k_dflt (refine' up (D := 580) (U := 4800) (C_srows ?B ?F ?X ?T ?hk ?N ?f1 ?f2 ?h1 ?h2 ?h3 ?h4 ?hb ?h7 ?h8 ?hz ?hsm ?_ ?_) ?d ?u; (case N => k_asm); (case f1 => k_mem); (case f2 => k_mem); (case h1 => k_extra "z:o"); (case h2 => k_extra "z:o"); (case h3 => k_extra "z:o"); (case h4 => k_extra "z:o"); (case hb => assumption); (case h7 => k_extra "z:o"); (case h8 => k_extra "z:o"); (case hz => k_extra "z:o"); (case hsm => first | assumption | exact Hold.out (by assumption) | exact hold_size (by assumption) (by assumption)); (case B => k_asm); (case F => k_asm); (case X => k_asm); (case T => k_asm); (case hk => first | assumption | exact rfl); (case d => exact Nat.le_of_ble_eq_true rfl); (case u => exact Nat.le_of_ble_eq_true rfl); k_whole); intro rD9 rz9 re9 rk9 h9 tk9 rp9 rl9 en9 rx9 ry9 rf9 F9 N9 rn9; (try dsimp only); (try k_fold)))
  trivial
theorem C_soft {xa dx : Addr} {x y b : Int} {t1 t2 t3 tp : Tok} {bs : Array UInt8}
 (B : Below A₀ base outer h₀) (F : Fr h₀ L zh m) (X : (hd.heap_39 w.params).In h₀) (T : Top p loose mean mg mb h₀) (hk : cs.kind = .function) (N : News h₀ L zh news)
 (m1 : (sx, instObj 424 sd) ∈ news) (m2 : (sd, shelfO w tb tr st1 st2 sn) ∈ news) (m3 : (ha, ho) ∈ news) (lo : (ha == sysModules) = false)
 (m5 : (xa, instObj 280 dx) ∈ news) (m6 : (dx, streamD w t1 t2 ha bs t3) ∈ news) (hz : bs.size ≤ 100000)
 (H : MaskHead prog w ho true x y b) (x0 : 1 ≤ x) (x1 : x ≤ 9) (y0 : 1 ≤ y) (y1 : y ≤ 4) (hb : IsDepth b)
 (ret : ∀ D zs e h' tk', (∀ v ∈ zs, Rowf (fun _ => True) x e v) → (zs.length : Int) = y → needZ x y b ≤ bs.size → Fr h₀ L h' m → News h₀ L h' ((D, LCg.lst zs) :: (e ++ news)) → (∀ q ∈ e ++ news, @Ne Nat q.1 D) → Fresh e news → Q (.ref D) ⟨h', zg, zd, tk', zo⟩)
 (err : ∀ e g h' tk', Fr h₀ L g m → g.UpToSlots h' → RaisedN base (envX cn cs L a ccd cl :: outer) e (.ref 71) news h' → (bs.size : Int) < needZ x y b → E (.ref e) ⟨h', zg, zd, tk', zo⟩) :
 CallAt 570 4700 prog w gd cn cs L a ccd cl outer 808 [.ref sx, .ref xa, .ref 832, .int 2 tp] Q E ⟨zh, zg, zd, zk, zo⟩ := by
  have zg580 : Gate 580 := trivial
  have zg581 : Gate 581 := trivial
  obtain ⟨kvs, u1, u2, hd1, hlen, hwd, hht, hdc, hi, u3, hbp⟩ := H
  have hw : WholeSaid prog w news sx kvs (Str.ofString "Width") x := .inl ⟨_, hwd⟩
  have hh : WholeSaid prog w news sx kvs (Str.ofString "Height") y := .inl ⟨_, hht⟩
  have hl : DepthSaid kvs b := by first | exact .inl ⟨hi, _, hbp⟩ | exact .inr ⟨hi, _, hbp⟩
  have hsm : Hold (needZ x y (b * 1) ≤ bs.size → x ≤ 9 ∧ y ≤ 4) := fun _ => ⟨x1, y1⟩
  refine wpAny_call ?_
  k_dflt k_enter
  k_extra "z:flat"
  rotate_left
  · refine' leave_onC ?eK ?eF ?eR ?eU ?_
    (case eK => assumption)
    (case eF => assumption)
    (case eR => assumption)
    (case eU => assumption)
    intro h7 R7 U7
    refine' err _ _ _ _ ?eF ?eU ?eR2 ?eL
    (case eF => assumption)
    (case eU => assumption)
    (case eR2 => exact RaisedN.sub R7 (by k_sub))
    (case eL => (rw [← Int.mul_one b]; omega))
  refine Hold.go ?_
  rename_i g' L' h0' _ FG' X' T' c1 c2 c3 cd1 cd2 cd3 B' l1 qk0 ek0 tk0' fx fd t91 t92 t93 t94 tx9 ty9 t9 hh1 kk1 l9 l10 hh2 ofr dfr pD pr pt0 pt1 pk pn hh3 kk3 dl2 dl1 dl3 qk1 ek1 hh4 opr dpr obs obt hh5 kk5 oz9 qk2 ek2 hh6 lF lN
  obtain ⟨R, hR, lNR⟩ := led_abs lN
  have lN3 : News g' L' hh6 ((rD9, listOf rz9.toArray rk9) :: (L' + 1 + 1 + 1, opr) :: (L' + 1 + 1, ofr) :: (L' + 1, c3) :: (pD, listOf [Value.ref pr].toArray pk) :: (pr, tupO [.int 0 pt0, .int 1 pt1] pn) :: (fx, instObj 670 fd) :: (fd, latO w t91 t92 t93 t94 x tx9 y ty9 b t9 1 (tk0' + 1)) :: R) := (List.forall_mem_cons.mpr ⟨lN _ (.head _), (List.forall_mem_cons.mpr ⟨lN _ (.tail _ (List.mem_append_right _ (.tail _ (.tail _ (.tail _ (.tail _ (.head _))))))), (List.forall_mem_cons.mpr ⟨lN _ (.tail _ (List.mem_append_right _ (.tail _ (.tail _ (.tail _ (.tail _ (.tail _ (.head _)))))))), (List.forall_mem_cons.mpr ⟨lN _ (.tail _ (List.mem_append_right _ (.tail _ (.tail _ (.tail _ (.tail _ (.tail _ (.tail _ (.head _))))))))), (List.forall_mem_cons.mpr ⟨lN _ (.tail _ (List.mem_append_right _ (.head _))), (List.forall_mem_cons.mpr ⟨lN _ (.tail _ (List.mem_append_right _ (.tail _ (.head _)))), (List.forall_mem_cons.mpr ⟨lN _ (.tail _ (List.mem_append_right _ (.tail _ (.tail _ (.head _))))), (List.forall_mem_cons.mpr ⟨lN _ (.tail _ (List.mem_append_right _ (.tail _ (.tail _ (.tail _ (.head _)))))), lNR⟩)⟩)⟩)⟩)⟩)⟩)⟩)⟩)
  have hsub : ∀ q ∈ news, q ∈ R := fun q hq => hR ▸ (.tail _ (List.mem_append_right _ (.tail _ (.tail _ (.tail _ (.tail _ (.tail _ (.tail _ (.tail _ hq)))))))))
  have hrows : ∀ v ∈ rz9, PixRow 1 x R v := fun v hv => (rp9 v hv).mono fun q hq => hR ▸ (.tail _ (List.mem_append_left _ hq))
  clear lN lNR
  refine LCg.CompSrc.ledger (its := rz9.toArray) (k := rk9) (by rfl) lF lN3 (.head _) (by rw [sizeLine_eq, List.size_toArray]; omega) ?_
  intro g9
  refine comp_restL (σ := List (Addr × Obj)) (fun e => (rD9, listOf rz9.toArray rk9) :: (L' + 1 + 1 + 1, opr) :: (L' + 1 + 1, ofr) :: (L' + 1, c3) :: (pD, listOf [Value.ref pr].toArray pk) :: (pr, tupO [.int 0 pt0, .int 1 pt1] pn) :: (fx, instObj 670 fd) :: (fd, latO w t91 t92 t93 t94 x tx9 y ty9 b t9 1 (tk0' + 1)) :: (e ++ R)) (fun i ys e => ys.length = i ∧ (∀ v ∈ ys, Rowf (fun _ => True) x e v) ∧ Fresh e R) [] ⟨rfl, fun _ h => absurd h List.not_mem_nil, .nil⟩ (fun _ => .inr ⟨_, .head _, rfl, _, rfl⟩) ?_ ?_
  · rintro i e ys v I oI C oC D m2 h tk E' hi ⟨q1, q2, q3⟩ hv hC hx F2 N2 off ne
    obtain ⟨ra, us, rfl, hm, hl, hp⟩ := hrows v (mem_its hv)
    try dsimp only at F2 N2
    dsimp only
    k_extra "z:flat"
    refine Hold.go ?_
    rename Fr _ _ _ _ => lF2
    rename News _ _ _ _ => lN2
    refine LCg.CompSrc.ledger (its := us.toArray) (k := us.length) (by rfl) lF2 (nadd lN2 (.tail _ (.tail _ (.tail _ (.tail _ (.tail _ (.tail _ (.tail _ (.tail _ (.tail _ (.tail _ (.tail _ (List.mem_append_right _ hm))))))))))))) (.head _) (by rw [sizeLine_eq, List.size_toArray]; omega) ?_
    intro g8
    refine comp_restL (σ := Unit) (fun _ => _) (fun i ys _ => ys.length = i ∧ ∀ u ∈ ys, (fun _ => True) u) () ⟨rfl, fun _ h => absurd h List.not_mem_nil⟩ (fun _ => .inr ⟨_, .head _, rfl, _, rfl⟩) ?_ ?_
    · rintro i2 ⟨⟩ ys2 v2 I2 oI2 C2 oC2 D2 m3 h2 tk2 E2 hi2 ⟨p1, p2⟩ hv2 hC2 hx2 F4 N4 off2 ne2
      obtain ⟨pa, k, t, rfl, hpm, hk0, hk1⟩ := (hp v2 (mem_its hv2)).one
      try dsimp only at F4 N4
      have N4 := nadd N4 (.tail _ (.tail _ (.tail _ (.tail _ (.tail _ (.tail _ (.tail _ (.tail _ (.tail _ (.tail _ (.tail _ (.tail _ (.tail _ (.tail _ (.tail _ (List.mem_append_right _ hpm))))))))))))))))
      dsimp only
      k_extra "z:flat"
      refine Hold.go ?_
      rename News _ _ _ _ => lNz
      refine item_lstN (n := 1) lNz (.head _) (by decide) (by decide) rfl ?_
      k_extra "z:flat"
      all_goals (
        refine' CompT.of () ?zF ?zN ?zS off2 ⟨?y1, ?y2⟩
        (case zF => k_asm)
        (case zN => k_asm)
        (case zS => k_sub)
        (case y1 => (rw [List.length_append, p1]; rfl))
        (case y2 => exact forall_snoc p2 trivial))
    · rintro ys2 ⟨⟩ ⟨p1, p2⟩
      refine fun D2 h3 tk3 F3 N3 off3 => ?_
      have off4 := off1_mem off3
      k_extra "z:flat"
      exact CompT.of ((D2, LCg.lst ys2) :: e) F3 N3 (nest_sub (pre := [_, _, _, _, _, _, _, _])) (nest_off (pre := [_, _, _, _, _, _, _, _]) off off4) ⟨by rw [List.length_append, q1]; rfl, rowf_snoc q2 (by rw [p1, List.size_toArray]; exact hl) p2, nest_fresh (pre := [_, _, _, _, _, _, _, _]) q3 off4⟩
  · rintro ys e ⟨q1, q2, q3⟩
    refine fun D h3 tk3 F3 N3 off3 => ?_
    have off' := off1_mem off3
    k_extra "z:flat"
    refine ret D ys e _ _ q2 (by rw [q1, List.size_toArray]; omega) ?_ (by k_asm) (cb_drop (by k_asm) (soft_drop (pre := [_, _, _, _, _, _, _, _]) hsub)) (fun q hq => off' q (nest_mem (pre := [_, _, _, _, _, _, _, _]) q (soft_sub hsub q hq))) (q3.mono hsub)
    rw [← oz9]; rw [Int.mul_one] at en9; exact en9
end
example : True := by first | walk1 | trivial
example : True := by
  k_with "call ref" => (k_here; (with_reducible show wpAny _ _ (call (Value.ref 808) _) _ _ _); with_unfolding_all (refine' up (D := 570) (U := 4700) (C_soft ?B ?F ?X ?T ?hk ?N ?m1 ?m2 ?m3 ?lo ?m5 ?m6 ?hz ?H ?x0 ?x1 ?y0 ?y1 ?hb ?_ ?_) ?d ?u; (case N => k_asm); (case m1 => k_mem); (case m2 => k_mem); (case m5 => k_mem); (case m6 => k_mem); (case m3 => k_mem); (case lo => assumption); (case hz => assumption); (case H => assumption); (case x0 => assumption); (case x1 => assumption); (case y0 => assumption); (case y1 => assumption); (case hb => assumption); (case B => k_asm); (case F => k_asm); (case X => k_asm); (case T => k_asm); (case hk => first | assumption | exact rfl); (case d => exact Nat.le_of_ble_eq_true rfl); (case u => exact Nat.le_of_ble_eq_true rfl); k_whole); intro _ _ _ _ _ _ _ _ _ _ _ _; (try dsimp only); (try k_fold))
  trivial
section
/-- a span of nothing but 0 -/
noncomputable def ZeroSpan (l : List (Addr × Obj)) (v : Value) : Prop := ∃ a n t u, v = .ref a ∧ (a, ({ cls := .type "tuple", data := .seq (List.toArray [Value.int 0 t, Value.int 0 u]) n } : Obj)) ∈ l
theorem ZeroSpan.mono {l l' : List (Addr × Obj)} {v : Value} (h : ZeroSpan l v) (hs : ∀ q ∈ l, q ∈ l') : ZeroSpan l' v := by
  obtain ⟨a, n, t, u, e, hm⟩ := h
  exact ⟨a, n, t, u, e, hs _ hm⟩
example : True := by
  k_with "exec For Tuple Call cons nil" => ((guard_hyp zg600); (k_here; (with_unfolding_all refine' For_turns ?zF ?_); (case zF => k_asm); k_whole))
  trivial
example : True := by
  k_with "call type:zip" => ((guard_hyp zg600); (refine hold ?_))
  trivial
theorem News.tail' {h : Heap} {p : Addr × Obj} {l : List (Addr × Obj)} (N : News h₀ L h (p :: l)) : News h₀ L h l := fun q hq => N q (.tail _ hq)
theorem C_keyed {px rg : Addr} {vs rs : List Value} {n2 : Nat}
 (B : Below A₀ base outer h₀) (F : Fr h₀ L zh m) (X : (hd.heap_39 w.params).In h₀) (T : Top p loose mean mg mb h₀) (hk : cs.kind = .function) (N : News h₀ L zh news)
 (m1 : (px, ({ cls := .type "tuple", data := .seq vs.toArray } : Obj)) ∈ news) (m2 : (rg, listOf rs.toArray n2) ∈ news) (hs : Smalls vs) (hr : ∀ v ∈ rs, ZeroSpan news v) (hle : vs.length ≤ rs.length)
 (ret : ∀ b h' tk', Fr h₀ L h' m → News h₀ L h' news → Q (.bool b) ⟨h', zg, zd, tk', zo⟩) :
 CallAt 620 5200 prog w gd cn cs L a ccd cl outer 729 [.ref px, .ref rg] Q E ⟨zh, zg, zd, zk, zo⟩ := by
  have zg600 : Gate 600 := trivial
  refine wpAny_call ?_
  k_dflt k_enter
  k_extra "z:flat"
  refine Hold.go ?_
  rename Fr _ _ _ _ => lF
  rename News _ _ _ _ => lN
  k_dflt (refine' zipFor ?zh ?zF ?zN ?zm1 ?zm2 hle ?zx ?zy ?zp ?_ ?_)
  case zF => exact lF
  case zN => exact lN
  case zm1 => exact m1
  case zm2 => exact m2
  case zh => rfl
  case zx => rfl
  case zy => rfl
  case zp => rfl
  · rintro i u v h tk own hu hv F1 N1
    obtain ⟨k, t, rfl, k0, k1⟩ := hs u (List.mem_of_getElem? hu)
    obtain ⟨ra, n, t0, u0, rfl, hm⟩ := hr v (List.mem_of_getElem? hv)
    have N1 := nadd N1 (List.mem_append_right own hm)
    try k_fold
    k_extra "z:flat"
    all_goals first
      | exact ⟨_, _, rfl, by k_asm, fun q hq => News.tail' (by k_asm) q hq⟩
      | exact ret _ _ _ (by k_asm) (cb_drop (by k_asm) (fun q hq => .tail _ (List.mem_append_right _ hq)))
  · intro m₁ h tk F1 N1
    try k_fold
    k_extra "z:flat"
    all_goals exact ret _ _ _ (by k_asm) (by k_asm)
end
example : True := by first | walk1 | trivial
example : True := by
  k_with "call ref" => (k_here; (with_reducible show wpAny _ _ (call (Value.ref 729) _) _ _ _); k_dflt (refine' up (D := 620) (U := 5200) (C_keyed ?B ?F ?X ?T ?hk ?N ?m1 ?m2 ?hs ?hr ?hle ?_) ?d ?u; (case N => k_asm); (case m1 => k_mem); (case m2 => k_mem); (case hs => assumption); (case hr => first | assumption | (exact fun v hv => ZeroSpan.mono ((by assumption : ∀ v ∈ _, ZeroSpan _ v) v hv) (by k_sub))); (case hle => k_extra "z:o"); (case B => k_asm); (case F => k_asm); (case X => k_asm); (case T => k_asm); (case hk => first | assumption | exact rfl); (case d => exact Nat.le_of_ble_eq_true rfl); (case u => exact Nat.le_of_ble_eq_true rfl); k_whole); intro _ _ _ _ _; (try dsimp only); (try k_fold))
  trivial
section
example : True := by
  k_with "eval ListComp" => ((guard_hyp zg610); (k_here; k_dflt (refine LCg.ListComp_U (F₀ := by k_asm) (by with_unfolding_all rfl) (by decide) (by rfl) (by decide) (by rfl) ?_)))
  trivial
example : True := by
  k_with "exec Assign cons ListComp" => ((guard_hyp zg610); (k_here; k_dflt (refine LCg.Assign_ListComp_U (F₀ := by k_asm) (by rfl) (by with_unfolding_all rfl) (by with_unfolding_all rfl) (by decide) (by rfl) (by decide) (by rfl) (by rfl) (by rfl) ?_)))
  trivial
example : True := by
  k_with "CompSrc" => ((guard_hyp zg610); (refine hold ?_))
  trivial
local macro_rules | `(tactic| walk_at "pyIter ref") => `(tactic| (refine hold ?_))
example : True := by
  k_with "exec For Name Name cons nil" => ((guard_hyp zg610); (k_here; (with_unfolding_all refine' For_invVF ?zF ?k1 ?k2 ?_); (case zF => k_asm); (case k1 => exact rfl); (case k2 => exact rfl); k_whole))
  trivial
theorem lstFor {A : Around} {env : Env} {x : Str} {body : List Stmt} {Q : Flow → Shared → Prop} {l : Addr} {vs : List Value} {nn : Nat} {m₀ : Str → Option Value} {news : List (Addr × Obj)}
    (hh : A.handled = none) (hl : (l, listOf vs.toArray nn) ∈ news) (F : Fr h₀ env.locals s.heap m₀) (N : News h₀ env.locals s.heap news)
    (turn : ∀ (i : Nat) v h tk own, vs[i]? = some v → Fr h₀ env.locals h (fun y => if y = x then some v else m₀ y) → News h₀ env.locals h (news ++ own) →
      wpAny (model prog w) A (execs body env) (fun f s₂ => match f with | .ret v => Q (.ret v) s₂ | .brk => Q .next s₂ | _ => ZipE h₀ env.locals (fun y => if y = x then some v else m₀ y) (news ++ own) { s with heap := h, toks := tk } s₂) E { s with heap := h, toks := tk })
    (done : ∀ m₁ h tk, Fr h₀ env.locals h m₁ → News h₀ env.locals h news → Q .next { s with heap := h, toks := tk }) :
    wpAny (model prog w) A (pyIter (.ref l)) (fun it s₂ => LoopAtV prog w A h₀ env x body Q E it s₂) E s := by
  refine kdl_iter (fun i m₁ nx => nx = news ∧ (m₁ = m₀ ∨ ∃ v, m₁ = fun y => if y = x then some v else m₀ y)) hh hl F N ⟨rfl, .inl rfl⟩ ?_ ?_
  · rintro i v m₁ nx h tk own hv ho hl' ⟨rfl, hm⟩ F' N'
    have F2 : Fr h₀ env.locals h (fun y => if y = x then some v else m₀ y) := by
      rcases hm with rfl | ⟨u, rfl⟩
      · exact F'
      · exact frEq F' (one_map _ _ _ _)
    refine wpAny_mono (turn i v h tk own hv F2 N') (fun f s₂ hq => ?_) fun _ _ z => z
    have fin : ZipE h₀ env.locals (fun y => if y = x then some v else m₀ y) (nx ++ own) { s with heap := h, toks := tk } s₂ → InvEndG h₀ env.locals (fun m' nx' => (l, listOf vs.toArray nn) ∈ nx' ∧ nx' = nx ∧ (m' = m₀ ∨ ∃ v, m' = fun y => if y = x then some v else m₀ y)) own { s with heap := h, toks := tk } s₂ := by
      rintro ⟨h', tk', e, F3, N3⟩
      exact ⟨h', tk', _, _, nx, e, F3, N3, fun p hp => List.mem_append_left _ hp, fun p hp => List.mem_append_right _ hp, ho, hl', rfl, .inr ⟨_, rfl⟩⟩
    cases f with
    | ret v => exact hq
    | brk => exact hq
    | next => exact fin hq
    | cont => exact fin hq
  · rintro m₁ nx h tk ⟨rfl, _⟩ F' N'
    exact done m₁ h tk F' N'
example : True := by
  k_with "eval ListComp" => ((guard_hyp zg611); (k_here; (with_reducible show wpAny _ _ (eval (Expr.ListComp _ (⟨_, (Expr.Call _ _ _ _), _, _⟩ :: _) _ _) _) _ _ _); k_dflt (refine comp_step (F₀ := by k_asm) (by with_unfolding_all rfl) (by decide) (by rfl) (by decide) (by rfl) ?_)))
  trivial
example : True := by
  k_with "StepSrc" => ((guard_hyp zg611); (refine hold ?_))
  trivial
example : True := by
  k_with "subscriptTail Name Name ref int" => ((guard_hyp zg611); (k_here; (with_reducible show wpAny _ _ (subscriptTail _ _ (Value.ref _) (Value.int _ _)) _ _ _); k_dflt (refine' item_lstM ?iN ?im ?ih0 ?ihk ?ihz ?_; (case iN => k_asm); (case im => k_mem); (case ih0 => k_extra "z:o"); (case ihk => assumption); (case ihz => k_extra "z:o")); intro ix9 ihx9; (k_dflt (obtain ⟨it9, rfl⟩ := p4 _ ihx9)); (try dsimp only); (try k_fold)))
  trivial
example : True := by
  k_with "subscriptTail Name BinOp ref int" => ((guard_hyp zg611); (k_here; (with_reducible show wpAny _ _ (subscriptTail _ _ (Value.ref _) (Value.int _ _)) _ _ _); k_dflt (refine' item_lstM ?jN ?jm ?jh0 ?jhk ?jhz ?_; (case jN => k_asm); (case jm => k_mem); (case jh0 => k_extra "z:o"); (case jhk => assumption); (case jhz => k_extra "z:o")); intro ix9 ihx9; (k_dflt (obtain ⟨ju9, rfl⟩ := p4 _ ihx9)); (try dsimp only); (try k_fold)))
  trivial
theorem nei_false {A : Around} {x y : Int} {t u : Tok} {P : Value → Shared → Prop} (h : x = y) (hq : P (.bool false) s) : wpAny (model prog w) A (compareOp .NotEq (.int x t) (.int y u)) P E s :=
  ne_int (by rw [show (x != y) = false by simp [h]]; exact hq)
example : True := by
  k_with "compareOp NotEq int int" => ((guard_hyp zg612); (k_here; k_dflt (refine' nei_false ?h ?_; (case h => assumption)); (try dsimp only); (try k_fold)))
  trivial
theorem zspan_snoc {e : List (Addr × Obj)} {ys : List Value} {a : Addr} {t u : Tok} {n : Nat} (h : ∀ v ∈ ys, ZeroSpan e v) : ∀ v ∈ ys ++ [.ref a], ZeroSpan ((a, ({ cls := .type "tuple", data := .seq (List.toArray [Value.int 0 t, Value.int 0 u]) n } : Obj)) :: e) v := fun v hv => by
  rcases List.mem_append.mp hv with hv | hv
  · exact (h v hv).mono fun q hq => .tail _ hq
  · rw [List.mem_singleton.mp hv]; exact ⟨_, _, _, _, rfl, .head _⟩
theorem ints_snoc {ys : List Value} {t : Tok} (h : ∀ u ∈ ys, ∃ t, u = Value.int 0 t) : ∀ u ∈ ys ++ [Value.int 0 t], ∃ t, u = Value.int 0 t := forall_snoc h ⟨_, rfl⟩
theorem C_ranges {rg fx fd : Addr} {ms : List Value} {n2 : Nat} {t1 t2 t3 t4 tx ty tb' tc : Tok} {x y b c : Int}
 (B : Below A₀ base outer h₀) (F : Fr h₀ L zh m) (X : (hd.heap_39 w.params).In h₀) (T : Top p loose mean mg mb h₀) (hk : cs.kind = .function) (N : News h₀ L zh news)
 (m1 : (sx, instObj 424 sd) ∈ news) (m2 : (sd, shelfO w tb tr st1 st2 sn) ∈ news) (m3 : (rg, listOf ms.toArray n2) ∈ news) (hms : ∀ v ∈ ms, ∃ t, v = Value.int 0 t) (hl : (ms.length : Int) = 2 * c) (c0 : 1 ≤ c) (c1 : c ≤ 4) (hb : IsDepth b)
 (f1 : (fx, instObj 670 fd) ∈ news) (f2 : (fd, latO w t1 t2 t3 t4 x tx y ty b tb' c tc) ∈ news)
 (ret : ∀ D zs e h' tk', (∀ v ∈ zs, ZeroSpan e v) → (zs.length : Int) = c → Fresh e news → Fr h₀ L h' m → News h₀ L h' ((D, LCg.lst zs) :: (e ++ news)) → (∀ q ∈ e ++ news, @Ne Nat q.1 D) → Q (.ref D) ⟨h', zg, zd, tk', zo⟩) :
 CallAt 620 5200 prog w gd cn cs L a ccd cl outer 798 [.ref sx, .ref rg, .ref fx] Q E ⟨zh, zg, zd, zk, zo⟩ := by
  have zg610 : Gate 610 := trivial
  have zg611 : Gate 611 := trivial
  have zg612 : Gate 612 := trivial
  have hb1 := hb.pos
  have hb16 := hb.le
  obtain ⟨p1, p2⟩ := depth_pow hb
  refine wpAny_call ?_
  k_dflt k_enter
  rename_i g' L' h' tk' FG' X' T' o1' o2' d1' d2' B' l1 N' F'
  k_extra "z:flat"
  refine Hold.go ?_
  rename Fr _ _ _ _ => lF
  rename News _ _ _ _ => lN
  refine LCg.CompSrc.ledger (its := ms.toArray) (k := n2) (by rfl) lF (nadd lN (.tail _ (.tail _ m3))) (.head _) (by rw [sizeLine_eq, List.size_toArray]; omega) ?_
  intro g9
  refine comp_restL (σ := Unit) (fun _ => _) (fun i ys _ => ys.length = i ∧ ∀ u ∈ ys, ∃ t, u = Value.int 0 t) () ⟨rfl, fun _ h => absurd h List.not_mem_nil⟩ (fun _ => .inr ⟨_, .head _, rfl, _, rfl⟩) ?_ ?_
  · rintro i2 ⟨⟩ ys2 v2 I2 oI2 C2 oC2 D2 m4 h2 tk2 E2 hi2 ⟨p3, p4⟩ hv2 hC2 hx2 F4 N4 off2 ne2
    obtain ⟨t, rfl⟩ := hms v2 (mem_its hv2)
    have hpl : Plain news (.int 0 t) := .int _ _
    try dsimp only at F4 N4
    dsimp only
    k_extra "z:flat"
    all_goals (
      refine' CompT.of () ?zF ?zN ?zS off2 ⟨?y1, ?y2⟩
      (case zF => k_asm)
      (case zN => k_asm)
      (case zS => k_sub)
      (case y1 => (rw [List.length_append, p3]; rfl))
      (case y2 => exact ints_snoc p4))
  · rintro zs ⟨⟩ ⟨p3, p4⟩
    unfold LCg.FinE
    intro D h3 tk3 F3 N3 off3
    have off4 := off1_mem off3
    have e1 := off4 _ (.head _)
    have e2 := off4 _ (.tail _ (.head _))
    have e3 := off4 _ (.tail _ (.tail _ (.head _)))
    have e4 : @LT.lt Nat _ rg L' := l1 _ m3
    try dsimp only at e1 e2 e3
    rw [List.size_toArray] at p3
    have hzl : (zs.length : Int) = 2 * c := by k_extra "z:o"
    try dsimp only
    change wpAny _ _ _ _ _ _
    try k_fold
    k_extra "z:flat"
    refine Hold.go ?_
    rename Obj => oc
    rename Fr _ _ _ _ => lF5
    rename News _ _ _ _ => lN5
    refine' lstFor (vs := zs) (nn := zs.length) ?zh ?zl ?zF ?zN ?_ ?_
    case zh => rfl
    case zF => exact lF5
    case zN => exact lN5
    case zl => exact .head _
    · rintro i v h tk own hv F6 N6
      obtain ⟨t, rfl⟩ := p4 v (List.mem_of_getElem? hv)
      try dsimp only at F6 N6
      try k_fold
      k_extra "z:flat"
      all_goals exact ⟨_, _, rfl, by k_asm, by k_asm⟩
    · intro m₁ h tk F6 N6
      try k_fold
      k_extra "z:flat"
      refine Hold.go ?_
      rename IsRange _ _ _ _ _ _ _ _ => rgX
      rename Fr _ _ _ _ => lF7
      rename News _ _ _ _ => lN7
      have hn : Builtin.Range.rangeSize 0 zs.length 2 = (c.toNat : Int) := by
        rw [rangeSize_pos (by decide) (Int.natCast_nonneg _)]
        exact half_ceil (by rw [hzl, Int.toNat_of_nonneg (Int.le_trans (by decide) c0)])
      refine ⟨_, _, _, _, _, _, _, c.toNat, _, rfl, rfl, lF7, lN7, rgX, small_step (Int.natCast_nonneg _) (by k_extra "z:o") (by decide) (by decide), hn, by rw [sizeLine_eq]; k_extra "z:o", fun g9 => ?_⟩
      dsimp only
      refine comp_rest (σ := List (Addr × Obj)) (fun e => (D, LCg.lst zs) :: (rg, listOf ms.toArray n2) :: (L' + 1 + 1, oc) :: (L' + 1, o2') :: (e ++ news)) (fun i ys e => ys.length = i ∧ (∀ v ∈ ys, ZeroSpan e v) ∧ Fresh e news) [] ⟨rfl, fun _ h => absurd h List.not_mem_nil, .nil⟩ (fun _ => trivial) ?_ ?_
      · rintro i e ys v I oI C oC D8 m8 h8 tk8 E' hi ⟨q1, q2, q3⟩ ⟨t9, rfl⟩ hC hx2 F8 N8 off ne
        try dsimp only at F8 N8
        have z12 := step2 hi (show (zs.length : Int) = 2 * (c.toNat : Int) by rw [hzl, Int.toNat_of_nonneg (Int.le_trans (by decide) c0)])
        have z1 := z12.1
        have z2 := z12.2
        clear z12
        dsimp only
        k_extra "z:flat"
        rename Addr => rT
        rename Fr _ _ _ _ => lF9
        rename News _ _ _ _ => lN9
        have al : AllLt rT (e ++ news) := by ktr_rel
        have b1 := off _ (.head _)
        have b2 := off _ (.tail _ (.head _))
        have b3 := off _ (.tail _ (.tail _ (.head _)))
        have b4 := off _ (.tail _ (.tail _ (.tail _ (.head _))))
        refine CompT.of ((rT, _) :: e) lF9 lN9 (by k_sub) ?_ ⟨by rw [List.length_append, q1]; rfl, zspan_snoc q2, q3.cons fun q hq => Nat.ne_of_lt (allLt_mem al q (List.mem_append_right _ hq))⟩
        refine List.forall_mem_cons.mpr ⟨b1, List.forall_mem_cons.mpr ⟨b2, List.forall_mem_cons.mpr ⟨b3, List.forall_mem_cons.mpr ⟨b4, List.forall_mem_cons.mpr ⟨⟨by k_ne, by k_ne, by k_ne⟩, fun q hq => off q (.tail _ (.tail _ (.tail _ (.tail _ hq))))⟩⟩⟩⟩⟩
      · rintro ys e ⟨q1, q2, q3⟩
        unfold LCg.FinE
        intro D3 h3 tk3 F3 N3 off3
        have off' := off1_mem off3
        try dsimp only
        k_extra "z:flat"
        refine ret D3 ys e _ _ q2 (by k_extra "z:o") q3 (by k_asm) (cb_drop (by k_asm) (nest_drop (pre := [_, _, _, _]))) ?_
        exact fun q hq => off' q (nest_mem (pre := [_, _, _, _]) q hq)
end
example : True := by first | walk1 | trivial
example : True := by
  k_with "call ref" => (k_here; (with_reducible show wpAny _ _ (call (Value.ref 798) _) _ _ _); k_dflt (refine' up (D := 620) (U := 5200) (C_ranges ?B ?F ?X ?T ?hk ?N ?m1 ?m2 ?m3 ?hms ?hl ?c0 ?c1 ?hb ?f1 ?f2 ?_) ?d ?u; (case N => k_asm); (case m1 => k_mem); (case m2 => k_mem); (case m3 => k_mem); (case hms => assumption); (case hl => assumption); (case c0 => assumption); (case c1 => assumption); (case hb => assumption); (case f1 => k_mem); (case f2 => k_mem); (case B => k_asm); (case F => k_asm); (case X => k_asm); (case T => k_asm); (case hk => first | assumption | exact rfl); (case d => exact Nat.le_of_ble_eq_true rfl); (case u => exact Nat.le_of_ble_eq_true rfl); k_whole); intro _ _ _ _ _ _ _ _ _ _ _; (try dsimp only); (try k_fold))
  trivial
section
/-- what a tuple gives a comprehension -/
noncomputable def TupSrc (prog : Program) (w : World) (A : Around) (h₀ : Heap) (L : Addr) (m : Str → Option Value) (env : Env) (elt : Expr) (x : Str) (scope : Scope) (cl : List (Str × Addr)) (Q : Value → Shared → Prop) (xv : Value) (s₁ : Shared) : Prop :=
  ∃ ax its k news, xv = .ref ax ∧ A.handled = none ∧ Fr h₀ L s₁.heap m ∧ News h₀ L s₁.heap news ∧ (ax, ({ cls := .type "tuple", data := .seq (List.toArray its) k } : Obj)) ∈ news ∧ its.length ≤ 1000 ∧
    ∀ g, LCg.CompRest prog w A h₀ L m env elt x scope cl { s₁ with heap := g } (fun nw => False ∨ ∃ o, (ax, o) ∈ nw ∧ o.cls = .type "tuple" ∧ ∃ n, o.data = .seq (List.toArray its) n) (fun i v => (List.toArray its)[i]? = some v) (LCg.FinE h₀ L m { s₁ with heap := g } Q) its.length 0 [] news
theorem TupSrc.led {A : Around} {env : Env} {elt : Expr} {x : Str} {scope : Scope} {cl : List (Str × Addr)} {Q : Value → Shared → Prop} {ax : Addr} {its : List Value} {k : Nat} (hh : A.handled = none) (F : Fr h₀ L s.heap m) (N : News h₀ L s.heap news) (hm : (ax, ({ cls := .type "tuple", data := .seq (List.toArray its) k } : Obj)) ∈ news) (hsz : its.length ≤ 1000)
    (h : ∀ g, LCg.CompRest prog w A h₀ L m env elt x scope cl { s with heap := g } (fun nw => False ∨ ∃ o, (ax, o) ∈ nw ∧ o.cls = .type "tuple" ∧ ∃ n, o.data = .seq (List.toArray its) n) (fun i v => (List.toArray its)[i]? = some v) (LCg.FinE h₀ L m { s with heap := g } Q) its.length 0 [] news) :
    TupSrc prog w A h₀ L m env elt x scope cl Q (.ref ax) s := ⟨ax, its, k, news, rfl, hh, F, N, hm, hsz, h⟩
theorem comp_tup {A : Around} {elt iter : Expr} {x : Str} {px : Pos} {scope : Scope} {cl : List (Str × Addr)} {pos : Pos} {env : Env} {Q : Value → Shared → Prop} (F₀ : Fr h₀ L s.heap m)
    (hclos : closureFor scope env = pure cl) (hcell : ∀ y ∈ scope.names, y.2 ≠ .cell) (hkind : scope.kind = .function)
    (hnames : ∀ y ∈ scope.names, y.2 = .local → scope.names.lookup y.1 = some .local) (hx : scope.names.lookup x = some .local)
    (h : wpAny (model prog w) A (eval iter env) (TupSrc prog w A h₀ L m env elt x scope cl Q) E s)
    (hs : ∀ x, foldedSetIterable iter env x = pure x := by intro _; rfl) :
    wpAny (model prog w) A (eval (.ListComp elt [⟨.Name x px, iter, [], 0⟩] scope pos) env) Q E s := by
  rw [eval_ListComp]
  refine wpAny_comprehension_free (use := none) rfl hs hclos hkind hnames (wpAny_mono h ?_ fun _ _ e => e)
  rintro xv s₁ ⟨ax, its, k, news, rfl, hh, F, N, hm, hsz, R⟩
  have ht : s₁.heap.IsTuple ax its.toArray := ⟨_, (N _ hm).1, rfl, k, rfl⟩
  have hlt : ax < s₁.heap.objs.size := Heap.lt_size (N _ hm).1
  refine iter_tuple ht ?_
  have up : ∀ b o, s₁.heap.get? b = some o → (s₁.heap.push { cls := .type "tuple_iterator", data := .fields #[.ref ax, .int 0 0] }).get? b = some o := fun b o e => Heap.get?_push_of_some _ e
  have W := Walks.tuple (prog := prog) (w := w) hh s₁.heap.objs.size ax (Nat.ne_of_lt hlt) its.toArray
  have e9 : its.toArray.size = its.length := List.size_toArray
  refine LCg.block_U W (by rw [sizeLine_eq, e9]; omega) (fun i h st => by obtain ⟨o, e, _⟩ := st.1; exact ⟨o, e⟩) (fun i h h' o nw st e e' _ N' S' => ⟨?_, ?_⟩) hcell hkind hx ⟨⟨_, Heap.get?_push_size _ rfl, rfl, rfl⟩, ht.at fun o e => up _ _ e⟩ (fun b hb => ?_) (F.keeps up) (N.grown up) (Nat.ne_of_lt F.ns.lt) (next_is_new F) (fun p hp => Nat.ne_of_lt (Heap.lt_size (N p hp).1)) (S := fun nw => False ∨ ∃ o, (ax, o) ∈ nw ∧ o.cls = .type "tuple" ∧ ∃ n, o.data = .seq (List.toArray its) n) (.inr ⟨_, hm, rfl, _, rfl⟩) (by rw [e9]; exact R _) ?_
  · obtain ⟨o', q, r⟩ := st.1
    rw [e] at q; cases q
    exact ⟨o, e', r⟩
  · rcases S' with h | ⟨o2, hm2, hc2, n2, hd2⟩
    · exact h.elim
    · exact ⟨o2, (N' _ hm2).1, hc2, n2, hd2⟩
  · show b < (s₁.heap.push _).objs.size
    rw [Heap.size_push]
    rcases List.mem_cons.mp hb with rfl | hb
    · exact Nat.lt_succ_self _
    · rw [List.mem_singleton.mp hb]; exact Nat.lt_succ_of_lt hlt
  · intro D C h tk m' ys news' F' N' o1 hn' hC₀ hD₀ hCL hDL hCD offC fin
    refine ⟨m', hn', fun g' hg => fin D g' tk (F'.change hg hCL hC₀) (fun p hp => ⟨hg.extBut _ _ ?_ (N' p hp).1, (N' p hp).2⟩) o1⟩
    rcases List.mem_cons.mp hp with rfl | hp
    · exact Ne.symm hCD
    · exact offC p hp
end
example : True := by first | walk1 | trivial
section
open PySem.SeqAt in
theorem tup2_eq {A : Around} {l l' : Addr} {a b c d : Value} {k1 k2 : Bool} (h1 : s.heap.IsTuple l #[a, b]) (h2 : s.heap.IsTuple l' #[c, d]) (hne : l ≠ l') (hu : A.units < cLine) (e1 : EqAt A.in1 s a c k1) (e2 : EqAt A.in1 s b d k2) : EqAt A s (.ref l) (.ref l') (k1 && k2) := by
  refine EqAt.of_refs hne ?_
  have r := RcAt.tuples (e := fun j => if j = 0 then k1 else k2) h1 h2 hu (fun j i1 i2 => ?_)
  · have e : ((List.range (min (#[a, b] : Array Value).size (#[c, d] : Array Value).size)).all (fun j => if j = 0 then k1 else k2) && (#[a, b] : Array Value).size == (#[c, d] : Array Value).size) = (k1 && k2) := by
      show ((List.range 2).all (fun j => if j = 0 then k1 else k2) && true) = (k1 && k2)
      cases k1 <;> cases k2 <;> rfl
    rw [e] at r
    exact r
  · have hj : j = 0 ∨ j = 1 := by
      have : j < 2 := i1
      first | exact le1c (Nat.le_of_lt_succ (by assumption)) | omega
    rcases hj with rfl | rfl
    · exact e1
    · exact e2
open PySem.SeqAt in
theorem ints2_eq {A : Around} {l l' : Addr} {x y x' y' : Int} {t u t' u' : Tok} (h1 : s.heap.IsTuple l #[.int x t, .int y u]) (h2 : s.heap.IsTuple l' #[.int x' t', .int y' u']) (hne : l ≠ l') (hu : A.units < cLine) : EqAt A s (.ref l) (.ref l') ((x == x') && (y == y')) :=
  tup2_eq h1 h2 hne hu (EqAt.int_int _ _ _ _) (EqAt.int_int _ _ _ _)
open PySem.SeqAt in
theorem notin_two {A : Around} {t0 T0 y1 y2 u1 u2 v1 v2 r r' : Addr} {a1 a2 a3 a4 a5 a6 a7 a8 a9 b1 b2 b3 : Tok} {n1 n2 n3 n4 n5 n6 n7 n8 n9 n10 : Nat} {Q : Value → Shared → Prop} (N : News h₀ L s.heap news)
    (mT : (T0, tupO [.ref y1, .ref y2] n1) ∈ news) (m1 : (y1, tupO [.ref u1, .ref u2] n2) ∈ news) (m2 : (u1, tupO [.int 0 a1, .int 0 a2] n3) ∈ news) (m3 : (u2, tupO [.int 1 a3, .int 0 a4] n4) ∈ news)
    (m4 : (y2, tupO [.ref v1, .ref v2] n5) ∈ news) (m5 : (v1, tupO [.int 1 a5, .int 0 a6] n6) ∈ news) (m6 : (v2, tupO [.int 0 a7, .int 0 a8] n7) ∈ news)
    (m7 : (t0, tupO [.ref r, .ref r'] n8) ∈ news) (m8 : (r, tupO [.int 0 a9, .int 0 b1] n9) ∈ news) (m9 : (r', tupO [.int 1 b2, .int 0 b3] n10) ∈ news)
    (h12 : @Ne Nat y1 y2) (h1t : @Ne Nat y1 t0) (h2t : @Ne Nat y2 t0) (k1 : @Ne Nat u1 r) (k2 : @Ne Nat u2 r') (k3 : @Ne Nat v1 r) (k4 : @Ne Nat v2 r') (hu : A.units + 100 < cLine)
    (h : Q (.bool false) s) : wpAny (model prog w) A (compareOp .NotIn (.ref t0) (.ref T0)) Q E s := by
  have g : ∀ {a xs n}, (a, tupO xs n) ∈ news → s.heap.IsTuple a xs.toArray := fun hm => ⟨_, (N _ hm).1, rfl, _, rfl⟩
  have u1' : A.in1.units < cLine := by show _ < _; first | exact Nat.lt_of_le_of_lt (by simp [Around.in1]) hu | (simp [Around.in1]; omega) | omega
  have u2' : A.in1.in1.units < cLine := by first | (simp [Around.in1]; omega) | omega
  have u3' : A.in1.in1.in1.units < cLine := by first | (simp [Around.in1]; omega) | omega
  refine notIn_tupleAt (fun y => y == .ref y1) (g mT) (fun y hy => ?_) ?_
  · have hy' : y = .ref y1 ∨ y = .ref y2 := by simpa using hy
    rcases hy' with rfl | rfl
    · have e := tup2_eq (A := A.in1) (g m1) (g m7) h1t u1' (ints2_eq (g m2) (g m8) k1 u2') (ints2_eq (g m3) (g m9) k2 u2')
      have e9 : ((Value.ref y1) == (Value.ref y1)) = true := beq_self_eq_true _
      rw [e9]; exact e
    · have e := tup2_eq (A := A.in1) (g m4) (g m7) h2t u1' (ints2_eq (g m5) (g m8) k3 u2') (ints2_eq (g m6) (g m9) k4 u2')
      have e9 : ((Value.ref y2) == (Value.ref y1)) = false := by
        rw [beq_eq_false_iff_ne]; intro x; injection x with x; exact h12 x.symm
      rw [e9]; exact e
  · have e : (!(#[Value.ref y1, Value.ref y2] : Array Value).any fun y => y == .ref y1) = false := by simp
    show Q (.bool (!(#[Value.ref y1, Value.ref y2] : Array Value).any fun y => y == .ref y1)) s
    rw [e]; exact h
end
example : True := by first | walk1 | trivial
section
example : True := by
  k_with "eval ListComp" => ((guard_hyp zg590); (k_here; k_dflt (refine comp_tup (F₀ := by k_asm) (by with_unfolding_all rfl) (by decide) (by rfl) (by decide) (by rfl) ?_)))
  trivial
example : True := by
  k_with "TupSrc" => ((guard_hyp zg590); (refine hold ?_))
  trivial
example : True := by
  k_with "compareOp NotIn ref ref" => ((guard_hyp zg590); (k_here; k_dflt (refine' notin_two ?N ?mT ?m1 ?m2 ?m3 ?m4 ?m5 ?m6 ?m7 ?m8 ?m9 ?p1 ?p2 ?p3 ?p4 ?p5 ?p6 ?p7 ?hu ?_; (case N => k_asm); (case mT => k_mem); (case m7 => k_mem); (case m1 => k_mem); (case m2 => k_mem); (case m3 => k_mem); (case m4 => k_mem); (case m5 => k_mem); (case m6 => k_mem); (case m8 => k_mem); (case m9 => k_mem); (case p1 => (show @Ne Nat _ _; k_extra "z:ne")); (case p2 => (show @Ne Nat _ _; k_extra "z:ne")); (case p3 => (show @Ne Nat _ _; k_extra "z:ne")); (case p4 => (show @Ne Nat _ _; k_extra "z:ne")); (case p5 => (show @Ne Nat _ _; k_extra "z:ne")); (case p6 => (show @Ne Nat _ _; k_extra "z:ne")); (case p7 => (show @Ne Nat _ _; k_extra "z:ne")); (case hu => exact Nat.le_of_ble_eq_true rfl)); (try dsimp only); (try k_fold)))
  trivial
theorem strip2 {Q : Value → Shared → Prop} {v : Value} {s : Shared} (h : Q v s) : Q v s := h
theorem C_painted {xa dx : Addr} {x y b : Int} {t1 t2 t3 : Tok} {bs : Array UInt8}
 (B : Below A₀ base outer h₀) (F : Fr h₀ L zh m) (X : (hd.heap_39 w.params).In h₀) (T : Top p loose mean mg mb h₀) (hk : cs.kind = .function) (N : News h₀ L zh news)
 (m1 : (sx, instObj 424 sd) ∈ news) (m2 : (sd, shelfO w tb tr st1 st2 sn) ∈ news) (m3 : (ha, ho) ∈ news) (lo : (ha == sysModules) = false)
 (m5 : (xa, instObj 280 dx) ∈ news) (m6 : (dx, streamD w t1 t2 ha bs t3) ∈ news) (hz : bs.size ≤ 100000)
 (H : MaskHead prog w ho false x y b) (x0 : 1 ≤ x) (x1 : x ≤ 9) (y0 : 1 ≤ y) (y1 : y ≤ 4)
 (ret : ∀ D zs e h' tk', (∀ v ∈ zs, Rowf (fun v => ∃ b, v = .bool b) x e v) → (zs.length : Int) = y → needZ x y b ≤ bs.size → Fr h₀ L h' m → News h₀ L h' ((D, LCg.lst zs) :: (e ++ news)) → (∀ q ∈ e ++ news, @Ne Nat q.1 D) → Fresh e news → Q (.ref D) ⟨h', zg, zd, tk', zo⟩)
 (err : ∀ e g h' tk', Fr h₀ L g m → g.UpToSlots h' → RaisedN base (envX cn cs L a ccd cl :: outer) e (.ref 71) news h' → (bs.size : Int) < needZ x y b → E (.ref e) ⟨h', zg, zd, tk', zo⟩) :
 CallAt 560 4600 prog w gd cn cs L a ccd cl outer 803 [.ref sx, .ref xa, .ref 832] Q E ⟨zh, zg, zd, zk, zo⟩ := by
  have zg590 : Gate 590 := trivial
  obtain ⟨kvs, u1, u2, hd1, hlen, hwd, hht, hdc, hi, hbp, rfl⟩ := H
  have hw : WholeSaid prog w news sx kvs (Str.ofString "Width") x := .inl ⟨_, hwd⟩
  have hh : WholeSaid prog w news sx kvs (Str.ofString "Height") y := .inl ⟨_, hht⟩
  have hb : IsDepth 1 := .inl rfl
  have hl : DepthSaid kvs 1 := by first | exact .inr ⟨hi, hbp, rfl⟩ | exact .inl ⟨hi, hbp, rfl⟩
  have hsm : Hold (needZ x y (1 * 1) ≤ bs.size → x ≤ 9 ∧ y ≤ 4) := fun _ => ⟨x1, y1⟩
  refine wpAny_call ?_
  k_dflt k_enter
  k_extra "z:flat"
  refine Hold.go ?_
  rename_i g' L' h0' FG' X' T' B' qk1 ek1 tk1 h91 tk91 qk2 ek2 fx fd t91 t92 t93 t94 tx9 ty9 t9 h92 tk92 l9 l10 h93 F93 N93 dD dr dt du dk dn h94 tk94 lF lN dl2 dl1 dl3
  refine TupSrc.led (its := [.int 0 dt, .int 1 du]) (k := dn) (by rfl) lF lN (.tail _ (.head _)) (Nat.le_of_ble_eq_true rfl) ?_
  intro g9
  refine comp_restL (σ := List (Addr × Obj)) (fun e => (dD, listOf [Value.ref dr].toArray dk) :: (dr, tupO [.int 0 dt, .int 1 du] dn) :: (e ++ ((fx, instObj 670 fd) :: (fd, latO w t91 t92 t93 t94 x tx9 y ty9 1 t9 1 _) :: news))) (fun i ys e => (i = 0 ∧ ys = [] ∧ e = []) ∨ (i = 1 ∧ ∃ r a b, ys = [Value.ref r] ∧ e = [(r, tupO [.int 0 a, .int 0 b] 0)]) ∨ (i = 2 ∧ ∃ r a b r' a' b', ys = [Value.ref r, Value.ref r'] ∧ e = [(r', tupO [.int 1 a', .int 0 b'] 0), (r, tupO [.int 0 a, .int 0 b] 0)])) [] (.inl ⟨rfl, rfl, rfl⟩) (fun _ => .inr ⟨_, .tail _ (.head _), rfl, _, rfl⟩) ?_ ?_
  · rintro i e ys v I oI C oC D m2 h tk E' hi q hv hC hx F2 N2 off ne
    rcases q with ⟨rfl, rfl, rfl⟩ | ⟨rfl, r, a, b, rfl, rfl⟩ | ⟨rfl, _⟩
    · obtain rfl := Option.some.inj hv
      simp only [List.nil_append] at N2 off
      dsimp only
      k_extra "z:flat"
      refine strip2 ?_
      k_extra "z:flat"
      rename Addr => rT
      rename Fr _ _ _ _ => lF9
      rename News _ _ _ _ => lN9
      refine CompT.of ((rT, _) :: []) lF9 lN9 (by k_sub) ?_ (.inr (.inl ⟨rfl, rT, _, _, rfl, rfl⟩))
      refine List.forall_mem_cons.mpr ⟨off _ (.head _), List.forall_mem_cons.mpr ⟨off _ (.tail _ (.head _)), List.forall_mem_cons.mpr ⟨⟨by k_ne, by k_ne, by k_ne⟩, fun q hq => off q (.tail _ (.tail _ hq))⟩⟩⟩
    · obtain rfl := Option.some.inj hv
      simp only [List.nil_append, List.cons_append] at N2 off
      dsimp only
      k_extra "z:flat"
      refine strip2 ?_
      k_extra "z:flat"
      rename Addr => rT
      rename Fr _ _ _ _ => lF9
      rename News _ _ _ _ => lN9
      refine CompT.of ((rT, _) :: [(r, tupO [.int 0 a, .int 0 b] 0)]) lF9 lN9 (by k_sub) ?_ (.inr (.inr ⟨rfl, r, a, b, rT, _, _, rfl, rfl⟩))
      refine List.forall_mem_cons.mpr ⟨off _ (.head _), List.forall_mem_cons.mpr ⟨off _ (.tail _ (.head _)), List.forall_mem_cons.mpr ⟨⟨by k_ne, by k_ne, by k_ne⟩, fun q hq => off q (.tail _ (.tail _ hq))⟩⟩⟩
    · exact absurd hi (by show ¬ ((2 : Nat) < 2); decide)
  · rintro ys e q
    unfold LCg.FinE
    intro D3 h3 tk3 F3 N3 off3
    have off' := off1_mem off3
    rcases q with ⟨h, _⟩ | ⟨h, _⟩ | ⟨_, r, a, b, r', a', b', rfl, rfl⟩
    · exact absurd h (by show ¬ ((2 : Nat) = 0); decide)
    · exact absurd h (by show ¬ ((2 : Nat) = 1); decide)
    simp only [List.nil_append, List.cons_append] at N3 off'
    try dsimp only
    change wpAny _ _ _ _ _ _
    try k_fold
    k_extra "z:flat"
    · refine' ret _ _ _ _ _ ?zr ?zl ?zn ?zF ?zN ?zo ?zf
      (case zF => k_asm)
      (case zr => assumption)
      (case zl => k_extra "z:o")
      (case zn => (rename needZ _ _ _ ≤ _ => en9; rename Array.size _ = Array.size bs => oz9; rw [← oz9]; rw [Int.mul_one] at en9; exact en9))
      (case zN => refine' cb_drop ?zN1 ?zS1; (case zN1 => k_asm); (case zS1 => exact soft_drop (pre := []) (fun q hq => by simp only [List.mem_cons, List.mem_append, hq, or_true])))
      (case zo => (rename ∀ q, q ∈ _ ++ _ → _ => rn9; exact fun q hq => rn9 q (soft_sub (fun q hq => by simp only [List.mem_cons, List.mem_append, hq, or_true]) q hq)))
      (case zf => (rename Fresh _ _ => rf9; exact rf9.mono (fun q hq => by simp only [List.mem_cons, List.mem_append, hq, or_true])))
    · refine' err _ _ _ _ ?eF ?eU ?eR ?eL
      (case eF => assumption)
      (case eU => assumption)
      (case eR => exact RaisedN.sub (by assumption) (fun q hq => by simp only [List.mem_cons, List.mem_append, hq, or_true]))
      (case eL => (rw [← Int.mul_one 1]; omega))
end
example : True := by first | walk1 | trivial
example : True := by
  k_with "call ref" => (k_here; (with_reducible show wpAny _ _ (call (Value.ref 803) _) _ _ _); k_dflt (refine' up (D := 560) (U := 4600) (C_painted ?B ?F ?X ?T ?hk ?N ?m1 ?m2 ?m3 ?lo ?m5 ?m6 ?hz ?H ?x0 ?x1 ?y0 ?y1 ?_ ?_) ?d ?u; (case N => k_asm); (case m1 => k_mem); (case m2 => k_mem); (case m5 => k_mem); (case m6 => k_mem); (case m3 => k_mem); (case lo => assumption); (case hz => assumption); (case H => assumption); (case x0 => assumption); (case x1 => assumption); (case y0 => assumption); (case y1 => assumption); (case B => k_asm); (case F => k_asm); (case X => k_asm); (case T => k_asm); (case hk => first | assumption | exact rfl); (case d => exact Nat.le_of_ble_eq_true rfl); (case u => exact Nat.le_of_ble_eq_true rfl); k_whole); intro _ _ _ _ _ _ _ _ _ _ _ _; (try dsimp only); (try k_fold))
  trivial
section
/-- what decides the opacity beside the image's own octets -/
inductive MaskCase (prog : Program) (w : World) (news : List (Addr × Obj)) (c : Int) : Option Value → Option Value → Prop → Prop
  | none : MaskCase prog w news c none none True
  | sten {xa dx ha : Addr} {o : Obj} {x y b : Int} {t1 t2 t3 : Tok} {bs : Array UInt8} : (xa, instObj 280 dx) ∈ news → (dx, streamD w t1 t2 ha bs t3) ∈ news → (ha, o) ∈ news → (ha == sysModules) = false → MaskHead prog w o false x y b → 1 ≤ x → x ≤ 9 → 1 ≤ y → y ≤ 4 → bs.size ≤ 100000 → MaskCase prog w news c (some (.ref xa)) none (needZ x y b ≤ bs.size)
  | keys {l : Addr} {ms : List Value} {n : Nat} : (l, listOf ms.toArray n) ∈ news → (∀ v ∈ ms, ∃ t, v = Value.int 0 t) → (ms.length : Int) = 2 * c → MaskCase prog w news c (some (.ref l)) none True
  | soft {mk : Option Value} {xa dx ha : Addr} {o : Obj} {x y b : Int} {t1 t2 t3 : Tok} {bs : Array UInt8} : (xa, instObj 280 dx) ∈ news → (dx, streamD w t1 t2 ha bs t3) ∈ news → (ha, o) ∈ news → (ha == sysModules) = false → MaskHead prog w o true x y b → 1 ≤ x → x ≤ 9 → 1 ≤ y → y ≤ 4 → IsDepth b → bs.size ≤ 100000 → Plain news (mk.getD .none) → MaskCase prog w news c mk (some (.ref xa)) (needZ x y b ≤ bs.size)
theorem op_drop {D : Addr × Obj} {e l R : List (Addr × Obj)} (h1 : ∀ q ∈ e, q ∈ D :: R) (h2 : ∀ q ∈ l, q ∈ D :: R) : ∀ q ∈ D :: (e ++ l), q ∈ D :: R := fun q hq => by
  rcases List.mem_cons.mp hq with rfl | hq
  · exact .head _
  · rcases List.mem_append.mp hq with hq | hq
    · exact h1 q hq
    · exact h2 q hq
theorem op_both {e l R : List (Addr × Obj)} (h1 : ∀ q ∈ e, q ∈ R) (h2 : ∀ q ∈ l, q ∈ R) : ∀ q ∈ e ++ l, q ∈ R := fun q hq => by
  rcases List.mem_append.mp hq with hq | hq
  · exact h1 q hq
  · exact h2 q hq
end
example : True := by first | walk1 | trivial
section
example : True := by
  k_with "exec Assign cons ListComp" => ((guard_hyp zg650); (k_here; k_dflt (refine LCg.Assign_ListComp_U (F₀ := by k_asm) (by rfl) (by with_unfolding_all rfl) (by rfl) (by decide) (by rfl) (by decide) (by rfl) (by rfl) (by rfl) ?_)))
  trivial
example : True := by
  k_with "CompSrc" => ((guard_hyp zg650); (refine hold ?_))
  trivial
theorem ints_mem {vs : List Value} {ns : List Int} (h : IntsAre vs ns) : ∀ v ∈ vs, ∃ k t, v = .int k t := by
  have zg650 : Gate 650 := trivial
  induction h with
  | nil => exact fun _ h => absurd h List.not_mem_nil
  | cons k t _ ih => exact List.forall_mem_cons.mpr ⟨⟨k, t, rfl⟩, ih⟩
theorem ints_snoc1 {vs : List Value} {k : Int} {t : Tok} (h : ∃ ks, IntsAre vs ks) : ∃ ks, IntsAre (vs ++ [.int k t]) ks := by
  have zg650 : Gate 650 := trivial
  obtain ⟨ks, h⟩ := h
  refine ⟨ks ++ [k], ?_⟩
  induction h with
  | nil => exact .cons _ _ .nil
  | cons _ _ _ ih => exact .cons _ _ ih
theorem C_well {sa : Addr} {vs : List Value} {ns : List Int}
 (B : Below A₀ base outer h₀) (F : Fr h₀ L zh m) (X : (hd.heap_39 w.params).In h₀) (T : Top p loose mean mg mb h₀) (hk : cs.kind = .function) (N : News h₀ L zh news)
 (hS : base.IsList sa vs.toArray) (hI : IntsAre vs ns) (hc : ¬ ((63 : Nat) : Int) < (ns.length : Int))
 (ret : ∀ wl kl kv ks vc t1 t2 t3 n1 n2 h' tk', IntsAre kv ks → kv.length ≤ 1000 → 0 ≤ vc → vc < 1009 → Fr h₀ L h' m → News h₀ L h' ((wl, wellO kl 0 t1 0 t2 vc t3 n1) :: (kl, listOf kv.toArray n2) :: news) → (∀ q ∈ news, @Ne Nat q.1 kl) → (∀ q ∈ news, q.1 < wl) → @LT.lt Nat _ kl wl → Q (.ref wl) ⟨h', zg, zd, tk', zo⟩) :
 CallAt 600 5000 prog w gd cn cs L a ccd cl outer 818 [.ref sa] Q E ⟨zh, zg, zd, zk, zo⟩ := by
  have zg650 : Gate 650 := trivial
  refine wpAny_call ?_
  k_dflt k_enter
  k_steps
  refine Hold.go ?_
  rename IntsAre _ (List.take 63 ns) => hi9
  rename (List.take 63 ns).length = _ => hm9
  rename Fr _ _ _ _ => lF
  rename News _ _ _ ((_, listOf (List.toArray _) 0) :: _) => lN
  rename ∀ q, q ∈ news → _ < _ => ln9
  have hz9 := hi9.length
  refine LCg.CompSrc.ledger (k := 0) (by rfl) lF lN (.head _) (by rw [sizeLine_eq, List.size_toArray]; omega) ?_
  intro g9
  refine comp_restL (σ := Unit) (fun _ => _) (fun i ys _ => ys.length = i ∧ ∃ ks, IntsAre ys ks) () ⟨rfl, [], .nil⟩ (fun _ => .inr ⟨_, .head _, rfl, _, rfl⟩) ?_ ?_
  · rintro i ⟨⟩ ys v I oI C oC D m2 h tk E' hi ⟨p0, p1⟩ hv hC hx F2 N2 off ne
    obtain ⟨k, t, rfl⟩ := ints_mem hi9 v (mem_its hv)
    try dsimp only at F2 N2
    dsimp only
    k_steps
    all_goals (
      refine' CompT.of () ?zF ?zN ?zS off ⟨?y0, ?y1⟩
      (case zF => k_asm)
      (case zN => k_asm)
      (case zS => k_sub)
      (case y0 => (rw [List.length_append, p0]; rfl))
      (case y1 => exact ints_snoc1 p1))
  · rintro ys ⟨⟩ ⟨p0, ks, p1⟩
    refine fun D h3 tk3 F3 N3 off3 => ?_
    have off' := off1_mem off3
    k_steps
    rename _ ∧ _ ∧ AllLt _ news => l9
    have p2 : ys.length ≤ 1000 := by rw [p0, List.size_toArray]; omega
    refine' ret _ _ ys ks _ _ _ _ _ _ _ _ p1 p2 ?c0 ?c1 ?zF ?zN ?z1 ?z2 ?z3
    (case zF => k_asm)
    (case zN => refine' cb_drop ?zN1 ?zS1; (case zN1 => k_asm); (case zS1 => k_sub))
    (case c0 => exact Int.fmod_nonneg_of_pos _ (by decide))
    (case c1 => exact Int.fmod_lt_of_pos _ (by decide))
    (case z1 => exact fun q hq => off' q (.tail _ hq))
    (case z2 => exact allLt_mem l9.2.2)
    (case z3 => exact l9.1)
end
example : True := by first | walk1 | trivial
example : True := by
  k_with "call ref" => (k_here; (with_reducible show wpAny _ _ (call (Value.ref 818) _) _ _ _); k_dflt (refine' up (D := 600) (U := 5000) (C_well ?B ?F ?X ?T ?hk ?N ?hS ?hI ?hc ?_) ?d ?u; (case N => k_asm); (case B => k_asm); (case F => k_asm); (case X => k_asm); (case T => k_asm); (case hS => assumption); (case hI => assumption); (case hc => assumption); (case hk => first | assumption | exact rfl); (case d => exact Nat.le_of_ble_eq_true rfl); (case u => exact Nat.le_of_ble_eq_true rfl); k_whole); intro _ _ _ _ _ _ _ _ _ _ _ _ _ _ _ _ _ _ wo9 wp9 wq9; (try (have wo1 := List.forall_mem_cons.mp wo9; clear wo9; obtain ⟨wa9, wo9⟩ := wo1; dsimp only at wa9; revert wa9; intro _)); (try (have wo1 := List.forall_mem_cons.mp wo9; clear wo9; obtain ⟨wa9, wo9⟩ := wo1; dsimp only at wa9; revert wa9; intro _)); (try (have wo1 := List.forall_mem_cons.mp wo9; clear wo9; obtain ⟨wa9, wo9⟩ := wo1; dsimp only at wa9; revert wa9; intro _)); (try k_lt wp9); (have wr9 := Nat.ne_of_lt wq9); (try k_lt2 wq9); revert wo9 wp9 wr9 wq9; intro _ _ _ _; (try dsimp only))
  trivial
section
example : True := by
  k_with "exec While" => ((guard_hyp zg660); (refine hold ?_))
  trivial
example : True := by
  k_with "exec While Compare" => ((guard_hyp zg660); (refine hold ?_))
  trivial
theorem C_add0 {o1 : Obj} {y : Int} {ty : Tok} {rest : List (Addr × Obj)}
 (B : Below A₀ base outer h₀) (F : Fr h₀ L zh m) (X : (hd.heap_39 w.params).In h₀) (T : Top p loose mean mg mb h₀) (hk : cs.kind = .function) (N : News h₀ L zh ((tb, o1) :: rest)) (r1 : ∀ q ∈ rest, q.1 ≠ tb)
 (m1 : (sx, instObj 424 sd) ∈ rest) (m2 : (sd, shelfO w tb tr st1 st2 sn) ∈ rest) (lo1 : (tb == sysModules) = false) (hi1 : Obj.IsDictOf (intKind prog w) o1 [])
 (ret : ∀ ra rd tp t3 t4 t5 t6 t7 t8 n2 o' h' tk', Obj.IsDictOf (intKind prog w) o' [((1 : Int), Value.ref tp)] → Fr h₀ L h' m → News h₀ L h' ((ra, instObj 308 rd) :: (rd, refO w t3 t4 t5 t6 1) :: (tp, tupO [.int 0 t7, .int y t8] n2) :: (tb, o') :: rest) → (∀ q ∈ rest, q.1 < tp) → @LT.lt Nat _ tb tp → @LT.lt Nat _ tp rd → @LT.lt Nat _ rd ra → Q (.ref ra) ⟨h', zg, zd, tk', zo⟩) :
 CallAt 600 5000 prog w gd cn cs L a ccd cl outer 395 [.ref sx, .int y ty] Q E ⟨zh, zg, zd, zk, zo⟩ := by
  have zg660 : Gate 660 := trivial
  refine wpAny_call ?_
  k_dflt k_enter
  k_extra "z:flat"
  refine Hold.go ?_
  rename Fr _ _ _ _ => lF
  rename News _ _ _ _ => lN
  refine whl (σ := Unit) (fun m₀ _ => m₀) (fun _ => _) (fun _ => True) (fun _ => 0) () lF lN rfl (fun _ h => h) trivial ?_
  rintro ⟨⟩ h tk - F1 N1
  try dsimp only at F1 N1
  k_extra "z:flat"
  rename _ < _ ∧ AllLt _ rest => q1
  rename _ < _ ∧ _ < _ ∧ AllLt _ rest => q2
  refine' ret _ _ _ _ _ _ _ _ _ _ _ _ _ ?zh ?zF ?zN ?za ?zb ?zc ?zd
  (case zF => k_asm)
  (case zN => k_asm)
  (case zh => assumption)
  (case za => exact allLt_mem q1.2)
  (case zb => exact q1.1)
  (case zc => exact q2.1)
  (case zd => assumption)
theorem C_add {o1 : Obj} {y : Int} {ty : Tok} {g1 : Obj → List (Addr × Obj)}
 (B : Below A₀ base outer h₀) (F : Fr h₀ L zh m) (X : (hd.heap_39 w.params).In h₀) (T : Top p loose mean mg mb h₀) (hk : cs.kind = .function) (N : News h₀ L zh news) (U : UpdF tb o1 news g1)
 (m1 : (sx, instObj 424 sd) ∈ news) (m2 : (sd, shelfO w tb tr st1 st2 sn) ∈ news) (n1 : @Ne Nat sx tb) (n2 : @Ne Nat sd tb) (lo1 : (tb == sysModules) = false) (hi1 : Obj.IsDictOf (intKind prog w) o1 [])
 (ret : ∀ ra rd tp t3 t4 t5 t6 t7 t8 n2 o' h' tk', Obj.IsDictOf (intKind prog w) o' [((1 : Int), Value.ref tp)] → Fr h₀ L h' m → News h₀ L h' ((ra, instObj 308 rd) :: (rd, refO w t3 t4 t5 t6 1) :: (tp, tupO [.int 0 t7, .int y t8] n2) :: g1 o') → (∀ q ∈ g1 o', q.1 < tp) → @LT.lt Nat _ tp rd → @LT.lt Nat _ rd ra → Q (.ref ra) ⟨h', zg, zd, tk', zo⟩) :
 CallAt 600 5000 prog w gd cn cs L a ccd cl outer 395 [.ref sx, .int y ty] Q E ⟨zh, zg, zd, zk, zo⟩ := by
  have zg660 : Gate 660 := trivial
  obtain ⟨pre, post, rfl, hg, a, b⟩ := U.split
  have old : ∀ q, q ∈ pre ++ post → q ∈ pre ++ (tb, o1) :: post := fun q h => by
    rcases List.mem_append.mp h with h | h
    · exact List.mem_append_left _ h
    · exact List.mem_append_right _ (.tail _ h)
  have new : ∀ q, q ∈ pre ++ (tb, o1) :: post → @Ne Nat q.1 tb → q ∈ pre ++ post := fun q h n => by
    rcases List.mem_append.mp h with h | h
    · exact List.mem_append_left _ h
    · rcases List.mem_cons.mp h with rfl | h
      · exact absurd rfl n
      · exact List.mem_append_right _ h
  have big : ∀ o q, q ∈ g1 o → q = (tb, o) ∨ q ∈ pre ++ post := fun o q h => by
    rw [hg] at h
    rcases List.mem_append.mp h with h | h
    · exact .inr (List.mem_append_left _ h)
    · rcases List.mem_cons.mp h with h | h
      · exact .inl h
      · exact .inr (List.mem_append_right _ h)
  refine C_add0 (rest := pre ++ post) B F X T hk (fun q hq => ?_) (fun q hq => ?_) (new _ m1 n1) (new _ m2 n2) lo1 hi1 fun ra rd tp t3 t4 t5 t6 t7 t8 n2 o' h' tk' e1 e2 e3 e4 e5 e6 e7 => ret ra rd tp t3 t4 t5 t6 t7 t8 n2 o' h' tk' e1 e2 (fun q hq => ?_) (fun q hq => ?_) e6 e7
  · rcases List.mem_cons.mp hq with rfl | hq
    · exact N _ (List.mem_append_right _ (.head _))
    · exact N _ (old _ hq)
  · rcases List.mem_append.mp hq with hq | hq
    · exact a q hq
    · exact b q hq
  · rcases List.mem_cons.mp hq with rfl | hq
    · exact e3 _ (.head _)
    · rcases List.mem_cons.mp hq with rfl | hq
      · exact e3 _ (.tail _ (.head _))
      · rcases List.mem_cons.mp hq with rfl | hq
        · exact e3 _ (.tail _ (.tail _ (.head _)))
        · rcases big _ _ hq with rfl | hq
          · exact e3 _ (.tail _ (.tail _ (.tail _ (.head _))))
          · exact e3 _ (.tail _ (.tail _ (.tail _ (.tail _ hq))))
  · rcases big _ _ hq with rfl | hq
    · exact e5
    · exact e4 _ hq
end
example : True := by first | walk1 | trivial
example : True := by
  k_with "call ref" => (k_here; (with_reducible show wpAny _ _ (call (Value.ref 395) _) _ _ _); k_dflt (refine' up (D := 600) (U := 5000) (C_add ?B ?F ?X ?T ?hk ?N ?U ?m1 ?m2 ?n1 ?n2 ?lo1 ?hi1 ?_) ?d ?u; (case N => k_asm); (case m1 => k_mem); (case m2 => k_mem); (case U => k_updF); (case n1 => (show @Ne Nat _ _; k_extra "z:ne")); (case n2 => (show @Ne Nat _ _; k_extra "z:ne")); (case lo1 => assumption); (case hi1 => assumption); (case B => k_asm); (case F => k_asm); (case X => k_asm); (case T => k_asm); (case hk => first | assumption | exact rfl); (case d => exact Nat.le_of_ble_eq_true rfl); (case u => exact Nat.le_of_ble_eq_true rfl); k_whole); intro _ _ _ _ _ _ _ _ _ _ _ _ _ _ _ N9 l9 l8 l7; (try dsimp only at N9); (try dsimp only at l9); (try k_lt l9); (try k_lt2 l8); (try k_lt2 l7); revert N9 l9 l8 l7; intro _ _ _ _; (try dsimp only))
  trivial
section
example : True := by
  k_with "call ref" => ((guard_hyp zg670); (k_here; (with_reducible show wpAny _ _ (call (Value.ref 686) _) _ _ _); k_dflt (refine' up (D := 590) (U := 4900) (C_check ?B ?F ?X ?T ?hk ?N ?f1 ?f2 ?h1 ?h2 ?h3 ?h4 ?h5 ?h6 ?h7 ?h8 ?hz ?_ ?_) ?d ?u; (case N => k_asm); (case f1 => k_mem); (case f2 => k_mem); (case h1 => k_extra "z:o"); (case h2 => k_extra "z:o"); (case h3 => k_extra "z:o"); (case h4 => k_extra "z:o"); (case h5 => k_extra "z:o"); (case h6 => k_extra "z:o"); (case h7 => k_extra "z:o"); (case h8 => k_extra "z:o"); (case hz => k_extra "z:o"); (case B => k_asm); (case F => k_asm); (case X => k_asm); (case T => k_asm); (case hk => first | assumption | exact rfl); (case d => exact Nat.le_of_ble_eq_true rfl); (case u => exact Nat.le_of_ble_eq_true rfl); k_whole); intro _ _ _ _ _; (rename Hold (_ → _ ∧ _) => hs9; have xy9 := Hold.out hs9 (by k_extra "z:o"); revert hs9; intro _; have xx9 := xy9.1; have yy9 := xy9.2; clear xy9; revert xx9 yy9; intro _ _); (try dsimp only); (try k_fold)))
  trivial
example : True := by
  k_with "eval ListComp" => ((guard_hyp zg670); (k_here; k_dflt (refine LCg.ListComp_U (F₀ := by k_asm) (by with_unfolding_all rfl) (by decide) (by rfl) (by decide) (by rfl) ?_)))
  trivial
example : True := by
  k_with "CompSrc" => ((guard_hyp zg670); (refine hold ?_))
  trivial
example : True := by
  k_with "exec If" => ((guard_hyp zi1); refine hold ?_)
  trivial
theorem MaskCase.plain {prog : Program} {w : World} {c : Int} {mk sm : Option Value} {ok : Prop} (M : MaskCase prog w news c mk sm ok) : Plain news (sm.getD .none) ∧ Plain news (mk.getD .none) := by
  have zg670 : Gate 670 := trivial
  cases M with
  | none => exact ⟨.none, .none⟩
  | sten q1 q2 => exact ⟨.none, .strm q1 q2⟩
  | keys q1 => exact ⟨.none, .lst q1⟩
  | soft q1 q2 _ _ _ _ _ _ _ _ _ p => exact ⟨.strm q1 q2, p⟩
theorem keys_led {h : Heap} {D : Addr} {O : Obj} {ke l : List (Addr × Obj)} {p1 p2 p3 : Addr × Obj} {a1 a2 : Addr} {o1 o2 : Obj} (N : News h₀ L h ((D, O) :: (ke ++ p1 :: p2 :: p3 :: (a1, o1) :: (a2, o2) :: l)))
    (kf : Fresh ke (p1 :: p2 :: p3 :: (a1, o1) :: (a2, o2) :: l)) (kn : ∀ q ∈ ke ++ p1 :: p2 :: p3 :: (a1, o1) :: (a2, o2) :: l, @Ne Nat q.1 D) (n1 : ∀ q ∈ l, @Ne Nat q.1 a1) (n2 : ∀ q ∈ l, @Ne Nat q.1 a2) :
    ∃ R, News h₀ L h (p1 :: p2 :: p3 :: (a1, o1) :: (a2, o2) :: R) ∧ (D, O) ∈ R ∧ (∀ q ∈ ke, q ∈ R) ∧ (∀ q ∈ l, q ∈ R) ∧ (∀ q ∈ R, q.1 ≠ a1) ∧ (∀ q ∈ R, q.1 ≠ a2) ∧ (∀ q ∈ R, q = (D, O) ∨ q ∈ ke ∨ q ∈ l) := by
  have m1 : (a1, o1) ∈ p1 :: p2 :: p3 :: (a1, o1) :: (a2, o2) :: l := .tail _ (.tail _ (.tail _ (.head _)))
  have m2 : (a2, o2) ∈ p1 :: p2 :: p3 :: (a1, o1) :: (a2, o2) :: l := .tail _ (.tail _ (.tail _ (.tail _ (.head _))))
  have ml : ∀ q ∈ l, q ∈ p1 :: p2 :: p3 :: (a1, o1) :: (a2, o2) :: l := fun q hq => .tail _ (.tail _ (.tail _ (.tail _ (.tail _ hq))))
  refine ⟨(D, O) :: (ke ++ l), ?_, .head _, fun q hq => .tail _ (List.mem_append_left _ hq), fun q hq => .tail _ (List.mem_append_right _ hq), ?_, ?_, ?_⟩
  · intro q hq
    simp only [List.mem_cons, List.mem_append] at hq
    refine N q ?_
    simp only [List.mem_cons, List.mem_append]
    rcases hq with h | h | h | h | h | h | h | h <;> simp only [h, true_or, or_true]
  · intro q hq
    rcases List.mem_cons.mp hq with rfl | hq
    · exact Ne.symm (kn _ (List.mem_append_right _ m1))
    · rcases List.mem_append.mp hq with hq | hq
      · exact Ne.symm (kf q hq _ m1)
      · exact n1 q hq
  · intro q hq
    rcases List.mem_cons.mp hq with rfl | hq
    · exact Ne.symm (kn _ (List.mem_append_right _ m2))
    · rcases List.mem_append.mp hq with hq | hq
      · exact Ne.symm (kf q hq _ m2)
      · exact n2 q hq
  · intro q hq
    rcases List.mem_cons.mp hq with rfl | hq
    · exact .inl rfl
    · exact .inr (List.mem_append.mp hq)
theorem ZeroSpan.all {e l : List (Addr × Obj)} {zs : List Value} (h : ∀ v ∈ zs, ZeroSpan e v) (hs : ∀ q ∈ e, q ∈ l) : ∀ v ∈ zs, ZeroSpan l v := fun v hv => (h v hv).mono hs
theorem C_opac {rs va xa dx : Addr} {ro : Obj} {x y b c : Int} {ix : Bool} {t1 t2 t3 tp : Tok} {bs : Array UInt8} {mk sm : Option Value} {ok : Prop}
 (B : Below A₀ base outer h₀) (F : Fr h₀ L zh m) (X : (hd.heap_39 w.params).In h₀) (T : Top p loose mean mg mb h₀) (hk : cs.kind = .function) (N : News h₀ L zh news)
 (m1 : (sx, instObj 424 sd) ∈ news) (m2 : (sd, shelfO w tb tr st1 st2 sn) ∈ news) (m3 : (ha, ho) ∈ news) (lo : (ha == sysModules) = false) (hd1 : ho.IsDictOf (strKind prog w) kvs)
 (m4 : (rs, ro) ∈ news) (ro1 : (rs == sysModules) = false) (ro2 : ro.IsDictOf (strKind prog w) [])
 (m5 : (xa, instObj 280 dx) ∈ news) (m6 : (dx, streamD w t1 t2 ha bs t3) ∈ news) (hz : bs.size ≤ 100000)
 (H : HeadOk prog w news sx kvs x y b va c ix) (hc0 : 1 ≤ c) (hc1 : c ≤ 4) (hsm : Hold (needZ x y (b * c) ≤ bs.size → x ≤ 9 ∧ y ≤ 4))
 (hmk : valueAt kvs (Str.ofString "Mask") = mk) (hsk : valueAt kvs (Str.ofString "SMask") = sm) (M : MaskCase prog w news c mk sm ok)
 (ret : ∀ D zs e k h' tk', (∀ v ∈ zs, Rowf (fun _ => True) x e v) → (zs.length : Int) = y → needZ x y (b * c) ≤ bs.size → ok → Fr h₀ L h' m → News h₀ L h' ((D, listOf (List.toArray zs) k) :: (e ++ news)) → (∀ q ∈ e ++ news, @Ne Nat q.1 D) → Fresh e news → Q (.ref D) ⟨h', zg, zd, tk', zo⟩)
 (err : ∀ e g h' tk', Fr h₀ L g m → g.UpToSlots h' → RaisedN base (envX cn cs L a ccd cl :: outer) e (.ref 71) news h' → ¬ (needZ x y (b * c) ≤ bs.size ∧ ok) → E (.ref e) ⟨h', zg, zd, tk', zo⟩) :
 CallAt 550 4500 prog w gd cn cs L a ccd cl outer 813 [.ref sx, .ref rs, .ref xa, .ref 832, .int 2 tp] Q E ⟨zh, zg, zd, zk, zo⟩ := by
  have zg670 : Gate 670 := trivial
  have hx0 := H.x0
  have hx1 := H.x1
  have hy0 := H.y0
  have hy1 := H.y1
  have hb := H.hb
  have hb1 := hb.pos
  have hb16 := hb.le
  have hi9 := H.hi
  have hc9 := H.hc
  have hv9 := H.hv
  obtain ⟨hps, hpm⟩ := M.plain
  have zi1 : Gate 9001 := trivial
  refine wpAny_call ?_
  k_dflt k_enter
  k_extra "z:flat"
  rotate_left
  · refine' leave_onC ?eK ?eF ?eR ?eU ?_
    (case eK => assumption)
    (case eF => assumption)
    (case eR => assumption)
    (case eU => assumption)
    intro h7 R7 U7
    refine' err _ _ _ _ ?eF ?eU ?eR2 ?eL
    (case eF => assumption)
    (case eU => assumption)
    (case eR2 => exact RaisedN.sub R7 (by k_sub))
    (case eL => (rintro ⟨q1, _⟩; omega))
  clear zi1
  refine Hold.go ?_
  rename Fr _ _ _ _ => lF
  rename News _ _ _ _ => lN
  cases M
  case none =>
    dsimp only [Option.getD] at lF hps hpm
    k_extra "z:flat"
    refine Hold.go ?_
    rename Array.size _ = Array.size bs => ozz
    rename Hold (_ → _ ∧ _) => hsm
    have xy := Hold.out hsm (by k_extra "z:o")
    have xx := xy.1
    have yy := xy.2
    rename IsRange _ _ _ _ _ _ _ _ => rgY
    rename Fr _ _ _ _ => lF
    rename News _ _ _ _ => lN
    obtain ⟨R, hR, lR⟩ := led_abs lN
    have hfd := led_mem hR (.tail _ (.tail _ (.head _)))
    have hfx := led_mem hR (.tail _ (.head _))
    have hca := led_mem hR (.tail _ (.tail _ (.tail _ (.head _))))
    have hcb := led_mem hR (.tail _ (.tail _ (.tail _ (.tail _ (.head _)))))
    have hnn : ∀ q ∈ news, q ∈ R := fun q hq => led_mem hR (.tail _ (.tail _ (.tail _ (.tail _ (.tail _ hq)))))
    refine LCg.CompSrc.range (n := y.toNat) (by rfl) lF lR rgY ?_ ?_ ?_ ?_
    · exact small_one (by k_extra "z:o") (by k_extra "z:o") (by k_extra "z:o") (by k_extra "z:o")
    · (rw [rangeSize_nat, Int.sub_zero])
    · (rw [sizeLine_eq]; k_extra "z:o")
    intro g9
    refine comp_rest (σ := List (Addr × Obj)) (fun e => e ++ R) (fun i ys e => ys.length = i ∧ (∀ v ∈ ys, Rowf (fun _ => True) x e v) ∧ Fresh e R) [] ⟨rfl, fun _ h => absurd h List.not_mem_nil, .nil⟩ (fun _ => trivial) ?_ ?_
    · rintro i e ys v I oI C oC D m2 h tk E' hi ⟨q1, q2, q3⟩ ⟨t9, rfl⟩ hC hx F2 N2 off ne
      try dsimp only at F2 N2
      dsimp only
      have N2 := nadd (nadd (nadd (nadd N2 (.tail _ (.tail _ (.tail _ (List.mem_append_right _ hcb))))) (.tail _ (.tail _ (.tail _ (.tail _ (List.mem_append_right _ hca)))))) (.tail _ (.tail _ (.tail _ (.tail _ (.tail _ (List.mem_append_right _ hfx))))))) (.tail _ (.tail _ (.tail _ (.tail _ (.tail _ (.tail _ (List.mem_append_right _ hfd)))))))
      k_extra "z:flat"
      refine Hold.go ?_
      rename IsRange _ _ _ _ _ _ _ _ => rgX
      rename Fr _ _ _ _ => lF2
      rename News _ _ _ _ => lN2
      refine LCg.CompSrc.range (n := x.toNat) (by rfl) lF2 lN2 rgX ?_ ?_ ?_ ?_
      · exact small_one (by k_extra "z:o") (by k_extra "z:o") (by k_extra "z:o") (by k_extra "z:o")
      · (rw [rangeSize_nat, Int.sub_zero])
      · (rw [sizeLine_eq]; k_extra "z:o")
      intro g8
      refine comp_rest (σ := Unit) (fun _ => _) (fun i ys _ => ys.length = i) () rfl (fun _ => trivial) ?_ ?_
      · rintro i2 ⟨⟩ ys2 v2 I2 oI2 C2 oC2 D2 m3 h2 tk2 E2 hi2 p1 ⟨t8, rfl⟩ hC2 hx2 F4 N4 off2 ne2
        try dsimp only at F4 N4
        dsimp only
        k_extra "z:flat"
        all_goals (
          refine' CompT.of () ?zF ?zN ?zS off2 ?y1
          (case zF => k_asm)
          (case zN => k_asm)
          (case zS => k_sub)
          (case y1 => (rw [List.length_append, p1]; rfl)))
      · rintro ys2 ⟨⟩ p1
        refine fun D2 h3 tk3 F3 N3 off3 => ?_
        have off4 := off1_mem off3
        k_extra "z:flat"
        refine' CompT.of ((D2, LCg.lst ys2) :: e) F3 N3 ?zS ?zO ⟨?y1, ?y2, ?y3⟩
        (case zS => (intro p hp; simp only [List.mem_cons, List.mem_append] at hp ⊢; rcases hp with h | h | h | ((h | h) | h) <;> simp only [h, true_or, or_true]))
        (case zO =>
          intro p hp
          rcases List.mem_append.mp hp with hp | hp
          · rcases List.mem_cons.mp hp with rfl | hp
            · exact ⟨Ne.symm (off4 (I, oI) (by simp only [List.mem_cons, true_or, or_true])), Ne.symm (off4 (C, oC) (by simp only [List.mem_cons, true_or, or_true])), Ne.symm (off4 (D, LCg.lst ys) (by simp only [List.mem_cons, true_or, or_true]))⟩
            · exact off p (List.mem_append_left _ hp)
          · exact off p (List.mem_append_right _ hp))
        (case y1 => (rw [List.length_append, q1]; rfl))
        (case y2 => exact rowf_snoc q2 (by k_extra "z:o") (fun _ _ => trivial))
        (case y3 => exact q3.cons (fun r hr => off4 r (by simp only [List.mem_cons, List.mem_append, hr, or_true])))
    · rintro ys e ⟨q1, q2, q3⟩
      refine fun D h3 tk3 F3 N3 off3 => ?_
      have off' := off1_mem off3
      k_extra "z:flat"
      refine' ret _ _ _ _ _ _ q2 ?zl ?zn ?zk ?zF ?zN ?zo ?zf
      (case zF => k_asm)
      (case zl => k_extra "z:o")
      (case zn => k_extra "z:o")
      (case zk => trivial)
      (case zN => refine' cb_drop ?zN1 ?zS1; (case zN1 => k_asm); (case zS1 => (refine' op_drop ?zS2 ?zS3; (case zS2 => first | k_sub | exact (fun q hq => by simp only [List.mem_cons, List.mem_append, hq, true_or, or_true])); (case zS3 => exact (fun q hq => by simp only [List.mem_cons, List.mem_append, hnn q hq, true_or, or_true])))))
      (case zo => (intro q hq; refine off' q ?_; revert q; refine' op_both ?zS4 ?zS5; (case zS4 => first | k_sub | exact (fun q hq => by simp only [List.mem_cons, List.mem_append, hq, true_or, or_true])); (case zS5 => exact (fun q hq => by simp only [List.mem_cons, List.mem_append, hnn q hq, true_or, or_true]))))
      (case zf => exact q3.mono hnn)
  case sten q1 q2 q3 q4 q5 q6 q7 q8 q9 q10 =>
    dsimp only [Option.getD] at lF hps hpm
    k_extra "z:flat"
    · refine' ret _ _ _ _ _ _ ?zr ?zl ?zn ?zk ?zF ?zN ?zo ?zf
      (case zF => k_asm)
      (case zr => assumption)
      (case zl => k_extra "z:o")
      (case zn => k_extra "z:o")
      (case zk => assumption)
      (case zN => refine' cb_drop ?zN1 ?zS1; (case zN1 => k_asm); (case zS1 => (refine' op_drop ?zS2 ?zS3; (case zS2 => first | k_sub | exact (fun q hq => by simp only [List.mem_cons, List.mem_append, hq, true_or, or_true])); (case zS3 => first | k_sub | exact (fun q hq => by simp only [List.mem_cons, List.mem_append, hq, true_or, or_true])))))
      (case zo => (rename ∀ q, q ∈ _ ++ _ → _ => rn9; (intro q hq; refine rn9 q ?_; revert q; refine' op_both ?zS4 ?zS5; (case zS4 => first | k_sub | exact (fun q hq => by simp only [List.mem_cons, List.mem_append, hq, true_or, or_true])); (case zS5 => first | k_sub | exact (fun q hq => by simp only [List.mem_cons, List.mem_append, hq, true_or, or_true])))))
      (case zf => (rename Fresh _ _ => rf9; exact rf9.mono (fun q hq => by simp only [List.mem_cons, List.mem_append, hq, true_or, or_true])))
    · refine' leave_onC ?eK ?eF ?eR ?eU ?_
      (case eK => assumption)
      (case eF => assumption)
      (case eR => assumption)
      (case eU => assumption)
      intro h7 R7 U7
      refine' err _ _ _ _ ?eF ?eU ?eR2 ?eL
      (case eF => assumption)
      (case eU => assumption)
      (case eR2 => exact RaisedN.sub R7 (by k_sub))
      (case eL => (rintro ⟨q1, q2⟩; omega))
  case soft q1 q2 q3 q4 q5 q6 q7 q8 q9 q10 q11 q12 =>
    dsimp only [Option.getD] at lF hps hpm
    k_extra "z:flat"
    · refine' ret _ _ _ _ _ _ ?zr ?zl ?zn ?zk ?zF ?zN ?zo ?zf
      (case zF => k_asm)
      (case zr => assumption)
      (case zl => k_extra "z:o")
      (case zn => k_extra "z:o")
      (case zk => assumption)
      (case zN => refine' cb_drop ?zN1 ?zS1; (case zN1 => k_asm); (case zS1 => (refine' op_drop ?zS2 ?zS3; (case zS2 => first | k_sub | exact (fun q hq => by simp only [List.mem_cons, List.mem_append, hq, true_or, or_true])); (case zS3 => first | k_sub | exact (fun q hq => by simp only [List.mem_cons, List.mem_append, hq, true_or, or_true])))))
      (case zo => (rename ∀ q, q ∈ _ ++ _ → _ => rn9; (intro q hq; refine rn9 q ?_; revert q; refine' op_both ?zS4 ?zS5; (case zS4 => first | k_sub | exact (fun q hq => by simp only [List.mem_cons, List.mem_append, hq, true_or, or_true])); (case zS5 => first | k_sub | exact (fun q hq => by simp only [List.mem_cons, List.mem_append, hq, true_or, or_true])))))
      (case zf => (rename Fresh _ _ => rf9; exact rf9.mono (fun q hq => by simp only [List.mem_cons, List.mem_append, hq, true_or, or_true])))
    · refine' leave_onC ?eK ?eF ?eR ?eU ?_
      (case eK => assumption)
      (case eF => assumption)
      (case eR => assumption)
      (case eU => assumption)
      intro h7 R7 U7
      refine' err _ _ _ _ ?eF ?eU ?eR2 ?eL
      (case eF => assumption)
      (case eU => assumption)
      (case eR2 => exact RaisedN.sub R7 (by k_sub))
      (case eL => (rintro ⟨q1, q2⟩; omega))
  case keys q1 q2 q3 =>
    dsimp only [Option.getD] at lF hps hpm
    k_extra "z:flat"
    rename Fr _ _ _ _ => lF
    rename News _ _ _ (_ :: (_ ++ _)) => lN
    rename ∀ v, v ∈ _ → ZeroSpan _ v => kr9
    rename Fresh _ _ => kf9
    rename ∀ q, q ∈ _ ++ _ → _ => kn9
    rename ∀ p, p ∈ news → p.1 < _ => al
    obtain ⟨R, lR, hDR, hkR, hnR, hr1, hr2, hr3⟩ := keys_led lN kf9 kn9 (fun q hq => Nat.ne_of_lt (Nat.lt_of_lt_of_le (al q hq) (Nat.le_add_right _ 2))) (fun q hq => Nat.ne_of_lt (Nat.lt_of_lt_of_le (al q hq) (Nat.le_add_right _ 1)))
    have hzR := ZeroSpan.all kr9 hkR
    have m1R := hnR _ m1
    have m2R := hnR _ m2
    have m3R := hnR _ m3
    have m4R := hnR _ m4
    have m5R := hnR _ m5
    have m6R := hnR _ m6
    replace H := H.mono hnR
    clear lN kr9
    k_extra "z:flat"
    rotate_left
    · refine' leave_onC ?eK ?eF ?eR ?eU ?_
      (case eK => assumption)
      (case eF => assumption)
      (case eR => assumption)
      (case eU => assumption)
      intro h7 R7 U7
      refine' err _ _ _ _ ?eF ?eU ?eR2 ?eL
      (case eF => assumption)
      (case eU => assumption)
      (case eR2 => exact RaisedN.sub R7 (fun q hq => by simp only [List.mem_cons, hnR _ hq, or_true]))
      (case eL => (rintro ⟨q1, q2⟩; omega))
    refine Hold.go ?_
    rename_i g' L' h0' _ FG' X' T' co1 co2 cd1 cd2 B' qk9 ek9 tk0' tp fx fd ft1 ft2 ft3 ft4 ft5 ft6 ft7 ft8 fn h91 tk91 l9 l8 l7 h92 h93 co3 cd3 h94 tk94 ob obt h95 tk95 ozz qk0 ek0 h96 tk96 en hs9 xx yy h97 tk97 qk1 ek1 h98 tk98 h99 tk99 qk2 ek2 ha0 tka0 lm ms nm tka1 tka2 kD kz ke hk1 tkk1 kl qk3 ek3 hk2 oc ocd iD iz ie ik hi1 tki1 ir il in9 ix9 iy9 io if9 hz1 lF lN
    obtain ⟨R2, hR2, lR2⟩ := led_abs lN
    have hm0 : (iD, listOf iz.toArray ik) ∈ R2 := led_mem hR2 (.head _)
    have hm1 : (L' + 1 + 1, oc) ∈ R2 := led_mem hR2 (.tail _ (List.mem_append_right _ (.tail _ (.tail _ (.tail _ (.head _))))))
    have lN3 := nadd (nadd lR2 hm1) (.tail _ hm0)
    have hRR : ∀ q ∈ R, q ∈ R2 := fun q hq => led_mem hR2 (.tail _ (List.mem_append_right _ (.tail _ (.tail _ (.tail _ (.tail _ (.tail _ hq)))))))
    have hrows : ∀ v ∈ iz, PixRow c x R2 v := fun v hv => (ir v hv).mono fun q hq => led_mem hR2 (.tail _ (List.mem_append_left _ hq))
    have hz2 := ZeroSpan.all hzR hRR
    have hD2 := hRR _ hDR
    clear lN lR2 hzR ir
    refine LCg.CompSrc.ledger (its := iz.toArray) (k := ik) (by rfl) lF lN3 (.head _) (by rw [sizeLine_eq, List.size_toArray]; omega) ?_
    intro g9
    refine comp_restL (σ := List (Addr × Obj)) (fun e => (iD, listOf iz.toArray ik) :: (L' + 1 + 1, oc) :: (e ++ R2)) (fun i ys e => ys.length = i ∧ (∀ v ∈ ys, Rowf (fun v => ∃ b, v = .bool b) x e v) ∧ Fresh e R2) [] ⟨rfl, fun _ h => absurd h List.not_mem_nil, .nil⟩ (fun _ => .inr ⟨_, .head _, rfl, _, rfl⟩) ?_ ?_
    · rintro i e ys v I oI C oC D m2 h tk E' hi ⟨q1, q2, q3⟩ hv hC hx F2 N2 off ne
      obtain ⟨ra, us, rfl, hm, hl, hp⟩ := hrows v (mem_its hv)
      try dsimp only at F2 N2
      dsimp only
      k_extra "z:flat"
      refine Hold.go ?_
      rename Fr _ _ _ _ => lF2
      rename News _ _ _ _ => lN2
      refine LCg.CompSrc.ledger (its := us.toArray) (k := us.length) (by rfl) lF2 (nadd lN2 (.tail _ (.tail _ (.tail _ (.tail _ (.tail _ (List.mem_append_right _ hm))))))) (.head _) (by rw [sizeLine_eq, List.size_toArray]; omega) ?_
      intro g8
      refine comp_restL (σ := Unit) (fun _ => _) (fun i ys _ => ys.length = i ∧ ∀ u ∈ ys, (fun v => ∃ b, v = .bool b) u) () ⟨rfl, fun _ h => absurd h List.not_mem_nil⟩ (fun _ => .inr ⟨_, .head _, rfl, _, rfl⟩) ?_ ?_
      · rintro i2 ⟨⟩ ys2 v2 I2 oI2 C2 oC2 D2 m3 h2 tk2 E2 hi2 ⟨p1, p2⟩ hv2 hC2 hx2 F4 N4 off2 ne2
        obtain ⟨pa, vs, rfl, hpm, hvl, hvs⟩ := hp v2 (mem_its hv2)
        try dsimp only at F4 N4
        have N4 := nadd N4 (.tail _ (.tail _ (.tail _ (.tail _ (.tail _ (.tail _ (.tail _ (.tail _ (.tail _ (List.mem_append_right _ hpm))))))))))
        have N4 := nadd N4 (.tail _ (.tail _ (.tail _ (.tail _ (.tail _ (.tail _ (.tail _ (.tail _ (.tail _ (.tail _ (List.mem_append_right _ hD2)))))))))))
        dsimp only
        k_extra "z:flat"
      
        all_goals (
          refine' CompT.of () ?zF ?zN ?zS off2 ⟨?y1, ?y2⟩
          (case zF => k_asm)
          (case zN => k_asm)
          (case zS => k_sub)
          (case y1 => (rw [List.length_append, p1]; rfl))
          (case y2 => exact forall_snoc p2 ⟨_, rfl⟩))
      · rintro ys2 ⟨⟩ ⟨p1, p2⟩
        refine fun D2 h3 tk3 F3 N3 off3 => ?_
        have off4 := off1_mem off3
        k_extra "z:flat"
        exact CompT.of ((D2, LCg.lst ys2) :: e) F3 N3 (nest_sub (pre := [_, _])) (nest_off (pre := [_, _]) off off4) ⟨by rw [List.length_append, q1]; rfl, rowf_snoc q2 (by rw [p1, List.size_toArray]; exact hl) p2, nest_fresh (pre := [_, _]) q3 off4⟩
    · rintro ys e ⟨q1, q2, q3⟩
      refine fun D h3 tk3 F3 N3 off3 => ?_
      have off' := off1_mem off3
      have hzz : ys.length ≤ 1000 := by rw [q1, List.size_toArray]; omega
      k_extra "z:flat"
      have hyl : ys.length = iz.length := by rw [q1, List.size_toArray]
      have hnn : ∀ q ∈ news, q ∈ R2 := fun q hq => hRR _ (hnR _ hq)
      refine' ret _ _ _ _ _ _ ?zr ?zl ?zn ?zk ?zF ?zN ?zo ?zf
      (case zF => k_asm)
      (case zr => assumption)
      (case zl => k_extra "z:o")
      (case zn => k_extra "z:o")
      (case zk => trivial)
      (case zN => refine' cb_drop ?zN1 ?zS1; (case zN1 => k_asm); (case zS1 => (refine' op_drop ?zS2 ?zS3; (case zS2 => first | k_sub | exact (fun q hq => by simp only [List.mem_cons, List.mem_append, hq, true_or, or_true])); (case zS3 => exact (fun q hq => by simp only [List.mem_cons, List.mem_append, hnn q hq, true_or, or_true])))))
      (case zo => (rename ∀ q, q ∈ _ ++ _ :: _ → _ => rn9; intro q hq; refine rn9 q ?_; revert q; refine' op_both ?zS4 ?zS5; (case zS4 => first | k_sub | exact (fun q hq => by simp only [List.mem_cons, List.mem_append, hq, true_or, or_true])); (case zS5 => exact (fun q hq => by simp only [List.mem_cons, List.mem_append, hnn q hq, true_or, or_true]))))
      (case zf => (rename Fresh _ _ => rf9; exact rf9.mono (fun q hq => by simp only [List.mem_cons, List.mem_append, hnn q hq, true_or, or_true])))
end
example : True := by first | walk1 | trivial
section
theorem MaskCase.mono {l l' : List (Addr × Obj)} {c : Int} {mk sm : Option Value} {ok : Prop} (M : MaskCase prog w l c mk sm ok) (hs : ∀ q ∈ l, q ∈ l') : MaskCase prog w l' c mk sm ok := by
  cases M with
  | none => exact .none
  | sten a b d e f g h i j k => exact .sten (hs _ a) (hs _ b) (hs _ d) e f g h i j k
  | keys a b d => exact .keys (hs _ a) b d
  | soft a b d e f g h i j k l m => exact .soft (hs _ a) (hs _ b) (hs _ d) e f g h i j k l (m.mono hs)
theorem hs_size {n sz : Int} {bs : Array UInt8} {P : Prop} (h : n ≤ sz → P) (e : (bs.size : Int) = sz) : Hold (n ≤ bs.size → P) := fun q => h (e ▸ q)
theorem yes_size {n sz : Int} {bs : Array UInt8} {P : Prop} (h : n ≤ sz ∧ P) (e : (bs.size : Int) = sz) : n ≤ bs.size ∧ P := ⟨e ▸ h.1, h.2⟩
theorem no_size {n sz : Int} {bs : Array UInt8} {P : Prop} (h : ¬ (n ≤ sz ∧ P)) (e : (bs.size : Int) = sz) : ¬ (n ≤ bs.size ∧ P) := fun q => h ⟨e ▸ q.1, q.2⟩
theorem yes1_size {n sz : Int} {bs : Array UInt8} (h : n ≤ sz) (e : (bs.size : Int) = sz) : n ≤ bs.size := e ▸ h
theorem no1_size {n sz : Int} {bs : Array UInt8} (h : ¬ n ≤ sz) (e : (bs.size : Int) = sz) : ¬ n ≤ bs.size := fun q => h (e ▸ q)
theorem C_opacT {rs va xa dx : Addr} {ro : Obj} {x y b c : Int} {ix : Bool} {t1 t2 t3 tp : Tok} {bs : Array UInt8} {mk sm : Option Value} {ok : Prop}
 (B : Below A₀ base outer h₀) (F : Fr h₀ L s.heap m) (X : (hd.heap_39 w.params).In h₀) (T : Top p loose mean mg mb h₀) (hk : cs.kind = .function) (N : News h₀ L s.heap news)
 (m1 : (sx, instObj 424 sd) ∈ news) (m2 : (sd, shelfO w tb tr st1 st2 sn) ∈ news) (m3 : (ha, ho) ∈ news) (lo : (ha == sysModules) = false) (hd1 : ho.IsDictOf (strKind prog w) kvs)
 (m4 : (rs, ro) ∈ news) (ro1 : (rs == sysModules) = false) (ro2 : ro.IsDictOf (strKind prog w) [])
 (m5 : (xa, instObj 280 dx) ∈ news) (m6 : (dx, streamD w t1 t2 ha bs t3) ∈ news) (hz : bs.size ≤ 100000)
 (H : HeadOk prog w news sx kvs x y b va c ix) (hc0 : 1 ≤ c) (hc1 : c ≤ 4) (hsm : Hold (needZ x y (b * c) ≤ bs.size → x ≤ 9 ∧ y ≤ 4))
 (hmk : valueAt kvs (Str.ofString "Mask") = mk) (hsk : valueAt kvs (Str.ofString "SMask") = sm) (M : MaskCase prog w news c mk sm ok)
 (yes : needZ x y (b * c) ≤ bs.size ∧ ok)
 (ret : ∀ D zs e k h' tk', (∀ v ∈ zs, Rowf (fun _ => True) x e v) → (zs.length : Int) = y → needZ x y (b * c) ≤ bs.size → ok → Fr h₀ L h' m → News h₀ L h' ((D, listOf (List.toArray zs) k) :: (e ++ news)) → (∀ q ∈ e ++ news, @Ne Nat q.1 D) → Fresh e news → Q (.ref D) { s with heap := h', toks := tk' })
 :
 CallAt 550 4500 prog w gd cn cs L a ccd cl outer 813 [.ref sx, .ref rs, .ref xa, .ref 832, .int 2 tp] Q E s :=
  C_opac B F X T hk N m1 m2 m3 lo hd1 m4 ro1 ro2 m5 m6 hz H hc0 hc1 hsm hmk hsk M ret fun _ _ _ _ _ _ _ no => absurd yes no
theorem C_opacF {rs va xa dx : Addr} {ro : Obj} {x y b c : Int} {ix : Bool} {t1 t2 t3 tp : Tok} {bs : Array UInt8} {mk sm : Option Value} {ok : Prop}
 (B : Below A₀ base outer h₀) (F : Fr h₀ L s.heap m) (X : (hd.heap_39 w.params).In h₀) (T : Top p loose mean mg mb h₀) (hk : cs.kind = .function) (N : News h₀ L s.heap news)
 (m1 : (sx, instObj 424 sd) ∈ news) (m2 : (sd, shelfO w tb tr st1 st2 sn) ∈ news) (m3 : (ha, ho) ∈ news) (lo : (ha == sysModules) = false) (hd1 : ho.IsDictOf (strKind prog w) kvs)
 (m4 : (rs, ro) ∈ news) (ro1 : (rs == sysModules) = false) (ro2 : ro.IsDictOf (strKind prog w) [])
 (m5 : (xa, instObj 280 dx) ∈ news) (m6 : (dx, streamD w t1 t2 ha bs t3) ∈ news) (hz : bs.size ≤ 100000)
 (H : HeadOk prog w news sx kvs x y b va c ix) (hc0 : 1 ≤ c) (hc1 : c ≤ 4) (hsm : Hold (needZ x y (b * c) ≤ bs.size → x ≤ 9 ∧ y ≤ 4))
 (hmk : valueAt kvs (Str.ofString "Mask") = mk) (hsk : valueAt kvs (Str.ofString "SMask") = sm) (M : MaskCase prog w news c mk sm ok)
 (no : ¬ (needZ x y (b * c) ≤ bs.size ∧ ok))
 (err : ∀ e g h' tk', Fr h₀ L g m → g.UpToSlots h' → RaisedN base (envX cn cs L a ccd cl :: outer) e (.ref 71) news h' → E (.ref e) { s with heap := h', toks := tk' }) :
 CallAt 550 4500 prog w gd cn cs L a ccd cl outer 813 [.ref sx, .ref rs, .ref xa, .ref 832, .int 2 tp] Q E s :=
  C_opac B F X T hk N m1 m2 m3 lo hd1 m4 ro1 ro2 m5 m6 hz H hc0 hc1 hsm hmk hsk M (fun _ _ _ _ _ _ _ _ p q _ _ _ _ => absurd ⟨p, q⟩ no) fun e g h' tk' p q r _ => err e g h' tk' p q r
theorem C_irowsT {rs va xa dx : Addr} {ro : Obj} {x y b c : Int} {ix : Bool} {t1 t2 t3 : Tok} {bs : Array UInt8}
 (B : Below A₀ base outer h₀) (F : Fr h₀ L s.heap m) (X : (hd.heap_39 w.params).In h₀) (T : Top p loose mean mg mb h₀) (hk : cs.kind = .function) (N : News h₀ L s.heap news)
 (m1 : (sx, instObj 424 sd) ∈ news) (m2 : (sd, shelfO w tb tr st1 st2 sn) ∈ news) (m3 : (ha, ho) ∈ news) (lo : (ha == sysModules) = false) (hd1 : ho.IsDictOf (strKind prog w) kvs)
 (m4 : (rs, ro) ∈ news) (ro1 : (rs == sysModules) = false) (ro2 : ro.IsDictOf (strKind prog w) [])
 (m5 : (xa, instObj 280 dx) ∈ news) (m6 : (dx, streamD w t1 t2 ha bs t3) ∈ news) (hz : bs.size ≤ 100000)
 (H : HeadOk prog w news sx kvs x y b va c ix) (hc0 : 1 ≤ c) (hc1 : c ≤ 4) (hsm : needZ x y (b * c) ≤ bs.size → x ≤ 9 ∧ y ≤ 4)
 (yes : needZ x y (b * c) ≤ bs.size)
 (ret : ∀ D zs e k h' tk', (∀ v ∈ zs, PixRow c x e v) → (zs.length : Int) = y → needZ x y (b * c) ≤ bs.size → x ≤ 9 → y ≤ 4 → Fr h₀ L h' m → News h₀ L h' ((D, listOf (List.toArray zs) k) :: (e ++ news)) → (∀ q ∈ e ++ news, @Ne Nat q.1 D) → Fresh e news → Q (.ref D) { s with heap := h', toks := tk' })
 :
 CallAt 570 4700 prog w gd cn cs L a ccd cl outer 793 [.ref sx, .ref rs, .ref xa, .ref 832] Q E s :=
  C_irows B F X T hk N m1 m2 m3 lo hd1 m4 ro1 ro2 m5 m6 hz H hc0 hc1 hsm ret fun _ _ _ _ _ _ _ no => absurd yes (by k_extra "z:o")
theorem C_irowsF {rs va xa dx : Addr} {ro : Obj} {x y b c : Int} {ix : Bool} {t1 t2 t3 : Tok} {bs : Array UInt8}
 (B : Below A₀ base outer h₀) (F : Fr h₀ L s.heap m) (X : (hd.heap_39 w.params).In h₀) (T : Top p loose mean mg mb h₀) (hk : cs.kind = .function) (N : News h₀ L s.heap news)
 (m1 : (sx, instObj 424 sd) ∈ news) (m2 : (sd, shelfO w tb tr st1 st2 sn) ∈ news) (m3 : (ha, ho) ∈ news) (lo : (ha == sysModules) = false) (hd1 : ho.IsDictOf (strKind prog w) kvs)
 (m4 : (rs, ro) ∈ news) (ro1 : (rs == sysModules) = false) (ro2 : ro.IsDictOf (strKind prog w) [])
 (m5 : (xa, instObj 280 dx) ∈ news) (m6 : (dx, streamD w t1 t2 ha bs t3) ∈ news) (hz : bs.size ≤ 100000)
 (H : HeadOk prog w news sx kvs x y b va c ix) (hc0 : 1 ≤ c) (hc1 : c ≤ 4) (hsm : needZ x y (b * c) ≤ bs.size → x ≤ 9 ∧ y ≤ 4)
 (no : ¬ needZ x y (b * c) ≤ bs.size)
 (err : ∀ e g h' tk', Fr h₀ L g m → g.UpToSlots h' → RaisedN base (envX cn cs L a ccd cl :: outer) e (.ref 71) news h' → E (.ref e) { s with heap := h', toks := tk' }) :
 CallAt 570 4700 prog w gd cn cs L a ccd cl outer 793 [.ref sx, .ref rs, .ref xa, .ref 832] Q E s :=
  C_irows B F X T hk N m1 m2 m3 lo hd1 m4 ro1 ro2 m5 m6 hz H hc0 hc1 hsm (fun _ _ _ _ _ _ _ _ p _ _ _ _ _ _ => absurd p no) fun e g h' tk' p q r _ => err e g h' tk' p q r
end
example : True := by first | walk1 | trivial
example : True := by
  k_with "call ref" => (k_here; (with_reducible show wpAny _ _ (call (Value.ref 813) _) _ _ _); k_dflt (refine' up (D := 550) (U := 4500) (C_opacF ?B ?F ?X ?T ?hk ?N ?m1 ?m2 ?m3 ?lo ?hd1 ?m4 ?ro1 ?ro2 ?m5 ?m6 ?hz ?H ?hc0 ?hc1 ?hsm ?hmk ?hsk ?M ?no ?_) ?d ?u; (case N => k_asm); (case m1 => k_mem); (case m2 => k_mem); (case m4 => k_mem); (case ro1 => assumption); (case ro2 => assumption); (case m5 => k_mem); (case m6 => k_mem); (case m3 => k_mem); (case lo => assumption); (case hd1 => assumption); (case hz => k_extra "z:o"); (case H => first | assumption | exact HeadOk.mono (by assumption) (by k_sub)); (case hc0 => k_extra "z:o"); (case hc1 => k_extra "z:o"); (case hsm => first | assumption | exact hs_size (by assumption) (by assumption)); (case hmk => assumption); (case hsk => assumption); (case M => exact MaskCase.mono (by assumption) (by k_sub)); (case no => first | assumption | exact no_size (by assumption) (by assumption)); (case B => k_asm); (case F => k_asm); (case X => k_asm); (case T => k_asm); (case hk => first | assumption | exact rfl); (case d => exact Nat.le_of_ble_eq_true rfl); (case u => exact Nat.le_of_ble_eq_true rfl); k_whole); intro _ _ _ _ _ _ _; (try dsimp only); (try k_fold))
  trivial
example : True := by
  k_with "call ref" => (k_here; (with_reducible show wpAny _ _ (call (Value.ref 813) _) _ _ _); k_dflt (refine' up (D := 550) (U := 4500) (C_opacT ?B ?F ?X ?T ?hk ?N ?m1 ?m2 ?m3 ?lo ?hd1 ?m4 ?ro1 ?ro2 ?m5 ?m6 ?hz ?H ?hc0 ?hc1 ?hsm ?hmk ?hsk ?M ?yes ?_) ?d ?u; (case N => k_asm); (case m1 => k_mem); (case m2 => k_mem); (case m4 => k_mem); (case ro1 => assumption); (case ro2 => assumption); (case m5 => k_mem); (case m6 => k_mem); (case m3 => k_mem); (case lo => assumption); (case hd1 => assumption); (case hz => k_extra "z:o"); (case H => first | assumption | exact HeadOk.mono (by assumption) (by k_sub)); (case hc0 => k_extra "z:o"); (case hc1 => k_extra "z:o"); (case hsm => first | assumption | exact hs_size (by assumption) (by assumption)); (case hmk => assumption); (case hsk => assumption); (case M => exact MaskCase.mono (by assumption) (by k_sub)); (case yes => first | assumption | exact yes_size (by assumption) (by assumption)); (case B => k_asm); (case F => k_asm); (case X => k_asm); (case T => k_asm); (case hk => first | assumption | exact rfl); (case d => exact Nat.le_of_ble_eq_true rfl); (case u => exact Nat.le_of_ble_eq_true rfl); k_whole); intro _ _ _ _ _ _ _ _ _ _ _ _ _ _; (try dsimp only); (try k_fold))
  trivial
example : True := by
  k_with "call ref" => (k_here; (with_reducible show wpAny _ _ (call (Value.ref 793) _) _ _ _); k_dflt (refine' up (D := 570) (U := 4700) (C_irowsF ?B ?F ?X ?T ?hk ?N ?m1 ?m2 ?m3 ?lo ?hd1 ?m4 ?ro1 ?ro2 ?m5 ?m6 ?hz ?H ?hc0 ?hc1 ?hsm ?no ?_) ?d ?u; (case N => k_asm); (case m1 => k_mem); (case m2 => k_mem); (case m4 => k_mem); (case ro1 => assumption); (case ro2 => assumption); (case m5 => k_mem); (case m6 => k_mem); (case m3 => k_mem); (case lo => assumption); (case hd1 => assumption); (case hz => k_extra "z:o"); (case H => first | assumption | exact HeadOk.mono (by assumption) (by k_sub)); (case hc0 => k_extra "z:o"); (case hc1 => k_extra "z:o"); (case hsm => first | assumption | exact hs_size (by assumption) (by assumption)); (case no => first | assumption | exact no1_size (by assumption) (by assumption)); (case B => k_asm); (case F => k_asm); (case X => k_asm); (case T => k_asm); (case hk => first | assumption | exact rfl); (case d => exact Nat.le_of_ble_eq_true rfl); (case u => exact Nat.le_of_ble_eq_true rfl); k_whole); intro _ _ _ _ _ _ _; (try dsimp only); (try k_fold))
  trivial
example : True := by
  k_with "call ref" => (k_here; (with_reducible show wpAny _ _ (call (Value.ref 793) _) _ _ _); k_dflt (refine' up (D := 570) (U := 4700) (C_irowsT ?B ?F ?X ?T ?hk ?N ?m1 ?m2 ?m3 ?lo ?hd1 ?m4 ?ro1 ?ro2 ?m5 ?m6 ?hz ?H ?hc0 ?hc1 ?hsm ?yes ?_) ?d ?u; (case N => k_asm); (case m1 => k_mem); (case m2 => k_mem); (case m4 => k_mem); (case ro1 => assumption); (case ro2 => assumption); (case m5 => k_mem); (case m6 => k_mem); (case m3 => k_mem); (case lo => assumption); (case hd1 => assumption); (case hz => k_extra "z:o"); (case H => first | assumption | exact HeadOk.mono (by assumption) (by k_sub)); (case hc0 => k_extra "z:o"); (case hc1 => k_extra "z:o"); (case hsm => first | assumption | exact hs_size (by assumption) (by assumption)); (case yes => first | assumption | exact yes1_size (by assumption) (by assumption)); (case B => k_asm); (case F => k_asm); (case X => k_asm); (case T => k_asm); (case hk => first | assumption | exact rfl); (case d => exact Nat.le_of_ble_eq_true rfl); (case u => exact Nat.le_of_ble_eq_true rfl); k_whole); intro _ _ _ _ _ _ _ _ _ _ _ _ _ _ _; (try dsimp only); (try k_fold))
  trivial
section
section
variable {A : Around} {K : Frag} {nm q : Str} {NA : Addr} {bs bm : List Value} {hdct : Bool} {sn : List Str} {sub : List Value} {ab : Bool} {col : Option Bool} {dd : Option Addr} {k0 k1 k2 k3 k5 : Option Value} {newId : String}
/-- a def is entered; its ends may stand for themselves -/
theorem code_defY {env : Env} {R : Result → Shared → Prop} {name qual : Str} {params : Arguments} {body : List Stmt} {scope : Scope} {dV kV doc pm cdv ct oc : Value} {an od : Option Addr} {osl : Array (Option Value)} {f : Addr} {args : Args} {binds : List (Str × Value)}
    (B : Below A₀ base outer h₀) (F : Fr h₀ L s.heap m) (X₀ : K.In h₀) (N : News h₀ L s.heap news) (T : Top p loose mean mg mb h₀) (hA : A.frames = some (env :: outer)) (hf : env.frame = some L) (hke : env.scope.kind = .function)
    (ho : K.lookup f = some ⟨oc, od, .func (fnOf name qual params body scope dV kV doc pm an cdv ct), osl⟩) (hcd : codeIn K cdv qual = true) (hroom : A.depth < recursionLimit)
    (hbind : BindsTo s (fnOf name qual params body scope dV kV doc pm an cdv ct) args binds) (hloc : ∀ y ∈ binds, scope.names.lookup y.1 = some .local)
    (h : ∀ g L' h₁, Fr h₀ L g m → Fr g L' h₁ (fun y => binds.reverse.lookup y) → News g L' h₁ news → Below A base (env :: outer) g → K.In g → Top p loose mean mg mb g →
      wpAny (model prog w) (A.deeper (envOf qual scope L' f cdv)) (execs body (envOf qual scope L' f cdv))
        (fun fl s' => LeaveK h₀ L m g R (match fl with | .ret v => v | _ => .none) s' ∨ R (.ok (.ret (match fl with | .ret v => v | _ => .none))) s')
        (fun e s' => wpAny (model prog w) (A.deeper (envOf qual scope L' f cdv)) (leaving (envOf qual scope L' f cdv) e) (fun _ s'' => R (.error e) s'') (fun e' s'' => R (.error e') s'') s')
        { s with heap := h₁, toks := s.toks + binds.length })
    (hco : scope.isCoroutine = false) (hgen : scope.isGenerator = false) (hk : scope.kind = .function) (hcell : ∀ x ∈ scope.names, x.2 ≠ .cell) : codeAny (model prog w) A (.call (.ref f) args) R s := by
  obtain ⟨FG, BG, st, lv⟩ := groundX (R := R) B F N hA hf hke
  refine codeAny_call_def (fd := fnOf name qual params body scope dV kV doc pm an cdv ct) (body := body) (binds := binds) hroom ((X₀.keeps F.keep) _ _ ho) rfl (T.nolimit.keeps F.keep) (codeRec_of (X₀.keeps F.keep) hcd) rfl hbind hcell hloc (fun h₁ hns hk₁ => ?_) hco hgen hk
  exact wpAny_mono (h _ s.heap.objs.size h₁ FG ⟨hns, fun b o e => hk₁ b o (of_hideAll _ e), Nat.le_of_eq (hideAll_size _ _)⟩
    (fun p hp => ⟨hk₁ _ _ (N p hp).1, Nat.ne_of_lt (Heap.lt_size (N p hp).1), hideAll_none _ (List.mem_map_of_mem hp)⟩) BG (X₀.keeps st) (T.keeps st)) (fun fl s' hl => hl.elim (lv _ _) id) fun _ _ y => y
end
section
variable {KF : Frag} {nm q : Str} {C NA : Addr} {bs bm : List Value} {hdct : Bool} {sn : List Str} {sub : List Value} {ab : Bool} {col : Option Bool} {dd : Option Addr} {k0 k1 k2 k3 k5 : Option Value} {newId : String}
variable {g G : Heap} {e : Addr} {name : Str} {scope : Scope} {cd : Value} {x : Str} {np pos : Pos} {b₀ : Stmt} {suite : List Stmt} {rest : List ExceptHandler} {s' : Shared}
/-- an exception of an own class, carried hither, is caught by its own name -/
theorem caught_own {QF : Flow → Shared → Prop} (K : Below A₀ base outer g) (F : Fr g L G m) (hsm : G.UpToSlots s'.heap) (R : RaisedN base (envOf name scope L a cd :: outer) e (.ref C) news s'.heap)
    (XB : KF.In base) (TB : TopRead p loose mg mb base) (hK : KF.lookup C = some (excClassObj nm q C NA bs bm hdct sn sub ab col dd k0 k1 k2 k3 k5 newId)) (hb : bm.contains (.type "BaseException") = true) (hx : nsIn KF mainGlobals x = some (some (.ref C)))
    (k : ∀ h', base.StaysIn h' → G.UpToSlots h' → (∀ q ∈ news, h'.get? q.1 = some q.2 ∧ base.get? q.1 = none) →
      wpAny (model prog w) ((A₀.deeper (envOf name scope L a cd)).mark (some (.ref e))) (execs (b₀ :: suite) (envOf name scope L a cd)) QF E { s' with heap := h' })
    (hk : scope.kind = .function := by rfl) (hkx : (envOf name scope L a cd).kindOf x = some .globalImplicit := by rfl) (hd : (x == ("__debug__" : Str)) = false := by decide)
    (hE : PassesOwnAt (model prog w) ((A₀.deeper (envOf name scope L a cd)).mark (some (.ref e))) (A₀.deeper (envOf name scope L a cd)) (envOf name scope L a cd) E := by passes_own) :
    wpAny (model prog w) (A₀.deeper (envOf name scope L a cd)) (noteFrame (.ref e) (envOf name scope L a cd))
      (fun _ s₂ => wpAny (model prog w) (A₀.deeper (envOf name scope L a cd)) (setFlight (.ref e) none) (fun _ s₃ =>
        wpAny (model prog w) (A₀.deeper (envOf name scope L a cd)) (handleBy (.ref e) (envOf name scope L a cd) (.ExceptHandler (some (.Name x np)) none (b₀ :: suite) pos :: rest)) QF E s₃) E s₂) E s' := by
  obtain ⟨B, a0, hB, hl, hfl⟩ := R
  have hbg : base.StaysIn G := fun b o z => F.keep _ _ (K.stays b o z)
  refine wpAny_looks_onW (Around.frames_deeper K.stack) rfl hfl fun h₄ hheld₄ hsm₄ => ?_
  refine wpAny_landsW hheld₄ fun h₅ hheld hsm₅' => ?_
  have hsm₅ := hsm₄.trans hsm₅'
  have hheld' := flyingW_base hB hheld
  obtain ⟨ob, hob, hobc⟩ := hheld'.there
  have hC := (XB.keeps hheld'.1) _ _ hK
  refine wpAny_handleBy_cons (codeAny_handlers_test ?_) (by intro q; cases q)
  refine PySem.Calls.Name_function_global hk hkx (PySem.Calls.loadGlobal_global (env := envOf name scope L a cd) (TB.g.keeps hheld'.1) (mg_of XB TB.g hx) ?_) hd
  obtain ⟨hp, gg, dd', tk, os⟩ := s'
  refine wpAny_excMatches_sub_self hC hob hobc hb ?_
  refine codeAny_handlers_suite ?_
  refine lands_againW hheld fun h₆ hfl₆ hsm₆ => ?_
  exact wpAny_passesOwnAt hE (k h₆ (flyingW_base hB hfl₆).1 ((hsm.trans hsm₅).trans hsm₆) fun q hq => ⟨hfl₆.1 _ _ (hl q hq).1, (hl q hq).2⟩)
end
end
example : True := by first | walk1 | trivial
set_option genInjectivity false
set_option genSizeOf false
theorem bc1 {c : Int} (h : c = 1 ∨ c = 3 ∨ c = 4) : 1 ≤ c := by rcases h with rfl | rfl | rfl <;> decide
theorem bc4 {c : Int} (h : c = 1 ∨ c = 3 ∨ c = 4) : c ≤ 4 := by rcases h with rfl | rfl | rfl <;> decide
theorem bcB {b c : Int} (p : 1 ≤ b) (q : b ≤ 16) (h1 : 1 ≤ c) (h4 : c ≤ 4) : 1 ≤ b * c ∧ b * c ≤ 64 := ⟨one_mul2 p h1, Int.mul_le_mul q h4 (ge1_0 h1) (by decide)⟩
theorem lenN {n : Nat} {y : Int} (h : (n : Int) = y) : n = y.toNat := by rw [← h]; exact (Int.toNat_natCast n).symm
theorem lenB {n k : Nat} {x y j l : Int} (h : (n : Int) = y) (q : x ≤ j ∧ y ≤ l) (e : l ≤ (k : Int)) : n ≤ k := Int.ofNat_le.mp (h ▸ Int.le_trans q.2 e)
theorem up13 {v a k n : Int} (h1 : v ≤ a + 1 + 3) (h2 : a ≤ k) (e : k + 4 ≤ n) : v ≤ n := by
  rw [Int.add_assoc] at h1
  exact Int.le_trans h1 (Int.le_trans (Int.add_le_add_right h2 (1 + 3)) e)
theorem szno {s : Nat} {n : Int} (e : (s : Int) = n - 1) (h : n ≤ (s : Int)) : False := Int.lt_irrefl n (Int.lt_of_le_of_lt h (by rw [e]; exact Int.sub_lt_self n (by decide)))
theorem szok {s : Nat} {n : Int} (e : (s : Int) = n - 0) : n ≤ (s : Int) := by rw [e, Int.sub_zero]; exact Int.le_refl n
theorem x9y {x y k l n : Int} (q : x ≤ k ∧ y ≤ l) (e : l ≤ n) : y ≤ n := Int.le_trans q.2 e
theorem x9x {x y k l n : Int} (q : x ≤ k ∧ y ≤ l) (e : k ≤ n) : x ≤ n := Int.le_trans q.1 e
theorem one2c {c : Int} : ((0 + 1 : Nat) : Int) * (2 * c) = 2 * c := Int.one_mul _
/-- cuts ahead of what is left of a suite: the states there; what is left is an unknown suite while the cut's own statements are walked -/
theorem envC_X {M : Model} {A : Around} {b : List Stmt} {Q : Flow → Shared → Prop} {E : Value → Shared → Prop} {s : Shared} {cn : Str} {cs : Scope} {L a : Addr} {cd : Value} {n1 n2 : Str} (hc : cellsFrom (L + 1) cs.names [] = [(n1, L + 1 + 1), (n2, L + 1)])
    (h : let e' := envX cn cs L a cd [(n1, L + 1 + 1), (n2, L + 1)]; wpAny M A (execs b e') Q E s) : wpAny M A (execs b (envOfC cn cs L a cd)) Q E s := by
  have e : envOfC cn cs L a cd = envX cn cs L a cd [(n1, L + 1 + 1), (n2, L + 1)] := by rw [← hc]; rfl
  rw [e]; exact h
theorem cut1 {M : Model} {A : Around} {env : Env} {rest : List Stmt} {s1 : Stmt} {Q : Flow → Shared → Prop} {E : Value → Shared → Prop} {s : Shared} {h₀ : Heap} {L : Addr} {m : Str → Option Value} (_F : Fr h₀ L s.heap m) {σ : Type} (fm : (Str → Option Value) → σ → Str → Option Value) (led : σ → List (Addr × Obj)) (fact : σ → Prop)
    (h1 : ∀ rest' Q E, (∀ c h' tk, Fr h₀ L h' (fm m c) → News h₀ L h' (led c) → fact c → wpAny M A (execs rest' env) Q E { s with heap := h', toks := tk }) → wpAny M A (execs (s1 :: rest') env) Q E s)
    (h2 : ∀ c h' tk, Fr h₀ L h' (fm m c) → News h₀ L h' (led c) → fact c → wpAny M A (execs rest env) Q E { s with heap := h', toks := tk }) : wpAny M A (execs (s1 :: rest) env) Q E s := h1 rest Q E h2
theorem cut2 {M : Model} {A : Around} {env : Env} {rest : List Stmt} {s1 s2 : Stmt} {Q : Flow → Shared → Prop} {E : Value → Shared → Prop} {s : Shared} {h₀ : Heap} {L : Addr} {m : Str → Option Value} (_F : Fr h₀ L s.heap m) {σ : Type} (fm : (Str → Option Value) → σ → Str → Option Value) (led : σ → List (Addr × Obj)) (fact : σ → Prop)
    (h1 : ∀ rest' Q E, (∀ c h' tk, Fr h₀ L h' (fm m c) → News h₀ L h' (led c) → fact c → wpAny M A (execs rest' env) Q E { s with heap := h', toks := tk }) → wpAny M A (execs (s1 :: s2 :: rest') env) Q E s)
    (h2 : ∀ c h' tk, Fr h₀ L h' (fm m c) → News h₀ L h' (led c) → fact c → wpAny M A (execs rest env) Q E { s with heap := h', toks := tk }) : wpAny M A (execs (s1 :: s2 :: rest) env) Q E s := h1 rest Q E h2
theorem cut3 {M : Model} {A : Around} {env : Env} {rest : List Stmt} {s1 s2 s3 : Stmt} {Q : Flow → Shared → Prop} {E : Value → Shared → Prop} {s : Shared} {h₀ : Heap} {L : Addr} {m : Str → Option Value} (_F : Fr h₀ L s.heap m) {σ : Type} (fm : (Str → Option Value) → σ → Str → Option Value) (led : σ → List (Addr × Obj)) (fact : σ → Prop)
    (h1 : ∀ rest' Q E, (∀ c h' tk, Fr h₀ L h' (fm m c) → News h₀ L h' (led c) → fact c → wpAny M A (execs rest' env) Q E { s with heap := h', toks := tk }) → wpAny M A (execs (s1 :: s2 :: s3 :: rest') env) Q E s)
    (h2 : ∀ c h' tk, Fr h₀ L h' (fm m c) → News h₀ L h' (led c) → fact c → wpAny M A (execs rest env) Q E { s with heap := h', toks := tk }) : wpAny M A (execs (s1 :: s2 :: s3 :: rest) env) Q E s := h1 rest Q E h2
theorem cut4 {M : Model} {A : Around} {env : Env} {rest : List Stmt} {s1 s2 s3 s4 : Stmt} {Q : Flow → Shared → Prop} {E : Value → Shared → Prop} {s : Shared} {h₀ : Heap} {L : Addr} {m : Str → Option Value} (_F : Fr h₀ L s.heap m) {σ : Type} (fm : (Str → Option Value) → σ → Str → Option Value) (led : σ → List (Addr × Obj)) (fact : σ → Prop)
    (h1 : ∀ rest' Q E, (∀ c h' tk, Fr h₀ L h' (fm m c) → News h₀ L h' (led c) → fact c → wpAny M A (execs rest' env) Q E { s with heap := h', toks := tk }) → wpAny M A (execs (s1 :: s2 :: s3 :: s4 :: rest') env) Q E s)
    (h2 : ∀ c h' tk, Fr h₀ L h' (fm m c) → News h₀ L h' (led c) → fact c → wpAny M A (execs rest env) Q E { s with heap := h', toks := tk }) : wpAny M A (execs (s1 :: s2 :: s3 :: s4 :: rest) env) Q E s := h1 rest Q E h2
theorem cut5 {M : Model} {A : Around} {env : Env} {rest : List Stmt} {s1 s2 s3 s4 s5 : Stmt} {Q : Flow → Shared → Prop} {E : Value → Shared → Prop} {s : Shared} {h₀ : Heap} {L : Addr} {m : Str → Option Value} (_F : Fr h₀ L s.heap m) {σ : Type} (fm : (Str → Option Value) → σ → Str → Option Value) (led : σ → List (Addr × Obj)) (fact : σ → Prop)
    (h1 : ∀ rest' Q E, (∀ c h' tk, Fr h₀ L h' (fm m c) → News h₀ L h' (led c) → fact c → wpAny M A (execs rest' env) Q E { s with heap := h', toks := tk }) → wpAny M A (execs (s1 :: s2 :: s3 :: s4 :: s5 :: rest') env) Q E s)
    (h2 : ∀ c h' tk, Fr h₀ L h' (fm m c) → News h₀ L h' (led c) → fact c → wpAny M A (execs rest env) Q E { s with heap := h', toks := tk }) : wpAny M A (execs (s1 :: s2 :: s3 :: s4 :: s5 :: rest) env) Q E s := h1 rest Q E h2
/-- the well as it stands -/
structure WS where
  wl : Addr
  kl : Addr
  va : Int
  ta : Tok
  vb : Int
  tb : Tok
  vc : Int
  tc : Tok
  kv : List Value
  ks : List Int
  n1 : Nat
  n2 : Nat
noncomputable abbrev WS.led (c : WS) (l : List (Addr × Obj)) : List (Addr × Obj) := (c.wl, wellO c.kl c.va c.ta c.vb c.tb c.vc c.tc c.n1) :: (c.kl, listOf c.kv.toArray c.n2) :: l
structure WS.Ok (c : WS) (lo : Nat) (b : Int) : Prop where
  na : @Ne Nat lo c.kl
  nb : @Ne Nat (lo - 1) c.kl
  nc : @Ne Nat 865 c.kl
  lt1 : @LT.lt Nat _ lo c.wl
  lt2 : @LT.lt Nat _ c.kl c.wl
  ne : @Ne Nat c.kl c.wl
  hi : IntsAre c.kv c.ks
  hz : c.kv.length ≤ 1000
  ha : 0 ≤ c.va
  hb0 : 0 ≤ c.vb
  hb : c.vb ≤ b
  hc0 : 0 ≤ c.vc
  hc : c.vc < 1009
/-- the state behind the first four statements -/
structure LS where
  u : WS
  lack : Int
  tl : Tok
  msk : Int
  tm : Tok
  g : Bool
  ml : Bool
  sl : Bool
  sx : Addr
  sd : Addr
  tb : Addr
  tr : Addr
  st1 : Tok
  st2 : Tok
  o1 : Obj
  o2 : Obj
  oc : Obj
noncomputable abbrev LS.led (w : World) (c : LS) (l : List (Addr × Obj)) : List (Addr × Obj) := (c.tr, c.o2) :: (c.tb, c.o1) :: (c.sx, instObj 424 c.sd) :: (c.sd, shelfO w c.tb c.tr c.st1 c.st2 2) :: c.u.led l
structure LS.Ok (prog : Program) (w : World) (c : LS) (lo : Nat) : Prop where
  na : @Ne Nat lo c.u.kl
  nb : @Ne Nat (lo - 1) c.u.kl
  nc : @Ne Nat 865 c.u.kl
  lt1 : @LT.lt Nat _ lo c.u.wl
  lt2 : @LT.lt Nat _ c.u.kl c.u.wl
  lt3 : @LT.lt Nat _ c.u.wl c.sd
  lt4 : @LT.lt Nat _ c.sd c.sx
  lt5 : @LT.lt Nat _ c.sx c.tb
  lt6 : @LT.lt Nat _ c.tb c.tr
  hi : IntsAre c.u.kv c.u.ks
  hz : c.u.kv.length ≤ 1000
  ha : 0 ≤ c.u.va
  hb0 : 0 ≤ c.u.vb
  hb : c.u.vb ≤ 10
  hc0 : 0 ≤ c.u.vc
  hc : c.u.vc < 1009
  la : 0 ≤ c.lack
  lb : c.lack < 5
  ma : 0 ≤ c.msk
  mb : c.msk < 6
  lo1 : (c.tb == sysModules) = false
  hs1 : Obj.IsDictOf (PySem.strKind prog w) c.o1 []
  hi1 : Obj.IsDictOf (intKind prog w) c.o1 []
  oc1 : c.oc.data = Data.cell (some (.ref c.sx))
/-- the well's values (its two addresses stand) -/
structure WV where
  va : Int
  ta : Tok
  vb : Int
  tb : Tok
  kv : List Value
  ks : List Int
  n1 : Nat
  n2 : Nat
noncomputable abbrev WV.led (c : WV) (wl kl : Addr) (vc : Int) (tc : Tok) (l : List (Addr × Obj)) : List (Addr × Obj) := (wl, wellO kl c.va c.ta c.vb c.tb vc tc c.n1) :: (kl, listOf c.kv.toArray c.n2) :: l
structure WV.Ok (c : WV) (b : Int) : Prop where
  hi : IntsAre c.kv c.ks
  hz : c.kv.length ≤ 1000
  ha : 0 ≤ c.va
  hb0 : 0 ≤ c.vb
  hb : c.vb ≤ b
/-- the state behind the space's statement -/
structure RS where
  u : WV
  sp : Addr
  c : Int
  ix : Bool
  tc : Tok
  R : List (Addr × Obj)
structure RS.Ok (w : World) (c : RS) (ne : List Nat) (mem : List (Addr × Obj)) : Prop where
  ws : c.u.Ok 20
  apart : ∀ d ∈ ne, ∀ q ∈ c.R, @Ne Nat q.1 d
  mem : ∀ q ∈ mem, q ∈ c.R
  said : SpaceSaid w c.R (.ref c.sp) c.c c.ix
  cn : c.c = 1 ∨ c.c = 3 ∨ c.c = 4
/-- the state behind the sizes' statement -/
structure TS where
  u : WV
  b : Int
  x : Int
  y : Int
  t1 : Tok
  t2 : Tok
  t3 : Tok
structure TS.Ok (c : TS) (g : Bool) : Prop where
  ws : c.u.Ok 30
  hb : IsDepth c.b
  x0 : 1 ≤ c.x
  x1 : c.x ≤ 20000
  y0 : 1 ≤ c.y
  y1 : c.y ≤ 1000000000
  gt : g = true → 4000 ≤ c.y
  gf : g = false → c.x ≤ 5 ∧ c.y ≤ 4
theorem sizes_fact {g : Bool} {x y : Int} (e3 : g = true → x ≤ 20000 ∧ 4000 ≤ y ∧ y ≤ 1000000000) (e4 : g = false → x ≤ 5 ∧ y ≤ 4) : x ≤ 20000 ∧ y ≤ 1000000000 ∧ (g = true → 4000 ≤ y) := by
  cases g
  · exact ⟨by have := e4 rfl; omega, by have := e4 rfl; omega, fun h => by cases h⟩
  · exact ⟨(e3 rfl).1, (e3 rfl).2.2, fun _ => (e3 rfl).2.1⟩
structure SS.Ok (sz x y b c : Int) : Prop where
  s0 : 0 ≤ sz
  s1 : sz ≤ 1000
  hs : needZ x y (b * c) ≤ sz → x ≤ 9 ∧ y ≤ 4
/-- the state behind the head -/
structure HS where
  u : WV
  ha : Addr
  ho : Obj
  hv : Value
  R : List (Addr × Obj)
structure HS.Ok (prog : Program) (w : World) (c : HS) (kf : Value → List (Str × Value)) (ne : List Nat) (mem R0 : List (Addr × Obj)) (sx sp : Addr) (x y b cn : Int) (ix : Bool) : Prop where
  ws : c.u.Ok 35
  apart : ∀ d ∈ c.ha :: ne, ∀ q ∈ c.R, @Ne Nat q.1 d
  hne : ∀ d ∈ ne, @Ne Nat c.ha d
  mem : ∀ q ∈ mem, q ∈ c.R
  sub : ∀ q ∈ R0, q ∈ c.R
  lo : (c.ha == sysModules) = false
  hd : c.ho.IsDictOf (strKind prog w) (kf c.hv)
  ok : HeadOk prog w c.R sx (kf c.hv) x y b sp cn ix
/-- the state behind the masks -/
structure MS where
  u : WV
  ho : Obj
  kvs : List (Str × Value)
  R : List (Addr × Obj)
  mk1 : Option Value
  sm1 : Option Value
  ok : Prop
  lt : Bool
structure MS.Ok (prog : Program) (w : World) (c : MS) (ne : List Nat) (mem : List (Addr × Obj)) (sx sp : Addr) (x y b cn : Int) (ix : Bool) (sz : Int) : Prop where
  ws : c.u.Ok 60
  apart : ∀ d ∈ ne, ∀ q ∈ c.R, @Ne Nat q.1 d
  mem : ∀ q ∈ mem, q ∈ c.R
  hd : c.ho.IsDictOf (strKind prog w) c.kvs
  ok1 : HeadOk prog w c.R sx c.kvs x y b sp cn ix
  nm : valueAt c.kvs (Str.ofString "Mask") = c.mk1
  ns : valueAt c.kvs (Str.ofString "SMask") = c.sm1
  mc : MaskCase prog w c.R cn c.mk1 c.sm1 c.ok
  lt1 : c.lt = true ↔ needZ x y (b * cn) ≤ sz ∧ c.ok
theorem in_tupB {l : Addr} {vs : List Value} {ns : List Int} {k : Int} {t : Tok} {P : Value → Shared → Prop} (b : Bool) (hl : IsTup s.heap l vs.toArray) (hi : IntsAre vs ns) (hb : ns.any (· == k) = b)
    (h : P (.bool b) s) : wpAny (model prog w) A₀ (compareOp .In (.int k t) (.ref l)) P E s := in_tupI hl hi (by rw [hb]; exact h)
theorem eq_intB {A : Around} {x y : Int} {t u : Tok} {b : Bool} {P : Value → Shared → Prop} (h : (x == y) = b) (hq : P (.bool b) s) : wpAny (model prog w) A (compareOp .Eq (.int x t) (.int y u)) P E s :=
  PyProof.Rows.eq_int (by rw [h]; exact hq)
theorem ap_cons {α : Type} {as : List Addr} {R : List (Addr × α)} {x : Addr × α} (h : ∀ A ∈ as, x.1 ≠ A) (t : ∀ A ∈ as, ∀ q ∈ R, q.1 ≠ A) : ∀ A ∈ as, ∀ q ∈ x :: R, q.1 ≠ A := fun A hA => all_cons (h A hA) (t A hA)
theorem ap_lt {α : Type} {as : List Addr} {x : Addr × α} {k : Nat} (h : ∀ A ∈ as, @LE.le Nat _ A k) (l : @LT.lt Nat _ k x.1) : ∀ A ∈ as, x.1 ≠ A := fun A hA => Nat.ne_of_gt (Nat.lt_of_le_of_lt (h A hA) l)
theorem cls5 {k : Int} (h1 : k < 6) (h0 : 0 ≤ k) :
    (([1, 3, 5] : List Int).any (· == k) = true ∧ (k == 2) = false ∧ ((([3, 4] : List Int).any (· == k) = false ∧ ([1, 5] : List Int).any (· == k) = true) ∨ (([3, 4] : List Int).any (· == k) = true ∧ ([1, 5] : List Int).any (· == k) = false))) ∨
    (([1, 3, 5] : List Int).any (· == k) = false ∧ (((k == 2) = true ∧ ([3, 4] : List Int).any (· == k) = false ∧ ([1, 5] : List Int).any (· == k) = false) ∨ ((k == 2) = false ∧ ([1, 5] : List Int).any (· == k) = false ∧ (([3, 4] : List Int).any (· == k) = true ∨ ([3, 4] : List Int).any (· == k) = false)))) := by
  rcases split6 h1 h0 with rfl | rfl | rfl | rfl | rfl | rfl <;> decide
example : True := by
  k_with "compareOp In int ref" => (k_here; (with_reducible show wpAny _ _ (compareOp CmpOp.In (Value.int _ _) (Value.ref _)) _ _ _); k_dflt (first | (refine' in_tupB true ?tu ?it ?bb ?_; (case tu => exact News.isTup (by k_asm) (by k_mem)); (case it => first | exact .cons _ _ (.cons _ _ .nil) | exact .cons _ _ (.cons _ _ (.cons _ _ .nil))); (case bb => first | assumption | decide)) | (refine' in_tupB false ?tu ?it ?bb ?_; (case tu => exact News.isTup (by k_asm) (by k_mem)); (case it => first | exact .cons _ _ (.cons _ _ .nil) | exact .cons _ _ (.cons _ _ (.cons _ _ .nil))); (case bb => first | assumption | decide)) | (refine hold ?_)))
  k_with "z:o" => (with_reducible (first | assumption | (refine' up5 (k := 35) ?zq1 ?zq2 ?zq3; (case zq1 => assumption); (case zq2 => assumption); (case zq3 => decide)) | (refine' up10 (k := 35) ?zq1 ?zq2 ?zq3 ?zq4; (case zq1 => assumption); (case zq2 => assumption); (case zq3 => assumption); (case zq4 => decide)) | (refine' up5l (k := 35) ?zq1 ?zq2 ?zq3; (case zq1 => assumption); (case zq2 => assumption); (case zq3 => decide)) | (refine' up13 (k := 20) ?zq1 ?zq2 ?zq3; (case zq1 => assumption); (case zq2 => assumption); (case zq3 => decide)) | (refine' lenN ?zq1; (case zq1 => assumption)) | (refine' lenB ?zq1 ?zq2 ?zq3; (case zq1 => assumption); (case zq2 => assumption); (case zq3 => decide)) | (refine' szok ?zq1; (case zq1 => assumption)) | (refine' x9y ?zq1 ?zq2; (case zq1 => assumption); (case zq2 => decide)) | (refine' x9x ?zq1 ?zq2; (case zq1 => assumption); (case zq2 => decide)) | fail "no"))
  k_with "z:lt2" => (with_reducible (first | (refine' c15 ?zq1; (case zq1 => assumption)) | (refine' c16 ?zq1; (case zq1 => assumption)) | (refine' c17 ?zq1; (case zq1 => assumption)) | (refine' c18 ?zq1; (case zq1 => assumption)) | (refine' c19 ?zq1; (case zq1 => assumption)) | (refine' c20 ?zq1; (case zq1 => assumption)) | (refine' c21 ?zq1; (case zq1 => assumption)) | (refine' c22 ?zq1; (case zq1 => assumption)) | (refine' c23 ?zq1; (case zq1 => assumption)) | (refine' c24 ?zq1; (case zq1 => assumption)) | (refine' c25 ?zq1; (case zq1 => assumption)) | (refine' c26 ?zq1; (case zq1 => assumption)) | (refine' and7 ?zq1; (case zq1 => assumption)) | (refine' and8 ?zq1; (case zq1 => assumption)) | (refine' and9 ?zq1; (case zq1 => assumption)) | (refine' and10 ?zq1; (case zq1 => assumption)) | (refine' and11 ?zq1; (case zq1 => assumption)) | (refine' and12 ?zq1; (case zq1 => assumption)) | (refine' and13 ?zq1; (case zq1 => assumption)) | (refine' and14 ?zq1; (case zq1 => assumption)) | (refine' and15 ?zq1; (case zq1 => assumption)) | (refine' and16 ?zq1; (case zq1 => assumption)) | (refine' and17 ?zq1; (case zq1 => assumption)) | (refine' and18 ?zq1; (case zq1 => assumption)) | (refine' and19 ?zq1; (case zq1 => assumption)) | (refine' and20 ?zq1; (case zq1 => assumption)) | (refine' and21 ?zq1; (case zq1 => assumption)) | (refine' and22 ?zq1; (case zq1 => assumption)) | (refine' and23 ?zq1; (case zq1 => assumption)) | (refine' and24 ?zq1; (case zq1 => assumption)) | (refine' and25 ?zq1; (case zq1 => assumption)) | (refine' and26 ?zq1; (case zq1 => assumption))))
  k_with "eval IfExp" => ((guard_hyp zi2); refine hold ?_)
  k_with "subscriptTail" => ((guard_hyp zi5); refine hold ?_)
  k_with "compareOp Eq int int" => (k_here; (with_reducible show wpAny _ _ (compareOp CmpOp.Eq (Value.int _ _) (Value.int 2 _)) _ _ _); first | (k_dflt (refine' eq_intB ?bb ?_; (case bb => assumption))) | (refine hold ?_))
  trivial
theorem tri2 {c : Int} (h : c = 1 ∨ c = 3 ∨ c = 4) : 0 ≤ 2 * c ∧ 2 * c ≤ 8 := by rcases h with rfl | rfl | rfl <;> decide
theorem getD5 {a b c d e k : Int} {P : Int → Prop} (h1 : k < 5) (h0 : 0 ≤ k) (pa : P a) (pb : P b) (pc : P c) (pd : P d) (pe : P e) : P ([a, b, c, d, e].getD k.toNat 0) := by
  rcases split5 h1 h0 with rfl | rfl | rfl | rfl | rfl <;> assumption
theorem flat_zero (n : Nat) (t : Tok) : ∀ v ∈ (List.replicate n [Value.int 0 t]).flatten, ∃ t, v = Value.int 0 t := fun v hv => by
  obtain ⟨l, hl, hv⟩ := List.mem_flatten.mp hv
  rw [(List.mem_replicate.mp hl).2] at hv
  exact ⟨t, List.mem_singleton.mp hv⟩
theorem ints_rep {ys : List Value} {i : Nat} {x k : Int} {t : Tok} (h : IntsAre ys (List.replicate i x)) (e : k = x) : IntsAre (ys ++ [.int k t]) (List.replicate (i + 1) x) := by
  rw [List.replicate_succ']
  generalize List.replicate i x = ns at h
  induction h with
  | nil => rw [e]; exact .cons _ _ .nil
  | cons _ _ _ ih => exact .cons _ _ ih
theorem flat_rep (n : Nat) (x : Int) : (List.replicate n [x]).flatten = List.replicate n x := by
  induction n with
  | zero => rfl
  | succ n ih => rw [List.replicate_succ, List.flatten_cons, ih]; rfl
theorem shape_led {h : Heap} {D0 X Y : Addr × Obj} {e tl R : List (Addr × Obj)} (hR : R = D0 :: (e ++ tl)) (N : News h₀ L h (X :: Y :: R)) : News h₀ L h (X :: tl) := fun q hq => by
  rcases List.mem_cons.mp hq with rfl | hq
  · exact N _ (.head _)
  · exact N _ (.tail _ (.tail _ (hR ▸ .tail _ (List.mem_append_right _ hq))))
theorem shape_off {D : Addr} {D0 Y : Addr × Obj} {e tl R : List (Addr × Obj)} (hR : R = D0 :: (e ++ tl)) (off : ∀ p ∈ Y :: R, @Ne Nat p.1 D) : ∀ p ∈ tl, @Ne Nat p.1 D := fun p hp => off p (.tail _ (hR ▸ .tail _ (List.mem_append_right _ hp)))
/-- the state ahead of the law's last statement -/
structure ZS where
  nx : Addr
  nd : Addr
  r : Array UInt8
  t : Tok
  u1 : Tok
  u2 : Tok
  o : Obj
  due : Value
  ct : Addr
noncomputable abbrev ZS.led (w : World) (c : ZS) (ha ca : Addr) (ho : Obj) (R : List (Addr × Obj)) : List (Addr × Obj) := (c.nx, instObj 280 c.nd) :: (c.nd, streamD w c.u1 c.u2 ha c.r c.t) :: (ha, ho) :: (ca, c.o) :: (865, tabObj (#[] ++ #[rawInt ((581 : Nat) : Int), rawInt ((18 : Nat) : Int), Value.ref c.ct])) :: R
theorem zs_drop2 {a b x y c d e : Addr × Obj} {R : List (Addr × Obj)} : ∀ q ∈ x :: y :: e :: R, q ∈ a :: b :: x :: y :: c :: d :: e :: R := fun q hq => by
  simp only [List.mem_cons] at hq ⊢
  rcases hq with h | h | h | h <;> simp only [h, true_or, or_true]
theorem zs_drop6 {p1 p2 p3 p4 p5 p6 x y c d e : Addr × Obj} {R : List (Addr × Obj)} : ∀ q ∈ x :: y :: e :: R, q ∈ p1 :: p2 :: p3 :: p4 :: p5 :: p6 :: x :: y :: c :: d :: e :: R := fun q hq =>
  .tail _ (.tail _ (.tail _ (.tail _ (zs_drop2 (a := p5) (b := p6) q hq))))
structure ZS.Ok (c : ZS) (sz : Int) : Prop where
  hr : (c.r.size : Int) = sz
  hd : c.o.data = Data.cell (some (.ref c.nx))
  h1 : @LT.lt Nat _ 865 c.nd
  h2 : @LT.lt Nat _ c.nd c.nx
theorem shape_back {h₀ g G h' : Heap} {L L' : Addr} {m m' : Str → Option Value} (F : Fr h₀ L g m) (FG : Fr g L' G m') (st : h₀.StaysIn h') (up : G.UpToSlots h') : Fr h₀ L h' m :=
  F.of_stays st ((Heap.UpToSlots.of_keeps FG.keep).trans up)
theorem shape_news {h₀ h h' : Heap} {L : Addr} {l n2 : List (Addr × Obj)} (N : News h₀ L h l) (hl : ∀ q ∈ n2, h'.get? q.1 = some q.2 ∧ h₀.get? q.1 = none) (hs : ∀ q ∈ l, q ∈ n2) : News h₀ L h' l :=
  fun q hq => ⟨(hl q (hs q hq)).1, (N q hq).2.1, (hl q (hs q hq)).2⟩
example : True := by
  k_with "call ref" => (k_here; (with_reducible show wpAny _ _ (call (Value.ref _) []) _ _ _); (with_reducible rename CodeHd _ _ _ => cdX); k_dflt (refine wpAny_call ?_; refine' kla_code ?xk1 ?xk2 ?xk3 ?xk4 ?xk5 ?xkA ?xkF ?xkK ?xk6 ?xk7 ?xk8 ?xk9 ?xkB ?_ ?xc2 ?xc3 ?xc4 ?xc5; (case xkA => exact rfl); (case xkF => exact rfl); (case xkK => exact rfl); (case xk1 => k_asm); (case xk2 => k_asm); (case xk3 => k_asm); (case xk4 => k_asm); (case xk5 => k_asm); (case xk6 => k_mem); (case xk7 => exact codeRec_news (by k_asm) (by k_mem) (by assumption) (by assumption)); (case xk8 => k_room); (case xk9 => exact rfl); (case xc5 => decide); (case xkB => exact locs rfl); (case xc2 => exact rfl); (case xc3 => exact rfl); (case xc4 => exact rfl); k_whole; intro _ _ _ _ _ _ B' _ _; (try dsimp only); (try k_lift B'); revert B'; intro _; (try k_fold)))
  trivial
example : True := by
  k_with "call ref" => (k_here; (with_reducible show wpAny _ _ (call (Value.ref 863) _) _ _ _); k_dflt (refine wpAny_call ?_; refine' code_defY ?k1 ?k2 ?k3 ?k4 ?k5 ?kA ?kF ?kK ?k6 ?k7 ?k8 ?k9 ?kB ?_ ?c2 ?c3 ?c4 ?c5; (case kA => exact rfl); (case kF => exact rfl); (case kK => first | assumption | exact rfl); (case k1 => k_asm); (case k2 => k_asm); (case k3 => k_asm); (case k4 => k_asm); (case k5 => k_asm); (case k6 => k_is); (case k7 => k_is); (case k8 => k_room); (case k9 => first | exact BindsTo.of_eq rfl | exact binds_K (by k_in) rfl (by k_is) rfl rfl rfl); (case c5 => decide); (case kB => exact locs rfl); (case c2 => exact rfl); (case c3 => exact rfl); (case c4 => exact rfl); k_whole; intro _ _ _ _ _ _ B' _ _; (try dsimp only); (try k_lift B'); revert B'; intro _; (try k_fold)))
  trivial
example : True := by
  k_with "Or" => (refine Or.inl ?_)
  trivial
example : True := by
  k_with "eval ListComp" => (k_here; k_dflt (refine LCg.ListComp_U (F₀ := by k_asm) (by with_unfolding_all rfl) (by decide) (by rfl) (by decide) (by rfl) ?_))
  trivial
example : True := by
  k_with "CompSrc" => (refine hold ?_)
  trivial
example : True := by
  k_with "noteFrame ref" => (refine hold ?_)
  trivial
example : True := by
  k_with "callWith ref" => (k_here; k_dflt (refine' callWith_K ?k1 ?k2 ?_; (case k1 => k_asm); (case k2 => k_is); k_whole))
  trivial
example : True := by
  k_with "eval Lambda" => ((fail_if_success (with_reducible rename CodeHd _ _ _ => cdX)); refine hold ?_)
  trivial
theorem lawH : PySem.Challenge.rw_qd0132_01.Holds := hd (by
  k_go0
  all_goals try k_fold
  clear hT8 hT9
  rename_i w s0 s1 mg mb G Y fa o pm doc ho hg X V T B TE TW hcd wi hs hl0 hL hr hl2 w6 w5 w4 w3 w2 hLi ra w1 r0 hI hr' hc1 hc2 hD h1 tk1 cA cB cAd cBd X0 X' T' K' F' N' l0
  clear hD hr' r0 w1 ra hLi hl2 hr hL hl0 hs TW TE B V X hc2 T
  replace codeHd : Hold (CodeHd (ghostOf s1.heap [(869, 865)]) (869, 865).fst (869, 865).snd) := codeHd
  refine up (D := 530) (U := 4000) ?_ (Nat.le_of_ble_eq_true rfl) (Nat.le_of_ble_eq_true rfl)
  change wpAny _ (ktrTop 530 4000 _ _ _ _ _ _ _ []) _ _ _ _
  refine envC_X rfl ?_
  intro zE
  with_reducible refine cut4 F' (σ := LS) (fun m c z => if z = Str.ofString "mask_lacks" then some (.bool c.ml) else if z = Str.ofString "soft_lacks" then some (.bool c.sl) else if z = Str.ofString "lack" then some (.int c.lack c.tl) else if z = Str.ofString "masked" then some (.int c.msk c.tm) else if z = Str.ofString "is_great" then some (.bool c.g) else if z = Str.ofString "well" then some (.ref c.u.wl) else m z) (fun c => c.led w [(s1.heap.objs.size + 1 + 1, cA), (s1.heap.objs.size + 1, c.oc), (865, tabObj #[])]) (fun c => c.Ok PySem.Challenge.rw_qd0132_01.row.prog w (s1.heap.objs.size + 1 + 1)) ?_ ?_
  · intro rest Q E K
    k_extra "z:go"
    rename_i wl9_1 kl9_1 kv9_1 ks9_1 vc9_1 wt9_1 wu9_1 wv9_1 wn9_1 wm9_1 h9_1 tk9_1 wi9_1 wz9_1 wc9_1 wd9_1 wa9_1 wa9_2 wa9_3 wo9_1 wp9_1 wr9_1 wq9_1 hq_1 tk_1 r9_1 t9_1 h9_2 tk9_2 va9_1 kv9_2 ks9_2 ta9_1 tb9_1 n9_1 n9q_1 e1_1 e2_1 e3_1 e4_1 e5_1 qk_1 ek_1 r9_2 t9_2 h9_3 tk9_3 va9_2 kv9_3 ks9_3 ta9_2 tb9_2 n9_2 n9q_2 e1_2 e2_2 e3_2 e4_2 e5_2 qk_2 ek_2 r9_3 t9_3 h9_4 tk9_4 va9_3 kv9_4 ks9_4 ta9_3 tb9_3 n9_3 n9q_3 e1_3 e2_3 e3_3 e4_3 e5_3 qk_3 ek_3 Dq_1 hq_2 l1_1 hq_3 hq_4 hq_5 hq_6 tk_2 r9_4 t9_4 h9_5 tk9_5 va9_4 kv9_5 ks9_5 ta9_4 tb9_4 n9_4 n9q_4 e1_4 e2_4 e3_4 e4_4 e5_4 qk_4 ek_4 r9_5 t9_5 h9_6 tk9_6 va9_5 kv9_6 ks9_6 ta9_5 tb9_5 n9_5 n9q_5 e1_5 e2_5 e3_5 e4_5 e5_5 Dq_2 hq_7 l1_2 hq_8 hq_9 hq_10 sx9_1 sd9_1 tb9_6 tr9_1 st9_1 su9_1 so9_1 sp9_1 h9_7 tk9_7 lo9_1 hs9_1 fs9_1 hi9_1 fi9_1 l9_1 l8_1 l7_1 l6_1 hq_11 oq_1 Fq_1 Nq_1 dq_1
    refine' K ⟨⟨wl9_1, kl9_1, va9_5, ta9_5, 0 + 1 + 1 + 1 + 1 + 1, tb9_5, vc9_1, wv9_1, kv9_6, ks9_6, n9_5, n9q_5⟩, r9_1, t9_1, r9_2, t9_2, (r9_3 == 0), (r9_4 == 0), (r9_5 == 0), sx9_1, sd9_1, tb9_6, tr9_1, st9_1, su9_1, so9_1, sp9_1, oq_1⟩ _ _ ?Fz1 ?Nz2 ?okz3
    (case Fz1 => k_asm)
    (case Nz2 => refine' cb_drop ?N1z4 ?S1z5; (case N1z4 => k_asm); (case S1z5 => (repeat' (first | (refine all_cons ?_ ?_) | exact (fun _ h => absurd h List.not_mem_nil) | k_mem))))
    (case okz3 =>
      refine ⟨?_, ?_, ?_, ?_, ?_, ?_, ?_, ?_, ?_, ?_, ?_, ?_, ?_, ?_, ?_, ?_, ?_, ?_, ?_, ?_, ?_, ?_, ?_, ?_⟩
      all_goals (try dsimp only)
      all_goals first | assumption | (show @Ne Nat _ _; k_extra "z:ne") | k_extra "z:o")
  · rintro ⟨⟨wl, kl, va, ta, vb, tb, vc, tc, kv, ks, n1, n2⟩, lack, tl, msk, tm, g, ml, sl, sx, sd, tbl, tr, st1, st2, o1, o2, oc⟩ h tk F N ⟨na, nb, nc, lt1, lt2, lt3, lt4, lt5, lt6, hi, hz, ha, hb0, hb, hc0, hc, la, lb, ma, mb', lo1, hs1, hi1, oc1⟩
    dsimp only [LS.led, WS.led] at F N na nb nc lt1 lt2 lt3 lt4 lt5 lt6 hi hz ha hb0 hb hc0 hc la lb ma mb' lo1 hs1 hi1 oc1
    have hne : @Ne Nat kl wl := Nat.ne_of_lt lt2
    have csz : @LT.lt Nat _ 865 (s1.heap.objs.size + 1 + 1) := Nat.lt_succ_of_lt (Nat.lt_succ_of_lt l0)
    have w865 : @LT.lt Nat _ 865 wl := z_tr (by assumption) csz
    have wtb : @LT.lt Nat _ wl tbl := by k_extra "z:l"
    have ktb : @LT.lt Nat _ kl tbl := z_tr wtb (by assumption)
    have ksd : @LT.lt Nat _ kl sd := by k_extra "z:l"
    have ksx : @LT.lt Nat _ kl sx := by k_extra "z:l"
    have wsx : @LT.lt Nat _ wl sx := Nat.lt_trans (show @LT.lt Nat _ wl sd by k_extra "z:lt") (show @LT.lt Nat _ sd sx by k_extra "z:lt")
    have t865 : @LT.lt Nat _ 865 tbl := z_tr wtb w865
    have cwt : @LT.lt Nat _ (s1.heap.objs.size + 1 + 1) tbl := z_tr wtb (by assumption)
    replace nb : @Ne Nat (s1.heap.objs.size + 1) kl := nb
    with_reducible refine cut1 F (σ := RS) (fun m c z => if z = Str.ofString "count" then some (.int c.c c.tc) else if z = Str.ofString "space" then some (.ref c.sp) else m z) (fun c => c.u.led wl kl vc tc ((tbl, o1) :: (s1.heap.objs.size + 1 + 1, cA) :: (865, tabObj #[]) :: c.R)) (fun c => c.Ok w [wl, kl, tbl, s1.heap.objs.size + 1 + 1, 865] [(sx, instObj 424 sd), (sd, shelfO w tbl tr st1 st2 2), (s1.heap.objs.size + 1, oc)]) ?_ ?_
    · intro rest Q E K
      (revert F; refine letF ?_; intro zm F)
      have zi5 : Gate 9005 := trivial
      k_extra "z:go"
      refine Hold.go ?_
      clear zi5
      rename_i nx9_1 nd9_1 nu9_1 h9_1 tk9_1 l9_1 l8_1 Dq_1 hq_1 l1_1 nx9_2 nd9_2 nu9_2 h9_2 tk9_2 l9_2 l8_2 Dq_2 hq_2 l1_2 nx9_3 nd9_3 nu9_3 h9_3 tk9_3 l9_3 l8_3 Dq_3 hq_3 l1_3 nx9_4 nd9_4 nu9_4 h9_4 tk9_4 l9_4 l8_4 nx9_5 nd9_5 nu9_5 h9_5 tk9_5 l9_5 l8_5 nx9_6 nd9_6 nu9_6 nu8_1 h9_6 tk9_6 l9_6 l8_6 lq_1 hq_4 l1_4 Dq_4 hq_5 l1_5 Dq_5 hq_6 Fq_1 Nq_1 l1_6 r9_1 t9_1 h9_7 tk9_7 va9_1 kv9_1 ks9_1 ta9_1 tb9_1 n9_1 n9q_1 e1_1 e2_1 e3_1 e4_1 e5_1 F9_1 N9_1
      have old : ∀ A ∈ [wl, kl, tbl, s1.heap.objs.size + 1 + 1, 865], ∀ q ∈ [(sx, instObj 424 sd), (sd, shelfO w tbl tr st1 st2 2), (s1.heap.objs.size + 1, oc)], q.1 ≠ A := by
        repeat' (first | (refine all_cons ?_ ?_) | exact (fun _ h => absurd h List.not_mem_nil) | (show @Ne Nat _ _; (try dsimp only); k_extra "z:ne"))
      have lep : ∀ A ∈ [wl, kl, tbl, s1.heap.objs.size + 1 + 1, 865], @LE.le Nat _ A tbl := all_cons (Nat.le_of_lt wtb) (all_cons (Nat.le_of_lt ktb) (all_cons (Nat.le_refl _) (all_cons (Nat.le_of_lt cwt) (all_cons (Nat.le_of_lt t865) (fun _ h => absurd h List.not_mem_nil)))))
      rcases split4 e2_1 e1_1 with rfl | rfl | rfl | rfl
      · k_extra "z:go"
        refine' K ⟨⟨va9_1, ta9_1, vb + 1, tb9_1, kv9_1, ks9_1, n9_1, n9q_1⟩, nx9_1, 1, false, _, [(nx9_1, _), (nd9_1, _), (sx, instObj 424 sd), (sd, shelfO w tbl tr st1 st2 2), (s1.heap.objs.size + 1, oc)]⟩ _ _ ?Fz6 ?Nz7 ?okz8
        (case Fz6 => k_asm)
        (case Nz7 => refine' cb_drop ?N1z9 ?S1z10; (case N1z9 => k_asm); (case S1z10 => (repeat' (first | (refine all_cons ?_ ?_) | exact (fun _ h => absurd h List.not_mem_nil) | k_mem))))
        (case okz8 =>
          refine' ⟨⟨_, _, _, _, _⟩, ?apz11, ?mmz12, ?sdz13, ?cnz14⟩
          (case apz11 => repeat' (first | (with_reducible exact old) | (refine ap_cons (ap_lt lep ?_) ?_) | (show @LT.lt Nat _ _ _; (try dsimp only); k_extra "z:l")))
          (case mmz12 => k_sub)
          (case sdz13 => exact .dev (by k_mem) (by k_mem) (.inl ⟨rfl, rfl⟩))
          (case cnz14 => first | exact .inl rfl | exact .inr (.inl rfl) | exact .inr (.inr rfl))
          all_goals (try dsimp only)
          all_goals first | assumption | k_extra "z:o")
      · k_extra "z:go"
        refine' K ⟨⟨va9_1, ta9_1, vb + 1, tb9_1, kv9_1, ks9_1, n9_1, n9q_1⟩, nx9_2, 3, false, _, [(nx9_2, _), (nd9_2, _), (sx, instObj 424 sd), (sd, shelfO w tbl tr st1 st2 2), (s1.heap.objs.size + 1, oc)]⟩ _ _ ?Fz15 ?Nz16 ?okz17
        (case Fz15 => k_asm)
        (case Nz16 => refine' cb_drop ?N1z18 ?S1z19; (case N1z18 => k_asm); (case S1z19 => (repeat' (first | (refine all_cons ?_ ?_) | exact (fun _ h => absurd h List.not_mem_nil) | k_mem))))
        (case okz17 =>
          refine' ⟨⟨_, _, _, _, _⟩, ?apz20, ?mmz21, ?sdz22, ?cnz23⟩
          (case apz20 => repeat' (first | (with_reducible exact old) | (refine ap_cons (ap_lt lep ?_) ?_) | (show @LT.lt Nat _ _ _; (try dsimp only); k_extra "z:l")))
          (case mmz21 => k_sub)
          (case sdz22 => exact .dev (by k_mem) (by k_mem) (.inr (.inl ⟨rfl, rfl⟩)))
          (case cnz23 => first | exact .inl rfl | exact .inr (.inl rfl) | exact .inr (.inr rfl))
          all_goals (try dsimp only)
          all_goals first | assumption | k_extra "z:o")
      · k_extra "z:go"
        refine' K ⟨⟨va9_1, ta9_1, vb + 1, tb9_1, kv9_1, ks9_1, n9_1, n9q_1⟩, nx9_3, 4, false, _, [(nx9_3, _), (nd9_3, _), (sx, instObj 424 sd), (sd, shelfO w tbl tr st1 st2 2), (s1.heap.objs.size + 1, oc)]⟩ _ _ ?Fz24 ?Nz25 ?okz26
        (case Fz24 => k_asm)
        (case Nz25 => refine' cb_drop ?N1z27 ?S1z28; (case N1z27 => k_asm); (case S1z28 => (repeat' (first | (refine all_cons ?_ ?_) | exact (fun _ h => absurd h List.not_mem_nil) | k_mem))))
        (case okz26 =>
          refine' ⟨⟨_, _, _, _, _⟩, ?apz29, ?mmz30, ?sdz31, ?cnz32⟩
          (case apz29 => repeat' (first | (with_reducible exact old) | (refine ap_cons (ap_lt lep ?_) ?_) | (show @LT.lt Nat _ _ _; (try dsimp only); k_extra "z:l")))
          (case mmz30 => k_sub)
          (case sdz31 => exact .dev (by k_mem) (by k_mem) (.inr (.inr ⟨rfl, rfl⟩)))
          (case cnz32 => first | exact .inl rfl | exact .inr (.inl rfl) | exact .inr (.inr rfl))
          all_goals (try dsimp only)
          all_goals first | assumption | k_extra "z:o")
      · k_extra "z:go"
        refine' K ⟨⟨va9_1, ta9_1, vb + 1, tb9_1, kv9_1, ks9_1, n9_1, n9q_1⟩, lq_1, 1, true, _, [(lq_1, _), (nx9_4, _), (nd9_4, _), (nx9_5, _), (nd9_5, _), (nx9_6, _), (nd9_6, _), (sx, instObj 424 sd), (sd, shelfO w tbl tr st1 st2 2), (s1.heap.objs.size + 1, oc)]⟩ _ _ ?Fz33 ?Nz34 ?okz35
        (case Fz33 => k_asm)
        (case Nz34 => refine' cb_drop ?N1z36 ?S1z37; (case N1z36 => k_asm); (case S1z37 => (repeat' (first | (refine all_cons ?_ ?_) | exact (fun _ h => absurd h List.not_mem_nil) | k_mem))))
        (case okz35 =>
          refine' ⟨⟨_, _, _, _, _⟩, ?apz38, ?mmz39, ?sdz40, ?cnz41⟩
          (case apz38 => repeat' (first | (with_reducible exact old) | (refine ap_cons (ap_lt lep ?_) ?_) | (show @LT.lt Nat _ _ _; (try dsimp only); k_extra "z:l")))
          (case mmz39 => k_sub)
          (case sdz40 => exact .indexed (by k_mem) (by k_mem) (by k_mem) (by k_mem) (by k_mem) (by k_mem) (by k_mem))
          (case cnz41 => first | exact .inl rfl | exact .inr (.inl rfl) | exact .inr (.inr rfl))
          all_goals (try dsimp only)
          all_goals first | assumption | k_extra "z:o")
    · rintro ⟨⟨va, ta, vb, tb, kv, ks, n1, n2⟩, sp, c, ix, tcc, R⟩ h tk F N ⟨⟨hi, hz, ha, hb0, hb⟩, hap, hmm, hsd, hcn⟩
      dsimp only [WV.led] at F N hi hz ha hb0 hb hap hmm hsd hcn
      have hc1' := bc1 hcn
      have hc4' := bc4 hcn
      have hR1 : ∀ q ∈ R, q.1 ≠ wl := hap _ (.head _)
      have hR2 : ∀ q ∈ R, q.1 ≠ kl := hap _ (.tail _ (.head _))
      have hR3 : ∀ q ∈ R, q.1 ≠ tbl := hap _ (.tail _ (.tail _ (.head _)))
      have hR4 : ∀ q ∈ R, q.1 ≠ s1.heap.objs.size + 1 + 1 := hap _ (.tail _ (.tail _ (.tail _ (.head _))))
      have hR5 : ∀ q ∈ R, q.1 ≠ 865 := hap _ (.tail _ (.tail _ (.tail _ (.tail _ (.head _)))))
      have m1 := hmm _ (.head _)
      have m2 := hmm _ (.tail _ (.head _))
      have m3 := hmm _ (.tail _ (.tail _ (.head _)))
      with_reducible refine cut1 F (σ := TS) (fun m c z => if z = Str.ofString "height" then some (.int c.y c.t3) else if z = Str.ofString "width" then some (.int c.x c.t2) else if z = Str.ofString "bits" then some (.int c.b c.t1) else m z) (fun c => c.u.led wl kl vc tc ((tbl, o1) :: (s1.heap.objs.size + 1 + 1, cA) :: (865, tabObj #[]) :: R)) (fun c => c.Ok g) ?_ ?_
      · intro rest Q E K
        (revert F; refine letF ?_; intro zm F)
        k_extra "z:go"
        rename_i va_1 ta_1 vb_1 tb_1 kv_1 ks_1 n1_1 n2_1 h_1 tk_1 hi_1 hz_1 ha_1 hb0_1 hb_1 Dq_1 hq_1 l1_1 r9_1 t9_1 h9_1 tk9_1 va9_1 kv9_1 ks9_1 ta9_1 tb9_1 n9_1 n9q_1 e1_1 e2_1 e3_1 e4_1 e5_1 t_1 x9_1 y9_1 tx9_1 ty9_1 n9_2 t9_2 h9_2 tk9_2 va9_2 vb9_1 kv9_2 ks9_2 ta9_2 tb9_2 n9_3 n9q_2 e1_2 e2_2 e3_2 e4_2 e5_2 e6_1 e7_1 e8_1 e9_1 l9_1 Dq_2 hq_2 l1_2 hq_3 hq_4 hq_5 hq_6 hq_7 Fq_1 Nq_1
        refine' K ⟨⟨va9_2, ta9_2, vb9_1, tb9_2, kv9_2, ks9_2, n9_3, n9q_2⟩, [8, 1, 2, 4, 16].getD r9_1.toNat 0, x9_1, y9_1, _, _, _⟩ _ _ ?Fz42 ?Nz43 ?okz44
        (case Fz42 => k_asm)
        (case Nz43 => refine' cb_drop ?N1z45 ?S1z46; (case N1z45 => k_asm); (case S1z46 => k_sub))
        (case okz44 =>
          have sz := sizes_fact e3_2 e4_2
          refine ⟨⟨?_, ?_, ?_, ?_, ?_⟩, menu5 e2_1 e1_1, ?_, ?_, ?_, ?_, ?_, ?_⟩
          all_goals (try dsimp only)
          all_goals first | assumption | exact sz.2.2 | k_extra "z:o")
      · rintro ⟨⟨va, ta, vb, tb, kv, ks, n1, n2⟩, b, x, y, tk1, tk2, tk3⟩ h tk F N ⟨⟨hi, hz, ha, hb0, hb⟩, hd, x0, x1, y0, y1, gt, gf⟩
        dsimp only [WV.led] at F N hi hz ha hb0 hb hd x0 x1 y0 y1 gt gf
        have hbc : 1 ≤ b * c ∧ b * c ≤ 64 := bcB hd.pos hd.le hc1' hc4'
        have hbc1 := hbc.1
        have hbc2 := hbc.2
        with_reducible refine cut2 F (σ := Int × Tok × Tok) (fun m z9 z => if z = Str.ofString "size" then some (.int z9.1 z9.2.1) else if z = Str.ofString "enough" then some (.int (needZ x y (b * c)) z9.2.2) else m z) (fun _ => WV.led ⟨va, ta, vb, tb, kv, ks, n1, n2⟩ wl kl vc tc ((tbl, o1) :: (s1.heap.objs.size + 1 + 1, cA) :: (865, tabObj #[]) :: R)) (fun z => SS.Ok z.1 x y b c) ?_ ?_
        · intro rest Q E K
          (revert F; refine letF ?_; intro zm F)
          have fin : ∀ sz : Int, 0 ≤ sz → sz ≤ 1000 → (needZ x y (b * c) ≤ sz → x ≤ 9 ∧ y ≤ 4) → SS.Ok sz x y b c := fun _ a b c => ⟨a, b, c⟩
          have small : g = false → needZ x y (b * c) ≤ 400 := fun q => Int.le_trans (needZ_le x0 y0 hbc1 (by have := gf q; omega : x ≤ 9) (by have := gf q; omega : y ≤ 4) hbc2) (by decide)
          cases g
          · have sm := small rfl
            have gf' := gf rfl
            k_extra "z:go"
            all_goals (
              refine' K ⟨_, _, _⟩ _ _ ?Fz47 ?Nz48 ?okz49
              (case Fz47 => k_asm)
              (case Nz48 => refine' cb_drop ?N1z50 ?S1z51; (case N1z50 => k_asm); (case S1z51 => k_sub))
              (case okz49 => refine' getD5 (P := fun z => SS.Ok z x y b c) lb la ?_ ?_ ?_ ?_ ?_ <;> exact fin _ (by k_extra "z:o") (by k_extra "z:o") (fun _ => ⟨by k_extra "z:o", by k_extra "z:o"⟩)))
          · have gt' := gt rfl
            k_extra "z:go"
            all_goals (
              refine' K ⟨_, _, _⟩ _ _ ?Fz52 ?Nz53 ?okz54
              (case Fz52 => k_asm)
              (case Nz53 => refine' cb_drop ?N1z55 ?S1z56; (case N1z55 => k_asm); (case S1z56 => k_sub))
              (case okz54 => refine' getD5 (P := fun z => SS.Ok z x y b c) lb la ?_ ?_ ?_ ?_ ?_ <;> exact fin _ (by k_extra "z:o") (by k_extra "z:o") (fun q => by k_extra "z:o")))
        · rintro ⟨sz, tsz, ten⟩ h tk F N ⟨z0, z1, hs⟩
          dsimp only [WV.led] at F N z0 z1 hs
          with_reducible refine cut2 F (σ := HS) (fun m c z => if z = Str.ofString "head" then some (.ref c.ha) else m z) (fun c => c.u.led wl kl vc tc ((c.ha, c.ho) :: (s1.heap.objs.size + 1 + 1, cA) :: (865, tabObj #[]) :: c.R)) (fun q => q.Ok PySem.Challenge.rw_qd0132_01.row.prog w (fun hv => [(Str.ofString "Width", .int x tk2), (Str.ofString "Height", hv), (Str.ofString "ColorSpace", .ref sp), (Str.ofString "BitsPerComponent", .int b tk1)]) [wl, kl, s1.heap.objs.size + 1 + 1, 865] [(sx, instObj 424 sd), (sd, shelfO w tbl tr st1 st2 2), (s1.heap.objs.size + 1, oc)] R sx sp x y b c ix) ?_ ?_
          · intro rest Q E K
            (revert F; refine letF ?_; intro zm F)
            k_extra "z:go"
            · rename_i ra9 rd9 tp9 at3 at4 at5 at6 at7 at8 an2 ao9 hq1 tkq1 ah9 Fq1 Nq1 lq9 lq8 lq7 hq2 oq2 Fq2 Nq2 hdq2
              refine' K ⟨⟨_, _, _, _, _, _, _, _⟩, _, _, .ref ra9, (ra9, instObj 308 rd9) :: (rd9, refO w at3 at4 at5 at6 1) :: (tp9, tupO [.int 0 at7, .int y at8] an2) :: (tbl, ao9) :: R⟩ _ _ ?Fz57 ?Nz58 ?okz59
              (case Fz57 => k_asm)
              (case Nz58 => refine' cb_drop ?N1z60 ?S1z61; (case N1z60 => k_asm); (case S1z61 => k_sub))
              (case okz59 =>
                rename _ < _ ∧ _ < _ ∧ _ < _ ∧ _ < _ ∧ _ < _ ∧ AllLt _ R => ln1
                have hRh := allLt_ne ln1.2.2.2.2.2 (Nat.le_refl _)
                refine' ⟨⟨?y1z62, ?y2z63, ?y3z64, ?y4z65, ?y5z66⟩, ?apz67, ?hnz68, ?mmz69, ?sbz70, ?loz71, ?hdz72, ?ok1z73⟩
                (case hdz72 => (assumption))
                (case y1z62 => (assumption))
                (case y2z63 => (assumption))
                (case y3z64 => (assumption))
                (case y4z65 => (dsimp only; k_extra "z:o"))
                (case y5z66 => (dsimp only; k_extra "z:o"))
                (case apz67 => (repeat' (first | (refine all_cons ?_ ?_) | exact (fun _ h => absurd h List.not_mem_nil) | exact hR1 | exact hR2 | exact hR4 | exact hR5 | exact hRh | (show @Ne Nat _ _; (try dsimp only); k_extra "z:ne"))))
                (case hnz68 => (repeat' (first | (refine all_cons ?_ ?_) | exact (fun _ h => absurd h List.not_mem_nil) | exact hR1 | exact hR2 | exact hR4 | exact hR5 | exact hRh | (show @Ne Nat _ _; (try dsimp only); k_extra "z:ne"))))
                (case mmz69 => (repeat' (first | (refine all_cons ?_ ?_) | exact (fun _ h => absurd h List.not_mem_nil) | k_mem)))
                (case sbz70 => (k_sub))
                (case loz71 => (assumption))
                (case ok1z73 => (refine ⟨.inl ⟨_, rfl⟩, .inr ⟨ra9, rfl, ⟨_, _, _, _, _, _, _, _, _, _, _, _, _, _, _, _, _, .tail _ (.tail _ (.tail _ (.tail _ m1))), .tail _ (.tail _ (.tail _ (.tail _ m2))), .tail _ (.tail _ (.tail _ (.head _))), ah9, lo1, Nat.le_of_ble_eq_true rfl, rfl, .tail _ (.tail _ (.head _)), .head _, .tail _ (.head _)⟩⟩, x0, x1, y0, y1, hd, ?_, rfl, rfl, hsd.mono ?_⟩; (first | exact .inl ⟨rfl, _, rfl⟩ | exact .inr ⟨rfl, _, rfl⟩); (k_sub))))
            · refine' K ⟨⟨_, _, _, _, _, _, _, _⟩, _, _, .int y tk3, (tbl, o1) :: R⟩ _ _ ?Fz74 ?Nz75 ?okz76
              (case Fz74 => k_asm)
              (case Nz75 => refine' cb_drop ?N1z77 ?S1z78; (case N1z77 => k_asm); (case S1z78 => k_sub))
              (case okz76 =>
                rename _ < _ ∧ _ < _ ∧ _ < _ ∧ _ < _ ∧ _ < _ ∧ AllLt _ R => ln1
                have hRh := allLt_ne ln1.2.2.2.2.2 (Nat.le_refl _)
                refine' ⟨⟨?y1z79, ?y2z80, ?y3z81, ?y4z82, ?y5z83⟩, ?apz84, ?hnz85, ?mmz86, ?sbz87, ?loz88, ?hdz89, ?ok1z90⟩
                (case hdz89 => (assumption))
                (case y1z79 => (assumption))
                (case y2z80 => (assumption))
                (case y3z81 => (assumption))
                (case y4z82 => (dsimp only; k_extra "z:o"))
                (case y5z83 => (dsimp only; k_extra "z:o"))
                (case apz84 => (repeat' (first | (refine all_cons ?_ ?_) | exact (fun _ h => absurd h List.not_mem_nil) | exact hR1 | exact hR2 | exact hR4 | exact hR5 | exact hRh | (show @Ne Nat _ _; (try dsimp only); k_extra "z:ne"))))
                (case hnz85 => (repeat' (first | (refine all_cons ?_ ?_) | exact (fun _ h => absurd h List.not_mem_nil) | exact hR1 | exact hR2 | exact hR4 | exact hR5 | exact hRh | (show @Ne Nat _ _; (try dsimp only); k_extra "z:ne"))))
                (case mmz86 => (repeat' (first | (refine all_cons ?_ ?_) | exact (fun _ h => absurd h List.not_mem_nil) | k_mem)))
                (case sbz87 => (k_sub))
                (case loz88 => (assumption))
                (case ok1z90 => (refine ⟨.inl ⟨_, rfl⟩, .inl ⟨_, rfl⟩, x0, x1, y0, y1, hd, ?_, rfl, rfl, hsd.mono ?_⟩; (first | exact .inl ⟨rfl, _, rfl⟩ | exact .inr ⟨rfl, _, rfl⟩); (k_sub))))
          · rintro ⟨⟨va, ta, vb, tb, kv, ks, n1, n2⟩, ha9, ho, hv, R2⟩ h tk F N ⟨⟨hi, hz, ha, hb0, hb⟩, hap2, hne2, hmm2, hsub, hlo, hdd, H⟩
            dsimp only [WV.led] at F N hi hz ha hb0 hb hap2 hne2 hmm2 hsub hlo hdd H
            clear hR1 hR2 hR3 hR4 hR5
            have hRh : ∀ q ∈ R2, q.1 ≠ ha9 := hap2 _ (.head _)
            have hR1 : ∀ q ∈ R2, q.1 ≠ wl := hap2 _ (.tail _ (.head _))
            have hR2 : ∀ q ∈ R2, q.1 ≠ kl := hap2 _ (.tail _ (.tail _ (.head _)))
            have hR4 : ∀ q ∈ R2, q.1 ≠ s1.heap.objs.size + 1 + 1 := hap2 _ (.tail _ (.tail _ (.tail _ (.head _))))
            have hR5 : ∀ q ∈ R2, q.1 ≠ 865 := hap2 _ (.tail _ (.tail _ (.tail _ (.tail _ (.head _)))))
            have hh1 : @Ne Nat ha9 wl := hne2 _ (.head _)
            have hh2 : @Ne Nat ha9 kl := hne2 _ (.tail _ (.head _))
            have hh4 : @Ne Nat ha9 (s1.heap.objs.size + 1 + 1) := hne2 _ (.tail _ (.tail _ (.head _)))
            have hh5 : @Ne Nat ha9 865 := hne2 _ (.tail _ (.tail _ (.tail _ (.head _))))
            have m1 := hmm2 _ (.head _)
            have m2 := hmm2 _ (.tail _ (.head _))
            have m3 := hmm2 _ (.tail _ (.tail _ (.head _)))
            clear hap2 hne2 hmm2
            with_reducible refine cut5 F (σ := MS) (fun m c z => if z = Str.ofString "is_let" then some (.bool c.lt) else m z) (fun c => c.u.led wl kl vc tc ((ha9, c.ho) :: (s1.heap.objs.size + 1 + 1, cA) :: (865, tabObj #[]) :: c.R)) (fun q => q.Ok PySem.Challenge.rw_qd0132_01.row.prog w [ha9, wl, kl, s1.heap.objs.size + 1 + 1, 865] [(sx, instObj 424 sd), (sd, shelfO w tbl tr st1 st2 2), (s1.heap.objs.size + 1, oc)] sx sp x y b c ix sz) ?_ ?_
            · intro rest Q E K
              (revert F; refine letF ?_; intro zm F)
              have cls := cls5 mb' ma
              rcases cls with ⟨t1, t2, h34⟩ | ⟨t1, h24⟩
              · k_extra "z:go"
                refine Hold.go ?_
                rcases h34 with ⟨t3, t4⟩ | ⟨t3, t4⟩
                · k_extra "z:go"
                  · rename_i ux9 uy9 ub9 uxa9 udx9 uha9 uo9 ut91 ut92 ubs9 ut93 uh9 utk9 uva9 uvb9 ukv9 uks9 uta9 utb9 un9 unq9 ue1 ue2 ue3 ue4 ue5 ue6 ue7 ue8 ue9 ue10 ue11 ue12 ul9 ul10 ul11 _ _ _ _ _ _ _ _ _ _ _ _ va12 _ _ _
                    have uf7 : (ubs9.size : Int) = needZ ux9 uy9 ub9 - 1 := by rw [ue7, va12]; rfl
                    have ufb : needZ ux9 uy9 ub9 ≤ 400 := Int.le_trans (needZ_le ue1 ue3 (IsDepth.pos ue5) ue2 ue4 (IsDepth.le ue5)) (by decide)
                    have ufz : ubs9.size ≤ 100000 := sz_ok ue7 ufb
                    have ufs : (uha9 == sysModules) = false := sy_ne (by first | k_extra "z:lt" | omega)
                    refine' K ⟨⟨_, _, _, _, _, _, _, _⟩, _, _, (uxa9, instObj 280 udx9) :: (udx9, streamD w ut91 ut92 uha9 ubs9 ut93) :: (uha9, uo9) :: R2, some (.ref uxa9), none, (needZ ux9 uy9 ub9 ≤ ubs9.size), false⟩ _ _ ?Fz91 ?Nz92 ?okz93
                    (case Fz91 => exact frEq (by k_asm) (one_map _ _ _ _))
                    (case Nz92 => refine' cb_drop ?N1z94 ?S1z95; (case N1z94 => k_asm); (case S1z95 => k_sub))
                    (case okz93 =>
                      refine' ⟨⟨?y1z96, ?y2z97, ?y3z98, ?y4z99, ?y5z100⟩, ?apz101, ?mmz102, ?hdz103, ?ok1z104, ?nmz105, ?nsz106, ?mcz107, ?ltz108⟩
                      (case hdz103 => assumption)
                      (case y1z96 => assumption)
                      (case y2z97 => assumption)
                      (case y3z98 => assumption)
                      (case y4z99 => (dsimp only; k_extra "z:o"))
                      (case y5z100 => (dsimp only; k_extra "z:o"))
                      (case apz101 => (repeat' (first | (refine all_cons ?_ ?_) | exact (fun _ h => absurd h List.not_mem_nil) | exact hR1 | exact hR2 | exact hR4 | exact hR5 | exact hRh | (show @Ne Nat _ _; (try dsimp only); k_extra "z:ne"))))
                      (case mmz102 => (repeat' (first | (refine all_cons ?_ ?_) | exact (fun _ h => absurd h List.not_mem_nil) | k_mem)))
                      (case ok1z104 => (refine ⟨.inl ⟨_, rfl⟩, H.hh.mono ?_, x0, x1, y0, y1, hd, ?_, rfl, rfl, H.hv.mono ?_⟩; (k_sub); (first | exact .inl ⟨rfl, _, rfl⟩ | exact .inr ⟨rfl, _, rfl⟩); (k_sub)))
                      (case nmz105 => exact rfl)
                      (case nsz106 => exact rfl)
                      (case mcz107 => exact .sten (.head _) (.tail _ (.head _)) (.tail _ (.tail _ (.head _))) ufs ue6 ue1 ue2 ue3 ue4 ufz)
                      (case ltz108 => (exact ⟨fun q => (by cases q), fun q => (by have := q.2; first | exact szno (by assumption) this | omega)⟩)))
                  · rename_i ux9 uy9 ub9 uxa9 udx9 uha9 uo9 ut91 ut92 ubs9 ut93 uh9 utk9 uva9 uvb9 ukv9 uks9 uta9 utb9 un9 unq9 ue1 ue2 ue3 ue4 ue5 ue6 ue7 ue8 ue9 ue10 ue11 ue12 ul9 ul10 ul11 _ _ _ _ _ _ _ _ _ _ _ _ va12 _ _ _ _ _
                    have uf7 : (ubs9.size : Int) = needZ ux9 uy9 ub9 - 0 := by rw [ue7, va12]; rfl
                    have ufb : needZ ux9 uy9 ub9 ≤ 400 := Int.le_trans (needZ_le ue1 ue3 (IsDepth.pos ue5) ue2 ue4 (IsDepth.le ue5)) (by decide)
                    have ufz : ubs9.size ≤ 100000 := sz_ok ue7 ufb
                    have ufs : (uha9 == sysModules) = false := sy_ne (by first | k_extra "z:lt" | omega)
                    refine' K ⟨⟨_, _, _, _, _, _, _, _⟩, _, _, (uxa9, instObj 280 udx9) :: (udx9, streamD w ut91 ut92 uha9 ubs9 ut93) :: (uha9, uo9) :: R2, some (.ref uxa9), none, (needZ ux9 uy9 ub9 ≤ ubs9.size), _⟩ _ _ ?Fz109 ?Nz110 ?okz111
                    (case Fz109 => k_asm)
                    (case Nz110 => refine' cb_drop ?N1z112 ?S1z113; (case N1z112 => k_asm); (case S1z113 => k_sub))
                    (case okz111 =>
                      refine' ⟨⟨?y1z114, ?y2z115, ?y3z116, ?y4z117, ?y5z118⟩, ?apz119, ?mmz120, ?hdz121, ?ok1z122, ?nmz123, ?nsz124, ?mcz125, ?ltz126⟩
                      (case hdz121 => assumption)
                      (case y1z114 => assumption)
                      (case y2z115 => assumption)
                      (case y3z116 => assumption)
                      (case y4z117 => (dsimp only; k_extra "z:o"))
                      (case y5z118 => (dsimp only; k_extra "z:o"))
                      (case apz119 => (repeat' (first | (refine all_cons ?_ ?_) | exact (fun _ h => absurd h List.not_mem_nil) | exact hR1 | exact hR2 | exact hR4 | exact hR5 | exact hRh | (show @Ne Nat _ _; (try dsimp only); k_extra "z:ne"))))
                      (case mmz120 => (repeat' (first | (refine all_cons ?_ ?_) | exact (fun _ h => absurd h List.not_mem_nil) | k_mem)))
                      (case ok1z122 => (refine ⟨.inl ⟨_, rfl⟩, H.hh.mono ?_, x0, x1, y0, y1, hd, ?_, rfl, rfl, H.hv.mono ?_⟩; (k_sub); (first | exact .inl ⟨rfl, _, rfl⟩ | exact .inr ⟨rfl, _, rfl⟩); (k_sub)))
                      (case nmz123 => exact rfl)
                      (case nsz124 => exact rfl)
                      (case mcz125 => exact .sten (.head _) (.tail _ (.head _)) (.tail _ (.tail _ (.head _))) ufs ue6 ue1 ue2 ue3 ue4 ufz)
                      (case ltz126 => (rw [decide_eq_true_eq]; exact ⟨fun q => ⟨q, by first | exact szok (by assumption) | k_extra "z:o"⟩, fun q => q.1⟩)))
                · k_extra "z:go"
                  · rename_i ux9 uy9 ub9 uxa9 udx9 uha9 uo9 ut91 ut92 ubs9 ut93 uh9 utk9 uva9 uvb9 ukv9 uks9 uta9 utb9 un9 unq9 ue1 ue2 ue3 ue4 ue5 ue6 ue7 ue8 ue9 ue10 ue11 ue12 ul9 ul10 ul11 _ _ _ _ _ _ _ _ _ zx9 zy9 zb9 zxa9 zdx9 zha9 zo9 zt91 zt92 zbs9 zt93 zh9 ztk9 zva9 zvb9 zkv9 zks9 zta9 ztb9 zn9 znq9 ze1 ze2 ze3 ze4 ze5 ze6 ze7 ze8 ze9 ze10 ze11 ze12 zl9 zl10 zl11 _ _ _ _ _ _ _ _ _ _ xa10 _ _ _
                    have ufb : needZ ux9 uy9 ub9 ≤ 400 := Int.le_trans (needZ_le ue1 ue3 (IsDepth.pos ue5) ue2 ue4 (IsDepth.le ue5)) (by decide)
                    have ufz : ubs9.size ≤ 100000 := sz_ok ue7 ufb
                    have ufs : (uha9 == sysModules) = false := sy_ne (by first | k_extra "z:lt" | omega)
                    have zf7 : (zbs9.size : Int) = needZ zx9 zy9 zb9 - 1 := by rw [ze7, xa10]; rfl
                    have zfb : needZ zx9 zy9 zb9 ≤ 400 := Int.le_trans (needZ_le ze1 ze3 (IsDepth.pos ze5) ze2 ze4 (IsDepth.le ze5)) (by decide)
                    have zfz : zbs9.size ≤ 100000 := sz_ok ze7 zfb
                    have zfs : (zha9 == sysModules) = false := sy_ne (by first | k_extra "z:lt" | omega)
                    refine' K ⟨⟨_, _, _, _, _, _, _, _⟩, _, _, (zxa9, instObj 280 zdx9) :: (zdx9, streamD w zt91 zt92 zha9 zbs9 zt93) :: (zha9, zo9) :: (uxa9, instObj 280 udx9) :: (udx9, streamD w ut91 ut92 uha9 ubs9 ut93) :: (uha9, uo9) :: R2, some (.ref uxa9), some (.ref zxa9), (needZ zx9 zy9 zb9 ≤ zbs9.size), false⟩ _ _ ?Fz127 ?Nz128 ?okz129
                    (case Fz127 => exact frEq (by k_asm) (one_map _ _ _ _))
                    (case Nz128 => refine' cb_drop ?N1z130 ?S1z131; (case N1z130 => k_asm); (case S1z131 => k_sub))
                    (case okz129 =>
                      refine' ⟨⟨?y1z132, ?y2z133, ?y3z134, ?y4z135, ?y5z136⟩, ?apz137, ?mmz138, ?hdz139, ?ok1z140, ?nmz141, ?nsz142, ?mcz143, ?ltz144⟩
                      (case hdz139 => assumption)
                      (case y1z132 => assumption)
                      (case y2z133 => assumption)
                      (case y3z134 => assumption)
                      (case y4z135 => (dsimp only; k_extra "z:o"))
                      (case y5z136 => (dsimp only; k_extra "z:o"))
                      (case apz137 => (repeat' (first | (refine all_cons ?_ ?_) | exact (fun _ h => absurd h List.not_mem_nil) | exact hR1 | exact hR2 | exact hR4 | exact hR5 | exact hRh | (show @Ne Nat _ _; (try dsimp only); k_extra "z:ne"))))
                      (case mmz138 => (repeat' (first | (refine all_cons ?_ ?_) | exact (fun _ h => absurd h List.not_mem_nil) | k_mem)))
                      (case ok1z140 => (refine ⟨.inl ⟨_, rfl⟩, H.hh.mono ?_, x0, x1, y0, y1, hd, ?_, rfl, rfl, H.hv.mono ?_⟩; (k_sub); (first | exact .inl ⟨rfl, _, rfl⟩ | exact .inr ⟨rfl, _, rfl⟩); (k_sub)))
                      (case nmz141 => exact rfl)
                      (case nsz142 => exact rfl)
                      (case mcz143 => exact .soft (.head _) (.tail _ (.head _)) (.tail _ (.tail _ (.head _))) zfs ze6 ze1 ze2 ze3 ze4 ze5 zfz (.strm (.tail _ (.tail _ (.tail _ (.head _)))) (.tail _ (.tail _ (.tail _ (.tail _ (.head _)))))))
                      (case ltz144 => (exact ⟨fun q => (by cases q), fun q => (by have := q.2; first | exact szno (by assumption) this | omega)⟩)))
                  · rename_i ux9 uy9 ub9 uxa9 udx9 uha9 uo9 ut91 ut92 ubs9 ut93 uh9 utk9 uva9 uvb9 ukv9 uks9 uta9 utb9 un9 unq9 ue1 ue2 ue3 ue4 ue5 ue6 ue7 ue8 ue9 ue10 ue11 ue12 ul9 ul10 ul11 _ _ _ _ _ _ _ _ zx9 zy9 zb9 zxa9 zdx9 zha9 zo9 zt91 zt92 zbs9 zt93 zh9 ztk9 zva9 zvb9 zkv9 zks9 zta9 ztb9 zn9 znq9 ze1 ze2 ze3 ze4 ze5 ze6 ze7 ze8 ze9 ze10 ze11 ze12 zl9 zl10 zl11 _ _ _ _ _ _ _ _ _ _ _ _ xa12
                    have ufb : needZ ux9 uy9 ub9 ≤ 400 := Int.le_trans (needZ_le ue1 ue3 (IsDepth.pos ue5) ue2 ue4 (IsDepth.le ue5)) (by decide)
                    have ufz : ubs9.size ≤ 100000 := sz_ok ue7 ufb
                    have ufs : (uha9 == sysModules) = false := sy_ne (by first | k_extra "z:lt" | omega)
                    have zf7 : (zbs9.size : Int) = needZ zx9 zy9 zb9 - 0 := by rw [ze7, xa12]; rfl
                    have zfb : needZ zx9 zy9 zb9 ≤ 400 := Int.le_trans (needZ_le ze1 ze3 (IsDepth.pos ze5) ze2 ze4 (IsDepth.le ze5)) (by decide)
                    have zfz : zbs9.size ≤ 100000 := sz_ok ze7 zfb
                    have zfs : (zha9 == sysModules) = false := sy_ne (by first | k_extra "z:lt" | omega)
                    refine' K ⟨⟨_, _, _, _, _, _, _, _⟩, _, _, (zxa9, instObj 280 zdx9) :: (zdx9, streamD w zt91 zt92 zha9 zbs9 zt93) :: (zha9, zo9) :: (uxa9, instObj 280 udx9) :: (udx9, streamD w ut91 ut92 uha9 ubs9 ut93) :: (uha9, uo9) :: R2, some (.ref uxa9), some (.ref zxa9), (needZ zx9 zy9 zb9 ≤ zbs9.size), _⟩ _ _ ?Fz145 ?Nz146 ?okz147
                    (case Fz145 => k_asm)
                    (case Nz146 => refine' cb_drop ?N1z148 ?S1z149; (case N1z148 => k_asm); (case S1z149 => k_sub))
                    (case okz147 =>
                      refine' ⟨⟨?y1z150, ?y2z151, ?y3z152, ?y4z153, ?y5z154⟩, ?apz155, ?mmz156, ?hdz157, ?ok1z158, ?nmz159, ?nsz160, ?mcz161, ?ltz162⟩
                      (case hdz157 => assumption)
                      (case y1z150 => assumption)
                      (case y2z151 => assumption)
                      (case y3z152 => assumption)
                      (case y4z153 => (dsimp only; k_extra "z:o"))
                      (case y5z154 => (dsimp only; k_extra "z:o"))
                      (case apz155 => (repeat' (first | (refine all_cons ?_ ?_) | exact (fun _ h => absurd h List.not_mem_nil) | exact hR1 | exact hR2 | exact hR4 | exact hR5 | exact hRh | (show @Ne Nat _ _; (try dsimp only); k_extra "z:ne"))))
                      (case mmz156 => (repeat' (first | (refine all_cons ?_ ?_) | exact (fun _ h => absurd h List.not_mem_nil) | k_mem)))
                      (case ok1z158 => (refine ⟨.inl ⟨_, rfl⟩, H.hh.mono ?_, x0, x1, y0, y1, hd, ?_, rfl, rfl, H.hv.mono ?_⟩; (k_sub); (first | exact .inl ⟨rfl, _, rfl⟩ | exact .inr ⟨rfl, _, rfl⟩); (k_sub)))
                      (case nmz159 => exact rfl)
                      (case nsz160 => exact rfl)
                      (case mcz161 => exact .soft (.head _) (.tail _ (.head _)) (.tail _ (.tail _ (.head _))) zfs ze6 ze1 ze2 ze3 ze4 ze5 zfz (.strm (.tail _ (.tail _ (.tail _ (.head _)))) (.tail _ (.tail _ (.tail _ (.tail _ (.head _)))))))
                      (case ltz162 => (rw [decide_eq_true_eq]; exact ⟨fun q => ⟨q, by first | exact szok (by assumption) | k_extra "z:o"⟩, fun q => q.1⟩)))
              · k_extra "z:go"
                refine Hold.go ?_
                rcases h24 with ⟨t2, t3, t4⟩ | ⟨t2, t4, h3⟩
                · k_extra "z:go"
                  · rename_i lq hq1 lq1 kD hq2 ki1 kn1 ks1 ke1 ke2 ke3 kl1 _ _ _ _ _ _ _ _ _ _ _ _ _ _ _ _
                    refine' K ⟨⟨_, _, _, _, _, _, _, _⟩, _, _, (kD, _) :: R2, some (.ref kD), none, True, _⟩ _ _ ?Fz163 ?Nz164 ?okz165
                    (case Fz163 => k_asm)
                    (case Nz164 => refine' cb_drop ?N1z166 ?S1z167; (case N1z166 => k_asm); (case S1z167 => k_sub))
                    (case okz165 =>
                      refine' ⟨⟨?y1z168, ?y2z169, ?y3z170, ?y4z171, ?y5z172⟩, ?apz173, ?mmz174, ?hdz175, ?ok1z176, ?nmz177, ?nsz178, ?mcz179, ?ltz180⟩
                      (case hdz175 => assumption)
                      (case y1z168 => assumption)
                      (case y2z169 => assumption)
                      (case y3z170 => assumption)
                      (case y4z171 => (dsimp only; k_extra "z:o"))
                      (case y5z172 => (dsimp only; k_extra "z:o"))
                      (case apz173 => (repeat' (first | (refine all_cons ?_ ?_) | exact (fun _ h => absurd h List.not_mem_nil) | exact hR1 | exact hR2 | exact hR4 | exact hR5 | exact hRh | (show @Ne Nat _ _; (try dsimp only); k_extra "z:ne"))))
                      (case mmz174 => (repeat' (first | (refine all_cons ?_ ?_) | exact (fun _ h => absurd h List.not_mem_nil) | k_mem)))
                      (case ok1z176 => (refine ⟨.inl ⟨_, rfl⟩, H.hh.mono ?_, x0, x1, y0, y1, hd, ?_, rfl, rfl, H.hv.mono ?_⟩; (k_sub); (first | exact .inl ⟨rfl, _, rfl⟩ | exact .inr ⟨rfl, _, rfl⟩); (k_sub)))
                      (case nmz177 => exact rfl)
                      (case nsz178 => exact rfl)
                      (case mcz179 => (refine .keys (.head _) (flat_zero _ _) ?_; (have kk := ke3 (tri2 hcn).1); rw [List.size_toArray] at ks1; rw [ks1, kk]; (show ((0 + 1 : Nat) : Int) * _ = _); first | exact one2c | omega))
                      (case ltz180 => (rw [decide_eq_true_eq]; exact ⟨fun q => ⟨q, trivial⟩, fun q => q.1⟩)))
                · k_extra "z:go"
                  refine Hold.go ?_
                  rcases h3 with t3 | t3
                  · k_extra "z:go"
                    · rename_i zx9 zy9 zb9 zxa9 zdx9 zha9 zo9 zt91 zt92 zbs9 zt93 zh9 ztk9 zva9 zvb9 zkv9 zks9 zta9 ztb9 zn9 znq9 ze1 ze2 ze3 ze4 ze5 ze6 ze7 ze8 ze9 ze10 ze11 ze12 zl9 zl10 zl11 _ _ _ _ _ _ _ _ _ _ xa10 _ _ _
                      have zf7 : (zbs9.size : Int) = needZ zx9 zy9 zb9 - 1 := by rw [ze7, xa10]; rfl
                      have zfb : needZ zx9 zy9 zb9 ≤ 400 := Int.le_trans (needZ_le ze1 ze3 (IsDepth.pos ze5) ze2 ze4 (IsDepth.le ze5)) (by decide)
                      have zfz : zbs9.size ≤ 100000 := sz_ok ze7 zfb
                      have zfs : (zha9 == sysModules) = false := sy_ne (by first | k_extra "z:lt" | omega)
                      refine' K ⟨⟨_, _, _, _, _, _, _, _⟩, _, _, (zxa9, instObj 280 zdx9) :: (zdx9, streamD w zt91 zt92 zha9 zbs9 zt93) :: (zha9, zo9) :: R2, none, some (.ref zxa9), (needZ zx9 zy9 zb9 ≤ zbs9.size), false⟩ _ _ ?Fz181 ?Nz182 ?okz183
                      (case Fz181 => exact frEq (by k_asm) (one_map _ _ _ _))
                      (case Nz182 => refine' cb_drop ?N1z184 ?S1z185; (case N1z184 => k_asm); (case S1z185 => k_sub))
                      (case okz183 =>
                        refine' ⟨⟨?y1z186, ?y2z187, ?y3z188, ?y4z189, ?y5z190⟩, ?apz191, ?mmz192, ?hdz193, ?ok1z194, ?nmz195, ?nsz196, ?mcz197, ?ltz198⟩
                        (case hdz193 => assumption)
                        (case y1z186 => assumption)
                        (case y2z187 => assumption)
                        (case y3z188 => assumption)
                        (case y4z189 => (dsimp only; k_extra "z:o"))
                        (case y5z190 => (dsimp only; k_extra "z:o"))
                        (case apz191 => (repeat' (first | (refine all_cons ?_ ?_) | exact (fun _ h => absurd h List.not_mem_nil) | exact hR1 | exact hR2 | exact hR4 | exact hR5 | exact hRh | (show @Ne Nat _ _; (try dsimp only); k_extra "z:ne"))))
                        (case mmz192 => (repeat' (first | (refine all_cons ?_ ?_) | exact (fun _ h => absurd h List.not_mem_nil) | k_mem)))
                        (case ok1z194 => (refine ⟨.inl ⟨_, rfl⟩, H.hh.mono ?_, x0, x1, y0, y1, hd, ?_, rfl, rfl, H.hv.mono ?_⟩; (k_sub); (first | exact .inl ⟨rfl, _, rfl⟩ | exact .inr ⟨rfl, _, rfl⟩); (k_sub)))
                        (case nmz195 => exact rfl)
                        (case nsz196 => exact rfl)
                        (case mcz197 => exact .soft (.head _) (.tail _ (.head _)) (.tail _ (.tail _ (.head _))) zfs ze6 ze1 ze2 ze3 ze4 ze5 zfz .none)
                        (case ltz198 => (exact ⟨fun q => (by cases q), fun q => (by have := q.2; first | exact szno (by assumption) this | omega)⟩)))
                    · rename_i zx9 zy9 zb9 zxa9 zdx9 zha9 zo9 zt91 zt92 zbs9 zt93 zh9 ztk9 zva9 zvb9 zkv9 zks9 zta9 ztb9 zn9 znq9 ze1 ze2 ze3 ze4 ze5 ze6 ze7 ze8 ze9 ze10 ze11 ze12 zl9 zl10 zl11 _ _ _ _ _ _ _ _ _ _ _ _ xa12
                      have zf7 : (zbs9.size : Int) = needZ zx9 zy9 zb9 - 0 := by rw [ze7, xa12]; rfl
                      have zfb : needZ zx9 zy9 zb9 ≤ 400 := Int.le_trans (needZ_le ze1 ze3 (IsDepth.pos ze5) ze2 ze4 (IsDepth.le ze5)) (by decide)
                      have zfz : zbs9.size ≤ 100000 := sz_ok ze7 zfb
                      have zfs : (zha9 == sysModules) = false := sy_ne (by first | k_extra "z:lt" | omega)
                      refine' K ⟨⟨_, _, _, _, _, _, _, _⟩, _, _, (zxa9, instObj 280 zdx9) :: (zdx9, streamD w zt91 zt92 zha9 zbs9 zt93) :: (zha9, zo9) :: R2, none, some (.ref zxa9), (needZ zx9 zy9 zb9 ≤ zbs9.size), _⟩ _ _ ?Fz199 ?Nz200 ?okz201
                      (case Fz199 => k_asm)
                      (case Nz200 => refine' cb_drop ?N1z202 ?S1z203; (case N1z202 => k_asm); (case S1z203 => k_sub))
                      (case okz201 =>
                        refine' ⟨⟨?y1z204, ?y2z205, ?y3z206, ?y4z207, ?y5z208⟩, ?apz209, ?mmz210, ?hdz211, ?ok1z212, ?nmz213, ?nsz214, ?mcz215, ?ltz216⟩
                        (case hdz211 => assumption)
                        (case y1z204 => assumption)
                        (case y2z205 => assumption)
                        (case y3z206 => assumption)
                        (case y4z207 => (dsimp only; k_extra "z:o"))
                        (case y5z208 => (dsimp only; k_extra "z:o"))
                        (case apz209 => (repeat' (first | (refine all_cons ?_ ?_) | exact (fun _ h => absurd h List.not_mem_nil) | exact hR1 | exact hR2 | exact hR4 | exact hR5 | exact hRh | (show @Ne Nat _ _; (try dsimp only); k_extra "z:ne"))))
                        (case mmz210 => (repeat' (first | (refine all_cons ?_ ?_) | exact (fun _ h => absurd h List.not_mem_nil) | k_mem)))
                        (case ok1z212 => (refine ⟨.inl ⟨_, rfl⟩, H.hh.mono ?_, x0, x1, y0, y1, hd, ?_, rfl, rfl, H.hv.mono ?_⟩; (k_sub); (first | exact .inl ⟨rfl, _, rfl⟩ | exact .inr ⟨rfl, _, rfl⟩); (k_sub)))
                        (case nmz213 => exact rfl)
                        (case nsz214 => exact rfl)
                        (case mcz215 => exact .soft (.head _) (.tail _ (.head _)) (.tail _ (.tail _ (.head _))) zfs ze6 ze1 ze2 ze3 ze4 ze5 zfz .none)
                        (case ltz216 => (rw [decide_eq_true_eq]; exact ⟨fun q => ⟨q, by first | exact szok (by assumption) | k_extra "z:o"⟩, fun q => q.1⟩)))
                  · k_extra "z:go"
                    · refine' K ⟨⟨_, _, _, _, _, _, _, _⟩, _, _, R2, none, none, True, _⟩ _ _ ?Fz217 ?Nz218 ?okz219
                      (case Fz217 => k_asm)
                      (case Nz218 => refine' cb_drop ?N1z220 ?S1z221; (case N1z220 => k_asm); (case S1z221 => k_sub))
                      (case okz219 =>
                        refine' ⟨⟨?y1z222, ?y2z223, ?y3z224, ?y4z225, ?y5z226⟩, ?apz227, ?mmz228, ?hdz229, ?ok1z230, ?nmz231, ?nsz232, ?mcz233, ?ltz234⟩
                        (case hdz229 => assumption)
                        (case y1z222 => assumption)
                        (case y2z223 => assumption)
                        (case y3z224 => assumption)
                        (case y4z225 => (dsimp only; k_extra "z:o"))
                        (case y5z226 => (dsimp only; k_extra "z:o"))
                        (case apz227 => (repeat' (first | (refine all_cons ?_ ?_) | exact (fun _ h => absurd h List.not_mem_nil) | exact hR1 | exact hR2 | exact hR4 | exact hR5 | exact hRh | (show @Ne Nat _ _; (try dsimp only); k_extra "z:ne"))))
                        (case mmz228 => (repeat' (first | (refine all_cons ?_ ?_) | exact (fun _ h => absurd h List.not_mem_nil) | k_mem)))
                        (case ok1z230 => (refine ⟨.inl ⟨_, rfl⟩, H.hh.mono ?_, x0, x1, y0, y1, hd, ?_, rfl, rfl, H.hv.mono ?_⟩; (k_sub); (first | exact .inl ⟨rfl, _, rfl⟩ | exact .inr ⟨rfl, _, rfl⟩); (k_sub)))
                        (case nmz231 => exact rfl)
                        (case nsz232 => exact rfl)
                        (case mcz233 => exact .none)
                        (case ltz234 => (rw [decide_eq_true_eq]; exact ⟨fun q => ⟨q, trivial⟩, fun q => q.1⟩)))
            · rintro ⟨⟨va, ta, vb, tb, kv, ks, n1, n2⟩, ho, kvs, R3, mk1, sm1, okm, lt⟩ h tk F N ⟨⟨hi, hz, ha, hb0, hb⟩, hap3, hmm3, hdd, H, nm, ns, mc, lt1⟩
              dsimp only [WV.led] at F N hi hz ha hb0 hb hap3 hmm3 hdd H nm ns mc lt1
              clear hR1 hR2 hR4 hR5 hRh m1 m2 m3
              have hRh : ∀ q ∈ R3, q.1 ≠ ha9 := hap3 _ (.head _)
              have hR1 : ∀ q ∈ R3, q.1 ≠ wl := hap3 _ (.tail _ (.head _))
              have hR2 : ∀ q ∈ R3, q.1 ≠ kl := hap3 _ (.tail _ (.tail _ (.head _)))
              have hR4 : ∀ q ∈ R3, q.1 ≠ s1.heap.objs.size + 1 + 1 := hap3 _ (.tail _ (.tail _ (.tail _ (.head _))))
              have hR5 : ∀ q ∈ R3, q.1 ≠ 865 := hap3 _ (.tail _ (.tail _ (.tail _ (.tail _ (.head _)))))
              have m1 := hmm3 _ (.head _)
              have m2 := hmm3 _ (.tail _ (.head _))
              have m3 := hmm3 _ (.tail _ (.tail _ (.head _)))
              clear hap3 hmm3
              with_reducible refine cut3 F (σ := ZS) (fun m c z => if z = Str.ofString "due" then some c.due else m z) (fun c => c.led w ha9 (s1.heap.objs.size + 1 + 1) ho R3) (fun c => c.Ok sz) ?_ ?_
              · intro rest Q E K
                (revert F; refine letF ?_; intro zm F)
                have zi2 : Gate 9002 := trivial
                k_extra "z:go"
                clear zi2
                refine Hold.go ?_
                cases lt
                · have no : ¬ (needZ x y (b * c) ≤ sz ∧ okm) := fun q => by cases lt1.mpr q
                  k_extra "z:go"
                  replace codeHd := hold codeHd
                  refine Hold.go ?_
                  k_extra "z:go"
                  refine' leave_onC ?eKz235 ?eFz236 ?eRz237 ?eUz238 ?_
                  (case eKz235 => assumption)
                  (case eFz236 => assumption)
                  (case eRz237 => assumption)
                  (case eUz238 => assumption)
                  intro h7 R7 U7
                  try dsimp only
                  refine' caught_own (C := 71) ?cKz239 ?cFz240 ?cUz241 ?cRz242 ?cXz243 ?cTz244 ?cHz245 ?cbz246 ?cxz247 ?_
                  (case cRz242 => exact R7)
                  (case cUz241 => exact U7)
                  (case cKz239 => assumption)
                  (case cFz240 => assumption)
                  (case cXz243 => assumption)
                  (case cTz244 => exact topRead_of (by assumption))
                  (case cHz245 => k_is)
                  (case cbz246 => exact rfl)
                  (case cxz247 => exact rfl)
                  intro h8 st8 up8 hl8
                  try dsimp only
                  refine wpAny_execs_cons ?_
                  walk1
                  walk1
                  dsimp only
                  refine Or.inr ?_
                  rename News (ghostOf _ _) _ _ _ => kN
                  rename Fr (ghostOf _ _) _ _ _ => kF
                  have kF := shape_back kF (by assumption) st8 up8
                  have kN := shape_news kN hl8 (by k_sub)
                  ground_anew kF
                  have kX := kFor kF (by k_asm)
                  try dsimp only
                  k_extra "z:go"
                  refine' K ⟨_, _, _, _, _, _, _, .none, _⟩ _ _ ?Fz248 ?Nz249 ?okz250
                  (case Fz248 => first | k_asm | exact frEq (by k_asm) (one_map _ _ _ _))
                  (case Nz249 => refine' cb_drop ?N1z251 ?S1z252; (case N1z251 => k_asm); (case S1z252 => exact zs_drop2))
                  (case okz250 => exact ⟨by assumption, by assumption, by ((try dsimp only); show @LT.lt Nat _ _ _; k_extra "z:l"), by ((try dsimp only); first | assumption | (show @LT.lt Nat _ _ _; k_extra "z:l"))⟩)
                · have yes := lt1.mp rfl
                  have xy := hs yes.1
                  have xx := xy.1
                  have yy := xy.2
                  k_extra "z:go"
                  replace codeHd := hold codeHd
                  refine Hold.go ?_
                  k_extra "z:go"
                  refine Hold.go ?_
                  rename Fr _ _ _ _ => lF
                  rename News _ _ _ (_ :: (_ ++ _)) => lN
                  rename ∀ v, v ∈ _ → Rowf _ _ _ v => hrw
                  obtain ⟨R8, hR8, lR8⟩ := led_abs lN
                  have hrr := Rowf.all hrw (fun q hq => led_mem hR8 (.tail _ (List.mem_append_left _ hq)))
                  have hm0 := led_mem hR8 (.head _)
                  refine LCg.CompSrc.ledger (by rfl) lF (nadd lR8 hm0) (.head _) (by rw [sizeLine_eq, List.size_toArray]; first | k_extra "z:o" | omega) ?_
                  intro g9
                  refine comp_restL (σ := Unit) (fun _ => _) (fun i ys _ => ys.length = i ∧ IntsAre ys (List.replicate i x)) () ⟨rfl, .nil⟩ (fun _ => .inr ⟨_, .head _, rfl, _, rfl⟩) ?_ ?_
                  · rintro i ⟨⟩ ys v I oI C oC D m2 h tk E' hi ⟨p0, p1⟩ hv hC hx F2 N2 off ne
                    obtain ⟨ra, us, rfl, hm, hl, -⟩ := hrr v (mem_its hv)
                    try dsimp only at F2 N2
                    have N2 := nadd N2 (.tail _ (.tail _ (.tail _ (.tail _ hm))))
                    dsimp only
                    k_extra "z:go"
                    all_goals (
                      refine' CompT.of () ?zFz253 ?zNz254 ?zSz255 off ⟨?y0z256, ?y1z257⟩
                      (case zFz253 => k_asm)
                      (case zNz254 => k_asm)
                      (case zSz255 => k_sub)
                      (case y0z256 => (rw [List.length_append, p0]; rfl))
                      (case y1z257 => exact ints_rep p1 (by first | exact hl | omega)))
                  · rintro ys ⟨⟩ ⟨p0, p1⟩
                    refine fun D h3 tk3 F3 N3 off3 => ?_
                    have off' := shape_off hR8 (off1_mem off3)
                    have N4 := shape_led hR8 N3
                    clear N3 lR8 hR8 lN hrr hm0 off3
                    simp only [List.forall_mem_cons] at off'
                    k_extra "z:go"
                    rotate_left
                    · rename ¬ (List.replicate _ x = _) => an
                      exact absurd (by rw [flat_rep, List.size_toArray]; congr 1; first | exact lenN (by assumption) | omega) an
                    refine' K ⟨_, _, _, _, _, _, _, _, _⟩ _ _ ?Fz258 ?Nz259 ?okz260
                    (case Fz258 => first | k_asm | exact frEq (by k_asm) (one_map _ _ _ _))
                    (case Nz259 => refine' cb_drop ?N1z261 ?S1z262; (case N1z261 => k_asm); (case S1z262 => exact zs_drop6))
                    (case okz260 => exact ⟨by assumption, by assumption, by ((try dsimp only); show @LT.lt Nat _ _ _; k_extra "z:l"), by ((try dsimp only); first | assumption | (show @LT.lt Nat _ _ _; k_extra "z:l"))⟩)
              · rintro ⟨nx, nd, r, t, u1, u2, o, due, ct⟩ h tk F N ⟨hr, hd5, hn1, hn2⟩
                dsimp only [ZS.led] at F N hr hd5 hn1 hn2
                by_cases yes : needZ x y (b * c) ≤ sz
                · have xy := hs yes
                  have xx := xy.1
                  have yy := xy.2
                  k_extra "z:go"
                  replace codeHd := hold codeHd
                  refine Hold.go ?_
                  k_extra "z:go"
                  refine Hold.go ?_
                  rename Fr _ _ _ _ => lF
                  rename News _ _ _ (_ :: (_ ++ _)) => lN
                  rename ∀ v, v ∈ _ → PixRow _ _ _ v => hrw2
                  obtain ⟨R9, hR9, lR9⟩ := led_abs lN
                  have hrr2 : ∀ v ∈ _, PixRow _ _ R9 v := fun v hv => (hrw2 v hv).mono (fun q hq => led_mem hR9 (.tail _ (List.mem_append_left _ hq)))
                  have hm9 := led_mem hR9 (.head _)
                  refine LCg.CompSrc.ledger (by rfl) lF (nadd lR9 hm9) (.head _) (by rw [sizeLine_eq, List.size_toArray]; first | k_extra "z:o" | omega) ?_
                  intro g8
                  refine comp_restL (σ := Unit) (fun _ => _) (fun i ys _ => ys.length = i ∧ IntsAre ys (List.replicate i x)) () ⟨rfl, .nil⟩ (fun _ => .inr ⟨_, .head _, rfl, _, rfl⟩) ?_ ?_
                  · rintro i ⟨⟩ ys2 v I oI C oC D2 m2 h tk E' hi ⟨p2, p3⟩ hv hC hx F2 N2 off ne
                    obtain ⟨ra, us, rfl, hm, hl, -⟩ := hrr2 v (mem_its hv)
                    try dsimp only at F2 N2
                    have N2 := nadd N2 (.tail _ (.tail _ (.tail _ (.tail _ hm))))
                    dsimp only
                    k_extra "z:go"
                    all_goals (
                      refine' CompT.of () ?zFz263 ?zNz264 ?zSz265 off ⟨?y0z266, ?y1z267⟩
                      (case zFz263 => k_asm)
                      (case zNz264 => k_asm)
                      (case zSz265 => k_sub)
                      (case y0z266 => (rw [List.length_append, p2]; rfl))
                      (case y1z267 => exact ints_rep p3 (by first | exact hl | omega)))
                  · rintro ys2 ⟨⟩ ⟨p2, p3⟩
                    refine fun D2 h4 tk4 F4 N4' off4 => ?_
                    have off4' := shape_off hR9 (off1_mem off4)
                    have N5 := shape_led hR9 N4'
                    clear N4' lR9 hR9 lN hrr2 hm9 off4
                    simp only [List.forall_mem_cons] at off4'
                    k_extra "z:go"
                    rename (List.length _ : Int) = y => il
                    rw [flat_rep, List.size_toArray, show List.length _ = y.toNat from by k_extra "z:o"]
                    simp only [decide_true]
                    k_end
                    kc_bool
                    with_reducible refine' goodW_bool ?gBa ?gBb (raisesW_false ?gBc) ?gBd
                    (case gBa => assumption)
                    (case gBb => assumption)
                    (case gBc => wrow_none_raised)
                    (case gBd => refine postW_of (by wrow_shape) (w_eq_bool (w_res rfl) w_lit) ?_; first | rfl | w_fin)
                · k_extra "z:go"
                  replace codeHd := hold codeHd
                  refine Hold.go ?_
                  k_extra "z:go"
                  refine' leave_onC ?eKz268 ?eFz269 ?eRz270 ?eUz271 ?_
                  (case eKz268 => assumption)
                  (case eFz269 => assumption)
                  (case eRz270 => assumption)
                  (case eUz271 => assumption)
                  intro h7 R7 U7
                  try dsimp only
                  refine' caught_own (C := 71) ?cKz272 ?cFz273 ?cUz274 ?cRz275 ?cXz276 ?cTz277 ?cHz278 ?cbz279 ?cxz280 ?_
                  (case cRz275 => exact R7)
                  (case cUz274 => exact U7)
                  (case cKz272 => assumption)
                  (case cFz273 => assumption)
                  (case cXz276 => assumption)
                  (case cTz277 => exact topRead_of (by assumption))
                  (case cHz278 => k_is)
                  (case cbz279 => exact rfl)
                  (case cxz280 => exact rfl)
                  intro h8 st8 up8 hl8
                  try dsimp only
                  refine wpAny_execs_cons ?_
                  walk1
                  walk1
                  dsimp only
                  refine Or.inr ?_
                  rename News (ghostOf _ _) _ _ _ => kN
                  rename Fr (ghostOf _ _) _ _ _ => kF
                  have kF := shape_back kF (by assumption) st8 up8
                  have kN := shape_news kN hl8 (by k_sub)
                  ground_anew kF
                  have kX := kFor kF (by k_asm)
                  try dsimp only
                  k_extra "z:go"
                  k_end
                  kc_bool
                  with_reducible refine' goodW_bool ?gEa ?gEb (raisesW_false ?gEc) ?gEd
                  (case gEa => assumption)
                  (case gEb => assumption)
                  (case gEc => wrow_none_raised)
                  (case gEd => refine postW_of (by wrow_shape) (w_eq_bool (w_res rfl) w_lit) ?_; first | rfl | w_fin))
end
end Mine
theorem PySem.Challenge.cw_qd0132_01_holds : PySem.Challenge.rw_qd0132_01.Holds :=
  Mine.lawH
